import PyProof.Rows.All
import Wide.All
import OpenK.AllK
import Wide.FinOn
import HandS.ForMost
import HandS.Conv
import HandS.Rev
import HandS.Style
import HandS.IsInst
import HandS.SortInts
import HandS.Wide
import HandS.Star
import KE.GoesMore
import PyProof.EqAt
import PyProof.FactsAll.tuple
import PySem.Challenge.RW_sennit_k12_whole_front_transducer
set_option Elab.async false
set_option linter.all false
set_option maxRecDepth 100000
set_option maxHeartbeats 4000000
/-! JP: a small reading of the Python subset over plain data: what a body computes, with lists that are owned, lent or frozen. No heap in sight. -/
namespace J
open PySem
abbrev D := PyData
inductive Rt where
  | fz (d : D) | ow (ds : List D)
/-- a slot: nothing known; frozen data; a list of one's own; a list that is lent; the script -/
inductive Sl where
  | no | fz (d : D) | ow (ds : List D) | bw (ds : List D) | sc (ds : List D)
abbrev Env := List Sl
inductive RV where
  | fz (d : D) | sl (i : Nat) | tm (ds : List D)
abbrev M (α : Type) := Env → Option (α × Env)
def toRV : Rt → RV
  | .fz d => .fz d
  | .ow ds => .tm ds
@[simp] theorem toRV_1 {d} : toRV (.fz d) = .fz d := (rfl)
@[simp] theorem toRV_2 {ds} : toRV (.ow ds) = .tm ds := (rfl)
@[simp] def dr (env : Env) : RV → Option D
  | .fz d => some d
  | .tm ds => some (.list ds)
  | .sl i => match env[i]? with
    | some (.fz d) => some d
    | some (.ow ds) => some (.list ds)
    | some (.bw ds) => some (.list ds)
    | _ => none
@[simp] def fzv (env : Env) : RV → Option (D × Env)
  | .fz d => some (d, env)
  | .tm ds => some (.list ds, env)
  | .sl i => match env[i]? with
    | some (.fz d) => some (d, env)
    | some (.ow ds) => some (.list ds, env.set i (.fz (.list ds)))
    | _ => none
@[simp] def eVar (i : Nat) (env : Env) : Option (RV × Env) := match env[i]? with
  | some (.fz d) => some (.fz d, env)
  | some (.ow _) => some (.sl i, env)
  | some (.bw _) => some (.sl i, env)
  | _ => none
@[simp] def eC (d : D) (env : Env) : Option (RV × Env) := some (.fz d, env)
def eOp1 (g : D → Option Rt) (a : M RV) (env : Env) : Option (RV × Env) := match a env with
  | none => none
  | some (x, e1) => match dr e1 x with
    | none => none
    | some d => match g d with
      | none => none
      | some r => some (toRV r, e1)
def eOp2 (g : D → D → Option Rt) (a b : M RV) (env : Env) : Option (RV × Env) := match a env with
  | none => none
  | some (x, e1) => match b e1 with
    | none => none
    | some (y, e2) => match dr e2 x, dr e2 y with
      | some d, some e => match g d e with
        | none => none
        | some r => some (toRV r, e2)
      | _, _ => none
def eAnd (a b : M RV) (env : Env) : Option (RV × Env) := match a env with
  | some (.fz (.bool true), e1) => b e1
  | some (.fz (.bool false), e1) => some (.fz (.bool false), e1)
  | _ => none
def eOr (a b : M RV) (env : Env) : Option (RV × Env) := match a env with
  | some (.fz (.bool true), e1) => some (.fz (.bool true), e1)
  | some (.fz (.bool false), e1) => b e1
  | _ => none
def eNot (a : M RV) (env : Env) : Option (RV × Env) := match a env with
  | some (.fz (.bool b), e1) => some (.fz (.bool (!b)), e1)
  | _ => none
def eIf (t : M Bool) (a b : M RV) (env : Env) : Option (RV × Env) := match t env with
  | some (true, e1) => a e1
  | some (false, e1) => b e1
  | none => none
@[simp] def aNil (env : Env) : Option (List D × Env) := some ([], env)
def aCons (e : M RV) (r : M (List D)) (env : Env) : Option (List D × Env) := match e env with
  | none => none
  | some (x, e1) => match fzv e1 x with
    | none => none
    | some (d, e2) => match r e2 with
      | none => none
      | some (ds, e3) => some (d :: ds, e3)
def eTup (es : M (List D)) (env : Env) : Option (RV × Env) := match es env with
  | none => none
  | some (ds, e1) => some (.fz (.tuple ds), e1)
def eLst (es : M (List D)) (env : Env) : Option (RV × Env) := match es env with
  | none => none
  | some (ds, e1) => some (.tm ds, e1)
/-! tests -/
def tVal (e : M RV) (env : Env) : Option (Bool × Env) := match e env with
  | some (.fz (.bool b), e1) => some (b, e1)
  | _ => none
def truD : D → Option Bool
  | .none => some false
  | .bool b => some b
  | .int i => some (i != 0)
  | .list ds => some (!ds.isEmpty)
  | .tuple ds => some (!ds.isEmpty)
  | _ => none
@[simp] theorem truD_1  : truD (.none) = some false := (rfl)
@[simp] theorem truD_2 {b} : truD (.bool b) = some b := (rfl)
@[simp] theorem truD_3 {i} : truD (.int i) = some (i != 0) := (rfl)
@[simp] theorem truD_4 {ds} : truD (.list ds) = some (!ds.isEmpty) := (rfl)
@[simp] theorem truD_5 {ds} : truD (.tuple ds) = some (!ds.isEmpty) := (rfl)
def tTru (e : M RV) (env : Env) : Option (Bool × Env) := match e env with
  | none => none
  | some (x, e1) => match dr e1 x with
    | none => none
    | some d => match truD d with
      | none => none
      | some b => some (b, e1)
def tAnd (t u : M Bool) (env : Env) : Option (Bool × Env) := match t env with
  | some (true, e1) => u e1
  | some (false, e1) => some (false, e1)
  | none => none
def tOr (t u : M Bool) (env : Env) : Option (Bool × Env) := match t env with
  | some (true, e1) => some (true, e1)
  | some (false, e1) => u e1
  | none => none
def tNot (t : M Bool) (env : Env) : Option (Bool × Env) := match t env with
  | some (b, e1) => some (!b, e1)
  | none => none
@[simp] def tYes (env : Env) : Option (Bool × Env) := some (true, env)
/-! slices: an optional bound -/
@[simp] def oNo (env : Env) : Option (Option Int × Env) := some (none, env)
def oSo (e : M RV) (env : Env) : Option (Option Int × Env) := match e env with
  | some (.fz (.int i), e1) => some (some i, e1)
  | _ => none
def eSl (g : D → Option Int → Option Int → Option Rt) (a : M RV) (lo hi : M (Option Int)) (env : Env) : Option (RV × Env) := match a env with
  | none => none
  | some (x, e1) => match lo e1 with
    | none => none
    | some (l, e2) => match hi e2 with
      | none => none
      | some (h, e3) => match dr e3 x with
        | none => none
        | some d => match g d l h with
          | none => none
          | some r => some (toRV r, e3)
/-! statements -/
inductive Fl where
  | nx (env : Env) | bk (env : Env) | ct (env : Env) | rt (r : Rt) (env : Env)
abbrev SM := Env → Option Fl
@[simp] def sNil (env : Env) : Option Fl := some (.nx env)
def sSeq (a b : SM) (env : Env) : Option Fl := match a env with
  | some (.nx e1) => b e1
  | r => r
@[simp] def sBk (env : Env) : Option Fl := some (.bk env)
@[simp] def sCt (env : Env) : Option Fl := some (.ct env)
def sAsg (i : Nat) (e : M RV) (env : Env) : Option Fl := match e env with
  | none => none
  | some (.fz d, e1) => some (.nx (e1.set i (.fz d)))
  | some (.tm ds, e1) => some (.nx (e1.set i (.ow ds)))
  | some (.sl j, e1) => match fzv e1 (.sl j) with
    | none => none
    | some (d, e2) => some (.nx (e2.set i (.fz d)))
def sDrop (e : M RV) (env : Env) : Option Fl := match e env with
  | none => none
  | some (_, e1) => some (.nx e1)
def sIf (t : M Bool) (a b : SM) (env : Env) : Option Fl := match t env with
  | some (true, e1) => a e1
  | some (false, e1) => b e1
  | none => none
def sRet (e : M RV) (env : Env) : Option Fl := match e env with
  | none => none
  | some (.fz d, e1) => some (.rt (.fz d) e1)
  | some (.tm ds, e1) => some (.rt (.ow ds) e1)
  | some (.sl i, e1) => match e1[i]? with
    | some (.fz d) => some (.rt (.fz d) e1)
    | some (.ow ds) => some (.rt (.ow ds) (e1.set i .no))
    | _ => none
@[simp] def sRetN (env : Env) : Option Fl := some (.rt (.fz .none) env)
/-! lists of one's own, changed -/
def limit : Nat := 16777216
def sApp (i : Nat) (e : M RV) (env : Env) : Option Fl := match env[i]? with
  | some (.ow _) => match e env with
    | none => none
    | some (x, e1) => match fzv e1 x with
      | none => none
      | some (d, e2) => match e2[i]? with
        | some (.ow ds) => if ds.length < limit then some (.nx (e2.set i (.ow (ds ++ [d])))) else none
        | _ => none
  | _ => none
def seqD : D → Option (List D)
  | .list es => some es
  | .tuple es => some es
  | _ => none
@[simp] theorem seqD_1 {es} : seqD (.list es) = some es := (rfl)
@[simp] theorem seqD_2 {es} : seqD (.tuple es) = some es := (rfl)
def sExt (i : Nat) (e : M RV) (env : Env) : Option Fl := match env[i]? with
  | some (.ow _) => match e env with
    | none => none
    | some (x, e1) => match dr e1 x with
      | none => none
      | some d => match seqD d with
        | none => none
        | some es => match e1[i]? with
          | some (.ow ds) => if ds.length + es.length ≤ limit then some (.nx (e1.set i (.ow (ds ++ es)))) else none
          | _ => none
  | _ => none
def sExtL (i : Nat) (e : M RV) (env : Env) : Option Fl := match env[i]? with
  | some (.ow _) => match e env with
    | none => none
    | some (x, e1) => match dr e1 x with
      | some (.list es) => match e1[i]? with
        | some (.ow ds) => if ds.length + es.length ≤ limit then some (.nx (e1.set i (.ow (ds ++ es)))) else none
        | _ => none
      | _ => none
  | _ => none
def sAug (i : Nat) (g : Int → Int → Int) (e : M RV) (env : Env) : Option Fl := match env[i]? with
  | some (.fz (.int a)) => match e env with
    | some (.fz (.int b), e1) => some (.nx (e1.set i (.fz (.int (g a b)))))
    | _ => none
  | _ => none
@[simp] def ePop (i : Nat) (env : Env) : Option (RV × Env) := match env[i]? with
  | some (.ow ds) => match ds.getLast? with
    | some d => some (.fz d, env.set i (.ow ds.dropLast))
    | none => none
  | _ => none
def ixN (n : Nat) (i : Int) : Option Nat := if 0 ≤ i then (if i < n then some i.toNat else none) else if -(n : Int) ≤ i then some (i + n).toNat else none
def sSet (i : Nat) (ie e : M RV) (env : Env) : Option Fl := match e env with
  | none => none
  | some (x, e1) => match fzv e1 x with
    | none => none
    | some (d, e2) => match e2[i]? with
      | some (.ow _) => match ie e2 with
        | some (.fz (.int k), e3) => match e3[i]? with
          | some (.ow ds) => match ixN ds.length k with
            | some j => some (.nx (e3.set i (.ow (ds.set j d))))
            | none => none
          | _ => none
        | _ => none
      | _ => none
/-- x, y = a, b with plain names: stored from the right -/
@[simp] def setF : List Nat → List D → Env → Option Env
  | [], [], env => some env
  | i :: is, d :: ds, env => setF is ds (env.set i (.fz d))
  | _, _, _ => none
def sPar (is : List Nat) (es : M (List D)) (env : Env) : Option Fl := match es env with
  | none => none
  | some (ds, e) => match setF is ds e with
    | none => none
    | some e1 => some (.nx e1)
/-! targets -/
abbrev G := D → Env → Option Env
@[simp] def gNm (i : Nat) (d : D) (env : Env) : Option Env := some (env.set i (.fz d))
abbrev GL := List D → Env → Option Env
@[simp] def glNil (ds : List D) (env : Env) : Option Env := match ds with
  | [] => some env
  | _ => none
def glCons (g : G) (r : GL) (ds : List D) (env : Env) : Option Env := match ds with
  | [] => none
  | d :: ds => match g d env with
    | some e1 => r ds e1
    | none => none
@[simp] def gTp (r : GL) (d : D) (env : Env) : Option Env := match d with
  | .tuple ds => r ds env
  | _ => none
def sUnp (g : G) (e : M RV) (env : Env) : Option Fl := match e env with
  | none => none
  | some (x, e1) => match fzv e1 x with
    | none => none
    | some (d, e2) => match g d e2 with
      | some e3 => some (.nx e3)
      | none => none
/-! loops -/
@[simp] def ers : List Nat → Env → Env
  | [], env => env
  | i :: r, env => ers r (env.set i .no)
def runFor (g : G) (body : SM) (er : List Nat) : List D → Env → Option Fl
  | [], env => some (.nx env)
  | d :: ds, env => match g d env with
    | none => none
    | some e1 => match body e1 with
      | some (.nx e2) => runFor g body er ds (ers er e2)
      | some (.ct e2) => runFor g body er ds (ers er e2)
      | some (.bk e2) => some (.nx (ers er e2))
      | some (.rt r e2) => some (.rt r e2)
      | none => none
def sFor (er : List Nat) (g : G) (it : M (List D)) (body : SM) (env : Env) : Option Fl := match it env with
  | none => none
  | some (ds, e1) => runFor g body er ds (ers er e1)
def runWhile (t : M Bool) (body : SM) (er : List Nat) : Nat → Env → Option Fl
  | 0, _ => none
  | n + 1, env => match t env with
    | none => none
    | some (false, e1) => some (.nx e1)
    | some (true, e1) => match body e1 with
      | some (.nx e2) => runWhile t body er n (ers er e2)
      | some (.ct e2) => runWhile t body er n (ers er e2)
      | some (.bk e2) => some (.nx (ers er e2))
      | some (.rt r e2) => some (.rt r e2)
      | none => none
def sWhile (n : Nat) (er : List Nat) (t : M Bool) (body : SM) (env : Env) : Option Fl := runWhile t body er n (ers er env)
@[simp] def bwOf (env : Env) : RV → Option (List D)
  | .sl i => match env[i]? with
    | some (.bw ds) => some ds
    | _ => none
  | _ => none
def itSeq (e : M RV) (env : Env) : Option (List D × Env) := match e env with
  | none => none
  | some (x, e1) => match bwOf e1 x with
    | some ds => some (ds, e1)
    | none => match fzv e1 x with
      | none => none
      | some (d, e2) => match seqD d with
        | some ds => some (ds, e2)
        | none => none
def big : Int := 4611686018427387904
def rngD (lo : Int) (n : Nat) : List D := (List.range n).map fun k => .int (lo + (k : Nat))
def itR1 (a : M RV) (env : Env) : Option (List D × Env) := match a env with
  | some (.fz (.int n), e1) => if -big ≤ n ∧ n < big then some (rngD 0 n.toNat, e1) else none
  | _ => none
def itR2 (a b : M RV) (env : Env) : Option (List D × Env) := match a env with
  | some (.fz (.int m), e1) => match b e1 with
    | some (.fz (.int n), e2) => if (-big ≤ m ∧ m < big) ∧ -big ≤ n ∧ n < big then some (rngD m (n - m).toNat, e2) else none
    | _ => none
  | _ => none
def enum (k : Nat) : List D → List D
  | [] => []
  | d :: ds => .tuple [.int (k : Nat), d] :: enum (k + 1) ds
def itEn (it : M (List D)) (env : Env) : Option (List D × Env) := match it env with
  | none => none
  | some (ds, e1) => some (enum 0 ds, e1)
def itRv (a : M RV) (env : Env) : Option (List D × Env) := match itSeq a env with
  | none => none
  | some (ds, e) => some (ds.reverse, e)
/-- list(range(..)), tuple(range(..)) -/
def eRgL (it : M (List D)) (env : Env) : Option (RV × Env) := match it env with
  | some (ds, e) => if ds.length ≤ limit then some (.tm ds, e) else none
  | none => none
def eRgT (it : M (List D)) (env : Env) : Option (RV × Env) := match it env with
  | some (ds, e) => if ds.length ≤ limit then some (.fz (.tuple ds), e) else none
  | none => none
/-! comprehensions -/
def runLc (g : G) (t : M Bool) (e : M RV) (er : List Nat) : List D → Env → Option (List D × Env)
  | [], env => some ([], env)
  | d :: ds, env => match g d env with
    | none => none
    | some e1 => match t e1 with
      | none => none
      | some (false, e2) => runLc g t e er ds (ers er e2)
      | some (true, e2) => match e e2 with
        | none => none
        | some (x, e3) => match fzv e3 x with
          | none => none
          | some (y, e4) => match runLc g t e er ds (ers er e4) with
            | none => none
            | some (ys, e5) => some (y :: ys, e5)
def eLc (er : List Nat) (g : G) (it : M (List D)) (t : M Bool) (e : M RV) (env : Env) : Option (RV × Env) := match it env with
  | none => none
  | some (ds, e1) => if ds.length ≤ limit then
      match runLc g t e er ds (ers er e1) with
      | none => none
      | some (ys, e2) => some (.tm ys, e2)
    else none
/-- two fors -/
def runLc2 (g : G) (t : M Bool) (it1 : M (List D)) (g1 : G) (t1 : M Bool) (e : M RV) (er er1 : List Nat) : List D → Env → Option (List D × Env)
  | [], env => some ([], env)
  | d :: ds, env => match g d env with
    | none => none
    | some e1 => match t e1 with
      | none => none
      | some (false, e2) => runLc2 g t it1 g1 t1 e er er1 ds (ers er e2)
      | some (true, e2) => match it1 e2 with
        | none => none
        | some (xs, e3) => match runLc g1 t1 e er1 xs (ers er1 e3) with
          | none => none
          | some (ys, e4) => match runLc2 g t it1 g1 t1 e er er1 ds (ers er e4) with
            | none => none
            | some (zs, e5) => some (ys ++ zs, e5)
def eLc2 (er er1 : List Nat) (g : G) (it : M (List D)) (t : M Bool) (g1 : G) (it1 : M (List D)) (t1 : M Bool) (e : M RV) (env : Env) : Option (RV × Env) := match it env with
  | none => none
  | some (ds, e1) => match runLc2 g t it1 g1 t1 e er er1 ds (ers er e1) with
    | none => none
    | some (ys, e2) => if ys.length ≤ limit then some (.tm ys, e2) else none
/-! defs and their calls -/
abbrev FnS := List D → Option (Rt × List (List D))
inductive PK where
  | fz | bw | mt | sc
inductive Ar where
  | fz (e : M RV) | bw (e : M RV) | mt (i : Nat) | sc (i : Nat)
inductive It where
  | d (d : D) | r (i : Nat) | m (i : Nat) | s (i : Nat)
def evA : List Ar → Env → Option (List It × Env)
  | [], env => some ([], env)
  | .fz e :: r, env => match e env with
    | none => none
    | some (x, e1) => match fzv e1 x with
      | none => none
      | some (d, e2) => match evA r e2 with
        | none => none
        | some (l, e3) => some (.d d :: l, e3)
  | .bw e :: r, env => match e env with
    | none => none
    | some (.fz d, e1) => match evA r e1 with
      | none => none
      | some (l, e3) => some (.d d :: l, e3)
    | some (.tm ds, e1) => match evA r e1 with
      | none => none
      | some (l, e3) => some (.d (.list ds) :: l, e3)
    | some (.sl i, e1) => match evA r e1 with
      | none => none
      | some (l, e3) => some (.r i :: l, e3)
  | .mt i :: r, env => match env[i]? with
    | some (.ow _) => match evA r env with
      | none => none
      | some (l, e3) => some (.m i :: l, e3)
    | _ => none
  | .sc i :: r, env => match env[i]? with
    | some (.sc _) => match evA r env with
      | none => none
      | some (l, e3) => some (.s i :: l, e3)
    | _ => none
@[simp] def itD (env : Env) : It → Option D
  | .d d => some d
  | .r i => dr env (.sl i)
  | .m i => match env[i]? with
    | some (.ow ds) => some (.list ds)
    | _ => none
  | .s i => match env[i]? with
    | some (.sc ds) => some (.list ds)
    | _ => none
@[simp] def itDs (env : Env) : List It → Option (List D)
  | [] => some []
  | x :: r => match itD env x, itDs env r with
    | some d, some ds => some (d :: ds)
    | _, _ => none
@[simp] def muts : List It → List Nat
  | [] => []
  | .m i :: r => i :: muts r
  | _ :: r => muts r
@[simp] def lent : List It → List Nat
  | [] => []
  | .r i :: r => i :: lent r
  | _ :: r => lent r
@[simp] def okM (l : List It) : Bool := (muts l).all (fun i => !(lent l).contains i) && decide (muts l).Nodup
@[simp] def setM : List Nat → List (List D) → Env → Env
  | i :: r, ds :: q, env => setM r q (env.set i (.ow ds))
  | _, _, env => env
def eCall (F : FnS) (as : List Ar) (env : Env) : Option (RV × Env) := match evA as env with
  | none => none
  | some (l, e1) => if okM l = true then match itDs e1 l with
    | none => none
    | some ds => match F ds with
      | some (.fz d, ms) => if ms.length = (muts l).length then some (.fz d, setM (muts l) ms e1) else none
      | some (.ow d, ms) => if ms.length = (muts l).length then some (.tm d, setM (muts l) ms e1) else none
      | none => none
    else none
/-- a call whose first argument is a fresh list that the def changes -/
def eCallT (F : FnS) (a : M RV) (as : List Ar) (env : Env) : Option (RV × Env) := match a env with
  | some (.tm xs, e0) => match evA as e0 with
    | none => none
    | some (l, e1) => if okM l = true then match itDs e1 l with
      | none => none
      | some ds => match F (.list xs :: ds) with
        | some (r, _ :: ms) => if ms.length = (muts l).length then some (toRV r, setM (muts l) ms e1) else none
        | _ => none
      else none
  | _ => none
/-- a call of a def of any number of arguments, all frozen -/
def eCallV (F : FnS) (as : M (List D)) (env : Env) : Option (RV × Env) := match as env with
  | some (ds, e) => match F [.tuple ds] with
    | some (r, []) => some (toRV r, e)
    | _ => none
  | none => none
@[simp] def ini : List PK → List D → Option Env
  | [], [] => some []
  | .fz :: ks, d :: ds => (ini ks ds).map (.fz d :: ·)
  | .bw :: ks, .list xs :: ds => (ini ks ds).map (.bw xs :: ·)
  | .bw :: ks, d :: ds => (ini ks ds).map (.fz d :: ·)
  | .mt :: ks, .list xs :: ds => (ini ks ds).map (.ow xs :: ·)
  | .sc :: ks, .list xs :: ds => (ini ks ds).map (.sc xs :: ·)
  | _, _ => none
@[simp] def fin : List PK → Env → Option (List (List D))
  | [], _ => some []
  | .mt :: ks, .ow ds :: r => (fin ks r).map (ds :: ·)
  | .mt :: _, _ => none
  | _ :: ks, _ :: r => fin ks r
  | _ :: _, [] => none
def mkFn (ks : List PK) (n : Nat) (body : SM) (ds : List D) : Option (Rt × List (List D)) := match ini ks ds with
  | none => none
  | some e0 => match body (e0 ++ List.replicate n .no) with
    | some (.nx e1) => (fin ks e1).map fun ms => (.fz .none, ms)
    | some (.rt r e1) => (fin ks e1).map fun ms => (r, ms)
    | _ => none
/-! operators, by their data -/
def mB : Int := 5260135901548373507240989882880128665550339802823173859498280903068732154297080822113666536277588451226982968856178217713019432250183803863127814770651880849955223671128444598191663757884322717271293251735781376
def addD : D → D → Option Rt
  | .int i, .int j => some (.fz (.int (i + j)))
  | .list a, .list b => if a.length + b.length ≤ limit then some (.ow (a ++ b)) else none
  | .tuple a, .tuple b => if a.length + b.length ≤ limit then some (.fz (.tuple (a ++ b))) else none
  | _, _ => none
@[simp] theorem addD_1 {i} {j} : addD (.int i) (.int j) = some (.fz (.int (i + j))) := (rfl)
theorem addD_2 {a} {b} : addD (.list a) (.list b) = if a.length + b.length ≤ limit then some (.ow (a ++ b)) else none := rfl
theorem addD_3 {a} {b} : addD (.tuple a) (.tuple b) = if a.length + b.length ≤ limit then some (.fz (.tuple (a ++ b))) else none := rfl
def subD : D → D → Option Rt
  | .int i, .int j => some (.fz (.int (i - j)))
  | _, _ => none
@[simp] theorem subD_1 {i} {j} : subD (.int i) (.int j) = some (.fz (.int (i - j))) := (rfl)
def mulD : D → D → Option Rt
  | .int i, .int j => if (-mB < i ∧ i < mB) ∧ (-mB < j ∧ j < mB) then some (.fz (.int (i * j))) else none
  | .list a, .int j => if a.length * j.toNat ≤ limit ∧ -big ≤ j ∧ j < big then some (.ow (List.replicate j.toNat a).flatten) else none
  | _, _ => none
theorem mulD_1 {i} {j} : mulD (.int i) (.int j) = if (-mB < i ∧ i < mB) ∧ (-mB < j ∧ j < mB) then some (.fz (.int (i * j))) else none := rfl
theorem mulD_2 {a} {j} : mulD (.list a) (.int j) = if a.length * j.toNat ≤ limit ∧ -big ≤ j ∧ j < big then some (.ow (List.replicate j.toNat a).flatten) else none := (rfl)
def fdivD : D → D → Option Rt
  | .int i, .int j => if j ≠ 0 ∧ -1073741824 < j ∧ j < 1073741824 then some (.fz (.int (i.fdiv j))) else none
  | _, _ => none
theorem fdivD_1 {i} {j} : fdivD (.int i) (.int j) = if j ≠ 0 ∧ -1073741824 < j ∧ j < 1073741824 then some (.fz (.int (i.fdiv j))) else none := rfl
def modD : D → D → Option Rt
  | .int i, .int j => if j ≠ 0 then some (.fz (.int (i.fmod j))) else none
  | _, _ => none
theorem modD_1 {i} {j} : modD (.int i) (.int j) = if j ≠ 0 then some (.fz (.int (i.fmod j))) else none := rfl
def powD : D → D → Option Rt
  | .int i, .int j => if (0 ≤ j ∧ j ≤ 1000000) ∧ -18446744073709551616 < i ∧ i < 18446744073709551616 then some (.fz (.int (i ^ j.toNat))) else none
  | _, _ => none
theorem powD_1 {i} {j} : powD (.int i) (.int j) = if (0 ≤ j ∧ j ≤ 1000000) ∧ -18446744073709551616 < i ∧ i < 18446744073709551616 then some (.fz (.int (i ^ j.toNat))) else none := rfl
def ltD : D → D → Option Rt
  | .int i, .int j => some (.fz (.bool (decide (i < j))))
  | _, _ => none
@[simp] theorem ltD_1 {i} {j} : ltD (.int i) (.int j) = some (.fz (.bool (decide (i < j)))) := (rfl)
def leD : D → D → Option Rt
  | .int i, .int j => some (.fz (.bool (decide (i ≤ j))))
  | _, _ => none
@[simp] theorem leD_1 {i} {j} : leD (.int i) (.int j) = some (.fz (.bool (decide (i ≤ j)))) := (rfl)
def gtD : D → D → Option Rt
  | .int i, .int j => some (.fz (.bool (decide (j < i))))
  | _, _ => none
@[simp] theorem gtD_1 {i} {j} : gtD (.int i) (.int j) = some (.fz (.bool (decide (j < i)))) := (rfl)
def geD : D → D → Option Rt
  | .int i, .int j => some (.fz (.bool (decide (j ≤ i))))
  | _, _ => none
@[simp] theorem geD_1 {i} {j} : geD (.int i) (.int j) = some (.fz (.bool (decide (j ≤ i)))) := (rfl)
mutual
def beqD : D → D → Bool
  | .none, .none => true
  | .bool a, .bool b => a == b
  | .bool a, .int j => (if a then 1 else 0) == j
  | .int i, .bool b => i == (if b then 1 else 0)
  | .int i, .int j => decide (i = j)
  | .str a, .str b => a == b
  | .list a, .list b => beqDs a b
  | .tuple a, .tuple b => beqDs a b
  | _, _ => false
def beqDs : List D → List D → Bool
  | [], [] => true
  | a :: r, b :: q => beqD a b && beqDs r q
  | _, _ => false
end
/-- its shape is plain: no texts within, not too deep -/
def shp : Nat → D → Bool
  | _, .none => true
  | _, .bool _ => true
  | _, .int _ => true
  | _, .str x => x.cps.all (· < 0x110000)
  | n + 1, .list ds => ds.all (shp n)
  | n + 1, .tuple ds => ds.all (shp n)
  | _, _ => false
@[simp] theorem shp_none (n : Nat) : shp n .none = true := by cases n <;> rfl
@[simp] theorem shp_bool (n : Nat) (b : Bool) : shp n (.bool b) = true := by cases n <;> rfl
@[simp] theorem shp_int (n : Nat) (i : Int) : shp n (.int i) = true := by cases n <;> rfl
theorem shp_str (n : Nat) (i : Str) : shp n (.str i) = i.cps.all (· < 0x110000) := by cases n <;> rfl
@[simp] theorem shp_list (n : Nat) (ds : List D) : shp (n + 1) (.list ds) = ds.all (shp n) := rfl
@[simp] theorem shp_tuple (n : Nat) (ds : List D) : shp (n + 1) (.tuple ds) = ds.all (shp n) := rfl
@[simp] theorem shp_ints (n : Nat) (ns : List Int) : (ns.map PyData.int).all (shp n) = true := by simp
@[simp] def eqD (d e : D) : Option Rt := if shp (8 + 1 + 1) d = true ∧ shp (8 + 1 + 1) e = true then some (.fz (.bool (beqD d e))) else none
@[simp] def neD (d e : D) : Option Rt := if shp (8 + 1 + 1) d = true ∧ shp (8 + 1 + 1) e = true then some (.fz (.bool (!beqD d e))) else none
@[simp] theorem beqD_int (i j : Int) : beqD (.int i) (.int j) = decide (i = j) := by simp [beqD]
theorem beqDs_ints : ∀ ns ms : List Int, beqDs (ns.map PyData.int) (ms.map PyData.int) = decide (ns = ms)
  | [], [] => rfl
  | [], _ :: _ => by simp [beqDs]
  | _ :: _, [] => by simp [beqDs]
  | n :: ns, m :: ms => by simp [beqDs, beqD, beqDs_ints ns ms]
@[simp] theorem beqD_ints (ns ms : List Int) : beqD (.list (ns.map PyData.int)) (.list (ms.map PyData.int)) = decide (ns = ms) := by simp [beqD, beqDs_ints]
@[simp] theorem beqD_tints (ns ms : List Int) : beqD (.tuple (ns.map PyData.int)) (.tuple (ms.map PyData.int)) = decide (ns = ms) := by simp [beqD, beqDs_ints]
@[simp] def isND (d : D) : Option Rt := some (.fz (.bool (match d with | .none => true | _ => false)))
@[simp] def notND (d : D) : Option Rt := some (.fz (.bool (match d with | .none => false | _ => true)))
@[simp] def isD2 (d e : D) : Option Rt := match e with | .none => isND d | _ => none
@[simp] def notD2 (d e : D) : Option Rt := match e with | .none => notND d | _ => none
def ixD : D → D → Option Rt
  | .list ds, .int i => match ixN ds.length i with
    | some j => match ds[j]? with
      | some d => some (.fz d)
      | none => none
    | none => none
  | .tuple ds, .int i => match ixN ds.length i with
    | some j => match ds[j]? with
      | some d => some (.fz d)
      | none => none
    | none => none
  | _, _ => none
theorem ixD_1 {ds} {i} : ixD (.list ds) (.int i) = match ixN ds.length i with
      | some j => match ds[j]? with
        | some d => some (.fz d)
        | none => none
      | none => none := rfl
theorem ixD_2 {ds} {i} : ixD (.tuple ds) (.int i) = match ixN ds.length i with
      | some j => match ds[j]? with
        | some d => some (.fz d)
        | none => none
      | none => none := rfl
def negD : D → Option Rt
  | .int i => some (.fz (.int (-i)))
  | _ => none
@[simp] theorem negD_1 {i} : negD (.int i) = some (.fz (.int (-i))) := (rfl)
def absD : D → Option Rt
  | .int i => some (.fz (.int (if i < 0 then -i else i)))
  | _ => none
theorem absD_1 {i} : absD (.int i) = some (.fz (.int (if i < 0 then -i else i))) := (rfl)
def lenD : D → Option Rt
  | .list ds => some (.fz (.int (ds.length : Nat)))
  | .tuple ds => some (.fz (.int (ds.length : Nat)))
  | _ => none
@[simp] theorem lenD_1 {ds} : lenD (.list ds) = some (.fz (.int (ds.length : Nat))) := (rfl)
@[simp] theorem lenD_2 {ds} : lenD (.tuple ds) = some (.fz (.int (ds.length : Nat))) := (rfl)
def intD : D → Option Rt
  | .int i => some (.fz (.int i))
  | .bool b => some (.fz (.int (if b then 1 else 0)))
  | _ => none
@[simp] theorem intD_1 {i} : intD (.int i) = some (.fz (.int i)) := (rfl)
@[simp] theorem intD_2 {b} : intD (.bool b) = some (.fz (.int (if b then 1 else 0))) := (rfl)
def listD : D → Option Rt
  | .list ds => some (.ow ds)
  | .tuple ds => some (.ow ds)
  | _ => none
@[simp] theorem listD_1 {ds} : listD (.list ds) = some (.ow ds) := (rfl)
@[simp] theorem listD_2 {ds} : listD (.tuple ds) = some (.ow ds) := (rfl)
def tupleD : D → Option Rt
  | .list ds => some (.fz (.tuple ds))
  | .tuple ds => some (.fz (.tuple ds))
  | _ => none
@[simp] theorem tupleD_1 {ds} : tupleD (.list ds) = some (.fz (.tuple ds)) := (rfl)
@[simp] theorem tupleD_2 {ds} : tupleD (.tuple ds) = some (.fz (.tuple ds)) := (rfl)
def asInts : List D → Option (List Int)
  | [] => some []
  | d :: r => match d with
    | .int i => (asInts r).map (i :: ·)
    | _ => none
def asBools : List D → Option (List Bool)
  | [] => some []
  | d :: r => match d with
    | .bool i => (asBools r).map (i :: ·)
    | _ => none
@[simp] theorem asInts_ints (ns : List Int) : asInts (ns.map PyData.int) = some ns := by
  induction ns with
  | nil => rfl
  | cons n ns ih => simp [asInts, ih]
@[simp] theorem asBools_bools (ns : List Bool) : asBools (ns.map PyData.bool) = some ns := by
  induction ns with
  | nil => rfl
  | cons n ns ih => simp [asBools, ih]
def sumD : D → Option Rt
  | .list ds => match asInts ds with
    | some ns => some (.fz (.int ns.sum))
    | none => none
  | _ => none
@[simp] theorem sumD_1 {ds} : sumD (.list ds) = match asInts ds with
      | some ns => some (.fz (.int ns.sum))
      | none => none := rfl
def allD : D → Option Rt
  | .list ds => match asBools ds with
    | some ns => some (.fz (.bool (ns.all id)))
    | none => none
  | _ => none
@[simp] theorem allD_1 {ds} : allD (.list ds) = match asBools ds with
      | some ns => some (.fz (.bool (ns.all id)))
      | none => none := rfl
def anyD : D → Option Rt
  | .list ds => match asBools ds with
    | some ns => some (.fz (.bool (ns.any id)))
    | none => none
  | _ => none
@[simp] theorem anyD_1 {ds} : anyD (.list ds) = match asBools ds with
      | some ns => some (.fz (.bool (ns.any id)))
      | none => none := rfl
def maxD : D → D → Option Rt
  | .int i, .int j => some (.fz (.int (if j > i then j else i)))
  | _, _ => none
theorem maxD_1 {i} {j} : maxD (.int i) (.int j) = some (.fz (.int (if j > i then j else i))) := (rfl)
def minD : D → D → Option Rt
  | .int i, .int j => some (.fz (.int (if j < i then j else i)))
  | _, _ => none
theorem minD_1 {i} {j} : minD (.int i) (.int j) = some (.fz (.int (if j < i then j else i))) := (rfl)
def srt (l : List Int) : List Int := l.mergeSort (fun a b => decide (a ≤ b))
def sortedD : D → Option Rt
  | .list ds => match asInts ds with
    | some ns => some (.ow ((srt ns).map PyData.int))
    | none => none
  | _ => none
theorem sortedD_1 {ds} : sortedD (.list ds) = match asInts ds with
    | some ns => some (.ow ((srt ns).map PyData.int))
    | none => none := (rfl)
inductive Ty where
  | int | bool | list | tuple | str
def isiD : Ty → D → Option Rt
  | .int, .int _ => some (.fz (.bool true))
  | .int, .bool _ => some (.fz (.bool true))
  | .int, .none => some (.fz (.bool false))
  | .int, .list _ => some (.fz (.bool false))
  | .int, .tuple _ => some (.fz (.bool false))
  | .int, .str _ => some (.fz (.bool false))
  | .bool, .bool _ => some (.fz (.bool true))
  | .bool, .int _ => some (.fz (.bool false))
  | .bool, .none => some (.fz (.bool false))
  | .bool, .list _ => some (.fz (.bool false))
  | .bool, .tuple _ => some (.fz (.bool false))
  | .bool, .str _ => some (.fz (.bool false))
  | .list, .list _ => some (.fz (.bool true))
  | .list, .tuple _ => some (.fz (.bool false))
  | .list, .none => some (.fz (.bool false))
  | .list, .int _ => some (.fz (.bool false))
  | .list, .bool _ => some (.fz (.bool false))
  | .list, .str _ => some (.fz (.bool false))
  | .tuple, .tuple _ => some (.fz (.bool true))
  | .tuple, .list _ => some (.fz (.bool false))
  | .tuple, .none => some (.fz (.bool false))
  | .tuple, .int _ => some (.fz (.bool false))
  | .tuple, .bool _ => some (.fz (.bool false))
  | .tuple, .str _ => some (.fz (.bool false))
  | .str, .str _ => some (.fz (.bool true))
  | .str, .tuple _ => some (.fz (.bool false))
  | .str, .list _ => some (.fz (.bool false))
  | .str, .none => some (.fz (.bool false))
  | .str, .int _ => some (.fz (.bool false))
  | .str, .bool _ => some (.fz (.bool false))
  | _, .dict _ => none
@[simp] theorem isiD_1 {u1_0} : isiD (.int) (.int u1_0) = some (.fz (.bool true)) := (rfl)
@[simp] theorem isiD_2 {u1_0} : isiD (.int) (.bool u1_0) = some (.fz (.bool true)) := (rfl)
@[simp] theorem isiD_3  : isiD (.int) (.none) = some (.fz (.bool false)) := (rfl)
@[simp] theorem isiD_4 {u1_0} : isiD (.int) (.list u1_0) = some (.fz (.bool false)) := (rfl)
@[simp] theorem isiD_5 {u1_0} : isiD (.int) (.tuple u1_0) = some (.fz (.bool false)) := (rfl)
@[simp] theorem isiD_6 {u1_0} : isiD (.int) (.str u1_0) = some (.fz (.bool false)) := (rfl)
@[simp] theorem isiD_7 {u1_0} : isiD (.bool) (.bool u1_0) = some (.fz (.bool true)) := (rfl)
@[simp] theorem isiD_8 {u1_0} : isiD (.bool) (.int u1_0) = some (.fz (.bool false)) := (rfl)
@[simp] theorem isiD_9  : isiD (.bool) (.none) = some (.fz (.bool false)) := (rfl)
@[simp] theorem isiD_10 {u1_0} : isiD (.bool) (.list u1_0) = some (.fz (.bool false)) := (rfl)
@[simp] theorem isiD_11 {u1_0} : isiD (.bool) (.tuple u1_0) = some (.fz (.bool false)) := (rfl)
@[simp] theorem isiD_12 {u1_0} : isiD (.bool) (.str u1_0) = some (.fz (.bool false)) := (rfl)
@[simp] theorem isiD_13 {u1_0} : isiD (.list) (.list u1_0) = some (.fz (.bool true)) := (rfl)
@[simp] theorem isiD_14 {u1_0} : isiD (.list) (.tuple u1_0) = some (.fz (.bool false)) := (rfl)
@[simp] theorem isiD_15  : isiD (.list) (.none) = some (.fz (.bool false)) := (rfl)
@[simp] theorem isiD_16 {u1_0} : isiD (.list) (.int u1_0) = some (.fz (.bool false)) := (rfl)
@[simp] theorem isiD_17 {u1_0} : isiD (.list) (.bool u1_0) = some (.fz (.bool false)) := (rfl)
@[simp] theorem isiD_18 {u1_0} : isiD (.list) (.str u1_0) = some (.fz (.bool false)) := (rfl)
@[simp] theorem isiD_19 {u1_0} : isiD (.tuple) (.tuple u1_0) = some (.fz (.bool true)) := (rfl)
@[simp] theorem isiD_20 {u1_0} : isiD (.tuple) (.list u1_0) = some (.fz (.bool false)) := (rfl)
@[simp] theorem isiD_21  : isiD (.tuple) (.none) = some (.fz (.bool false)) := (rfl)
@[simp] theorem isiD_22 {u1_0} : isiD (.tuple) (.int u1_0) = some (.fz (.bool false)) := (rfl)
@[simp] theorem isiD_23 {u1_0} : isiD (.tuple) (.bool u1_0) = some (.fz (.bool false)) := (rfl)
@[simp] theorem isiD_24 {u1_0} : isiD (.tuple) (.str u1_0) = some (.fz (.bool false)) := (rfl)
@[simp] theorem isiD_25 {u1_0} : isiD (.str) (.str u1_0) = some (.fz (.bool true)) := (rfl)
@[simp] theorem isiD_26 {u1_0} : isiD (.str) (.tuple u1_0) = some (.fz (.bool false)) := (rfl)
@[simp] theorem isiD_27 {u1_0} : isiD (.str) (.list u1_0) = some (.fz (.bool false)) := (rfl)
@[simp] theorem isiD_28  : isiD (.str) (.none) = some (.fz (.bool false)) := (rfl)
@[simp] theorem isiD_29 {u1_0} : isiD (.str) (.int u1_0) = some (.fz (.bool false)) := (rfl)
@[simp] theorem isiD_30 {u1_0} : isiD (.str) (.bool u1_0) = some (.fz (.bool false)) := (rfl)
def sIx (n d : Nat) : Option Int → Nat
  | none => d
  | some v => if v < 0 then (v + (n : Int)).toNat else min v.toNat n
def cutD {α : Type} (xs : List α) (lo hi : Option Int) : List α := (xs.drop (sIx xs.length 0 lo)).take (sIx xs.length xs.length hi - sIx xs.length 0 lo)
def slD : D → Option Int → Option Int → Option Rt
  | .list ds, lo, hi => some (.ow (cutD ds lo hi))
  | .tuple ds, lo, hi => some (.fz (.tuple (cutD ds lo hi)))
  | _, _, _ => none
@[simp] theorem slD_1 {ds} {lo} {hi} : slD (.list ds) (lo) (hi) = some (.ow (cutD ds lo hi)) := (rfl)
@[simp] theorem slD_2 {ds} {lo} {hi} : slD (.tuple ds) (lo) (hi) = some (.fz (.tuple (cutD ds lo hi))) := (rfl)
def revD : D → Option Rt
  | .list ds => some (.ow ds.reverse)
  | .tuple ds => some (.fz (.tuple ds.reverse))
  | _ => none
@[simp] theorem revD_1 {ds} : revD (.list ds) = some (.ow ds.reverse) := (rfl)
@[simp] theorem revD_2 {ds} : revD (.tuple ds) = some (.fz (.tuple ds.reverse)) := (rfl)
/-! the script -/
@[simp] def eScLen (i : Nat) (env : Env) : Option (RV × Env) := match env[i]? with
  | some (.sc ds) => some (.fz (.int ds.length), env)
  | _ => none
def eScIx (i : Nat) (e : M RV) (env : Env) : Option (RV × Env) := match env[i]? with
  | some (.sc _) => match e env with
    | some (.fz (.int k), e1) => match e1[i]? with
      | some (.sc ds) => match ixN ds.length k with
        | some j => match ds[j]? with
          | some d => some (.fz d, e1)
          | none => none
        | none => none
      | _ => none
    | _ => none
  | _ => none
def eScSl (i : Nat) (lo hi : M (Option Int)) (env : Env) : Option (RV × Env) := match env[i]? with
  | some (.sc _) => match lo env with
    | none => none
    | some (l, e1) => match hi e1 with
      | none => none
      | some (h, e2) => match e2[i]? with
        | some (.sc ds) => some (.tm (cutD ds l h), e2)
        | _ => none
  | _ => none
/-! x[a], x[b] = d, e -/
def st1 (i : Nat) (ie : M RV) (d : D) (env : Env) : Option Env := match env[i]? with
  | some (.ow _) => match ie env with
    | some (.fz (.int k), e3) => match e3[i]? with
      | some (.ow ds) => match ixN ds.length k with
        | some j => some (e3.set i (.ow (ds.set j d)))
        | none => none
      | _ => none
    | _ => none
  | _ => none
def sPS (i : Nat) (ia : M RV) (j : Nat) (ib : M RV) (es : M (List D)) (env : Env) : Option Fl := match es env with
  | some ([d1, d2], e) => match st1 i ia d1 e with
    | some e1 => match st1 j ib d2 e1 with
      | some e2 => some (.nx e2)
      | none => none
    | none => none
  | _ => none
/-! range(a, b, -1) -/
def rngM (lo : Int) (n : Nat) : List D := (List.range n).map fun k => .int (lo - (k : Nat))
def itR3 (a b c : M RV) (env : Env) : Option (List D × Env) := match a env with
  | some (.fz (.int m), e1) => match b e1 with
    | some (.fz (.int n), e2) => match c e2 with
      | some (.fz (.int s), e3) => if s = -1 ∧ (-big ≤ m ∧ m < big) ∧ -big ≤ n ∧ n < big then some (rngM m (m - n).toNat, e3) else none
      | _ => none
    | _ => none
  | _ => none
/-! x in xs -/
def flt : D → Bool
  | .none => true
  | .bool _ => true
  | .int _ => true
  | .str _ => true
  | _ => false
@[simp] theorem flt_int (i : Int) : flt (.int i) = true := (rfl)
@[simp] theorem flt_bool (i : Bool) : flt (.bool i) = true := (rfl)
@[simp] theorem flt_none : flt .none = true := (rfl)
@[simp] theorem flt_str (i : Str) : flt (.str i) = true := (rfl)
def inD (d e : D) : Option Rt := match seqD e with
  | some ds => if flt d = true ∧ ds.all flt = true then some (.fz (.bool (ds.any fun x => beqD x d))) else none
  | none => none
def notInD (d e : D) : Option Rt := match seqD e with
  | some ds => if flt d = true ∧ ds.all flt = true then some (.fz (.bool (!ds.any fun x => beqD x d))) else none
  | none => none
/-! a is True -/
def isBD : D → D → Option Rt
  | .bool a, .bool b => some (.fz (.bool (a == b)))
  | _, _ => none
@[simp] theorem isBD_1 {a b} : isBD (.bool a) (.bool b) = some (.fz (.bool (a == b))) := (rfl)
def notBD : D → D → Option Rt
  | .bool a, .bool b => some (.fz (.bool (!(a == b))))
  | _, _ => none
@[simp] theorem notBD_1 {a b} : notBD (.bool a) (.bool b) = some (.fz (.bool (!(a == b)))) := (rfl)
/-! t.count(x) -/
def eCnt (a b : M RV) (env : Env) : Option (RV × Env) := match a env with
  | some (.fz (.tuple ds), e1) => match b e1 with
    | some (.fz d, e2) => if flt d = true ∧ ds.all flt = true then some (.fz (.int ((ds.countP fun x => beqD x d : Nat) : Int)), e2) else none
    | _ => none
  | _ => none
/-! x.pop(k) -/
def ePopA (i : Nat) (k : M RV) (env : Env) : Option (RV × Env) := match env[i]? with
  | some (.ow _) => match k env with
    | some (.fz (.int n), e1) => match e1[i]? with
      | some (.ow ds) => if 0 ≤ n then (match ds[n.toNat]? with
        | some d => if n < big then some (.fz d, e1.set i (.ow (ds.eraseIdx n.toNat))) else none
        | none => none) else none
      | _ => none
    | _ => none
  | _ => none
/-! str(i) -/
def strD : D → Option Rt
  | .int i => if i.natAbs < 2 ^ 1000 then some (.fz (.str (toString i))) else none
  | _ => none
/-! a < b < c -/
def tCh (g h : D → D → Option Rt) (a b c : M RV) (env : Env) : Option (Bool × Env) := match a env with
  | some (.fz (.int i), e1) => match b e1 with
    | some (.fz (.int j), e2) => match g (.int i) (.int j) with
      | some (.fz (.bool k)) => if k = true then (match c e2 with
        | some (.fz (.int l), e3) => match h (.int j) (.int l) with
          | some (.fz (.bool m)) => some (m, e3)
          | _ => none
        | _ => none) else some (false, e2)
      | _ => none
    | _ => none
  | _ => none
end J
/-! JQ: how a reading is computed, one part at a time: no part is opened before the parts ahead of it are known. -/
namespace J
open PySem
def kR (e : Env) : Option Rt → Option (RV × Env)
  | some r => some (toRV r, e)
  | none => none
@[simp] theorem kR_1 {e : Env} {r} : kR e (some r) = some (toRV r, e) := (rfl)
@[simp] theorem kR_2 {e : Env} : kR e (none) = none := (rfl)
def kOp1b (g : D → Option Rt) (e : Env) : Option D → Option (RV × Env)
  | some d => kR e (g d)
  | none => none
@[simp] theorem kOp1b_1 {g : D → Option Rt} {e : Env} {d} : kOp1b g e (some d) = kR e (g d) := (rfl)
@[simp] theorem kOp1b_2 {g : D → Option Rt} {e : Env} : kOp1b g e (none) = none := (rfl)
def kOp1 (g : D → Option Rt) : Option (RV × Env) → Option (RV × Env)
  | some (x, e) => kOp1b g e (dr e x)
  | none => none
@[simp] theorem kOp1_1 {g : D → Option Rt} {x} {e} : kOp1 g (some (x, e)) = kOp1b g e (dr e x) := (rfl)
@[simp] theorem kOp1_2 {g : D → Option Rt} : kOp1 g (none) = none := (rfl)
@[simp] theorem q_op1 {g : D → Option Rt} {a : M RV} {env : Env} : eOp1 g a env = kOp1 g (a env) := by
  unfold eOp1
  cases a env with
  | none => rfl
  | some r =>
    obtain ⟨x, e⟩ := r
    simp only [kOp1]
    cases dr e x with
    | none => rfl
    | some d =>
      simp only [kOp1b]
      cases g d <;> rfl
def kOp2c (g : D → D → Option Rt) (e : Env) : Option D → Option D → Option (RV × Env)
  | some d, some d' => kR e (g d d')
  | _, _ => none
@[simp] theorem kOp2c_1 {g : D → D → Option Rt} {e : Env} {d} {d'} : kOp2c g e (some d) (some d') = kR e (g d d') := (rfl)
def kOp2b (g : D → D → Option Rt) (x : RV) : Option (RV × Env) → Option (RV × Env)
  | some (y, e) => kOp2c g e (dr e x) (dr e y)
  | none => none
@[simp] theorem kOp2b_1 {g : D → D → Option Rt} {x : RV} {y} {e} : kOp2b g x (some (y, e)) = kOp2c g e (dr e x) (dr e y) := (rfl)
@[simp] theorem kOp2b_2 {g : D → D → Option Rt} {x : RV} : kOp2b g x (none) = none := (rfl)
def kOp2 (g : D → D → Option Rt) (b : M RV) : Option (RV × Env) → Option (RV × Env)
  | some (x, e) => kOp2b g x (b e)
  | none => none
@[simp] theorem kOp2_1 {g : D → D → Option Rt} {b : M RV} {x} {e} : kOp2 g b (some (x, e)) = kOp2b g x (b e) := (rfl)
@[simp] theorem kOp2_2 {g : D → D → Option Rt} {b : M RV} : kOp2 g b (none) = none := (rfl)
@[simp] theorem q_op2 {g : D → D → Option Rt} {a b : M RV} {env : Env} : eOp2 g a b env = kOp2 g b (a env) := by
  unfold eOp2
  cases a env with
  | none => rfl
  | some r =>
    obtain ⟨x, e⟩ := r
    simp only [kOp2]
    cases b e with
    | none => rfl
    | some r =>
      obtain ⟨y, e2⟩ := r
      simp only [kOp2b]
      cases dr e2 x with
      | none => rfl
      | some d =>
        cases dr e2 y with
        | none => rfl
        | some d' =>
          simp only [kOp2c]
          cases g d d' <;> rfl
def kAnd (b : M RV) : Option (RV × Env) → Option (RV × Env)
  | some (.fz (.bool c), e) => if c = true then b e else some (.fz (.bool false), e)
  | _ => none
@[simp] theorem kAnd_1 {b : M RV} {c} {e} : kAnd b (some (.fz (.bool c), e)) = if c = true then b e else some (.fz (.bool false), e) := (rfl)
@[simp] theorem q_and {a b : M RV} {env : Env} : eAnd a b env = kAnd b (a env) := by
  unfold eAnd
  split
  · rename_i h; rw [h]; rfl
  · rename_i h; rw [h]; rfl
  · rename_i h1 h2
    cases q : a env with
    | none => rfl
    | some r =>
      obtain ⟨x, e⟩ := r
      cases x with
      | fz d =>
        cases d with
        | bool c =>
          cases c
          · exact absurd q (h2 e)
          · exact absurd q (h1 e)
        | _ => rfl
      | _ => rfl
def kOr (b : M RV) : Option (RV × Env) → Option (RV × Env)
  | some (.fz (.bool c), e) => if c = true then some (.fz (.bool true), e) else b e
  | _ => none
@[simp] theorem kOr_1 {b : M RV} {c} {e} : kOr b (some (.fz (.bool c), e)) = if c = true then some (.fz (.bool true), e) else b e := (rfl)
@[simp] theorem q_or {a b : M RV} {env : Env} : eOr a b env = kOr b (a env) := by
  unfold eOr
  split
  · rename_i h; rw [h]; rfl
  · rename_i h; rw [h]; rfl
  · rename_i h1 h2
    cases q : a env with
    | none => rfl
    | some r =>
      obtain ⟨x, e⟩ := r
      cases x with
      | fz d =>
        cases d with
        | bool c =>
          cases c
          · exact absurd q (h2 e)
          · exact absurd q (h1 e)
        | _ => rfl
      | _ => rfl
def kNot : Option (RV × Env) → Option (RV × Env)
  | some (.fz (.bool c), e) => some (.fz (.bool (!c)), e)
  | _ => none
@[simp] theorem kNot_1 {c} {e} : kNot (some (.fz (.bool c), e)) = some (.fz (.bool (!c)), e) := (rfl)
@[simp] theorem q_not {a : M RV} {env : Env} : eNot a env = kNot (a env) := by
  unfold eNot
  split
  · rename_i h; rw [h]; rfl
  · rename_i h1
    cases q : a env with
    | none => rfl
    | some r =>
      obtain ⟨x, e⟩ := r
      cases x with
      | fz d =>
        cases d with
        | bool c => exact absurd q (h1 c e)
        | _ => rfl
      | _ => rfl
def kIf (a b : M RV) : Option (Bool × Env) → Option (RV × Env)
  | some (c, e) => if c = true then a e else b e
  | none => none
@[simp] theorem kIf_1 {a : M RV} {b : M RV} {c} {e} : kIf a b (some (c, e)) = if c = true then a e else b e := (rfl)
@[simp] theorem kIf_2 {a : M RV} {b : M RV} : kIf a b (none) = none := (rfl)
@[simp] theorem q_if {t : M Bool} {a b : M RV} {env : Env} : eIf t a b env = kIf a b (t env) := by
  unfold eIf
  cases t env with
  | none => rfl
  | some r => obtain ⟨c, e⟩ := r; cases c <;> rfl
def kAc3 (d : D) : Option (List D × Env) → Option (List D × Env)
  | some (ds, e) => some (d :: ds, e)
  | none => none
@[simp] theorem kAc3_1 {d : D} {ds} {e} : kAc3 d (some (ds, e)) = some (d :: ds, e) := (rfl)
@[simp] theorem kAc3_2 {d : D} : kAc3 d (none) = none := (rfl)
def kAc2 (r : M (List D)) : Option (D × Env) → Option (List D × Env)
  | some (d, e) => kAc3 d (r e)
  | none => none
@[simp] theorem kAc2_1 {r : M (List D)} {d} {e} : kAc2 r (some (d, e)) = kAc3 d (r e) := (rfl)
@[simp] theorem kAc2_2 {r : M (List D)} : kAc2 r (none) = none := (rfl)
def kAc (r : M (List D)) : Option (RV × Env) → Option (List D × Env)
  | some (x, e) => kAc2 r (fzv e x)
  | none => none
@[simp] theorem kAc_1 {r : M (List D)} {x} {e} : kAc r (some (x, e)) = kAc2 r (fzv e x) := (rfl)
@[simp] theorem kAc_2 {r : M (List D)} : kAc r (none) = none := (rfl)
@[simp] theorem q_ac {e : M RV} {r : M (List D)} {env : Env} : aCons e r env = kAc r (e env) := by
  unfold aCons
  cases e env with
  | none => rfl
  | some q =>
    obtain ⟨x, e1⟩ := q
    simp only [kAc]
    cases fzv e1 x with
    | none => rfl
    | some q =>
      obtain ⟨d, e2⟩ := q
      simp only [kAc2]
      cases r e2 <;> rfl
def kTup : Option (List D × Env) → Option (RV × Env)
  | some (ds, e) => some (.fz (.tuple ds), e)
  | none => none
@[simp] theorem kTup_1 {ds} {e} : kTup (some (ds, e)) = some (.fz (.tuple ds), e) := (rfl)
@[simp] theorem kTup_2  : kTup (none) = none := (rfl)
@[simp] theorem q_tup {es : M (List D)} {env : Env} : eTup es env = kTup (es env) := by
  unfold eTup
  cases es env <;> rfl
def kLst : Option (List D × Env) → Option (RV × Env)
  | some (ds, e) => some (.tm ds, e)
  | none => none
@[simp] theorem kLst_1 {ds} {e} : kLst (some (ds, e)) = some (.tm ds, e) := (rfl)
@[simp] theorem kLst_2  : kLst (none) = none := (rfl)
@[simp] theorem q_lst {es : M (List D)} {env : Env} : eLst es env = kLst (es env) := by
  unfold eLst
  cases es env <;> rfl
/-! tests -/
def kVal : Option (RV × Env) → Option (Bool × Env)
  | some (.fz (.bool c), e) => some (c, e)
  | _ => none
@[simp] theorem kVal_1 {c} {e} : kVal (some (.fz (.bool c), e)) = some (c, e) := (rfl)
@[simp] theorem q_val {a : M RV} {env : Env} : tVal a env = kVal (a env) := by
  unfold tVal
  split
  · rename_i h; rw [h]; rfl
  · rename_i h1
    cases q : a env with
    | none => rfl
    | some r =>
      obtain ⟨x, e⟩ := r
      cases x with
      | fz d =>
        cases d with
        | bool c => exact absurd q (h1 c e)
        | _ => rfl
      | _ => rfl
def kTru3 (e : Env) : Option Bool → Option (Bool × Env)
  | some b => some (b, e)
  | none => none
@[simp] theorem kTru3_1 {e : Env} {b} : kTru3 e (some b) = some (b, e) := (rfl)
@[simp] theorem kTru3_2 {e : Env} : kTru3 e (none) = none := (rfl)
def kTru2 (e : Env) : Option D → Option (Bool × Env)
  | some d => kTru3 e (truD d)
  | none => none
@[simp] theorem kTru2_1 {e : Env} {d} : kTru2 e (some d) = kTru3 e (truD d) := (rfl)
@[simp] theorem kTru2_2 {e : Env} : kTru2 e (none) = none := (rfl)
def kTru : Option (RV × Env) → Option (Bool × Env)
  | some (x, e) => kTru2 e (dr e x)
  | none => none
@[simp] theorem kTru_1 {x} {e} : kTru (some (x, e)) = kTru2 e (dr e x) := (rfl)
@[simp] theorem kTru_2  : kTru (none) = none := (rfl)
@[simp] theorem q_tru {a : M RV} {env : Env} : tTru a env = kTru (a env) := by
  unfold tTru
  cases a env with
  | none => rfl
  | some r =>
    obtain ⟨x, e⟩ := r
    simp only [kTru]
    cases dr e x with
    | none => rfl
    | some d =>
      simp only [kTru2]
      cases truD d <;> rfl
def kTAnd (b : M Bool) : Option (Bool × Env) → Option (Bool × Env)
  | some (c, e) => if c = true then b e else some (false, e)
  | none => none
@[simp] theorem kTAnd_1 {b : M Bool} {c} {e} : kTAnd b (some (c, e)) = if c = true then b e else some (false, e) := (rfl)
@[simp] theorem kTAnd_2 {b : M Bool} : kTAnd b (none) = none := (rfl)
@[simp] theorem q_tand {a b : M Bool} {env : Env} : tAnd a b env = kTAnd b (a env) := by
  unfold tAnd
  cases a env with
  | none => rfl
  | some r => obtain ⟨c, e⟩ := r; cases c <;> rfl
def kTOr (b : M Bool) : Option (Bool × Env) → Option (Bool × Env)
  | some (c, e) => if c = true then some (true, e) else b e
  | none => none
@[simp] theorem kTOr_1 {b : M Bool} {c} {e} : kTOr b (some (c, e)) = if c = true then some (true, e) else b e := (rfl)
@[simp] theorem kTOr_2 {b : M Bool} : kTOr b (none) = none := (rfl)
@[simp] theorem q_tor {a b : M Bool} {env : Env} : tOr a b env = kTOr b (a env) := by
  unfold tOr
  cases a env with
  | none => rfl
  | some r => obtain ⟨c, e⟩ := r; cases c <;> rfl
def kTNot : Option (Bool × Env) → Option (Bool × Env)
  | some (c, e) => some (!c, e)
  | none => none
@[simp] theorem kTNot_1 {c} {e} : kTNot (some (c, e)) = some (!c, e) := (rfl)
@[simp] theorem kTNot_2  : kTNot (none) = none := (rfl)
@[simp] theorem q_tnot {a : M Bool} {env : Env} : tNot a env = kTNot (a env) := by
  unfold tNot
  cases a env with
  | none => rfl
  | some r => rfl
def kSo : Option (RV × Env) → Option (Option Int × Env)
  | some (.fz (.int i), e) => some (some i, e)
  | _ => none
@[simp] theorem kSo_1 {i} {e} : kSo (some (.fz (.int i), e)) = some (some i, e) := (rfl)
@[simp] theorem q_so {a : M RV} {env : Env} : oSo a env = kSo (a env) := by
  unfold oSo
  split
  · rename_i h; rw [h]; rfl
  · rename_i h1
    cases q : a env with
    | none => rfl
    | some r =>
      obtain ⟨x, e⟩ := r
      cases x with
      | fz d =>
        cases d with
        | int c => exact absurd q (h1 c e)
        | _ => rfl
      | _ => rfl
def kSl4 (g : D → Option Int → Option Int → Option Rt) (e : Env) (l h : Option Int) : Option D → Option (RV × Env)
  | some d => kR e (g d l h)
  | none => none
@[simp] theorem kSl4_1 {g : D → Option Int → Option Int → Option Rt} {e : Env} {l : Option Int} {h : Option Int} {d} : kSl4 g e l h (some d) = kR e (g d l h) := (rfl)
@[simp] theorem kSl4_2 {g : D → Option Int → Option Int → Option Rt} {e : Env} {l : Option Int} {h : Option Int} : kSl4 g e l h (none) = none := (rfl)
def kSl3 (g : D → Option Int → Option Int → Option Rt) (x : RV) (l : Option Int) : Option (Option Int × Env) → Option (RV × Env)
  | some (h, e) => kSl4 g e l h (dr e x)
  | none => none
@[simp] theorem kSl3_1 {g : D → Option Int → Option Int → Option Rt} {x : RV} {l : Option Int} {h} {e} : kSl3 g x l (some (h, e)) = kSl4 g e l h (dr e x) := (rfl)
@[simp] theorem kSl3_2 {g : D → Option Int → Option Int → Option Rt} {x : RV} {l : Option Int} : kSl3 g x l (none) = none := (rfl)
def kSl2 (g : D → Option Int → Option Int → Option Rt) (hi : M (Option Int)) (x : RV) : Option (Option Int × Env) → Option (RV × Env)
  | some (l, e) => kSl3 g x l (hi e)
  | none => none
@[simp] theorem kSl2_1 {g : D → Option Int → Option Int → Option Rt} {hi : M (Option Int)} {x : RV} {l} {e} : kSl2 g hi x (some (l, e)) = kSl3 g x l (hi e) := (rfl)
@[simp] theorem kSl2_2 {g : D → Option Int → Option Int → Option Rt} {hi : M (Option Int)} {x : RV} : kSl2 g hi x (none) = none := (rfl)
def kSl (g : D → Option Int → Option Int → Option Rt) (lo hi : M (Option Int)) : Option (RV × Env) → Option (RV × Env)
  | some (x, e) => kSl2 g hi x (lo e)
  | none => none
@[simp] theorem kSl_1 {g : D → Option Int → Option Int → Option Rt} {lo : M (Option Int)} {hi : M (Option Int)} {x} {e} : kSl g lo hi (some (x, e)) = kSl2 g hi x (lo e) := (rfl)
@[simp] theorem kSl_2 {g : D → Option Int → Option Int → Option Rt} {lo : M (Option Int)} {hi : M (Option Int)} : kSl g lo hi (none) = none := (rfl)
@[simp] theorem q_sl {g : D → Option Int → Option Int → Option Rt} {a : M RV} {lo hi : M (Option Int)} {env : Env} : eSl g a lo hi env = kSl g lo hi (a env) := by
  unfold eSl
  cases a env with
  | none => rfl
  | some r =>
    obtain ⟨x, e⟩ := r
    simp only [kSl]
    cases lo e with
    | none => rfl
    | some r =>
      obtain ⟨l, e2⟩ := r
      simp only [kSl2]
      cases hi e2 with
      | none => rfl
      | some r =>
        obtain ⟨h, e3⟩ := r
        simp only [kSl3]
        cases dr e3 x with
        | none => rfl
        | some d =>
          simp only [kSl4]
          cases g d l h <;> rfl
/-! statements -/
def kSeq (b : SM) : Option Fl → Option Fl
  | some (.nx e) => b e
  | some (.bk e) => some (.bk e)
  | some (.ct e) => some (.ct e)
  | some (.rt r e) => some (.rt r e)
  | none => none
@[simp] theorem kSeq_1 {b : SM} {e} : kSeq b (some (.nx e)) = b e := (rfl)
@[simp] theorem kSeq_2 {b : SM} {e} : kSeq b (some (.bk e)) = some (.bk e) := (rfl)
@[simp] theorem kSeq_3 {b : SM} {e} : kSeq b (some (.ct e)) = some (.ct e) := (rfl)
@[simp] theorem kSeq_4 {b : SM} {r} {e} : kSeq b (some (.rt r e)) = some (.rt r e) := (rfl)
@[simp] theorem kSeq_5 {b : SM} : kSeq b (none) = none := (rfl)
@[simp] theorem q_seq {a b : SM} {env : Env} : sSeq a b env = kSeq b (a env) := by
  unfold sSeq
  cases a env with
  | none => rfl
  | some r => cases r <;> rfl
def kAsg (i : Nat) : Option (RV × Env) → Option Fl
  | some (.fz d, e) => some (.nx (e.set i (.fz d)))
  | some (.tm ds, e) => some (.nx (e.set i (.ow ds)))
  | some (.sl j, e) => match fzv e (.sl j) with
    | none => none
    | some (d, e2) => some (.nx (e2.set i (.fz d)))
  | none => none
@[simp] theorem kAsg_1 {i : Nat} {d} {e} : kAsg i (some (.fz d, e)) = some (.nx (e.set i (.fz d))) := (rfl)
@[simp] theorem kAsg_2 {i : Nat} {ds} {e} : kAsg i (some (.tm ds, e)) = some (.nx (e.set i (.ow ds))) := (rfl)
@[simp] theorem kAsg_3 {i : Nat} {j} {e} : kAsg i (some (.sl j, e)) = match fzv e (.sl j) with
      | none => none
      | some (d, e2) => some (.nx (e2.set i (.fz d))) := (rfl)
@[simp] theorem kAsg_4 {i : Nat} : kAsg i (none) = none := (rfl)
@[simp] theorem q_asg {i : Nat} {a : M RV} {env : Env} : sAsg i a env = kAsg i (a env) := by
  unfold sAsg
  cases a env with
  | none => rfl
  | some r =>
    obtain ⟨x, e⟩ := r
    cases x <;> rfl
def kDrop : Option (RV × Env) → Option Fl
  | some (_, e) => some (.nx e)
  | none => none
@[simp] theorem kDrop_1 {u0_0} {e} : kDrop (some (u0_0, e)) = some (.nx e) := (rfl)
@[simp] theorem kDrop_2  : kDrop (none) = none := (rfl)
@[simp] theorem q_drop {a : M RV} {env : Env} : sDrop a env = kDrop (a env) := by
  unfold sDrop
  cases a env <;> rfl
def kSIf (a b : SM) : Option (Bool × Env) → Option Fl
  | some (c, e) => if c = true then a e else b e
  | none => none
@[simp] theorem kSIf_1 {a : SM} {b : SM} {c} {e} : kSIf a b (some (c, e)) = if c = true then a e else b e := (rfl)
@[simp] theorem kSIf_2 {a : SM} {b : SM} : kSIf a b (none) = none := (rfl)
@[simp] theorem q_sif {t : M Bool} {a b : SM} {env : Env} : sIf t a b env = kSIf a b (t env) := by
  unfold sIf
  cases t env with
  | none => rfl
  | some r => obtain ⟨c, e⟩ := r; cases c <;> rfl
def kRetS (i : Nat) (e : Env) : Option Sl → Option Fl
  | some (.fz d) => some (.rt (.fz d) e)
  | some (.ow ds) => some (.rt (.ow ds) (e.set i .no))
  | _ => none
@[simp] theorem kRetS_1 {i : Nat} {e : Env} {d} : kRetS i e (some (.fz d)) = some (.rt (.fz d) e) := (rfl)
@[simp] theorem kRetS_2 {i : Nat} {e : Env} {ds} : kRetS i e (some (.ow ds)) = some (.rt (.ow ds) (e.set i .no)) := (rfl)
def kRet : Option (RV × Env) → Option Fl
  | some (.fz d, e) => some (.rt (.fz d) e)
  | some (.tm ds, e) => some (.rt (.ow ds) e)
  | some (.sl i, e) => kRetS i e (e[i]?)
  | none => none
@[simp] theorem kRet_1 {d} {e} : kRet (some (.fz d, e)) = some (.rt (.fz d) e) := (rfl)
@[simp] theorem kRet_2 {ds} {e} : kRet (some (.tm ds, e)) = some (.rt (.ow ds) e) := (rfl)
@[simp] theorem kRet_3 {i} {e} : kRet (some (.sl i, e)) = kRetS i e (e[i]?) := (rfl)
@[simp] theorem kRet_4  : kRet (none) = none := (rfl)
@[simp] theorem q_ret {a : M RV} {env : Env} : sRet a env = kRet (a env) := by
  unfold sRet
  cases a env with
  | none => rfl
  | some r =>
    obtain ⟨x, e⟩ := r
    cases x with
    | sl i =>
      simp only [kRet]
      cases e[i]? with
      | none => rfl
      | some s => cases s <;> rfl
    | _ => rfl
def kApp3 (i : Nat) (d : D) (e : Env) : Option Sl → Option Fl
  | some (.ow ds) => if ds.length < limit then some (.nx (e.set i (.ow (ds ++ [d])))) else none
  | _ => none
theorem kApp3_1 {i : Nat} {d : D} {e : Env} {ds} : kApp3 i d e (some (.ow ds)) = if ds.length < limit then some (.nx (e.set i (.ow (ds ++ [d])))) else none := (rfl)
def kApp2 (i : Nat) : Option (D × Env) → Option Fl
  | some (d, e) => kApp3 i d e (e[i]?)
  | none => none
@[simp] theorem kApp2_1 {i : Nat} {d} {e} : kApp2 i (some (d, e)) = kApp3 i d e (e[i]?) := (rfl)
@[simp] theorem kApp2_2 {i : Nat} : kApp2 i (none) = none := (rfl)
def kApp1 (i : Nat) : Option (RV × Env) → Option Fl
  | some (x, e) => kApp2 i (fzv e x)
  | none => none
@[simp] theorem kApp1_1 {i : Nat} {x} {e} : kApp1 i (some (x, e)) = kApp2 i (fzv e x) := (rfl)
@[simp] theorem kApp1_2 {i : Nat} : kApp1 i (none) = none := (rfl)
def kApp (i : Nat) (a : M RV) (env : Env) : Option Sl → Option Fl
  | some (.ow _) => kApp1 i (a env)
  | _ => none
@[simp] theorem kApp_1 {i : Nat} {a : M RV} {env : Env} {u0_0} : kApp i a env (some (.ow u0_0)) = kApp1 i (a env) := (rfl)
@[simp] theorem q_app {i : Nat} {a : M RV} {env : Env} : sApp i a env = kApp i a env (env[i]?) := by
  unfold sApp
  cases env[i]? with
  | none => rfl
  | some s =>
    cases s with
    | ow _ =>
      simp only [kApp]
      cases a env with
      | none => rfl
      | some r =>
        obtain ⟨x, e⟩ := r
        simp only [kApp1]
        cases fzv e x with
        | none => rfl
        | some r =>
          obtain ⟨d, e2⟩ := r
          simp only [kApp2]
          cases e2[i]? with
          | none => rfl
          | some s => cases s <;> rfl
    | _ => rfl
def kExt3 (i : Nat) (es : List D) (e : Env) : Option Sl → Option Fl
  | some (.ow ds) => if ds.length + es.length ≤ limit then some (.nx (e.set i (.ow (ds ++ es)))) else none
  | _ => none
theorem kExt3_1 {i : Nat} {es : List D} {e : Env} {ds} : kExt3 i es e (some (.ow ds)) = if ds.length + es.length ≤ limit then some (.nx (e.set i (.ow (ds ++ es)))) else none := (rfl)
def kExt2 (i : Nat) (e : Env) : Option D → Option Fl
  | some (.list es) => kExt3 i es e (e[i]?)
  | _ => none
@[simp] theorem kExt2_1 {i : Nat} {e : Env} {es} : kExt2 i e (some (.list es)) = kExt3 i es e (e[i]?) := (rfl)
def kExt1 (i : Nat) : Option (RV × Env) → Option Fl
  | some (x, e) => kExt2 i e (dr e x)
  | none => none
@[simp] theorem kExt1_1 {i : Nat} {x} {e} : kExt1 i (some (x, e)) = kExt2 i e (dr e x) := (rfl)
@[simp] theorem kExt1_2 {i : Nat} : kExt1 i (none) = none := (rfl)
def kExt (i : Nat) (a : M RV) (env : Env) : Option Sl → Option Fl
  | some (.ow _) => kExt1 i (a env)
  | _ => none
@[simp] theorem kExt_1 {i : Nat} {a : M RV} {env : Env} {u0_0} : kExt i a env (some (.ow u0_0)) = kExt1 i (a env) := (rfl)
@[simp] theorem q_extl {i : Nat} {a : M RV} {env : Env} : sExtL i a env = kExt i a env (env[i]?) := by
  unfold sExtL
  cases env[i]? with
  | none => rfl
  | some s =>
    cases s with
    | ow _ =>
      simp only [kExt]
      cases a env with
      | none => rfl
      | some r =>
        obtain ⟨x, e⟩ := r
        simp only [kExt1]
        cases dr e x with
        | none => rfl
        | some d =>
          cases d with
          | list es =>
            simp only [kExt2]
            cases e[i]? with
            | none => rfl
            | some s => cases s <;> rfl
          | _ => rfl
    | _ => rfl
def kExtA3 (i : Nat) (es : List D) (e : Env) : Option Sl → Option Fl
  | some (.ow ds) => if ds.length + es.length ≤ limit then some (.nx (e.set i (.ow (ds ++ es)))) else none
  | _ => none
theorem kExtA3_1 {i : Nat} {es : List D} {e : Env} {ds} : kExtA3 i es e (some (.ow ds)) = if ds.length + es.length ≤ limit then some (.nx (e.set i (.ow (ds ++ es)))) else none := (rfl)
def kExtA2 (i : Nat) (e : Env) : Option D → Option Fl
  | some (.list es) => kExtA3 i es e (e[i]?)
  | some (.tuple es) => kExtA3 i es e (e[i]?)
  | _ => none
@[simp] theorem kExtA2_1 {i : Nat} {e : Env} {es} : kExtA2 i e (some (.list es)) = kExtA3 i es e (e[i]?) := (rfl)
@[simp] theorem kExtA2_2 {i : Nat} {e : Env} {es} : kExtA2 i e (some (.tuple es)) = kExtA3 i es e (e[i]?) := (rfl)
def kExtA1 (i : Nat) : Option (RV × Env) → Option Fl
  | some (x, e) => kExtA2 i e (dr e x)
  | none => none
@[simp] theorem kExtA1_1 {i : Nat} {x} {e} : kExtA1 i (some (x, e)) = kExtA2 i e (dr e x) := (rfl)
def kExtA (i : Nat) (a : M RV) (env : Env) : Option Sl → Option Fl
  | some (.ow _) => kExtA1 i (a env)
  | _ => none
@[simp] theorem kExtA_1 {i : Nat} {a : M RV} {env : Env} {ds} : kExtA i a env (some (.ow ds)) = kExtA1 i (a env) := (rfl)
@[simp] theorem q_ext {i : Nat} {a : M RV} {env : Env} : sExt i a env = kExtA i a env (env[i]?) := by
  unfold sExt
  cases env[i]? with
  | none => rfl
  | some s =>
    cases s with
    | ow _ =>
      simp only [kExtA]
      cases a env with
      | none => rfl
      | some r =>
        obtain ⟨x, e⟩ := r
        simp only [kExtA1]
        cases dr e x with
        | none => rfl
        | some d =>
          cases d with
          | list es =>
            simp only [kExtA2, seqD]
            cases e[i]? with
            | none => rfl
            | some s => cases s <;> rfl
          | tuple es =>
            simp only [kExtA2, seqD]
            cases e[i]? with
            | none => rfl
            | some s => cases s <;> rfl
          | _ => rfl
    | _ => rfl
def kAug1 (i : Nat) (g : Int → Int → Int) (a : Int) : Option (RV × Env) → Option Fl
  | some (.fz (.int b), e) => some (.nx (e.set i (.fz (.int (g a b)))))
  | _ => none
@[simp] theorem kAug1_1 {i : Nat} {g : Int → Int → Int} {a : Int} {b} {e} : kAug1 i g a (some (.fz (.int b), e)) = some (.nx (e.set i (.fz (.int (g a b))))) := (rfl)
def kAug (i : Nat) (g : Int → Int → Int) (a : M RV) (env : Env) : Option Sl → Option Fl
  | some (.fz (.int n)) => kAug1 i g n (a env)
  | _ => none
@[simp] theorem kAug_1 {i : Nat} {g : Int → Int → Int} {a : M RV} {env : Env} {n} : kAug i g a env (some (.fz (.int n))) = kAug1 i g n (a env) := (rfl)
@[simp] theorem q_aug {i : Nat} {g : Int → Int → Int} {a : M RV} {env : Env} : sAug i g a env = kAug i g a env (env[i]?) := by
  unfold sAug
  cases env[i]? with
  | none => rfl
  | some s =>
    cases s with
    | fz d =>
      cases d with
      | int n =>
        simp only [kAug]
        cases a env with
        | none => rfl
        | some r =>
          obtain ⟨x, e⟩ := r
          cases x with
          | fz d => cases d <;> rfl
          | _ => rfl
      | _ => rfl
    | _ => rfl
def kSet5 (i : Nat) (d : D) (e : Env) (ds : List D) : Option Nat → Option Fl
  | some j => some (.nx (e.set i (.ow (ds.set j d))))
  | none => none
@[simp] theorem kSet5_1 {i : Nat} {d : D} {e : Env} {ds : List D} {j} : kSet5 i d e ds (some j) = some (.nx (e.set i (.ow (ds.set j d)))) := (rfl)
@[simp] theorem kSet5_2 {i : Nat} {d : D} {e : Env} {ds : List D} : kSet5 i d e ds (none) = none := (rfl)
def kSet4 (i : Nat) (d : D) (e : Env) (k : Int) : Option Sl → Option Fl
  | some (.ow ds) => kSet5 i d e ds (ixN ds.length k)
  | _ => none
@[simp] theorem kSet4_1 {i : Nat} {d : D} {e : Env} {k : Int} {ds} : kSet4 i d e k (some (.ow ds)) = kSet5 i d e ds (ixN ds.length k) := (rfl)
def kSet3 (i : Nat) (d : D) : Option (RV × Env) → Option Fl
  | some (.fz (.int k), e) => kSet4 i d e k (e[i]?)
  | _ => none
@[simp] theorem kSet3_1 {i : Nat} {d : D} {k} {e} : kSet3 i d (some (.fz (.int k), e)) = kSet4 i d e k (e[i]?) := (rfl)
def kSet2 (i : Nat) (ie : M RV) (d : D) (e : Env) : Option Sl → Option Fl
  | some (.ow _) => kSet3 i d (ie e)
  | _ => none
@[simp] theorem kSet2_1 {i : Nat} {ie : M RV} {d : D} {e : Env} {u0_0} : kSet2 i ie d e (some (.ow u0_0)) = kSet3 i d (ie e) := (rfl)
def kSet1 (i : Nat) (ie : M RV) : Option (D × Env) → Option Fl
  | some (d, e) => kSet2 i ie d e (e[i]?)
  | none => none
@[simp] theorem kSet1_1 {i : Nat} {ie : M RV} {d} {e} : kSet1 i ie (some (d, e)) = kSet2 i ie d e (e[i]?) := (rfl)
@[simp] theorem kSet1_2 {i : Nat} {ie : M RV} : kSet1 i ie (none) = none := (rfl)
def kSet (i : Nat) (ie : M RV) : Option (RV × Env) → Option Fl
  | some (x, e) => kSet1 i ie (fzv e x)
  | none => none
@[simp] theorem kSet_1 {i : Nat} {ie : M RV} {x} {e} : kSet i ie (some (x, e)) = kSet1 i ie (fzv e x) := (rfl)
@[simp] theorem kSet_2 {i : Nat} {ie : M RV} : kSet i ie (none) = none := (rfl)
@[simp] theorem q_set {i : Nat} {ie a : M RV} {env : Env} : sSet i ie a env = kSet i ie (a env) := by
  unfold sSet
  cases a env with
  | none => rfl
  | some r =>
    obtain ⟨x, e⟩ := r
    simp only [kSet]
    cases fzv e x with
    | none => rfl
    | some r =>
      obtain ⟨d, e2⟩ := r
      simp only [kSet1]
      cases e2[i]? with
      | none => rfl
      | some s =>
        cases s with
        | ow _ =>
          simp only [kSet2]
          cases ie e2 with
          | none => rfl
          | some r =>
            obtain ⟨y, e3⟩ := r
            cases y with
            | fz y =>
              cases y with
              | int k =>
                simp only [kSet3]
                cases e3[i]? with
                | none => rfl
                | some s =>
                  cases s with
                  | ow ds =>
                    simp only [kSet4]
                    cases ixN ds.length k <;> rfl
                  | _ => rfl
              | _ => rfl
            | _ => rfl
        | _ => rfl
def kGl (r : GL) (ds : List D) : Option Env → Option Env
  | some e => r ds e
  | none => none
@[simp] theorem kGl_1 {r : GL} {ds : List D} {e} : kGl r ds (some e) = r ds e := (rfl)
@[simp] theorem kGl_2 {r : GL} {ds : List D} : kGl r ds (none) = none := (rfl)
@[simp] theorem q_gl {g : G} {r : GL} {d : D} {ds : List D} {env : Env} : glCons g r (d :: ds) env = kGl r ds (g d env) := by
  show (match g d env with | some e1 => r ds e1 | none => none) = _
  cases g d env <;> rfl
def kUnp3 : Option Env → Option Fl
  | some e => some (.nx e)
  | none => none
@[simp] theorem kUnp3_1 {e} : kUnp3 (some e) = some (.nx e) := (rfl)
@[simp] theorem kUnp3_2  : kUnp3 (none) = none := (rfl)
def kUnp2 (g : G) : Option (D × Env) → Option Fl
  | some (d, e) => kUnp3 (g d e)
  | none => none
@[simp] theorem kUnp2_1 {g : G} {d} {e} : kUnp2 g (some (d, e)) = kUnp3 (g d e) := (rfl)
@[simp] theorem kUnp2_2 {g : G} : kUnp2 g (none) = none := (rfl)
def kUnp (g : G) : Option (RV × Env) → Option Fl
  | some (x, e) => kUnp2 g (fzv e x)
  | none => none
@[simp] theorem kUnp_1 {g : G} {x} {e} : kUnp g (some (x, e)) = kUnp2 g (fzv e x) := (rfl)
@[simp] theorem kUnp_2 {g : G} : kUnp g (none) = none := (rfl)
@[simp] theorem q_unp {g : G} {a : M RV} {env : Env} : sUnp g a env = kUnp g (a env) := by
  unfold sUnp
  cases a env with
  | none => rfl
  | some r =>
    obtain ⟨x, e⟩ := r
    simp only [kUnp]
    cases fzv e x with
    | none => rfl
    | some r =>
      obtain ⟨d, e2⟩ := r
      simp only [kUnp2]
      cases g d e2 <;> rfl
def kPar2 : Option Env → Option Fl
  | some e => some (.nx e)
  | none => none
@[simp] theorem kPar2_1 {e} : kPar2 (some e) = some (.nx e) := (rfl)
def kPar (is : List Nat) : Option (List D × Env) → Option Fl
  | some (ds, e) => kPar2 (setF is ds e)
  | none => none
@[simp] theorem kPar_1 {is : List Nat} {ds} {e} : kPar is (some (ds, e)) = kPar2 (setF is ds e) := (rfl)
@[simp] theorem q_par {is : List Nat} {es : M (List D)} {env : Env} : sPar is es env = kPar is (es env) := by
  unfold sPar
  cases es env with
  | none => rfl
  | some r =>
    obtain ⟨ds, e⟩ := r
    simp only [kPar]
    cases setF is ds e <;> rfl
/-! loops -/
def kFor (er : List Nat) (g : G) (body : SM) : Option (List D × Env) → Option Fl
  | some (ds, e) => runFor g body er ds (ers er e)
  | none => none
@[simp] theorem kFor_1 {er : List Nat} {g : G} {body : SM} {ds} {e} : kFor er g body (some (ds, e)) = runFor g body er ds (ers er e) := (rfl)
@[simp] theorem kFor_2 {er : List Nat} {g : G} {body : SM} : kFor er g body (none) = none := (rfl)
@[simp] theorem q_for {er : List Nat} {g : G} {it : M (List D)} {body : SM} {env : Env} : sFor er g it body env = kFor er g body (it env) := by
  unfold sFor
  cases it env <;> rfl
def kRf2 (g : G) (body : SM) (er : List Nat) (ds : List D) : Option Fl → Option Fl
  | some (.nx e) => runFor g body er ds (ers er e)
  | some (.ct e) => runFor g body er ds (ers er e)
  | some (.bk e) => some (.nx (ers er e))
  | some (.rt r e) => some (.rt r e)
  | none => none
@[simp] theorem kRf2_1 {g : G} {body : SM} {er : List Nat} {ds : List D} {e} : kRf2 g body er ds (some (.nx e)) = runFor g body er ds (ers er e) := (rfl)
@[simp] theorem kRf2_2 {g : G} {body : SM} {er : List Nat} {ds : List D} {e} : kRf2 g body er ds (some (.ct e)) = runFor g body er ds (ers er e) := (rfl)
@[simp] theorem kRf2_3 {g : G} {body : SM} {er : List Nat} {ds : List D} {e} : kRf2 g body er ds (some (.bk e)) = some (.nx (ers er e)) := (rfl)
@[simp] theorem kRf2_4 {g : G} {body : SM} {er : List Nat} {ds : List D} {r} {e} : kRf2 g body er ds (some (.rt r e)) = some (.rt r e) := (rfl)
@[simp] theorem kRf2_5 {g : G} {body : SM} {er : List Nat} {ds : List D} : kRf2 g body er ds (none) = none := (rfl)
def kRf1 (g : G) (body : SM) (er : List Nat) (ds : List D) : Option Env → Option Fl
  | some e => kRf2 g body er ds (body e)
  | none => none
@[simp] theorem kRf1_1 {g : G} {body : SM} {er : List Nat} {ds : List D} {e} : kRf1 g body er ds (some e) = kRf2 g body er ds (body e) := (rfl)
@[simp] theorem kRf1_2 {g : G} {body : SM} {er : List Nat} {ds : List D} : kRf1 g body er ds (none) = none := (rfl)
theorem for_nil {g : G} {body : SM} {er : List Nat} {env : Env} : runFor g body er [] env = some (.nx env) := (rfl)
theorem for_cons {g : G} {body : SM} {er : List Nat} {d : D} {ds : List D} {env : Env} : runFor g body er (d :: ds) env = kRf1 g body er ds (g d env) := by
  unfold runFor
  cases g d env with
  | none => rfl
  | some e =>
    simp only [kRf1]
    cases body e with
    | none => rfl
    | some fl => cases fl <;> rfl
def kRw2 (t : M Bool) (body : SM) (er : List Nat) (n : Nat) : Option Fl → Option Fl
  | some (.nx e) => runWhile t body er n (ers er e)
  | some (.ct e) => runWhile t body er n (ers er e)
  | some (.bk e) => some (.nx (ers er e))
  | some (.rt r e) => some (.rt r e)
  | none => none
@[simp] theorem kRw2_1 {t : M Bool} {body : SM} {er : List Nat} {n : Nat} {e} : kRw2 t body er n (some (.nx e)) = runWhile t body er n (ers er e) := (rfl)
@[simp] theorem kRw2_2 {t : M Bool} {body : SM} {er : List Nat} {n : Nat} {e} : kRw2 t body er n (some (.ct e)) = runWhile t body er n (ers er e) := (rfl)
@[simp] theorem kRw2_3 {t : M Bool} {body : SM} {er : List Nat} {n : Nat} {e} : kRw2 t body er n (some (.bk e)) = some (.nx (ers er e)) := (rfl)
@[simp] theorem kRw2_4 {t : M Bool} {body : SM} {er : List Nat} {n : Nat} {r} {e} : kRw2 t body er n (some (.rt r e)) = some (.rt r e) := (rfl)
@[simp] theorem kRw2_5 {t : M Bool} {body : SM} {er : List Nat} {n : Nat} : kRw2 t body er n (none) = none := (rfl)
def kRw1 (t : M Bool) (body : SM) (er : List Nat) (n : Nat) : Option (Bool × Env) → Option Fl
  | some (c, e) => if c = true then kRw2 t body er n (body e) else some (.nx e)
  | none => none
@[simp] theorem kRw1_1 {t : M Bool} {body : SM} {er : List Nat} {n : Nat} {c} {e} : kRw1 t body er n (some (c, e)) = if c = true then kRw2 t body er n (body e) else some (.nx e) := (rfl)
@[simp] theorem kRw1_2 {t : M Bool} {body : SM} {er : List Nat} {n : Nat} : kRw1 t body er n (none) = none := (rfl)
theorem while_succ {t : M Bool} {body : SM} {er : List Nat} {n : Nat} {env : Env} : runWhile t body er (n + 1) env = kRw1 t body er n (t env) := by
  unfold runWhile
  cases t env with
  | none => rfl
  | some r =>
    obtain ⟨c, e⟩ := r
    cases c with
    | false => rfl
    | true =>
      simp only [kRw1, if_true]
      cases body e with
      | none => rfl
      | some fl => cases fl <;> rfl
@[simp] theorem q_while {n : Nat} {er : List Nat} {t : M Bool} {body : SM} {env : Env} : sWhile n er t body env = runWhile t body er n (ers er env) := (rfl)
def kIt3 : Option (D × Env) → Option (List D × Env)
  | some (.list ds, e) => some (ds, e)
  | some (.tuple ds, e) => some (ds, e)
  | _ => none
@[simp] theorem kIt3_1 {ds} {e} : kIt3 (some (.list ds, e)) = some (ds, e) := (rfl)
@[simp] theorem kIt3_2 {ds} {e} : kIt3 (some (.tuple ds, e)) = some (ds, e) := (rfl)
def kIt2 (e : Env) (x : RV) : Option (List D) → Option (List D × Env)
  | some ds => some (ds, e)
  | none => kIt3 (fzv e x)
@[simp] theorem kIt2_1 {e : Env} {x : RV} {ds} : kIt2 e x (some ds) = some (ds, e) := (rfl)
@[simp] theorem kIt2_2 {e : Env} {x : RV} : kIt2 e x (none) = kIt3 (fzv e x) := (rfl)
def kIt : Option (RV × Env) → Option (List D × Env)
  | some (x, e) => kIt2 e x (bwOf e x)
  | none => none
@[simp] theorem kIt_1 {x} {e} : kIt (some (x, e)) = kIt2 e x (bwOf e x) := (rfl)
@[simp] theorem kIt_2  : kIt (none) = none := (rfl)
@[simp] theorem q_itseq {a : M RV} {env : Env} : itSeq a env = kIt (a env) := by
  unfold itSeq
  cases a env with
  | none => rfl
  | some r =>
    obtain ⟨x, e⟩ := r
    simp only [kIt]
    cases bwOf e x with
    | some ds => rfl
    | none =>
      simp only [kIt2]
      cases fzv e x with
      | none => rfl
      | some r =>
        obtain ⟨d, e2⟩ := r
        cases d <;> rfl
def kR1 : Option (RV × Env) → Option (List D × Env)
  | some (.fz (.int n), e) => if -big ≤ n ∧ n < big then some (rngD 0 n.toNat, e) else none
  | _ => none
theorem kR1_1 {n} {e} : kR1 (some (.fz (.int n), e)) = if -big ≤ n ∧ n < big then some (rngD 0 n.toNat, e) else none := (rfl)
@[simp] theorem q_r1 {a : M RV} {env : Env} : itR1 a env = kR1 (a env) := by
  unfold itR1
  split
  · rename_i h; rw [h]; rfl
  · rename_i h1
    cases q : a env with
    | none => rfl
    | some r =>
      obtain ⟨x, e⟩ := r
      cases x with
      | fz d =>
        cases d with
        | int c => exact absurd q (h1 c e)
        | _ => rfl
      | _ => rfl
def kR2b (m : Int) : Option (RV × Env) → Option (List D × Env)
  | some (.fz (.int n), e) => if (-big ≤ m ∧ m < big) ∧ -big ≤ n ∧ n < big then some (rngD m (n - m).toNat, e) else none
  | _ => none
theorem kR2b_1 {m : Int} {n} {e} : kR2b m (some (.fz (.int n), e)) = if (-big ≤ m ∧ m < big) ∧ -big ≤ n ∧ n < big then some (rngD m (n - m).toNat, e) else none := (rfl)
def kR2 (b : M RV) : Option (RV × Env) → Option (List D × Env)
  | some (.fz (.int m), e) => kR2b m (b e)
  | _ => none
@[simp] theorem kR2_1 {b : M RV} {m} {e} : kR2 b (some (.fz (.int m), e)) = kR2b m (b e) := (rfl)
@[simp] theorem q_r2 {a b : M RV} {env : Env} : itR2 a b env = kR2 b (a env) := by
  unfold itR2
  cases a env with
  | none => rfl
  | some r =>
    obtain ⟨x, e⟩ := r
    cases x with
    | fz d =>
      cases d with
      | int m =>
        simp only [kR2]
        cases b e with
        | none => rfl
        | some r =>
          obtain ⟨y, e2⟩ := r
          cases y with
          | fz d => cases d <;> rfl
          | _ => rfl
      | _ => rfl
    | _ => rfl
def kEn : Option (List D × Env) → Option (List D × Env)
  | some (ds, e) => some (enum 0 ds, e)
  | none => none
@[simp] theorem kEn_1 {ds} {e} : kEn (some (ds, e)) = some (enum 0 ds, e) := (rfl)
@[simp] theorem kEn_2  : kEn (none) = none := (rfl)
@[simp] theorem q_en {it : M (List D)} {env : Env} : itEn it env = kEn (it env) := by
  unfold itEn
  cases it env <;> rfl
def kRv : Option (List D × Env) → Option (List D × Env)
  | some (ds, e) => some (ds.reverse, e)
  | none => none
@[simp] theorem kRv_1 {ds} {e} : kRv (some (ds, e)) = some (ds.reverse, e) := (rfl)
@[simp] theorem q_rv {a : M RV} {env : Env} : itRv a env = kRv (kIt (a env)) := by
  unfold itRv
  rw [q_itseq]
  cases kIt (a env) <;> rfl
def kRgL : Option (List D × Env) → Option (RV × Env)
  | some (ds, e) => if ds.length ≤ limit then some (.tm ds, e) else none
  | none => none
@[simp] theorem kRgL_1 {ds} {e} : kRgL (some (ds, e)) = if ds.length ≤ limit then some (.tm ds, e) else none := (rfl)
@[simp] theorem q_rgl {it : M (List D)} {env : Env} : eRgL it env = kRgL (it env) := by
  unfold eRgL
  cases it env <;> rfl
def kRgT : Option (List D × Env) → Option (RV × Env)
  | some (ds, e) => if ds.length ≤ limit then some (.fz (.tuple ds), e) else none
  | none => none
@[simp] theorem kRgT_1 {ds} {e} : kRgT (some (ds, e)) = if ds.length ≤ limit then some (.fz (.tuple ds), e) else none := (rfl)
@[simp] theorem q_rgt {it : M (List D)} {env : Env} : eRgT it env = kRgT (it env) := by
  unfold eRgT
  cases it env <;> rfl
/-! comprehensions -/
def kLc2 : Option (List D × Env) → Option (RV × Env)
  | some (ys, e) => some (.tm ys, e)
  | none => none
@[simp] theorem kLc2_1 {ys} {e} : kLc2 (some (ys, e)) = some (.tm ys, e) := (rfl)
@[simp] theorem kLc2_2  : kLc2 (none) = none := (rfl)
def kLc (er : List Nat) (g : G) (t : M Bool) (a : M RV) : Option (List D × Env) → Option (RV × Env)
  | some (ds, e) => if ds.length ≤ limit then kLc2 (runLc g t a er ds (ers er e)) else none
  | none => none
@[simp] theorem kLc_1 {er : List Nat} {g : G} {t : M Bool} {a : M RV} {ds} {e} : kLc er g t a (some (ds, e)) = if ds.length ≤ limit then kLc2 (runLc g t a er ds (ers er e)) else none := (rfl)
@[simp] theorem kLc_2 {er : List Nat} {g : G} {t : M Bool} {a : M RV} : kLc er g t a (none) = none := (rfl)
@[simp] theorem q_lc {er : List Nat} {g : G} {it : M (List D)} {t : M Bool} {a : M RV} {env : Env} : eLc er g it t a env = kLc er g t a (it env) := by
  unfold eLc
  cases it env with
  | none => rfl
  | some r =>
    obtain ⟨ds, e⟩ := r
    simp only [kLc]
    by_cases h : ds.length ≤ limit
    · rw [if_pos h, if_pos h]
      cases runLc g t a er ds (ers er e) <;> rfl
    · rw [if_neg h, if_neg h]
def kRl4 (y : D) : Option (List D × Env) → Option (List D × Env)
  | some (ys, e) => some (y :: ys, e)
  | none => none
@[simp] theorem kRl4_1 {y : D} {ys} {e} : kRl4 y (some (ys, e)) = some (y :: ys, e) := (rfl)
@[simp] theorem kRl4_2 {y : D} : kRl4 y (none) = none := (rfl)
def kRl3 (g : G) (t : M Bool) (a : M RV) (er : List Nat) (ds : List D) : Option (D × Env) → Option (List D × Env)
  | some (y, e) => kRl4 y (runLc g t a er ds (ers er e))
  | none => none
@[simp] theorem kRl3_1 {g : G} {t : M Bool} {a : M RV} {er : List Nat} {ds : List D} {y} {e} : kRl3 g t a er ds (some (y, e)) = kRl4 y (runLc g t a er ds (ers er e)) := (rfl)
@[simp] theorem kRl3_2 {g : G} {t : M Bool} {a : M RV} {er : List Nat} {ds : List D} : kRl3 g t a er ds (none) = none := (rfl)
def kRl2 (g : G) (t : M Bool) (a : M RV) (er : List Nat) (ds : List D) : Option (RV × Env) → Option (List D × Env)
  | some (x, e) => kRl3 g t a er ds (fzv e x)
  | none => none
@[simp] theorem kRl2_1 {g : G} {t : M Bool} {a : M RV} {er : List Nat} {ds : List D} {x} {e} : kRl2 g t a er ds (some (x, e)) = kRl3 g t a er ds (fzv e x) := (rfl)
@[simp] theorem kRl2_2 {g : G} {t : M Bool} {a : M RV} {er : List Nat} {ds : List D} : kRl2 g t a er ds (none) = none := (rfl)
def kRl1 (g : G) (t : M Bool) (a : M RV) (er : List Nat) (ds : List D) : Option (Bool × Env) → Option (List D × Env)
  | some (c, e) => if c = true then kRl2 g t a er ds (a e) else runLc g t a er ds (ers er e)
  | none => none
@[simp] theorem kRl1_1 {g : G} {t : M Bool} {a : M RV} {er : List Nat} {ds : List D} {c} {e} : kRl1 g t a er ds (some (c, e)) = if c = true then kRl2 g t a er ds (a e) else runLc g t a er ds (ers er e) := (rfl)
@[simp] theorem kRl1_2 {g : G} {t : M Bool} {a : M RV} {er : List Nat} {ds : List D} : kRl1 g t a er ds (none) = none := (rfl)
def kRl (g : G) (t : M Bool) (a : M RV) (er : List Nat) (ds : List D) : Option Env → Option (List D × Env)
  | some e => kRl1 g t a er ds (t e)
  | none => none
@[simp] theorem kRl_1 {g : G} {t : M Bool} {a : M RV} {er : List Nat} {ds : List D} {e} : kRl g t a er ds (some e) = kRl1 g t a er ds (t e) := (rfl)
@[simp] theorem kRl_2 {g : G} {t : M Bool} {a : M RV} {er : List Nat} {ds : List D} : kRl g t a er ds (none) = none := (rfl)
theorem lc_nil {g : G} {t : M Bool} {a : M RV} {er : List Nat} {env : Env} : runLc g t a er [] env = some ([], env) := (rfl)
theorem lc_cons {g : G} {t : M Bool} {a : M RV} {er : List Nat} {d : D} {ds : List D} {env : Env} : runLc g t a er (d :: ds) env = kRl g t a er ds (g d env) := by
  conv => lhs; unfold runLc
  cases g d env with
  | none => rfl
  | some e =>
    simp only [kRl]
    cases t e with
    | none => rfl
    | some r =>
      obtain ⟨c, e2⟩ := r
      cases c with
      | false => rfl
      | true =>
        simp only [kRl1, if_true]
        cases a e2 with
        | none => rfl
        | some r =>
          obtain ⟨x, e3⟩ := r
          simp only [kRl2]
          cases fzv e3 x with
          | none => rfl
          | some r =>
            obtain ⟨y, e4⟩ := r
            simp only [kRl3]
            cases runLc g t a er ds (ers er e4) <;> rfl
/-! calls -/
def kEa2 (x : It) : Option (List It × Env) → Option (List It × Env)
  | some (l, e) => some (x :: l, e)
  | none => none
@[simp] theorem kEa2_1 {x : It} {l} {e} : kEa2 x (some (l, e)) = some (x :: l, e) := (rfl)
@[simp] theorem kEa2_2 {x : It} : kEa2 x (none) = none := (rfl)
def kEaF2 (r : List Ar) : Option (D × Env) → Option (List It × Env)
  | some (d, e) => kEa2 (.d d) (evA r e)
  | none => none
@[simp] theorem kEaF2_1 {r : List Ar} {d} {e} : kEaF2 r (some (d, e)) = kEa2 (.d d) (evA r e) := (rfl)
@[simp] theorem kEaF2_2 {r : List Ar} : kEaF2 r (none) = none := (rfl)
def kEaF (r : List Ar) : Option (RV × Env) → Option (List It × Env)
  | some (x, e) => kEaF2 r (fzv e x)
  | none => none
@[simp] theorem kEaF_1 {r : List Ar} {x} {e} : kEaF r (some (x, e)) = kEaF2 r (fzv e x) := (rfl)
@[simp] theorem kEaF_2 {r : List Ar} : kEaF r (none) = none := (rfl)
def kEaB (r : List Ar) : Option (RV × Env) → Option (List It × Env)
  | some (.fz d, e) => kEa2 (.d d) (evA r e)
  | some (.tm ds, e) => kEa2 (.d (.list ds)) (evA r e)
  | some (.sl i, e) => kEa2 (.r i) (evA r e)
  | none => none
@[simp] theorem kEaB_1 {r : List Ar} {d} {e} : kEaB r (some (.fz d, e)) = kEa2 (.d d) (evA r e) := (rfl)
@[simp] theorem kEaB_2 {r : List Ar} {ds} {e} : kEaB r (some (.tm ds, e)) = kEa2 (.d (.list ds)) (evA r e) := (rfl)
@[simp] theorem kEaB_3 {r : List Ar} {i} {e} : kEaB r (some (.sl i, e)) = kEa2 (.r i) (evA r e) := (rfl)
@[simp] theorem kEaB_4 {r : List Ar} : kEaB r (none) = none := (rfl)
def kEaM (i : Nat) (r : List Ar) (env : Env) : Option Sl → Option (List It × Env)
  | some (.ow _) => kEa2 (.m i) (evA r env)
  | _ => none
@[simp] theorem kEaM_1 {i : Nat} {r : List Ar} {env : Env} {u0_0} : kEaM i r env (some (.ow u0_0)) = kEa2 (.m i) (evA r env) := (rfl)
def kEaS (i : Nat) (r : List Ar) (env : Env) : Option Sl → Option (List It × Env)
  | some (.sc _) => kEa2 (.s i) (evA r env)
  | _ => none
@[simp] theorem kEaS_1 {i : Nat} {r : List Ar} {env : Env} {u0_0} : kEaS i r env (some (.sc u0_0)) = kEa2 (.s i) (evA r env) := (rfl)
@[simp] theorem q_ea0 {env : Env} : evA [] env = some ([], env) := by unfold evA; rfl
@[simp] theorem q_eaf {a : M RV} {r : List Ar} {env : Env} : evA (.fz a :: r) env = kEaF r (a env) := by
  rw [evA]
  cases a env with
  | none => rfl
  | some q =>
    obtain ⟨x, e⟩ := q
    simp only [kEaF]
    cases fzv e x with
    | none => rfl
    | some q =>
      obtain ⟨d, e2⟩ := q
      simp only [kEaF2]
      cases evA r e2 <;> rfl
@[simp] theorem q_eab {a : M RV} {r : List Ar} {env : Env} : evA (.bw a :: r) env = kEaB r (a env) := by
  rw [evA]
  cases a env with
  | none => rfl
  | some q =>
    obtain ⟨x, e⟩ := q
    cases x with
    | _ =>
      simp only [kEaB]
      cases evA r e <;> rfl
@[simp] theorem q_eam {i : Nat} {r : List Ar} {env : Env} : evA (.mt i :: r) env = kEaM i r env (env[i]?) := by
  rw [evA]
  cases env[i]? with
  | none => rfl
  | some s =>
    cases s with
    | ow _ => simp only [kEaM]; cases evA r env <;> rfl
    | _ => rfl
@[simp] theorem q_eas {i : Nat} {r : List Ar} {env : Env} : evA (.sc i :: r) env = kEaS i r env (env[i]?) := by
  rw [evA]
  cases env[i]? with
  | none => rfl
  | some s =>
    cases s with
    | sc _ => simp only [kEaS]; cases evA r env <;> rfl
    | _ => rfl
def kC3 (l : List It) (e : Env) : Option (Rt × List (List D)) → Option (RV × Env)
  | some (r, ms) => if ms.length = (muts l).length then some (toRV r, setM (muts l) ms e) else none
  | none => none
@[simp] theorem kC3_1 {l : List It} {e : Env} {r} {ms} : kC3 l e (some (r, ms)) = if ms.length = (muts l).length then some (toRV r, setM (muts l) ms e) else none := (rfl)
@[simp] theorem kC3_2 {l : List It} {e : Env} : kC3 l e (none) = none := (rfl)
def kC2 (F : FnS) (l : List It) (e : Env) : Option (List D) → Option (RV × Env)
  | some ds => kC3 l e (F ds)
  | none => none
@[simp] theorem kC2_1 {F : FnS} {l : List It} {e : Env} {ds} : kC2 F l e (some ds) = kC3 l e (F ds) := (rfl)
@[simp] theorem kC2_2 {F : FnS} {l : List It} {e : Env} : kC2 F l e (none) = none := (rfl)
def kC (F : FnS) : Option (List It × Env) → Option (RV × Env)
  | some (l, e) => if okM l = true then kC2 F l e (itDs e l) else none
  | none => none
@[simp] theorem kC_1 {F : FnS} {l} {e} : kC F (some (l, e)) = if okM l = true then kC2 F l e (itDs e l) else none := (rfl)
@[simp] theorem kC_2 {F : FnS} : kC F (none) = none := (rfl)
@[simp] theorem q_call {F : FnS} {as : List Ar} {env : Env} : eCall F as env = kC F (evA as env) := by
  unfold eCall
  cases evA as env with
  | none => rfl
  | some q =>
    obtain ⟨l, e⟩ := q
    simp only [kC]
    by_cases h : okM l = true
    · rw [if_pos h, if_pos h]
      cases itDs e l with
      | none => rfl
      | some ds =>
        simp only [kC2]
        cases F ds with
        | none => rfl
        | some q =>
          obtain ⟨r, ms⟩ := q
          cases r <;> rfl
    · rw [if_neg h, if_neg h]
def kT3 (l : List It) (e : Env) : Option (Rt × List (List D)) → Option (RV × Env)
  | some (r, _ :: ms) => if ms.length = (muts l).length then some (toRV r, setM (muts l) ms e) else none
  | _ => none
@[simp] theorem kT3_1 {l : List It} {e : Env} {r} {m} {ms} : kT3 l e (some (r, m :: ms)) = if ms.length = (muts l).length then some (toRV r, setM (muts l) ms e) else none := (rfl)
def kT2 (F : FnS) (xs : List D) (l : List It) (e : Env) : Option (List D) → Option (RV × Env)
  | some ds => kT3 l e (F (.list xs :: ds))
  | none => none
@[simp] theorem kT2_1 {F : FnS} {xs : List D} {l : List It} {e : Env} {ds} : kT2 F xs l e (some ds) = kT3 l e (F (.list xs :: ds)) := (rfl)
def kT1 (F : FnS) (xs : List D) : Option (List It × Env) → Option (RV × Env)
  | some (l, e) => if okM l = true then kT2 F xs l e (itDs e l) else none
  | none => none
@[simp] theorem kT1_1 {F : FnS} {xs : List D} {l} {e} : kT1 F xs (some (l, e)) = if okM l = true then kT2 F xs l e (itDs e l) else none := (rfl)
def kT (F : FnS) (as : List Ar) : Option (RV × Env) → Option (RV × Env)
  | some (.tm xs, e) => kT1 F xs (evA as e)
  | _ => none
@[simp] theorem kT_1 {F : FnS} {as : List Ar} {xs} {e} : kT F as (some (.tm xs, e)) = kT1 F xs (evA as e) := (rfl)
@[simp] theorem q_callT {F : FnS} {a : M RV} {as : List Ar} {env : Env} : eCallT F a as env = kT F as (a env) := by
  unfold eCallT
  cases a env with
  | none => rfl
  | some q =>
    obtain ⟨x, e⟩ := q
    cases x with
    | tm xs =>
      simp only [kT]
      cases evA as e with
      | none => rfl
      | some q =>
        obtain ⟨l, e1⟩ := q
        simp only [kT1]
        by_cases h : okM l = true
        · rw [if_pos h, if_pos h]
          cases itDs e1 l with
          | none => rfl
          | some ds =>
            simp only [kT2]
            cases F (.list xs :: ds) with
            | none => rfl
            | some q =>
              obtain ⟨r, ms⟩ := q
              cases ms <;> rfl
        · rw [if_neg h, if_neg h]
    | _ => rfl
def kCv2 (e : Env) : Option (Rt × List (List D)) → Option (RV × Env)
  | some (r, []) => some (toRV r, e)
  | _ => none
@[simp] theorem kCv2_1 {e : Env} {r} : kCv2 e (some (r, [])) = some (toRV r, e) := (rfl)
def kCv (F : FnS) : Option (List D × Env) → Option (RV × Env)
  | some (ds, e) => kCv2 e (F [.tuple ds])
  | none => none
@[simp] theorem kCv_1 {F : FnS} {ds} {e} : kCv F (some (ds, e)) = kCv2 e (F [.tuple ds]) := (rfl)
@[simp] theorem q_callV {F : FnS} {as : M (List D)} {env : Env} : eCallV F as env = kCv F (as env) := by
  unfold eCallV
  cases as env with
  | none => rfl
  | some q =>
    obtain ⟨ds, e⟩ := q
    simp only [kCv]
    cases F [.tuple ds] with
    | none => rfl
    | some q =>
      obtain ⟨r, ms⟩ := q
      cases ms <;> rfl
def kFn3 (r : Rt) : Option (List (List D)) → Option (Rt × List (List D))
  | some ms => some (r, ms)
  | none => none
@[simp] theorem kFn3_1 {r : Rt} {ms} : kFn3 r (some ms) = some (r, ms) := (rfl)
@[simp] theorem kFn3_2 {r : Rt} : kFn3 r (none) = none := (rfl)
def kFn2 (ks : List PK) : Option Fl → Option (Rt × List (List D))
  | some (.nx e) => kFn3 (.fz .none) (fin ks e)
  | some (.rt r e) => kFn3 r (fin ks e)
  | _ => none
@[simp] theorem kFn2_1 {ks : List PK} {e} : kFn2 ks (some (.nx e)) = kFn3 (.fz .none) (fin ks e) := (rfl)
@[simp] theorem kFn2_2 {ks : List PK} {r} {e} : kFn2 ks (some (.rt r e)) = kFn3 r (fin ks e) := (rfl)
def kFn (ks : List PK) (n : Nat) (body : SM) : Option Env → Option (Rt × List (List D))
  | some e => kFn2 ks (body (e ++ List.replicate n .no))
  | none => none
@[simp] theorem kFn_1 {ks : List PK} {n : Nat} {body : SM} {e} : kFn ks n body (some e) = kFn2 ks (body (e ++ List.replicate n .no)) := (rfl)
@[simp] theorem kFn_2 {ks : List PK} {n : Nat} {body : SM} : kFn ks n body (none) = none := (rfl)
theorem q_fn {ks : List PK} {n : Nat} {body : SM} {ds : List D} : mkFn ks n body ds = kFn ks n body (ini ks ds) := by
  unfold mkFn
  cases ini ks ds with
  | none => rfl
  | some e =>
    simp only [kFn]
    cases body (e ++ List.replicate n .no) with
    | none => rfl
    | some fl =>
      cases fl with
      | nx e => simp only [kFn2]; cases fin ks e <;> rfl
      | rt r e => simp only [kFn2]; cases fin ks e <;> rfl
      | _ => rfl
def kScI2 (k : Int) (e : Env) (ds : List D) : Option Nat → Option (RV × Env)
  | some j => match ds[j]? with
    | some d => some (.fz d, e)
    | none => none
  | none => none
@[simp] theorem kScI2_1 {k : Int} {e : Env} {ds : List D} {j} : kScI2 k e ds (some j) = match ds[j]? with
      | some d => some (.fz d, e)
      | none => none := (rfl)
@[simp] theorem kScI2_2 {k : Int} {e : Env} {ds : List D} : kScI2 k e ds (none) = none := (rfl)
def kScI1 (k : Int) (e : Env) : Option Sl → Option (RV × Env)
  | some (.sc ds) => kScI2 k e ds (ixN ds.length k)
  | _ => none
theorem kScI1_1 {k : Int} {e : Env} {ds} : kScI1 k e (some (.sc ds)) = kScI2 k e ds (ixN ds.length k) := (rfl)
def kScI0 (i : Nat) : Option (RV × Env) → Option (RV × Env)
  | some (.fz (.int k), e) => kScI1 k e (e[i]?)
  | _ => none
@[simp] theorem kScI0_1 {i : Nat} {k} {e} : kScI0 i (some (.fz (.int k), e)) = kScI1 k e (e[i]?) := (rfl)
def kScI (i : Nat) (a : M RV) (env : Env) : Option Sl → Option (RV × Env)
  | some (.sc _) => kScI0 i (a env)
  | _ => none
@[simp] theorem kScI_1 {i : Nat} {a : M RV} {env : Env} {u0_0} : kScI i a env (some (.sc u0_0)) = kScI0 i (a env) := (rfl)
@[simp] theorem q_scix {i : Nat} {a : M RV} {env : Env} : eScIx i a env = kScI i a env (env[i]?) := by
  unfold eScIx
  cases env[i]? with
  | none => rfl
  | some s =>
    cases s with
    | sc _ =>
      simp only [kScI]
      cases a env with
      | none => rfl
      | some q =>
        obtain ⟨x, e⟩ := q
        cases x with
        | fz d =>
          cases d with
          | int k =>
            simp only [kScI0]
            cases e[i]? with
            | none => rfl
            | some s =>
              cases s with
              | sc ds =>
                simp only [kScI1]
                cases ixN ds.length k with
                | none => rfl
                | some j =>
                  first
                    | rfl
                    | (simp only [kScI2]; done)
                    | (simp only [kScI2]; cases ds[j]? <;> rfl)
              | _ => rfl
          | _ => rfl
        | _ => rfl
    | _ => rfl
def kScS2 (l h : Option Int) (e : Env) : Option Sl → Option (RV × Env)
  | some (.sc ds) => some (.tm (cutD ds l h), e)
  | _ => none
@[simp] theorem kScS2_1 {l : Option Int} {h : Option Int} {e : Env} {ds} : kScS2 l h e (some (.sc ds)) = some (.tm (cutD ds l h), e) := (rfl)
def kScS1 (i : Nat) (l : Option Int) : Option (Option Int × Env) → Option (RV × Env)
  | some (h, e) => kScS2 l h e (e[i]?)
  | none => none
@[simp] theorem kScS1_1 {i : Nat} {l : Option Int} {h} {e} : kScS1 i l (some (h, e)) = kScS2 l h e (e[i]?) := (rfl)
@[simp] theorem kScS1_2 {i : Nat} {l : Option Int} : kScS1 i l (none) = none := (rfl)
def kScS0 (i : Nat) (hi : M (Option Int)) : Option (Option Int × Env) → Option (RV × Env)
  | some (l, e) => kScS1 i l (hi e)
  | none => none
@[simp] theorem kScS0_1 {i : Nat} {hi : M (Option Int)} {l} {e} : kScS0 i hi (some (l, e)) = kScS1 i l (hi e) := (rfl)
@[simp] theorem kScS0_2 {i : Nat} {hi : M (Option Int)} : kScS0 i hi (none) = none := (rfl)
def kScS (i : Nat) (lo hi : M (Option Int)) (env : Env) : Option Sl → Option (RV × Env)
  | some (.sc _) => kScS0 i hi (lo env)
  | _ => none
@[simp] theorem kScS_1 {i : Nat} {lo : M (Option Int)} {hi : M (Option Int)} {env : Env} {u0_0} : kScS i lo hi env (some (.sc u0_0)) = kScS0 i hi (lo env) := (rfl)
@[simp] theorem q_scsl {i : Nat} {lo hi : M (Option Int)} {env : Env} : eScSl i lo hi env = kScS i lo hi env (env[i]?) := by
  unfold eScSl
  cases env[i]? with
  | none => rfl
  | some s =>
    cases s with
    | sc _ =>
      simp only [kScS]
      cases lo env with
      | none => rfl
      | some q =>
        obtain ⟨l, e⟩ := q
        simp only [kScS0]
        cases hi e with
        | none => rfl
        | some q =>
          obtain ⟨h, e2⟩ := q
          simp only [kScS1]
          cases e2[i]? with
          | none => rfl
          | some s => cases s <;> rfl
    | _ => rfl
@[simp] theorem get0 {α : Type} {a : α} {l : List α} : (a :: l)[0]? = some a := (rfl)
/-! numbers, within their bounds -/
@[simp] theorem mulI {i j : Int} (h1 : -115792089237316195423570985008687907853269984665640564039457584007913129639936 < i) (h2 : i < 115792089237316195423570985008687907853269984665640564039457584007913129639936)
    (h3 : -115792089237316195423570985008687907853269984665640564039457584007913129639936 < j) (h4 : j < 115792089237316195423570985008687907853269984665640564039457584007913129639936) : mulD (.int i) (.int j) = some (.fz (.int (i * j))) := by
  rw [mulD_1]
  unfold mB
  rw [if_pos (by omega)]
/-- great numbers -/
@[simp] theorem mulI2 {i j : Int} (h1 : -5260135901548373507240989882880128665550339802823173859498280903068732154297080822113666536277588451226982968856178217713019432250183803863127814770651880849955223671128444598191663757884322717271293251735781376 < i) (h2 : i < 5260135901548373507240989882880128665550339802823173859498280903068732154297080822113666536277588451226982968856178217713019432250183803863127814770651880849955223671128444598191663757884322717271293251735781376) (h3 : -5260135901548373507240989882880128665550339802823173859498280903068732154297080822113666536277588451226982968856178217713019432250183803863127814770651880849955223671128444598191663757884322717271293251735781376 < j) (h4 : j < 5260135901548373507240989882880128665550339802823173859498280903068732154297080822113666536277588451226982968856178217713019432250183803863127814770651880849955223671128444598191663757884322717271293251735781376) : mulD (.int i) (.int j) = some (.fz (.int (i * j))) := by
  rw [mulD_1]
  unfold mB
  rw [if_pos (by omega)]
@[simp] theorem fdivI {i j : Int} (h1 : j ≠ 0) (h2 : -1073741824 < j) (h3 : j < 1073741824) : fdivD (.int i) (.int j) = some (.fz (.int (i.fdiv j))) := by
  rw [fdivD_1, if_pos ⟨h1, h2, h3⟩]
@[simp] theorem modI {i j : Int} (h1 : j ≠ 0) : modD (.int i) (.int j) = some (.fz (.int (i.fmod j))) := by
  rw [modD_1, if_pos h1]
@[simp] theorem powI {i j : Int} (h1 : 0 ≤ j) (h2 : j ≤ 1000000) (h3 : -18446744073709551616 < i) (h4 : i < 18446744073709551616) : powD (.int i) (.int j) = some (.fz (.int (i ^ j.toNat))) := by
  rw [powD_1, if_pos ⟨⟨h1, h2⟩, h3, h4⟩]
@[simp] theorem r1I {n : Int} {e : Env} (h1 : -4611686018427387904 ≤ n) (h2 : n < 4611686018427387904) : kR1 (some (.fz (.int n), e)) = some (rngD 0 n.toNat, e) := by
  rw [kR1_1, if_pos ⟨h1, h2⟩]
@[simp] theorem r2I {m n : Int} {e : Env} (h1 : -4611686018427387904 ≤ n) (h2 : n < 4611686018427387904) (h3 : -4611686018427387904 ≤ m) (h4 : m < 4611686018427387904) : kR2b m (some (.fz (.int n), e)) = some (rngD m (n - m).toNat, e) := by
  rw [kR2b_1, if_pos ⟨⟨h3, h4⟩, h1, h2⟩]
@[simp] theorem absN {i : Int} : absD (.int i) = some (.fz (.int (i.natAbs : Nat))) := by
  rw [absD_1]
  congr 3
  split <;> omega
@[simp] theorem maxM {i j : Int} : maxD (.int i) (.int j) = some (.fz (.int (max i j))) := by
  rw [maxD_1]
  congr 3
  split <;> omega
@[simp] theorem minM {i j : Int} : minD (.int i) (.int j) = some (.fz (.int (min i j))) := by
  rw [minD_1]
  congr 3
  split <;> omega
/-! lists of ints -/
def li (l : List Int) : List D := l.map PyData.int
@[simp] theorem cutD_map {α β : Type} (f : α → β) (xs : List α) (lo hi : Option Int) : cutD (xs.map f) lo hi = (cutD xs lo hi).map f := by
  unfold cutD
  rw [List.length_map, List.map_take, List.map_drop]
@[simp] theorem li_nil : li [] = [] := (rfl)
theorem li_cons (x : Int) (l : List Int) : li (x :: l) = .int x :: li l := (rfl)
@[simp] theorem li_len (l : List Int) : (li l).length = l.length := by simp [li]
@[simp] theorem li_get (l : List Int) (i : Nat) : (li l)[i]? = (l[i]?).map PyData.int := by simp [li]
@[simp] theorem li_cut (l : List Int) (lo hi : Option Int) : cutD (li l) lo hi = li (cutD l lo hi) := by simp [li]
@[simp] theorem li_ints (l : List Int) : asInts (li l) = some l := by simp [li]
@[simp] theorem li_app (a b : List Int) : li a ++ li b = li (a ++ b) := by simp [li]
@[simp] theorem li_one (a : List Int) (x : Int) : li a ++ [.int x] = li (a ++ [x]) := by simp [li]
@[simp] theorem li_set (a : List Int) (i : Nat) (x : Int) : (li a).set i (.int x) = li (a.set i x) := by simp [li]
@[simp] theorem li_last (a : List Int) : (li a).getLast? = a.getLast?.map PyData.int := by simp [li]
@[simp] theorem li_dropLast (a : List Int) : (li a).dropLast = li a.dropLast := by simp [li]
@[simp] theorem li_isEmpty (a : List Int) : (li a).isEmpty = a.isEmpty := by simp [li]
@[simp] theorem li_shp (n : Nat) (a : List Int) : (li a).all (shp n) = true := by simp [li]
@[simp] theorem li_beq (a b : List Int) : beqDs (li a) (li b) = decide (a = b) := beqDs_ints a b
@[simp] theorem li_beqL (a b : List Int) : beqD (.list (li a)) (.list (li b)) = decide (a = b) := by simp [beqD]
@[simp] theorem li_beqT (a b : List Int) : beqD (.tuple (li a)) (.tuple (li b)) = decide (a = b) := by simp [beqD]
theorem li_inj {a b : List Int} (h : li a = li b) : a = b := by
  have := congrArg asInts h
  simpa using this
@[simp] theorem ixN_nn {n : Nat} {i : Int} (h0 : 0 ≤ i) (h1 : i < n) : ixN n i = some i.toNat := by
  unfold ixN
  rw [if_pos h0, if_pos h1]
theorem ixN_ng {n : Nat} {i : Int} (h0 : i < 0) (h1 : -(n : Int) ≤ i) : ixN n i = some (i + n).toNat := by
  unfold ixN
  rw [if_neg (by omega), if_pos h1]
/-- the item at i, 0 outside -/
def gt (l : List Int) (i : Int) : Int := l.getD i.toNat 0
theorem gt_nat (l : List Int) (i : Nat) : gt l i = l.getD i 0 := by simp [gt]
theorem gt_of {l : List Int} {i : Nat} (h : i < l.length) : l[i]? = some (gt l i) := by
  rw [gt_nat, List.getD_eq_getElem?_getD, List.getElem?_eq_getElem h]; rfl
theorem gt_of' {l : List Int} {i : Int} (h0 : 0 ≤ i) (h : i < l.length) : l[i.toNat]? = some (gt l i) := by
  have := gt_of (l := l) (i := i.toNat) (by omega)
  rwa [show ((i.toNat : Nat) : Int) = i by omega] at this
@[simp] theorem ixL {l : List Int} {i : Int} (h0 : 0 ≤ i) (h1 : i < l.length) : ixD (.list (li l)) (.int i) = some (.fz (.int (gt l i))) := by
  simp only [ixD_1, li_len, ixN_nn h0 h1, li_get, gt_of' h0 h1, Option.map_some]
@[simp] theorem ixT {l : List Int} {i : Int} (h0 : 0 ≤ i) (h1 : i < l.length) : ixD (.tuple (li l)) (.int i) = some (.fz (.int (gt l i))) := by
  simp only [ixD_2, li_len, ixN_nn h0 h1, li_get, gt_of' h0 h1, Option.map_some]
theorem ixLn {l : List Int} {i : Int} (h0 : i < 0) (h1 : -(l.length : Int) ≤ i) : ixD (.list (li l)) (.int i) = some (.fz (.int (gt l (i + l.length)))) := by
  have e : i + (l.length : Int) = (((i + l.length).toNat : Nat) : Int) := by omega
  have q := gt_of (l := l) (i := (i + l.length).toNat) (by omega)
  simp only [ixD_1, li_len, ixN_ng h0 h1, li_get, q, Option.map_some]
  rw [← e]
theorem ixTn {l : List Int} {i : Int} (h0 : i < 0) (h1 : -(l.length : Int) ≤ i) : ixD (.tuple (li l)) (.int i) = some (.fz (.int (gt l (i + l.length)))) := by
  have e : i + (l.length : Int) = (((i + l.length).toNat : Nat) : Int) := by omega
  have q := gt_of (l := l) (i := (i + l.length).toNat) (by omega)
  simp only [ixD_2, li_len, ixN_ng h0 h1, li_get, q, Option.map_some]
  rw [← e]
@[simp] theorem ixSc {l : List Int} {i : Int} {e : Env} (h0 : 0 ≤ i) (h1 : i < l.length) : kScI1 i e (some (.sc (li l))) = some (.fz (.int (gt l i)), e) := by
  simp only [kScI1_1, li_len, ixN_nn h0 h1, kScI2_1, li_get, gt_of' h0 h1, Option.map_some]
@[simp] theorem apL {i : Nat} {x : Int} {e : Env} {l : List Int} (h : l.length < 16777216) : kApp3 i (.int x) e (some (.ow (li l))) = some (.nx (e.set i (.ow (li (l ++ [x]))))) := by
  rw [kApp3_1, if_pos (by rw [li_len]; exact h), li_one]
@[simp] theorem apN {i : Nat} {x : Int} {e : Env} : kApp3 i (.int x) e (some (.ow [])) = some (.nx (e.set i (.ow (li [x])))) := (rfl)
@[simp] theorem exL {i : Nat} {e : Env} {l m : List Int} (h : l.length + m.length ≤ 16777216) : kExt3 i (li m) e (some (.ow (li l))) = some (.nx (e.set i (.ow (li (l ++ m))))) := by
  rw [kExt3_1, if_pos (by rw [li_len, li_len]; exact h), li_app]
@[simp] theorem exA {i : Nat} {e : Env} {l m : List Int} (h : l.length + m.length ≤ 16777216) : kExtA3 i (li m) e (some (.ow (li l))) = some (.nx (e.set i (.ow (li (l ++ m))))) := by
  rw [kExtA3_1, if_pos (by rw [li_len, li_len]; exact h), li_app]
@[simp] theorem addL {l m : List Int} (h : l.length + m.length ≤ 16777216) : addD (.list (li l)) (.list (li m)) = some (.ow (li (l ++ m))) := by
  rw [addD_2, if_pos (by rw [li_len, li_len]; exact h), li_app]
@[simp] theorem li_rev (l : List Int) : (li l).reverse = li l.reverse := by simp [li]
theorem li_map {l : List Int} {f : Int → Int} : (l.map fun x => PyData.int (f x)) = li (l.map f) := by simp [li, Function.comp_def]
theorem rep_li (l : List Int) (k : Nat) : (List.replicate k (li l)).flatten = li (List.replicate k l).flatten := by
  induction k with
  | zero => rfl
  | succ k ih => rw [List.replicate_succ, List.replicate_succ, List.flatten_cons, List.flatten_cons, ih, li_app]
@[simp] theorem mulL {l : List Int} {j : Int} (h0 : -4611686018427387904 ≤ j) (h1 : j < 4611686018427387904) (h : l.length * j.toNat ≤ 16777216) : mulD (.list (li l)) (.int j) = some (.ow (li (List.replicate j.toNat l).flatten)) := by
  rw [mulD_2, if_pos ⟨by rw [li_len]; exact h, h0, h1⟩, rep_li]
theorem rep_len (l : List Int) (k : Nat) : (List.replicate k l).flatten.length = k * l.length := by
  induction k with
  | zero => simp
  | succ k ih => rw [List.replicate_succ, List.flatten_cons, List.length_append, ih, Nat.succ_mul]; omega
theorem cut_len {α : Type} (l : List α) (a b : Option Int) : (cutD l a b).length ≤ l.length := by
  unfold cutD
  simp
  omega
theorem cut_le {α : Type} (l : List α) (b : Int) (h : 0 ≤ b) : (cutD l none (some b)).length ≤ b.toNat := by
  unfold cutD sIx
  simp only [if_neg (show ¬ b < 0 by omega)]
  simp
  omega
@[simp] theorem ixC0 {x : D} {l : List D} : ixD (.list (x :: l)) (.int 0) = some (.fz x) := by
  rw [ixD_1, ixN_nn (Int.le_refl 0) (by simp only [List.length_cons]; omega)]
  rfl
@[simp] theorem ixC1 {x y : D} {l : List D} : ixD (.list (x :: y :: l)) (.int 1) = some (.fz y) := by
  rw [ixD_1, ixN_nn (by decide) (by simp only [List.length_cons]; omega)]
  rfl
@[simp] theorem ixC2 {x y z : D} {l : List D} : ixD (.list (x :: y :: z :: l)) (.int 2) = some (.fz z) := by
  rw [ixD_1, ixN_nn (by decide) (by simp only [List.length_cons]; omega)]
  rfl
@[simp] theorem ixU0 {x : D} {l : List D} : ixD (.tuple (x :: l)) (.int 0) = some (.fz x) := by
  rw [ixD_2, ixN_nn (Int.le_refl 0) (by simp only [List.length_cons]; omega)]
  rfl
@[simp] theorem ixU1 {x y : D} {l : List D} : ixD (.tuple (x :: y :: l)) (.int 1) = some (.fz y) := by
  rw [ixD_2, ixN_nn (by decide) (by simp only [List.length_cons]; omega)]
  rfl
@[simp] theorem ixU2 {x y z : D} {l : List D} : ixD (.tuple (x :: y :: z :: l)) (.int 2) = some (.fz z) := by
  rw [ixD_2, ixN_nn (by decide) (by simp only [List.length_cons]; omega)]
  rfl
@[simp] theorem sortL {l : List Int} : sortedD (.list (li l)) = some (.ow (li (srt l))) := by
  simp [sortedD_1, li]
theorem srt_perm (l : List Int) : (srt l).Perm l := List.mergeSort_perm _ _
theorem srt_mem {l : List Int} {x : Int} : x ∈ srt l ↔ x ∈ l := (srt_perm l).mem_iff
theorem srt_len (l : List Int) : (srt l).length = l.length := (srt_perm l).length_eq
theorem srt_le (l : List Int) : (srt l).Pairwise (· ≤ ·) := by
  have := List.pairwise_mergeSort (le := fun a b : Int => decide (a ≤ b)) (fun a b c h1 h2 => by simp at *; omega) (fun a b => by simp; omega) l
  exact this.imp fun h => by simpa using h
@[simp] theorem addT {l m : List Int} (h : l.length + m.length ≤ 16777216) : addD (.tuple (li l)) (.tuple (li m)) = some (.fz (.tuple (li (l ++ m)))) := by
  rw [addD_3, if_pos (by rw [li_len, li_len]; exact h), li_app]
theorem rng_zero (lo : Int) : rngD lo 0 = [] := (rfl)
theorem rng_succ (lo : Int) (n : Nat) : rngD lo (n + 1) = .int lo :: rngD (lo + 1) n := by
  unfold rngD
  rw [List.range_succ_eq_map, List.map_cons, List.map_map]
  congr 1
  · simp
  · apply List.map_congr_left
    intro k _
    simp only [Function.comp]
    congr 1
    omega
@[simp] theorem len_rng (lo : Int) (n : Nat) : (rngD lo n).length = n := by unfold rngD; simp
theorem enum_cons (k : Nat) (d : D) (ds : List D) : enum k (d :: ds) = .tuple [.int k, d] :: enum (k + 1) ds := (rfl)
/-! turns of a loop -/
inductive Tn where
  | go (e : Env) | end (fl : Fl)
def kTn2 (er : List Nat) : Option Fl → Option Tn
  | some (.nx e) => some (.go (ers er e))
  | some (.ct e) => some (.go (ers er e))
  | some (.bk e) => some (.end (.nx (ers er e)))
  | some (.rt r e) => some (.end (.rt r e))
  | none => none
@[simp] theorem kTn2_1 {er : List Nat} {e} : kTn2 er (some (.nx e)) = some (.go (ers er e)) := (rfl)
@[simp] theorem kTn2_2 {er : List Nat} {e} : kTn2 er (some (.ct e)) = some (.go (ers er e)) := (rfl)
@[simp] theorem kTn2_3 {er : List Nat} {e} : kTn2 er (some (.bk e)) = some (.end (.nx (ers er e))) := (rfl)
@[simp] theorem kTn2_4 {er : List Nat} {r} {e} : kTn2 er (some (.rt r e)) = some (.end (.rt r e)) := (rfl)
@[simp] theorem kTn2_5 {er : List Nat} : kTn2 er (none) = none := (rfl)
def kTn1 (body : SM) (er : List Nat) : Option Env → Option Tn
  | some e => kTn2 er (body e)
  | none => none
@[simp] theorem kTn1_1 {body : SM} {er : List Nat} {e} : kTn1 body er (some e) = kTn2 er (body e) := (rfl)
@[simp] theorem kTn1_2 {body : SM} {er : List Nat} : kTn1 body er (none) = none := (rfl)
def turn (g : G) (body : SM) (er : List Nat) (d : D) (env : Env) : Option Tn := kTn1 body er (g d env)
def kTw1 (body : SM) (er : List Nat) : Option (Bool × Env) → Option Tn
  | some (c, e) => if c = true then kTn2 er (body e) else some (.end (.nx e))
  | none => none
@[simp] theorem kTw1_1 {body : SM} {er : List Nat} {c} {e} : kTw1 body er (some (c, e)) = if c = true then kTn2 er (body e) else some (.end (.nx e)) := (rfl)
@[simp] theorem kTw1_2 {body : SM} {er : List Nat} : kTw1 body er (none) = none := (rfl)
def turnW (t : M Bool) (body : SM) (er : List Nat) (env : Env) : Option Tn := kTw1 body er (t env)
theorem for_turn {g : G} {body : SM} {er : List Nat} {d : D} {ds : List D} {env : Env} : runFor g body er (d :: ds) env = match turn g body er d env with
    | some (.go e) => runFor g body er ds e
    | some (.end fl) => some fl
    | none => none := by
  rw [for_cons]
  unfold turn
  cases g d env with
  | none => rfl
  | some e =>
    simp only [kRf1, kTn1]
    cases body e with
    | none => rfl
    | some fl => cases fl <;> rfl
theorem while_turn {t : M Bool} {body : SM} {er : List Nat} {n : Nat} {env : Env} : runWhile t body er (n + 1) env = match turnW t body er env with
    | some (.go e) => runWhile t body er n e
    | some (.end fl) => some fl
    | none => none := by
  rw [while_succ]
  unfold turnW
  cases t env with
  | none => rfl
  | some r =>
    obtain ⟨c, e⟩ := r
    cases c with
    | false => rfl
    | true =>
      simp only [kRw1, kTw1, if_true]
      cases body e with
      | none => rfl
      | some fl => cases fl <;> rfl
theorem for_go {g : G} {body : SM} {er : List Nat} {d : D} {ds : List D} {env e : Env} (h : turn g body er d env = some (.go e)) : runFor g body er (d :: ds) env = runFor g body er ds e := by
  rw [for_turn, h]
theorem for_end {g : G} {body : SM} {er : List Nat} {d : D} {ds : List D} {env : Env} {fl : Fl} (h : turn g body er d env = some (.end fl)) : runFor g body er (d :: ds) env = some fl := by
  rw [for_turn, h]
theorem while_go {t : M Bool} {body : SM} {er : List Nat} {n : Nat} {env e : Env} (h : turnW t body er env = some (.go e)) : runWhile t body er (n + 1) env = runWhile t body er n e := by
  rw [while_turn, h]
theorem while_end {t : M Bool} {body : SM} {er : List Nat} {n : Nat} {env : Env} {fl : Fl} (h : turnW t body er env = some (.end fl)) : runWhile t body er (n + 1) env = some fl := by
  rw [while_turn, h]
/-- a loop over a range keeps a property, which may hang on the number -/
theorem for_rng {g : G} {body : SM} {er : List Nat} (I : Int → Env → Prop) : ∀ (n : Nat) (lo : Int) (env : Env), I lo env →
    (∀ k env, lo ≤ k → k < lo + n → I k env → ∃ e, turn g body er (.int k) env = some (.go e) ∧ I (k + 1) e) →
    ∃ e, runFor g body er (rngD lo n) env = some (.nx e) ∧ I (lo + n) e
  | 0, lo, env, h, _ => ⟨env, rfl, by simpa using h⟩
  | n + 1, lo, env, h, st => by
    obtain ⟨e1, h1, h3⟩ := st lo env (Int.le_refl _) (by omega) h
    obtain ⟨e, h4, h5⟩ := for_rng I n (lo + 1) _ h3 fun k env a b => st k env (by omega) (by omega)
    refine ⟨e, ?_, by rw [show lo + ((n + 1 : Nat) : Int) = lo + 1 + (n : Int) by omega]; exact h5⟩
    rw [rng_succ, for_go h1, h4]
/-- a loop over ints keeps a property, which may hang on the ints done -/
theorem for_li {g : G} {body : SM} {er : List Nat} (I : List Int → Env → Prop) : ∀ (l done : List Int) (env : Env), I done env →
    (∀ pre x post env, done ++ l = pre ++ x :: post → I pre env → ∃ e, turn g body er (.int x) env = some (.go e) ∧ I (pre ++ [x]) e) →
    ∃ e, runFor g body er (li l) env = some (.nx e) ∧ I (done ++ l) e
  | [], done, env, h, _ => ⟨env, rfl, by simpa using h⟩
  | x :: l, done, env, h, st => by
    obtain ⟨e1, h1, h3⟩ := st done x l env rfl h
    obtain ⟨e, h4, h5⟩ := for_li I l (done ++ [x]) _ h3 fun pre y post env a => st pre y post env (by rw [← a]; simp)
    refine ⟨e, ?_, by simpa using h5⟩
    rw [li_cons, for_go h1, h4]
/-- any loop: the property hangs on the number of the turn; a turn may end the loop -/
theorem for_any {g : G} {body : SM} {er : List Nat} (I : Nat → Env → Prop) (R : Fl → Prop) : ∀ (ds : List D) (n : Nat) (env : Env), I n env →
    (∀ i d env, ds[i]? = some d → I (n + i) env → (∃ e, turn g body er d env = some (.go e) ∧ I (n + i + 1) e) ∨ ∃ fl, turn g body er d env = some (.end fl) ∧ R fl) →
    (∃ e, runFor g body er ds env = some (.nx e) ∧ I (n + ds.length) e) ∨ ∃ fl, runFor g body er ds env = some fl ∧ R fl
  | [], n, env, h, _ => .inl ⟨env, rfl, by simpa using h⟩
  | d :: ds, n, env, h, st => by
    rcases st 0 d env rfl (by simpa using h) with ⟨e1, h1, h3⟩ | ⟨fl, h1, h3⟩
    · rcases for_any I R ds (n + 1) e1 (by simpa using h3) fun i d env a b => by
          have := st (i + 1) d env (by simpa using a) (by rw [show n + (i + 1) = n + 1 + i by omega]; exact b)
          rw [show n + (i + 1) = n + 1 + i by omega] at this
          exact this with ⟨e, h4, h5⟩ | ⟨fl, h4, h5⟩
      · exact .inl ⟨e, by rw [for_go h1, h4], by rw [List.length_cons, show n + (ds.length + 1) = n + 1 + ds.length by omega]; exact h5⟩
      · exact .inr ⟨fl, by rw [for_go h1, h4], h5⟩
    · exact .inr ⟨fl, for_end h1, h3⟩
theorem rng_get {lo : Int} {n i : Nat} {d : D} (h : (rngD lo n)[i]? = some d) : i < n ∧ d = .int (lo + (i : Nat)) := by
  unfold rngD at h
  rw [List.getElem?_map] at h
  rcases Nat.lt_or_ge i n with hi | hi
  · rw [List.getElem?_range hi] at h
    cases h
    exact ⟨hi, rfl⟩
  · rw [List.getElem?_eq_none (by rw [List.length_range]; exact hi)] at h
    cases h
theorem for_rngR {g : G} {body : SM} {er : List Nat} (I : Int → Env → Prop) (R : Fl → Prop) (n : Nat) (lo : Int) (env : Env) (h : I lo env)
    (st : ∀ k env, lo ≤ k → k < lo + n → I k env → (∃ e, turn g body er (.int k) env = some (.go e) ∧ I (k + 1) e) ∨ ∃ fl, turn g body er (.int k) env = some (.end fl) ∧ R fl) :
    (∃ e, runFor g body er (rngD lo n) env = some (.nx e) ∧ I (lo + n) e) ∨ ∃ fl, runFor g body er (rngD lo n) env = some fl ∧ R fl := by
  have := for_any (g := g) (body := body) (er := er) (fun i e => I (lo + i) e) R (rngD lo n) 0 env (by simpa using h) fun i d env a b => by
    obtain ⟨hi, rfl⟩ := rng_get a
    have q := st (lo + i) env (by omega) (by omega) (by simpa using b)
    rw [show lo + (i : Int) + 1 = lo + ((0 + i + 1 : Nat) : Int) by omega] at q
    exact q
  simpa using this
theorem enum_len (k : Nat) (ds : List D) : (enum k ds).length = ds.length := by
  induction ds generalizing k with
  | nil => rfl
  | cons d ds ih => simp [enum, ih]
theorem enum_get {k : Nat} {ds : List D} {i : Nat} {d : D} (h : (enum k ds)[i]? = some d) : ∃ e, ds[i]? = some e ∧ d = .tuple [.int ((k + i : Nat) : Int), e] := by
  induction ds generalizing k i with
  | nil => simp [enum] at h
  | cons a ds ih =>
    cases i with
    | zero => simp [enum] at h; exact ⟨a, rfl, h.symm⟩
    | succ i =>
      simp only [enum, List.getElem?_cons_succ] at h
      obtain ⟨e, h1, h2⟩ := ih h
      exact ⟨e, by simpa using h1, by rw [h2, show k + 1 + i = k + (i + 1) by omega]⟩
/-- enumerate over ints -/
theorem for_enR {g : G} {body : SM} {er : List Nat} (I : Int → Env → Prop) (R : Fl → Prop) (l : List Int) (env : Env) (h : I 0 env)
    (st : ∀ (k : Int) env, 0 ≤ k → k < l.length → I k env → (∃ e, turn g body er (.tuple [.int k, .int (gt l k)]) env = some (.go e) ∧ I (k + 1) e) ∨ ∃ fl, turn g body er (.tuple [.int k, .int (gt l k)]) env = some (.end fl) ∧ R fl) :
    (∃ e, runFor g body er (enum 0 (li l)) env = some (.nx e) ∧ I l.length e) ∨ ∃ fl, runFor g body er (enum 0 (li l)) env = some fl ∧ R fl := by
  have := for_any (g := g) (body := body) (er := er) (fun i e => I i e) R (enum 0 (li l)) 0 env (by simpa using h) fun i d env a b => by
    obtain ⟨e, h1, rfl⟩ := enum_get a
    rw [li_get] at h1
    have hi : i < l.length := by
      rcases Nat.lt_or_ge i l.length with z | z
      · exact z
      · rw [List.getElem?_eq_none z] at h1; cases h1
    rw [gt_of hi] at h1
    cases h1
    have q := st i env (by omega) (by omega) (by simpa using b)
    simp only [Nat.zero_add]
    rw [show ((i : Nat) : Int) + 1 = ((i + 1 : Nat) : Int) by omega] at q
    exact q
  rw [enum_len, li_len] at this
  simpa using this
/-- over ints, by places -/
theorem for_liR {g : G} {body : SM} {er : List Nat} (I : Int → Env → Prop) (R : Fl → Prop) (l : List Int) (env : Env) (h : I 0 env)
    (st : ∀ (k : Int) env, 0 ≤ k → k < l.length → I k env → (∃ e, turn g body er (.int (gt l k)) env = some (.go e) ∧ I (k + 1) e) ∨ ∃ fl, turn g body er (.int (gt l k)) env = some (.end fl) ∧ R fl) :
    (∃ e, runFor g body er (li l) env = some (.nx e) ∧ I l.length e) ∨ ∃ fl, runFor g body er (li l) env = some fl ∧ R fl := by
  have := for_any (g := g) (body := body) (er := er) (fun i e => I i e) R (li l) 0 env (by simpa using h) fun i d env a b => by
    rw [li_get] at a
    have hi : i < l.length := by
      rcases Nat.lt_or_ge i l.length with z | z
      · exact z
      · rw [List.getElem?_eq_none z] at a; cases a
    rw [gt_of hi] at a
    cases a
    have q := st i env (by omega) (by omega) (by simpa using b)
    simp only [Nat.zero_add]
    rw [show ((i : Nat) : Int) + 1 = ((i + 1 : Nat) : Int) by omega] at q
    exact q
  rw [li_len] at this
  simpa using this
/-! comprehensions -/
def kTl4 (er : List Nat) : Option (D × Env) → Option (Option D × Env)
  | some (y, e) => some (some y, ers er e)
  | none => none
@[simp] theorem kTl4_1 {er : List Nat} {y} {e} : kTl4 er (some (y, e)) = some (some y, ers er e) := (rfl)
@[simp] theorem kTl4_2 {er : List Nat} : kTl4 er (none) = none := (rfl)
def kTl3 (er : List Nat) : Option (RV × Env) → Option (Option D × Env)
  | some (x, e) => kTl4 er (fzv e x)
  | none => none
@[simp] theorem kTl3_1 {er : List Nat} {x} {e} : kTl3 er (some (x, e)) = kTl4 er (fzv e x) := (rfl)
@[simp] theorem kTl3_2 {er : List Nat} : kTl3 er (none) = none := (rfl)
def kTl2 (a : M RV) (er : List Nat) : Option (Bool × Env) → Option (Option D × Env)
  | some (c, e) => if c = true then kTl3 er (a e) else some (none, ers er e)
  | none => none
@[simp] theorem kTl2_1 {a : M RV} {er : List Nat} {c} {e} : kTl2 a er (some (c, e)) = if c = true then kTl3 er (a e) else some (none, ers er e) := (rfl)
@[simp] theorem kTl2_2 {a : M RV} {er : List Nat} : kTl2 a er (none) = none := (rfl)
def kTl1 (t : M Bool) (a : M RV) (er : List Nat) : Option Env → Option (Option D × Env)
  | some e => kTl2 a er (t e)
  | none => none
@[simp] theorem kTl1_1 {t : M Bool} {a : M RV} {er : List Nat} {e} : kTl1 t a er (some e) = kTl2 a er (t e) := (rfl)
@[simp] theorem kTl1_2 {t : M Bool} {a : M RV} {er : List Nat} : kTl1 t a er (none) = none := (rfl)
def turnL (g : G) (t : M Bool) (a : M RV) (er : List Nat) (d : D) (env : Env) : Option (Option D × Env) := kTl1 t a er (g d env)
theorem lc_turn {g : G} {t : M Bool} {a : M RV} {er : List Nat} {d : D} {ds : List D} {env : Env} : runLc g t a er (d :: ds) env = match turnL g t a er d env with
    | some (some y, e) => kRl4 y (runLc g t a er ds e)
    | some (none, e) => runLc g t a er ds e
    | none => none := by
  rw [lc_cons]
  unfold turnL
  cases g d env with
  | none => rfl
  | some e =>
    simp only [kRl, kTl1]
    cases t e with
    | none => rfl
    | some r =>
      obtain ⟨c, e2⟩ := r
      cases c with
      | false => rfl
      | true =>
        simp only [kRl1, kTl2, if_true]
        cases a e2 with
        | none => rfl
        | some r =>
          obtain ⟨x, e3⟩ := r
          simp only [kRl2, kTl3]
          cases fzv e3 x with
          | none => rfl
          | some r => rfl
/-- a comprehension whose turns leave the slots as they were -/
theorem lc_map {g : G} {t : M Bool} {a : M RV} {er : List Nat} {env : Env} {f : D → D} : ∀ {ds : List D}, (∀ d ∈ ds, turnL g t a er d env = some (some (f d), env)) → runLc g t a er ds env = some (ds.map f, env)
  | [], _ => rfl
  | d :: ds, h => by
    rw [lc_turn, h d List.mem_cons_self]
    show kRl4 (f d) (runLc g t a er ds env) = _
    rw [lc_map fun x hx => h x (List.mem_cons_of_mem _ hx)]
    rfl
theorem lc_li {g : G} {t : M Bool} {a : M RV} {er : List Nat} {env : Env} {f : Int → D} {l : List Int} (h : ∀ x ∈ l, turnL g t a er (.int x) env = some (some (f x), env)) : runLc g t a er (li l) env = some (l.map f, env) := by
  have := lc_map (g := g) (t := t) (a := a) (er := er) (env := env) (f := fun d => match d with | .int x => f x | _ => .none) (ds := li l) fun d hd => by
    obtain ⟨x, hx, rfl⟩ := List.mem_map.mp hd
    exact h x hx
  rw [this]
  unfold li
  rw [List.map_map]
  rfl
theorem lc_rng {g : G} {t : M Bool} {a : M RV} {er : List Nat} {env : Env} {f : Int → D} : ∀ (n : Nat) (lo : Int), (∀ k, lo ≤ k → k < lo + n → turnL g t a er (.int k) env = some (some (f k), env)) → runLc g t a er (rngD lo n) env = some ((List.range n).map fun (i : Nat) => f (lo + i), env)
  | 0, lo, _ => rfl
  | n + 1, lo, h => by
    rw [show rngD lo (n + 1) = .int lo :: rngD (lo + 1) n by
      unfold rngD
      rw [List.range_succ_eq_map, List.map_cons, List.map_map]
      congr 1
      · simp
      · apply List.map_congr_left
        intro k _
        simp only [Function.comp]
        congr 1
        omega]
    rw [lc_turn, h lo (Int.le_refl _) (by omega)]
    show kRl4 (f lo) (runLc g t a er (rngD (lo + 1) n) env) = _
    rw [lc_rng n (lo + 1) fun k h0 h1 => h k (by omega) (by omega)]
    rw [List.range_succ_eq_map, List.map_cons, List.map_map]
    show some (f lo :: _, env) = some (f (lo + (0 : Nat)) :: _, env)
    congr 2
    congr 1
    · simp
    · apply List.map_congr_left
      intro k _
      simp only [Function.comp]
      congr 1
      omega
@[simp] theorem asBools_map {α : Type} (f : α → Bool) (l : List α) : asBools (l.map fun x => .bool (f x)) = some (l.map f) := by
  induction l with
  | nil => rfl
  | cons a l ih => simp [asBools, ih]
@[simp] theorem asInts_map {α : Type} (f : α → Int) (l : List α) : asInts (l.map fun x => .int (f x)) = some (l.map f) := by
  induction l with
  | nil => rfl
  | cons a l ih => simp [asInts, ih]
def kU4 (er : List Nat) : Option (List D × Env) → Option (List D × Env)
  | some (ys, e) => some (ys, ers er e)
  | none => none
@[simp] theorem kU4_1 {er : List Nat} {ys} {e} : kU4 er (some (ys, e)) = some (ys, ers er e) := (rfl)
@[simp] theorem kU4_2 {er : List Nat} : kU4 er (none) = none := (rfl)
def kU3 (g1 : G) (t1 : M Bool) (a : M RV) (er er1 : List Nat) : Option (List D × Env) → Option (List D × Env)
  | some (xs, e) => kU4 er (runLc g1 t1 a er1 xs (ers er1 e))
  | none => none
@[simp] theorem kU3_1 {g1 : G} {t1 : M Bool} {a : M RV} {er : List Nat} {er1 : List Nat} {xs} {e} : kU3 g1 t1 a er er1 (some (xs, e)) = kU4 er (runLc g1 t1 a er1 xs (ers er1 e)) := (rfl)
@[simp] theorem kU3_2 {g1 : G} {t1 : M Bool} {a : M RV} {er : List Nat} {er1 : List Nat} : kU3 g1 t1 a er er1 (none) = none := (rfl)
def kU2 (it1 : M (List D)) (g1 : G) (t1 : M Bool) (a : M RV) (er er1 : List Nat) : Option (Bool × Env) → Option (List D × Env)
  | some (c, e) => if c = true then kU3 g1 t1 a er er1 (it1 e) else some ([], ers er e)
  | none => none
@[simp] theorem kU2_1 {it1 : M (List D)} {g1 : G} {t1 : M Bool} {a : M RV} {er : List Nat} {er1 : List Nat} {c} {e} : kU2 it1 g1 t1 a er er1 (some (c, e)) = if c = true then kU3 g1 t1 a er er1 (it1 e) else some ([], ers er e) := (rfl)
@[simp] theorem kU2_2 {it1 : M (List D)} {g1 : G} {t1 : M Bool} {a : M RV} {er : List Nat} {er1 : List Nat} : kU2 it1 g1 t1 a er er1 (none) = none := (rfl)
def kU1 (t : M Bool) (it1 : M (List D)) (g1 : G) (t1 : M Bool) (a : M RV) (er er1 : List Nat) : Option Env → Option (List D × Env)
  | some e => kU2 it1 g1 t1 a er er1 (t e)
  | none => none
@[simp] theorem kU1_1 {t : M Bool} {it1 : M (List D)} {g1 : G} {t1 : M Bool} {a : M RV} {er : List Nat} {er1 : List Nat} {e} : kU1 t it1 g1 t1 a er er1 (some e) = kU2 it1 g1 t1 a er er1 (t e) := (rfl)
@[simp] theorem kU1_2 {t : M Bool} {it1 : M (List D)} {g1 : G} {t1 : M Bool} {a : M RV} {er : List Nat} {er1 : List Nat} : kU1 t it1 g1 t1 a er er1 (none) = none := (rfl)
/-- one turn of the outer for -/
def turn2 (g : G) (t : M Bool) (it1 : M (List D)) (g1 : G) (t1 : M Bool) (a : M RV) (er er1 : List Nat) (d : D) (env : Env) : Option (List D × Env) := kU1 t it1 g1 t1 a er er1 (g d env)
def kUa (ys : List D) : Option (List D × Env) → Option (List D × Env)
  | some (zs, e) => some (ys ++ zs, e)
  | none => none
@[simp] theorem kUa_1 {ys : List D} {zs} {e} : kUa ys (some (zs, e)) = some (ys ++ zs, e) := (rfl)
@[simp] theorem kUa_2 {ys : List D} : kUa ys (none) = none := (rfl)
theorem lc2_turn {g : G} {t : M Bool} {it1 : M (List D)} {g1 : G} {t1 : M Bool} {a : M RV} {er er1 : List Nat} {d : D} {ds : List D} {env : Env} : runLc2 g t it1 g1 t1 a er er1 (d :: ds) env = match turn2 g t it1 g1 t1 a er er1 d env with
    | some (ys, e) => kUa ys (runLc2 g t it1 g1 t1 a er er1 ds e)
    | none => none := by
  conv => lhs; unfold runLc2
  unfold turn2
  cases g d env with
  | none => rfl
  | some e =>
    simp only [kU1]
    cases t e with
    | none => rfl
    | some r =>
      obtain ⟨c, e2⟩ := r
      cases c with
      | false =>
        simp only [kU2, Bool.false_eq_true, if_false]
        cases runLc2 g t it1 g1 t1 a er er1 ds (ers er e2) with
        | none => rfl
        | some r => rfl
      | true =>
        simp only [kU2, if_true]
        cases it1 e2 with
        | none => rfl
        | some r =>
          obtain ⟨xs, e3⟩ := r
          simp only [kU3]
          cases runLc g1 t1 a er1 xs (ers er1 e3) with
          | none => rfl
          | some r =>
            obtain ⟨ys, e4⟩ := r
            simp only [kU4]
            cases runLc2 g t it1 g1 t1 a er er1 ds (ers er e4) with
            | none => rfl
            | some r => rfl
theorem lc2_flat {g : G} {t : M Bool} {it1 : M (List D)} {g1 : G} {t1 : M Bool} {a : M RV} {er er1 : List Nat} {env : Env} {f : D → List D} : ∀ {ds : List D}, (∀ d ∈ ds, turn2 g t it1 g1 t1 a er er1 d env = some (f d, env)) → runLc2 g t it1 g1 t1 a er er1 ds env = some ((ds.map f).flatten, env)
  | [], _ => by unfold runLc2; rfl
  | d :: ds, h => by
    rw [lc2_turn, h d List.mem_cons_self]
    show kUa (f d) (runLc2 g t it1 g1 t1 a er er1 ds env) = _
    rw [lc2_flat fun x hx => h x (List.mem_cons_of_mem _ hx)]
    rfl
def kLcE : Option (List D × Env) → Option (RV × Env)
  | some (ys, e) => if ys.length ≤ limit then some (.tm ys, e) else none
  | none => none
@[simp] theorem kLcE_1 {ys} {e} : kLcE (some (ys, e)) = if ys.length ≤ limit then some (.tm ys, e) else none := (rfl)
@[simp] theorem kLcE_2  : kLcE (none) = none := (rfl)
def kLcD (er er1 : List Nat) (g : G) (t : M Bool) (g1 : G) (it1 : M (List D)) (t1 : M Bool) (a : M RV) : Option (List D × Env) → Option (RV × Env)
  | some (ds, e) => kLcE (runLc2 g t it1 g1 t1 a er er1 ds (ers er e))
  | none => none
@[simp] theorem kLcD_1 {er : List Nat} {er1 : List Nat} {g : G} {t : M Bool} {g1 : G} {it1 : M (List D)} {t1 : M Bool} {a : M RV} {ds} {e} : kLcD er er1 g t g1 it1 t1 a (some (ds, e)) = kLcE (runLc2 g t it1 g1 t1 a er er1 ds (ers er e)) := (rfl)
@[simp] theorem kLcD_2 {er : List Nat} {er1 : List Nat} {g : G} {t : M Bool} {g1 : G} {it1 : M (List D)} {t1 : M Bool} {a : M RV} : kLcD er er1 g t g1 it1 t1 a (none) = none := (rfl)
@[simp] theorem q_lc2 {er er1 : List Nat} {g : G} {it : M (List D)} {t : M Bool} {g1 : G} {it1 : M (List D)} {t1 : M Bool} {a : M RV} {env : Env} : eLc2 er er1 g it t g1 it1 t1 a env = kLcD er er1 g t g1 it1 t1 a (it env) := by
  unfold eLc2
  cases it env with
  | none => rfl
  | some r =>
    obtain ⟨ds, e⟩ := r
    simp only [kLcD]
    cases runLc2 g t it1 g1 t1 a er er1 ds (ers er e) <;> rfl
/-! cuts -/
theorem cut_nn {α : Type} (l : List α) {a b : Int} (h0 : 0 ≤ a) (h1 : a ≤ b) (h2 : b ≤ l.length) : cutD l (some a) (some b) = (l.drop a.toNat).take (b - a).toNat := by
  unfold cutD sIx
  simp only [if_neg (show ¬ a < 0 by omega), if_neg (show ¬ b < 0 by omega)]
  rw [Nat.min_eq_left (by omega), Nat.min_eq_left (by omega)]
  congr 1
  omega
theorem cut_to {α : Type} (l : List α) {b : Int} (h1 : 0 ≤ b) (h2 : b ≤ l.length) : cutD l none (some b) = l.take b.toNat := by
  unfold cutD sIx
  simp only [if_neg (show ¬ b < 0 by omega)]
  rw [Nat.min_eq_left (by omega)]
  simp
theorem cut_from {α : Type} (l : List α) {a : Int} (h1 : 0 ≤ a) (h2 : a ≤ l.length) : cutD l (some a) none = l.drop a.toNat := by
  unfold cutD sIx
  simp only [if_neg (show ¬ a < 0 by omega)]
  rw [Nat.min_eq_left (by omega), List.take_of_length_le (by simp)]
theorem mem_gt {l : List Int} {x : Int} : x ∈ l ↔ ∃ k : Int, 0 ≤ k ∧ k < l.length ∧ gt l k = x := by
  constructor
  · intro h
    obtain ⟨i, hi, e⟩ := List.mem_iff_getElem.mp h
    refine ⟨i, by omega, by omega, ?_⟩
    have := gt_of hi
    rw [List.getElem?_eq_getElem hi] at this
    rw [← e]
    exact (Option.some.inj this).symm
  · rintro ⟨k, h0, h1, e⟩
    have := gt_of' h0 h1
    rw [← e]
    exact List.mem_of_getElem? this
theorem gt_cut {l : List Int} {a b k : Int} (h0 : 0 ≤ a) (h1 : a ≤ b) (h2 : b ≤ l.length) (hk : 0 ≤ k) (hk2 : k < b - a) : gt ((l.drop a.toNat).take (b - a).toNat) k = gt l (a + k) := by
  unfold gt
  rw [List.getD_eq_getElem?_getD, List.getD_eq_getElem?_getD, List.getElem?_take_of_lt (by omega), List.getElem?_drop]
  congr 3
  omega
theorem mem_cut {l : List Int} {a b x : Int} (h0 : 0 ≤ a) (h1 : a ≤ b) (h2 : b ≤ l.length) : x ∈ (l.drop a.toNat).take (b - a).toNat ↔ ∃ k : Int, a ≤ k ∧ k < b ∧ gt l k = x := by
  rw [mem_gt]
  have hl : ((l.drop a.toNat).take (b - a).toNat).length = (b - a).toNat := by simp; omega
  rw [hl]
  constructor
  · rintro ⟨k, k0, k1, e⟩
    rw [gt_cut h0 h1 h2 k0 (by omega)] at e
    exact ⟨a + k, by omega, by omega, e⟩
  · rintro ⟨k, k0, k1, e⟩
    refine ⟨k - a, by omega, by omega, ?_⟩
    rw [gt_cut h0 h1 h2 (by omega) (by omega), show a + (k - a) = k by omega]
    exact e
/-! a pair stored at two places -/
def kS14 (i : Nat) (d : D) (e : Env) (ds : List D) : Option Nat → Option Env
  | some j => some (e.set i (.ow (ds.set j d)))
  | none => none
@[simp] theorem kS14_1 {i : Nat} {d : D} {e : Env} {ds : List D} {j} : kS14 i d e ds (some j) = some (e.set i (.ow (ds.set j d))) := (rfl)
@[simp] theorem kS14_2 {i : Nat} {d : D} {e : Env} {ds : List D} : kS14 i d e ds (none) = none := (rfl)
def kS13 (i : Nat) (d : D) (k : Int) (e : Env) : Option Sl → Option Env
  | some (.ow ds) => kS14 i d e ds (ixN ds.length k)
  | _ => none
@[simp] theorem kS13_1 {i : Nat} {d : D} {k : Int} {e : Env} {ds} : kS13 i d k e (some (.ow ds)) = kS14 i d e ds (ixN ds.length k) := (rfl)
def kS12 (i : Nat) (d : D) : Option (RV × Env) → Option Env
  | some (.fz (.int k), e) => kS13 i d k e (e[i]?)
  | _ => none
@[simp] theorem kS12_1 {i : Nat} {d : D} {k} {e} : kS12 i d (some (.fz (.int k), e)) = kS13 i d k e (e[i]?) := (rfl)
def kS11 (i : Nat) (ie : M RV) (d : D) (e : Env) : Option Sl → Option Env
  | some (.ow _) => kS12 i d (ie e)
  | _ => none
@[simp] theorem kS11_1 {i : Nat} {ie : M RV} {d : D} {e : Env} {u0_0} : kS11 i ie d e (some (.ow u0_0)) = kS12 i d (ie e) := (rfl)
@[simp] theorem q_st1 {i : Nat} {ie : M RV} {d : D} {env : Env} : st1 i ie d env = kS11 i ie d env (env[i]?) := by
  unfold st1
  cases env[i]? with
  | none => rfl
  | some s =>
    cases s with
    | ow _ =>
      simp only [kS11]
      cases ie env with
      | none => rfl
      | some r =>
        obtain ⟨y, e3⟩ := r
        cases y with
        | fz y =>
          cases y with
          | int k =>
            simp only [kS12]
            cases e3[i]? with
            | none => rfl
            | some s =>
              cases s with
              | ow ds =>
                simp only [kS13]
                cases ixN ds.length k <;> rfl
              | _ => rfl
          | _ => rfl
        | _ => rfl
    | _ => rfl
def kPS3 : Option Env → Option Fl
  | some e => some (.nx e)
  | none => none
@[simp] theorem kPS3_1 {e} : kPS3 (some e) = some (.nx e) := (rfl)
@[simp] theorem kPS3_2  : kPS3 (none) = none := (rfl)
def kPS2 (j : Nat) (ib : M RV) (d : D) : Option Env → Option Fl
  | some e => kPS3 (st1 j ib d e)
  | none => none
@[simp] theorem kPS2_1 {j : Nat} {ib : M RV} {d : D} {e} : kPS2 j ib d (some e) = kPS3 (st1 j ib d e) := (rfl)
@[simp] theorem kPS2_2 {j : Nat} {ib : M RV} {d : D} : kPS2 j ib d (none) = none := (rfl)
def kPS (i : Nat) (ia : M RV) (j : Nat) (ib : M RV) : Option (List D × Env) → Option Fl
  | some ([d1, d2], e) => kPS2 j ib d2 (st1 i ia d1 e)
  | _ => none
@[simp] theorem kPS_1 {i : Nat} {ia : M RV} {j : Nat} {ib : M RV} {d1} {d2} {e} : kPS i ia j ib (some ([d1, d2], e)) = kPS2 j ib d2 (st1 i ia d1 e) := (rfl)
@[simp] theorem q_ps {i j : Nat} {ia ib : M RV} {es : M (List D)} {env : Env} : sPS i ia j ib es env = kPS i ia j ib (es env) := by
  unfold sPS
  cases es env with
  | none => rfl
  | some r =>
    obtain ⟨ds, e⟩ := r
    match ds with
    | [] => rfl
    | [_] => rfl
    | [d1, d2] =>
      simp only [kPS]
      cases st1 i ia d1 e with
      | none => rfl
      | some e1 =>
        simp only [kPS2]
        cases st1 j ib d2 e1 <;> rfl
    | _ :: _ :: _ :: _ => rfl
/-! range(a, b, -1) -/
def kR3c (m n : Int) : Option (RV × Env) → Option (List D × Env)
  | some (.fz (.int s), e) => if s = -1 ∧ (-big ≤ m ∧ m < big) ∧ -big ≤ n ∧ n < big then some (rngM m (m - n).toNat, e) else none
  | _ => none
theorem kR3c_1 {m : Int} {n : Int} {s} {e} : kR3c m n (some (.fz (.int s), e)) = if s = -1 ∧ (-big ≤ m ∧ m < big) ∧ -big ≤ n ∧ n < big then some (rngM m (m - n).toNat, e) else none := (rfl)
def kR3b (m : Int) (c : M RV) : Option (RV × Env) → Option (List D × Env)
  | some (.fz (.int n), e) => kR3c m n (c e)
  | _ => none
@[simp] theorem kR3b_1 {m : Int} {c : M RV} {n} {e} : kR3b m c (some (.fz (.int n), e)) = kR3c m n (c e) := (rfl)
def kR3 (b c : M RV) : Option (RV × Env) → Option (List D × Env)
  | some (.fz (.int m), e) => kR3b m c (b e)
  | _ => none
@[simp] theorem kR3_1 {b : M RV} {c : M RV} {m} {e} : kR3 b c (some (.fz (.int m), e)) = kR3b m c (b e) := (rfl)
@[simp] theorem q_r3 {a b c : M RV} {env : Env} : itR3 a b c env = kR3 b c (a env) := by
  unfold itR3
  cases a env with
  | none => rfl
  | some r =>
    obtain ⟨x, e⟩ := r
    cases x with
    | fz d =>
      cases d with
      | int m =>
        simp only [kR3]
        cases b e with
        | none => rfl
        | some r =>
          obtain ⟨y, e2⟩ := r
          cases y with
          | fz d =>
            cases d with
            | int n =>
              simp only [kR3b]
              cases c e2 with
              | none => rfl
              | some r =>
                obtain ⟨z, e3⟩ := r
                cases z with
                | fz d =>
                  cases d <;> rfl
                | _ => rfl
            | _ => rfl
          | _ => rfl
      | _ => rfl
    | _ => rfl
@[simp] theorem r3I {m n : Int} {e : Env} (h1 : -4611686018427387904 ≤ n) (h2 : n < 4611686018427387904) (h3 : -4611686018427387904 ≤ m) (h4 : m < 4611686018427387904) : kR3c m n (some (.fz (.int (-1)), e)) = some (rngM m (m - n).toNat, e) := by
  show (if _ then _ else _) = _
  rw [if_pos ⟨rfl, ⟨h3, h4⟩, h1, h2⟩]
theorem rngM_zero (lo : Int) : rngM lo 0 = [] := (rfl)
theorem rngM_succ (lo : Int) (n : Nat) : rngM lo (n + 1) = .int lo :: rngM (lo - 1) n := by
  unfold rngM
  rw [List.range_succ_eq_map, List.map_cons, List.map_map]
  congr 1
  · simp
  · apply List.map_congr_left
    intro k _
    simp
    omega
/-- a loop over a falling range keeps a property, which may hang on the number of the turn -/
theorem for_rngM {g : G} {body : SM} {er : List Nat} (I : Nat → Env → Prop) (lo : Int) : ∀ (n i : Nat) (env : Env), I i env →
    (∀ (k : Nat) (env : Env), i ≤ k → k < i + n → I k env → ∃ e, turn g body er (.int (lo - (k : Nat))) env = some (.go e) ∧ I (k + 1) e) →
    ∃ e, runFor g body er (rngM (lo - (i : Nat)) n) env = some (.nx e) ∧ I (i + n) e
  | 0, i, env, h, _ => ⟨env, for_nil, h⟩
  | n + 1, i, env, h, ht => by
    obtain ⟨e, h1, h2⟩ := ht i env (Nat.le_refl _) (by omega) h
    obtain ⟨e2, h3, h4⟩ := for_rngM I lo n (i + 1) e h2 fun k env k0 k1 => ht k env (by omega) (by omega)
    refine ⟨e2, ?_, by rw [show i + (n + 1) = i + 1 + n by omega]; exact h4⟩
    rw [rngM_succ, for_go h1, show lo - ((i : Nat) : Int) - 1 = lo - ((i + 1 : Nat) : Int) by omega]
    exact h3
/-! in -/
theorem any_beq (x : Int) (l : List Int) : ((li l).any fun y => beqD y (.int x)) = decide (x ∈ l) := by
  induction l with
  | nil => simp
  | cons y l ih =>
    rw [li_cons, List.any_cons, ih, beqD_int]
    by_cases c : y = x
    · subst c; simp
    · have : x ≠ y := fun z => c z.symm
      simp [c, this]
theorem li_flt (l : List Int) : (li l).all flt = true := by
  unfold li
  rw [List.all_map, List.all_eq_true]
  intro x _
  rfl
@[simp] theorem inL {x : Int} {l : List Int} : inD (.int x) (.list (li l)) = some (.fz (.bool (decide (x ∈ l)))) := by
  unfold inD
  rw [seqD_1]
  simp only
  rw [if_pos ⟨rfl, li_flt l⟩, any_beq]
@[simp] theorem inT {x : Int} {l : List Int} : inD (.int x) (.tuple (li l)) = some (.fz (.bool (decide (x ∈ l)))) := by
  unfold inD
  rw [seqD_2]
  simp only
  rw [if_pos ⟨rfl, li_flt l⟩, any_beq]
@[simp] theorem notInL {x : Int} {l : List Int} : notInD (.int x) (.list (li l)) = some (.fz (.bool (!decide (x ∈ l)))) := by
  unfold notInD
  rw [seqD_1]
  simp only
  rw [if_pos ⟨rfl, li_flt l⟩, any_beq]
@[simp] theorem notInT {x : Int} {l : List Int} : notInD (.int x) (.tuple (li l)) = some (.fz (.bool (!decide (x ∈ l)))) := by
  unfold notInD
  rw [seqD_2]
  simp only
  rw [if_pos ⟨rfl, li_flt l⟩, any_beq]
/-! texts -/
theorem shS {n : Nat} {a : Str} (ha : a.cps.all (· < 0x110000) = true) : shp n (.str a) = true := by
  rw [shp_str]
  exact ha
theorem beS {a b : Str} {c : Bool} (hc : (a == b) = c) : beqD (.str a) (.str b) = c := by
  subst hc
  simp [beqD]
/-! t.count(x) -/
def kCntB (ds : List D) : Option (RV × Env) → Option (RV × Env)
  | some (.fz d, e) => if flt d = true ∧ ds.all flt = true then some (.fz (.int ((ds.countP fun x => beqD x d : Nat) : Int)), e) else none
  | _ => none
def kCnt (b : M RV) : Option (RV × Env) → Option (RV × Env)
  | some (.fz (.tuple ds), e) => kCntB ds (b e)
  | _ => none
@[simp] theorem kCnt_1 {b : M RV} {ds} {e} : kCnt b (some (.fz (.tuple ds), e)) = kCntB ds (b e) := (rfl)
@[simp] theorem q_cnt {a b : M RV} {env : Env} : eCnt a b env = kCnt b (a env) := by
  unfold eCnt
  cases a env with
  | none => rfl
  | some r =>
    obtain ⟨x, e⟩ := r
    cases x with
    | fz d =>
      cases d with
      | tuple ds =>
        simp only [kCnt]
        cases b e with
        | none => rfl
        | some r =>
          obtain ⟨y, e2⟩ := r
          cases y <;> rfl
      | _ => rfl
    | _ => rfl
theorem count_beq (x : Int) (l : List Int) : ((li l).countP fun y => beqD y (.int x)) = l.count x := by
  induction l with
  | nil => rfl
  | cons y l ih =>
    rw [li_cons, List.countP_cons, ih, beqD_int, List.count_cons]
    simp
@[simp] theorem kCntI {x : Int} {l : List Int} {e : Env} : kCntB (li l) (some (.fz (.int x), e)) = some (.fz (.int ((l.count x : Nat) : Int)), e) := by
  show (if _ then _ else _) = _
  rw [if_pos ⟨rfl, li_flt l⟩, count_beq]
/-! x.pop(k) -/
def kPopA (i : Nat) : Option (RV × Env) → Option (RV × Env)
  | some (.fz (.int n), e1) => match e1[i]? with
    | some (.ow ds) => if 0 ≤ n then (match ds[n.toNat]? with
      | some d => if n < big then some (.fz d, e1.set i (.ow (ds.eraseIdx n.toNat))) else none
      | none => none) else none
    | _ => none
  | _ => none
theorem q_popA {i : Nat} {k : M RV} {env : Env} {es : List D} (h : env[i]? = some (.ow es)) : ePopA i k env = kPopA i (k env) := by
  unfold ePopA
  rw [h]
  simp only
  cases k env with
  | none => rfl
  | some r =>
    obtain ⟨y, e2⟩ := r
    cases y with
    | fz d => cases d <;> rfl
    | _ => rfl
theorem popA_go {i : Nat} {n : Int} {e : Env} {ds : List D} {d : D} (h : e[i]? = some (.ow ds)) (h0 : 0 ≤ n) (h1 : n < 4611686018427387904) (h2 : ds[n.toNat]? = some d) : kPopA i (some (.fz (.int n), e)) = some (.fz d, e.set i (.ow (ds.eraseIdx n.toNat))) := by
  show (match e[i]? with | some (.ow ds) => _ | _ => _) = _
  rw [h]
  simp only
  rw [if_pos h0, h2]
  simp only
  rw [if_pos (show n < big from h1)]
/-! str(i), a < b < c -/
theorem strI {i : Int} (h : i.natAbs < 2 ^ 1000) : strD (.int i) = some (.fz (.str (toString i))) := if_pos h
theorem ch_go {g h : D → D → Option Rt} {a b c : M RV} {env e1 e2 e3 : Env} {i j l : Int} {k m : Bool} (ha : a env = some (.fz (.int i), e1)) (hb : b e1 = some (.fz (.int j), e2)) (hg : g (.int i) (.int j) = some (.fz (.bool k)))
    (hc : c e2 = some (.fz (.int l), e3)) (hh : h (.int j) (.int l) = some (.fz (.bool m))) : tCh g h a b c env = some (if k = true then (m, e3) else (false, e2)) := by
  unfold tCh
  simp only [ha, hb, hg, hc, hh]
  by_cases z : k = true
  · rw [if_pos z, if_pos z]
  · rw [if_neg z, if_neg z]
end J
namespace K12
open PySem J
/-! _law_cell: 0 script, 1 k -/
def b__law_cell : SM :=
  (sSeq (sIf (tVal (eOp2 ltD (eVar 1) (eScLen 0))) (sRet (eOp1 intD (eScIx 0 (eVar 1)))) sNil) (sRet (eOp2 addD (eOp2 mulD (eC (.int 7919)) (eOp2 addD (eVar 1) (eC (.int 1)))) (eOp2 mulD (eC (.int 104729)) (eOp1 intD (eOp2 modD (eOp1 intD (eOp1 sumD (eScSl 0 oNo (oSo (eC (.int 1)))))) (eC (.int 1000003))))))))
def f__law_cell : FnS := mkFn [.sc, .bw] 0 b__law_cell
/-! _law_box: 0 script, 1 k, 2 cell, 3 great -/
def b__law_box : SM :=
  (sSeq (sUnp (gNm 2) (eOp1 absD (eCall f__law_cell [.sc 0, .bw (eVar 1)]))) (sSeq (sUnp (gNm 3) (eC (.int 0))) (sSeq (sIf (tVal (eOp2 geD (eVar 2) (eOp2 powD (eC (.int 10)) (eC (.int 18))))) (sUnp (gNm 3) (eC (.int 1))) sNil) (sRet (eLst (aCons (eVar 2) (aCons (eOp2 modD (eOp1 intD (eOp2 addD (eVar 2) (eOp2 mulD (eC (.int 1299709)) (eVar 1)))) (eC (.int 1000000007))) (aCons (eC (.int 0)) (aCons (eVar 3) aNil)))))))))
def f__law_box : FnS := mkFn [.sc, .bw] 2 b__law_box
/-! _law_take: 0 box, 1 many, 2 drawn, 3 number -/
def b__law_take : SM :=
  (sSeq (sSet 0 (eC (.int 2)) (eOp2 addD (eOp2 ixD (eVar 0) (eC (.int 2))) (eC (.int 1)))) (sSeq (sIf (tAnd (tVal (eOp2 eqD (eOp2 ixD (eVar 0) (eC (.int 3))) (eC (.int 1)))) (tVal (eOp2 gtD (eOp2 ixD (eVar 0) (eC (.int 0))) (eC (.int 0))))) (sSeq (sAsg 2 (eOp2 modD (eOp1 intD (eOp2 ixD (eVar 0) (eC (.int 0)))) (eVar 1))) (sSeq (sSet 0 (eC (.int 0)) (eOp2 fdivD (eOp2 ixD (eVar 0) (eC (.int 0))) (eVar 1))) (sRet (eVar 2)))) sNil) (sSeq (sUnp (gNm 3) (eOp2 modD (eOp1 intD (eOp2 addD (eOp2 addD (eOp2 mulD (eOp2 ixD (eVar 0) (eC (.int 1))) (eC (.int 48271))) (eOp2 mulD (eOp2 ixD (eVar 0) (eC (.int 2))) (eC (.int 69621)))) (eC (.int 12345)))) (eC (.int 2147483647)))) (sSeq (sUnp (gNm 3) (eOp2 modD (eOp1 intD (eOp2 addD (eOp2 mulD (eVar 3) (eC (.int 16807))) (eOp2 mulD (eOp2 fdivD (eVar 3) (eC (.int 65536))) (eOp2 ixD (eVar 0) (eC (.int 2)))))) (eC (.int 2147483629)))) (sSeq (sUnp (gNm 3) (eOp2 modD (eOp1 intD (eOp2 addD (eOp2 mulD (eVar 3) (eVar 3)) (eOp2 ixD (eVar 0) (eC (.int 1))))) (eC (.int 2147483399)))) (sRet (eOp2 modD (eOp1 intD (eOp2 fdivD (eVar 3) (eC (.int 11)))) (eVar 1))))))))
def f__law_take : FnS := mkFn [.mt, .bw] 2 b__law_take
/-! _law_strands: 0 box -/
def b__law_strands : SM :=
  (sRet (eOp2 ixD (eLst (aCons (eC (.int 3)) (aCons (eC (.int 4)) (aCons (eC (.int 3)) (aCons (eC (.int 2)) (aCons (eC (.int 4)) (aCons (eC (.int 3)) (aCons (eC (.int 5)) (aCons (eC (.int 3)) (aCons (eC (.int 4)) (aCons (eC (.int 1)) (aCons (eC (.int 4)) (aCons (eC (.int 3)) (aCons (eC (.int 5)) (aCons (eC (.int 6)) (aCons (eC (.int 3)) (aCons (eC (.int 8)) (aCons (eC (.int 7)) aNil)))))))))))))))))) (eCall f__law_take [.mt 0, .bw (eC (.int 17))])))
def f__law_strands : FnS := mkFn [.mt] 0 b__law_strands
/-! _law_perm: 0 box, 1 n, 2 many, 3 k, 4 number, 5 left, 6 row, 7 at -/
def l__law_perm_1 : SM :=
  (sUnp (gNm 2) (eOp2 mulD (eVar 2) (eVar 3)))
def l__law_perm_2 : SM :=
  (sSeq (sUnp (gNm 7) (eOp2 modD (eOp1 intD (eVar 4)) (eOp1 lenD (eVar 5)))) (sSeq (sUnp (gNm 4) (eOp2 fdivD (eVar 4) (eOp1 lenD (eVar 5)))) (sApp 6 (ePopA 5 (eVar 7)))))
def b__law_perm : SM :=
  (sSeq (sUnp (gNm 2) (eC (.int 1))) (sSeq (sFor [3] (gNm 3) (itR2 (eC (.int 2)) (eOp2 addD (eVar 1) (eC (.int 1)))) l__law_perm_1) (sSeq (sUnp (gNm 4) (eCall f__law_take [.mt 0, .bw (eVar 2)])) (sSeq (sAsg 5 (eRgL (itR2 (eC (.int 1)) (eOp2 addD (eVar 1) (eC (.int 1)))))) (sSeq (sAsg 6 (eLst aNil)) (sSeq (sFor [3, 7] (gNm 3) (itR1 (eVar 1)) l__law_perm_2) (sRet (eOp1 tupleD (eVar 6)))))))))
def f__law_perm : FnS := mkFn [.mt, .bw] 6 b__law_perm
/-! _law_power: 0 box, 1 n, 2 reach -/
def b__law_power : SM :=
  (sSeq (sIf (tVal (eOp2 eqD (eVar 1) (eC (.int 1)))) (sRet (eC (.int 0))) sNil) (sSeq (sUnp (gNm 2) (eOp2 ixD (eLst (aCons (eC (.int 0)) (aCons (eC (.int 0)) (aCons (eC (.int 60)) (aCons (eC (.int 3)) (aCons (eC (.int 3)) (aCons (eC (.int 3)) (aCons (eC (.int 2)) (aCons (eC (.int 2)) (aCons (eC (.int 2)) aNil)))))))))) (eVar 1))) (sSeq (sIf (tVal (eOp2 eqD (eCall f__law_take [.mt 0, .bw (eC (.int 8))]) (eC (.int 5)))) (sUnp (gNm 2) (eOp2 ixD (eLst (aCons (eC (.int 0)) (aCons (eC (.int 0)) (aCons (eC (.int 400)) (aCons (eC (.int 30)) (aCons (eC (.int 15)) (aCons (eC (.int 8)) (aCons (eC (.int 4)) (aCons (eC (.int 3)) (aCons (eC (.int 3)) aNil)))))))))) (eVar 1))) sNil) (sRet (eOp2 subD (eCall f__law_take [.mt 0, .bw (eOp2 addD (eOp2 mulD (eC (.int 2)) (eVar 2)) (eC (.int 1)))]) (eVar 2))))))
def f__law_power : FnS := mkFn [.mt, .bw] 1 b__law_power
/-! _law_starts: 0 row, 1 k -/
def l__law_starts_1 : M RV :=
  (eOp2 addD (eVar 1) (eC (.int 1)))
def t__law_starts_1 : M Bool :=
  (tVal (eOp2 gtD (eOp2 ixD (eVar 0) (eVar 1)) (eOp2 ixD (eVar 0) (eOp2 addD (eVar 1) (eC (.int 1))))))
def b__law_starts : SM :=
  (sRet (eLc [1] (gNm 1) (itR1 (eOp2 subD (eOp1 lenD (eVar 0)) (eC (.int 1)))) t__law_starts_1 l__law_starts_1))
def f__law_starts : FnS := mkFn [.bw] 1 b__law_starts
/-! _law_factor: 0 box, 1 n, 2 allowed, 3 row, 4 entries, 5 part, 6 k, 7 begins, 8 at -/
def l__law_factor_1 : SM :=
  (sSeq (sIf (tAnd (tVal (eOp2 gtD (eVar 6) (eC (.int 0)))) (tVal (eOp2 inD (eVar 6) (eVar 2)))) (sSeq (sUnp (gNm 4) (eOp2 addD (eVar 4) (eOp1 sortedD (eVar 5)))) (sAsg 5 (eLst aNil))) sNil) (sApp 5 (eOp2 ixD (eVar 3) (eVar 6))))
def b__law_factor : SM :=
  (sSeq (sUnp (gNm 3) (eCall f__law_perm [.mt 0, .bw (eVar 1)])) (sSeq (sUnp (gNm 4) (eLst aNil)) (sSeq (sAsg 5 (eLst aNil)) (sSeq (sFor [6] (gNm 6) (itR1 (eVar 1)) l__law_factor_1) (sSeq (sUnp (gNm 4) (eOp2 addD (eVar 4) (eOp1 sortedD (eVar 5)))) (sSeq (sUnp (gNm 7) (eCall f__law_starts [.bw (eVar 4)])) (sSeq (sIf (tVal (eOp2 eqD (eOp1 lenD (eVar 7)) (eC (.int 0)))) (sSeq (sUnp (gNm 8) (eOp2 ixD (eVar 2) (eCall f__law_take [.mt 0, .bw (eOp1 lenD (eVar 2))]))) (sUnp (gNm 4) (eOp2 addD (eOp2 addD (eSl slD (eVar 4) oNo (oSo (eOp2 subD (eVar 8) (eC (.int 1))))) (eLst (aCons (eOp2 ixD (eVar 4) (eVar 8)) (aCons (eOp2 ixD (eVar 4) (eOp2 subD (eVar 8) (eC (.int 1)))) aNil)))) (eSl slD (eVar 4) (oSo (eOp2 addD (eVar 8) (eC (.int 1)))) oNo)))) sNil) (sSeq (sIf (tVal (eOp2 eqD (eOp1 lenD (eVar 7)) (eOp2 subD (eVar 1) (eC (.int 1))))) (sUnp (gNm 4) (eOp2 addD (eLst (aCons (eOp2 ixD (eVar 4) (eC (.int 1))) (aCons (eOp2 ixD (eVar 4) (eC (.int 0))) aNil))) (eSl slD (eVar 4) (oSo (eC (.int 2))) oNo))) sNil) (sRet (eOp1 tupleD (eVar 4)))))))))))
def f__law_factor : FnS := mkFn [.mt, .bw, .bw] 6 b__law_factor
/-! _law_inverse: 0 row, 1 ends, 2 k -/
def l__law_inverse_1 : SM :=
  (sSet 1 (eOp2 subD (eOp2 ixD (eVar 0) (eVar 2)) (eC (.int 1))) (eOp2 addD (eVar 2) (eC (.int 1))))
def b__law_inverse : SM :=
  (sSeq (sAsg 1 (eOp2 mulD (eLst (aCons (eC (.int 0)) aNil)) (eOp1 lenD (eVar 0)))) (sSeq (sFor [2] (gNm 2) (itR1 (eOp1 lenD (eVar 0))) l__law_inverse_1) (sRet (eOp1 tupleD (eVar 1)))))
def f__law_inverse : FnS := mkFn [.bw] 2 b__law_inverse
/-! _law_row: 0 box, 1 n, 2 most, 3 allowed, 4 row, 5 turn, 6 factor -/
def l__law_row_1 : SM :=
  (sSeq (sUnp (gNm 6) (eCall f__law_factor [.mt 0, .bw (eVar 1), .bw (eVar 3)])) (sSeq (sApp 4 (eVar 6)) (sUnp (gNm 3) (eCall f__law_starts [.bw (eCall f__law_inverse [.bw (eVar 6)])]))))
def b__law_row : SM :=
  (sSeq (sAsg 4 (eLst aNil)) (sSeq (sFor [5, 6] (gNm 5) (itR1 (eCall f__law_take [.mt 0, .bw (eOp2 addD (eVar 2) (eC (.int 1)))])) l__law_row_1) (sRet (eVar 4))))
def f__law_row : FnS := mkFn [.mt, .bw, .bw, .bw] 3 b__law_row
/-! starts: 0 perm, 1 i -/
def l_starts_1 : M RV :=
  (eVar 1)
def t_starts_1 : M Bool :=
  (tVal (eOp2 gtD (eOp2 ixD (eVar 0) (eOp2 subD (eVar 1) (eC (.int 1)))) (eOp2 ixD (eVar 0) (eVar 1))))
def b_starts : SM :=
  (sRet (eLc [1] (gNm 1) (itR2 (eC (.int 1)) (eOp1 lenD (eVar 0))) t_starts_1 l_starts_1))
def f_starts : FnS := mkFn [.bw] 1 b_starts
/-! inverse_perm: 0 perm, 1 begins, 2 index, 3 end -/
def l_inverse_perm_1 : SM :=
  (sSet 1 (eOp2 subD (eVar 3) (eC (.int 1))) (eOp2 addD (eVar 2) (eC (.int 1))))
def b_inverse_perm : SM :=
  (sSeq (sAsg 1 (eOp1 listD (eVar 0))) (sSeq (sFor [2, 3] (gTp (glCons (gNm 2) (glCons (gNm 3) glNil))) (itEn (itSeq (eVar 0))) l_inverse_perm_1) (sRet (eOp1 tupleD (eVar 1)))))
def f_inverse_perm : FnS := mkFn [.bw] 3 b_inverse_perm
/-! finishes: 0 perm -/
def b_finishes : SM :=
  (sRet (eCall f_starts [.bw (eCall f_inverse_perm [.bw (eVar 0)])]))
def f_finishes : FnS := mkFn [.bw] 0 b_finishes
/-! weighted: 0 first, 1 second, 2 ends, 3 i -/
def l_weighted_1 : M RV :=
  (eOp2 inD (eVar 3) (eVar 2))
def b_weighted : SM :=
  (sSeq (sUnp (gNm 2) (eCall f_finishes [.bw (eVar 0)])) (sRet (eOp1 allD (eLc [3] (gNm 3) (itSeq (eCall f_starts [.bw (eVar 1)])) tYes l_weighted_1))))
def f_weighted : FnS := mkFn [.bw, .bw] 2 b_weighted
/-! perm_of: 0 strands, 1 word, 2 begins, 3 letter, 4 i -/
def l_perm_of_1 : SM :=
  (sSeq (sUnp (gNm 4) (eOp1 absD (eVar 3))) (sPS 2 (eOp2 subD (eVar 4) (eC (.int 1))) 2 (eVar 4) (aCons (eOp2 ixD (eVar 2) (eVar 4)) (aCons (eOp2 ixD (eVar 2) (eOp2 subD (eVar 4) (eC (.int 1)))) aNil))))
def b_perm_of : SM :=
  (sSeq (sAsg 2 (eRgL (itR2 (eC (.int 1)) (eOp2 addD (eVar 0) (eC (.int 1)))))) (sSeq (sFor [3, 4] (gNm 3) (itSeq (eVar 1)) l_perm_of_1) (sRet (eCall f_inverse_perm [.bw (eVar 2)]))))
def f_perm_of : FnS := mkFn [.bw, .bw] 3 b_perm_of
/-! _common_divisor: 0 first, 1 second, 2 left, 3 right, 4 letters, 5 i -/
def w__common_divisor_1 : Nat := 1000000000
def t__common_divisor_1 : M Bool :=
  (tVal (eOp2 ltD (eVar 5) (eOp1 lenD (eVar 2))))
def l__common_divisor_1 : SM :=
  (sIf (tAnd (tVal (eOp2 gtD (eOp2 ixD (eVar 2) (eOp2 subD (eVar 5) (eC (.int 1)))) (eOp2 ixD (eVar 2) (eVar 5)))) (tVal (eOp2 gtD (eOp2 ixD (eVar 3) (eOp2 subD (eVar 5) (eC (.int 1)))) (eOp2 ixD (eVar 3) (eVar 5))))) (sSeq (sPS 2 (eOp2 subD (eVar 5) (eC (.int 1))) 2 (eVar 5) (aCons (eOp2 ixD (eVar 2) (eVar 5)) (aCons (eOp2 ixD (eVar 2) (eOp2 subD (eVar 5) (eC (.int 1)))) aNil))) (sSeq (sPS 3 (eOp2 subD (eVar 5) (eC (.int 1))) 3 (eVar 5) (aCons (eOp2 ixD (eVar 3) (eVar 5)) (aCons (eOp2 ixD (eVar 3) (eOp2 subD (eVar 5) (eC (.int 1)))) aNil))) (sSeq (sApp 4 (eVar 5)) (sIf (tVal (eOp2 gtD (eVar 5) (eC (.int 1)))) (sUnp (gNm 5) (eOp2 subD (eVar 5) (eC (.int 1)))) sNil)))) (sUnp (gNm 5) (eOp2 addD (eVar 5) (eC (.int 1)))))
def b__common_divisor : SM :=
  (sSeq (sAsg 2 (eOp1 listD (eVar 0))) (sSeq (sAsg 3 (eOp1 listD (eVar 1))) (sSeq (sAsg 4 (eLst aNil)) (sSeq (sUnp (gNm 5) (eC (.int 1))) (sSeq (sWhile w__common_divisor_1 [] t__common_divisor_1 l__common_divisor_1) (sRet (eCall f_perm_of [.bw (eOp1 lenD (eVar 2)), .bw (eVar 4)])))))))
def f__common_divisor : FnS := mkFn [.bw, .bw] 4 b__common_divisor
/-! meet_of: 0 perms, 1 result, 2 perm -/
def l_meet_of_1 : SM :=
  (sAsg 1 (eCall f__common_divisor [.bw (eVar 1), .bw (eVar 2)]))
def b_meet_of : SM :=
  (sSeq (sAsg 1 (eOp2 ixD (eVar 0) (eC (.int 0)))) (sSeq (sFor [2] (gNm 2) (itSeq (eSl slD (eVar 0) (oSo (eC (.int 1))) oNo)) l_meet_of_1) (sRet (eVar 1))))
def f_meet_of : FnS := mkFn [.fz] 2 b_meet_of
/-! compose: 0 first, 1 second, 2 end -/
def l_compose_1 : M RV :=
  (eOp2 ixD (eVar 1) (eOp2 subD (eVar 2) (eC (.int 1))))
def b_compose : SM :=
  (sRet (eOp1 tupleD (eLc [2] (gNm 2) (itSeq (eVar 0)) tYes l_compose_1)))
def f_compose : FnS := mkFn [.bw, .bw] 1 b_compose
/-! _rest_behind: 0 first, 1 second -/
def b__rest_behind : SM :=
  (sRet (eCall f_compose [.bw (eCall f_inverse_perm [.bw (eVar 0)]), .bw (eVar 1)]))
def f__rest_behind : FnS := mkFn [.bw, .bw] 0 b__rest_behind
/-! half_turn: 0 strands -/
def b_half_turn : SM :=
  (sRet (eRgT (itR3 (eVar 0) (eC (.int 0)) (eOp1 negD (eC (.int 1))))))
def f_half_turn : FnS := mkFn [.bw] 0 b_half_turn
/-! right_complement: 0 perm -/
def b_right_complement : SM :=
  (sRet (eCall f__rest_behind [.bw (eVar 0), .bw (eCall f_half_turn [.bw (eOp1 lenD (eVar 0))])]))
def f_right_complement : FnS := mkFn [.bw] 0 b_right_complement
/-! slide_pair: 0 first, 1 second, 2 moved -/
def b_slide_pair : SM :=
  (sSeq (sIf (tTru (eCall f_weighted [.bw (eVar 0), .bw (eVar 1)])) (sRet (eTup (aCons (eVar 0) (aCons (eVar 1) aNil)))) sNil) (sSeq (sUnp (gNm 2) (eCallV f_meet_of (aCons (eVar 1) (aCons (eCall f_right_complement [.bw (eVar 0)]) aNil)))) (sRet (eTup (aCons (eCall f_compose [.bw (eVar 0), .bw (eVar 2)]) (aCons (eCall f__rest_behind [.bw (eVar 2), .bw (eVar 1)]) aNil))))))
def f_slide_pair : FnS := mkFn [.fz, .fz] 1 b_slide_pair
/-! front_step: 0 carry, 1 factor -/
def b_front_step : SM :=
  (sRet (eCall f_slide_pair [.fz (eVar 0), .fz (eVar 1)]))
def f_front_step : FnS := mkFn [.fz, .fz] 0 b_front_step
/-! _law_rest: 0 first, 1 second, 2 row, 3 k -/
def l__law_rest_1 : SM :=
  (sSet 2 (eOp2 subD (eOp2 ixD (eVar 0) (eVar 3)) (eC (.int 1))) (eOp2 ixD (eVar 1) (eVar 3)))
def b__law_rest : SM :=
  (sSeq (sAsg 2 (eOp2 mulD (eLst (aCons (eC (.int 0)) aNil)) (eOp1 lenD (eVar 0)))) (sSeq (sFor [3] (gNm 3) (itR1 (eOp1 lenD (eVar 0))) l__law_rest_1) (sRet (eOp1 tupleD (eVar 2)))))
def f__law_rest : FnS := mkFn [.bw, .bw] 2 b__law_rest
/-! _law_divides: 0 first, 1 second, 2 k, 3 j -/
def l__law_divides_2 : SM :=
  (sIf (tAnd (tVal (eOp2 gtD (eOp2 ixD (eVar 0) (eVar 3)) (eOp2 ixD (eVar 0) (eVar 2)))) (tVal (eOp2 ltD (eOp2 ixD (eVar 1) (eVar 3)) (eOp2 ixD (eVar 1) (eVar 2))))) (sRet (eC (.bool false))) sNil)
def l__law_divides_1 : SM :=
  (sFor [3] (gNm 3) (itR1 (eVar 2)) l__law_divides_2)
def b__law_divides : SM :=
  (sSeq (sFor [2, 3] (gNm 2) (itR1 (eOp1 lenD (eVar 0))) l__law_divides_1) (sRet (eC (.bool true))))
def f__law_divides : FnS := mkFn [.bw, .bw] 2 b__law_divides
/-! _law_is_integer: 0 value -/
def b__law_is_integer : SM :=
  (sRet (eAnd (eOp1 (isiD .int) (eVar 0)) (eNot (eOp1 (isiD .bool) (eVar 0)))))
def f__law_is_integer : FnS := mkFn [.bw] 0 b__law_is_integer
/-! _law_perm_holds: 0 n, 1 value, 2 k -/
def l__law_perm_holds_1 : SM :=
  (sIf (tNot (tTru (eCall f__law_is_integer [.bw (eOp2 ixD (eVar 1) (eVar 2))]))) (sRet (eC (.bool false))) sNil)
def l__law_perm_holds_2 : SM :=
  (sIf (tVal (eOp2 neD (eCnt (eVar 1) (eOp2 addD (eVar 2) (eC (.int 1)))) (eC (.int 1)))) (sRet (eC (.bool false))) sNil)
def b__law_perm_holds : SM :=
  (sSeq (sIf (tOr (tNot (tTru (eOp1 (isiD .tuple) (eVar 1)))) (tVal (eOp2 neD (eOp1 lenD (eVar 1)) (eVar 0)))) (sRet (eC (.bool false))) sNil) (sSeq (sFor [2] (gNm 2) (itR1 (eVar 0)) l__law_perm_holds_1) (sSeq (sFor [2] (gNm 2) (itR1 (eVar 0)) l__law_perm_holds_2) (sRet (eC (.bool true))))))
def f__law_perm_holds : FnS := mkFn [.bw, .bw] 1 b__law_perm_holds
/-! _law_step_holds: 0 n, 1 first, 2 second, 3 pair, 4 head, 5 rest, 6 middle, 7 ends, 8 letter -/
def l__law_step_holds_1 : SM :=
  (sIf (tVal (eOp2 notInD (eVar 8) (eVar 7))) (sRet (eC (.bool false))) sNil)
def b__law_step_holds : SM :=
  (sSeq (sIf (tOr (tNot (tTru (eOp1 (isiD .tuple) (eVar 3)))) (tVal (eOp2 neD (eOp1 lenD (eVar 3)) (eC (.int 2))))) (sRet (eC (.bool false))) sNil) (sSeq (sUnp (gNm 4) (eOp2 ixD (eVar 3) (eC (.int 0)))) (sSeq (sUnp (gNm 5) (eOp2 ixD (eVar 3) (eC (.int 1)))) (sSeq (sIf (tOr (tNot (tTru (eCall f__law_perm_holds [.bw (eVar 0), .bw (eVar 4)]))) (tNot (tTru (eCall f__law_perm_holds [.bw (eVar 0), .bw (eVar 5)])))) (sRet (eC (.bool false))) sNil) (sSeq (sIf (tNot (tTru (eCall f__law_divides [.bw (eVar 1), .bw (eVar 4)]))) (sRet (eC (.bool false))) sNil) (sSeq (sUnp (gNm 6) (eCall f__law_rest [.bw (eVar 1), .bw (eVar 4)])) (sSeq (sIf (tOr (tNot (tTru (eCall f__law_divides [.bw (eVar 6), .bw (eVar 2)]))) (tVal (eOp2 neD (eCall f__law_rest [.bw (eVar 6), .bw (eVar 2)]) (eVar 5)))) (sRet (eC (.bool false))) sNil) (sSeq (sUnp (gNm 7) (eCall f__law_starts [.bw (eCall f__law_inverse [.bw (eVar 4)])])) (sSeq (sFor [8] (gNm 8) (itSeq (eCall f__law_starts [.bw (eVar 5)])) l__law_step_holds_1) (sRet (eC (.bool true))))))))))))
def f__law_step_holds : FnS := mkFn [.bw, .bw, .bw, .bw] 5 b__law_step_holds
/-! _law_heads: 0 n, 1 perm, 2 shape, 3 carry, 4 heads, 5 factor, 6 pair, 7 entry -/
def l__law_heads_1 : M RV :=
  (eOp2 subD (eOp2 addD (eVar 0) (eC (.int 1))) (eVar 7))
def l__law_heads_2 : SM :=
  (sSeq (sUnp (gNm 6) (eCall f_front_step [.fz (eVar 3), .fz (eVar 5)])) (sSeq (sIf (tNot (tTru (eCall f__law_step_holds [.bw (eVar 0), .bw (eVar 3), .bw (eVar 5), .bw (eVar 6)]))) (sRet (eLst aNil)) sNil) (sSeq (sApp 4 (eOp2 ixD (eVar 6) (eC (.int 0)))) (sUnp (gNm 3) (eOp2 ixD (eVar 6) (eC (.int 1)))))))
def b__law_heads : SM :=
  (sSeq (sUnp (gNm 3) (eVar 1)) (sSeq (sIf (tVal (eOp2 eqD (eOp2 modD (eOp1 intD (eOp2 ixD (eVar 2) (eC (.int 0)))) (eC (.int 2))) (eC (.int 1)))) (sUnp (gNm 3) (eOp1 tupleD (eLc [7] (gNm 7) (itSeq (eOp1 revD (eVar 1))) tYes l__law_heads_1))) sNil) (sSeq (sAsg 4 (eLst aNil)) (sSeq (sFor [5, 6] (gNm 5) (itSeq (eOp2 ixD (eVar 2) (eC (.int 1)))) l__law_heads_2) (sSeq (sApp 4 (eVar 3)) (sRet (eVar 4)))))))
def f__law_heads : FnS := mkFn [.bw, .fz, .bw] 5 b__law_heads
/-! twist: 0 perm, 1 strands, 2 k -/
def l_twist_1 : M RV :=
  (eOp2 subD (eOp2 addD (eVar 1) (eC (.int 1))) (eOp2 ixD (eVar 0) (eOp2 subD (eVar 1) (eVar 2))))
def b_twist : SM :=
  (sSeq (sUnp (gNm 1) (eOp1 lenD (eVar 0))) (sRet (eOp1 tupleD (eLc [2] (gNm 2) (itR2 (eC (.int 1)) (eOp2 addD (eVar 1) (eC (.int 1)))) tYes l_twist_1))))
def f_twist : FnS := mkFn [.bw] 2 b_twist
/-! _twisted: 0 perm, 1 times -/
def b__twisted : SM :=
  (sSeq (sIf (tVal (eOp2 eqD (eOp2 modD (eVar 1) (eC (.int 2))) (eC (.int 1)))) (sRet (eCall f_twist [.bw (eVar 0)])) sNil) (sRet (eVar 0)))
def f__twisted : FnS := mkFn [.fz, .bw] 0 b__twisted
/-! is_half_turn: 0 perm -/
def b_is_half_turn : SM :=
  (sRet (eAnd (eOp2 gtD (eOp1 lenD (eVar 0)) (eC (.int 1))) (eOp2 eqD (eVar 0) (eCall f_half_turn [.bw (eOp1 lenD (eVar 0))]))))
def f_is_half_turn : FnS := mkFn [.bw] 0 b_is_half_turn
/-! identity: 0 strands -/
def b_identity : SM :=
  (sRet (eRgT (itR2 (eC (.int 1)) (eOp2 addD (eVar 0) (eC (.int 1))))))
def f_identity : FnS := mkFn [.bw] 0 b_identity
/-! is_trivial_perm: 0 perm -/
def b_is_trivial_perm : SM :=
  (sRet (eOp2 eqD (eVar 0) (eCall f_identity [.bw (eOp1 lenD (eVar 0))])))
def f_is_trivial_perm : FnS := mkFn [.bw] 0 b_is_trivial_perm
/-! _trimmed: 0 strands, 1 power, 2 row, 3 begin, 4 end -/
def w__trimmed_1 : Nat := 1000000000
def t__trimmed_1 : M Bool :=
  (tAnd (tVal (eOp2 ltD (eVar 3) (eOp1 lenD (eVar 2)))) (tTru (eCall f_is_half_turn [.bw (eOp2 ixD (eVar 2) (eVar 3))])))
def l__trimmed_1 : SM :=
  (sUnp (gNm 3) (eOp2 addD (eVar 3) (eC (.int 1))))
def w__trimmed_2 : Nat := 1000000000
def t__trimmed_2 : M Bool :=
  (tAnd (tVal (eOp2 gtD (eVar 4) (eVar 3))) (tTru (eCall f_is_trivial_perm [.bw (eOp2 ixD (eVar 2) (eOp2 subD (eVar 4) (eC (.int 1))))])))
def l__trimmed_2 : SM :=
  (sUnp (gNm 4) (eOp2 subD (eVar 4) (eC (.int 1))))
def b__trimmed : SM :=
  (sSeq (sIf (tVal (eOp2 eqD (eVar 0) (eC (.int 1)))) (sRet (eTup (aCons (eC (.int 0)) (aCons (eTup aNil) aNil)))) sNil) (sSeq (sUnp (gNm 3) (eC (.int 0))) (sSeq (sWhile w__trimmed_1 [] t__trimmed_1 l__trimmed_1) (sSeq (sUnp (gNm 4) (eOp1 lenD (eVar 2))) (sSeq (sWhile w__trimmed_2 [] t__trimmed_2 l__trimmed_2) (sRet (eTup (aCons (eOp2 addD (eVar 1) (eVar 3)) (aCons (eOp1 tupleD (eSl slD (eVar 2) (oSo (eVar 3)) (oSo (eVar 4)))) aNil)))))))))
def f__trimmed : FnS := mkFn [.bw, .bw, .bw] 2 b__trimmed
/-! put_in_front: 0 strands, 1 perm, 2 form, 3 power, 4 factors, 5 carry, 6 heads, 7 factor, 8 head -/
def l_put_in_front_1 : SM :=
  (sSeq (sUnp (gTp (glCons (gNm 8) (glCons (gNm 5) glNil))) (eCall f_front_step [.fz (eVar 5), .fz (eVar 7)])) (sApp 6 (eVar 8)))
def b_put_in_front : SM :=
  (sSeq (sUnp (gTp (glCons (gNm 3) (glCons (gNm 4) glNil))) (eVar 2)) (sSeq (sUnp (gNm 5) (eCall f__twisted [.fz (eVar 1), .bw (eVar 3)])) (sSeq (sAsg 6 (eLst aNil)) (sSeq (sFor [7, 8] (gNm 7) (itSeq (eVar 4)) l_put_in_front_1) (sSeq (sApp 6 (eVar 5)) (sRet (eCall f__trimmed [.bw (eVar 0), .bw (eVar 3), .bw (eVar 6)])))))))
def f_put_in_front : FnS := mkFn [.bw, .fz, .fz] 6 b_put_in_front
/-! _law_heads_of_form: 0 n, 1 lowest, 2 found, 3 many, 4 turn, 5 plain, 6 row, 7 k -/
def l__law_heads_of_form_1 : M RV :=
  (eOp2 subD (eVar 0) (eVar 7))
def l__law_heads_of_form_2 : M RV :=
  (eOp2 addD (eVar 7) (eC (.int 1)))
def b__law_heads_of_form : SM :=
  (sSeq (sUnp (gNm 4) (eOp1 tupleD (eLc [7] (gNm 7) (itR1 (eVar 0)) tYes l__law_heads_of_form_1))) (sSeq (sUnp (gNm 5) (eOp1 tupleD (eLc [7] (gNm 7) (itR1 (eVar 0)) tYes l__law_heads_of_form_2))) (sSeq (sUnp (gNm 6) (eOp2 addD (eOp2 mulD (eLst (aCons (eVar 4) aNil)) (eOp2 maxD (eC (.int 0)) (eOp2 subD (eOp2 ixD (eVar 2) (eC (.int 0))) (eVar 1)))) (eOp1 listD (eOp2 ixD (eVar 2) (eC (.int 1)))))) (sRet (eOp2 addD (eVar 6) (eOp2 mulD (eLst (aCons (eVar 5) aNil)) (eOp2 subD (eVar 3) (eOp1 lenD (eVar 6)))))))))
def f__law_heads_of_form : FnS := mkFn [.bw, .bw, .bw, .bw] 4 b__law_heads_of_form
/-! _law_most: 0 box, 1 n -/
def b__law_most : SM :=
  (sSeq (sIf (tVal (eOp2 eqD (eCall f__law_take [.mt 0, .bw (eC (.int 8))]) (eC (.int 5)))) (sRet (eOp2 ixD (eLst (aCons (eC (.int 0)) (aCons (eC (.int 0)) (aCons (eC (.int 0)) (aCons (eC (.int 40)) (aCons (eC (.int 20)) (aCons (eC (.int 10)) (aCons (eC (.int 4)) (aCons (eC (.int 3)) (aCons (eC (.int 3)) aNil)))))))))) (eVar 1))) sNil) (sRet (eOp2 ixD (eLst (aCons (eC (.int 0)) (aCons (eC (.int 0)) (aCons (eC (.int 0)) (aCons (eC (.int 6)) (aCons (eC (.int 5)) (aCons (eC (.int 3)) (aCons (eC (.int 2)) (aCons (eC (.int 2)) (aCons (eC (.int 2)) aNil)))))))))) (eVar 1))))
def f__law_most : FnS := mkFn [.mt, .bw] 0 b__law_most
/-! _law_form_of_heads: 0 n, 1 lowest, 2 heads, 3 many, 4 head, 5 row, 6 top, 7 k -/
def l__law_form_of_heads_1 : SM :=
  (sSeq (sIf (tOr (tVal (eOp2 eqD (eVar 0) (eC (.int 1)))) (tVal (eOp2 neD (eOp1 lenD (eCall f__law_starts [.bw (eVar 4)])) (eOp2 subD (eVar 0) (eC (.int 1)))))) sBk sNil) (sUnp (gNm 3) (eOp2 addD (eVar 3) (eC (.int 1)))))
def l__law_form_of_heads_2 : SM :=
  (sSeq (sIf (tVal (eOp2 neD (eOp1 lenD (eCall f__law_starts [.bw (eOp2 ixD (eVar 5) (eOp2 subD (eOp2 subD (eOp1 lenD (eVar 5)) (eC (.int 1))) (eVar 7)))])) (eC (.int 0)))) sBk sNil) (sUnp (gNm 6) (eOp2 subD (eVar 6) (eC (.int 1)))))
def b__law_form_of_heads : SM :=
  (sSeq (sUnp (gNm 3) (eC (.int 0))) (sSeq (sFor [4] (gNm 4) (itSeq (eVar 2)) l__law_form_of_heads_1) (sSeq (sUnp (gNm 5) (eSl slD (eVar 2) (oSo (eVar 3)) oNo)) (sSeq (sUnp (gNm 6) (eOp1 lenD (eVar 5))) (sSeq (sFor [7] (gNm 7) (itR1 (eOp1 lenD (eVar 5))) l__law_form_of_heads_2) (sRet (eTup (aCons (eOp2 addD (eVar 1) (eVar 3)) (aCons (eOp1 tupleD (eSl slD (eVar 5) oNo (oSo (eVar 6)))) aNil)))))))))
def f__law_form_of_heads : FnS := mkFn [.bw, .bw, .bw] 5 b__law_form_of_heads
/-! _law_form_holds: 0 n, 1 value, 2 allowed, 3 factor, 4 begins, 5 letter -/
def l__law_form_holds_2 : SM :=
  (sIf (tVal (eOp2 notInD (eVar 5) (eVar 2))) (sRet (eC (.bool false))) sNil)
def l__law_form_holds_1 : SM :=
  (sSeq (sIf (tNot (tTru (eCall f__law_perm_holds [.bw (eVar 0), .bw (eVar 3)]))) (sRet (eC (.bool false))) sNil) (sSeq (sUnp (gNm 4) (eCall f__law_starts [.bw (eVar 3)])) (sSeq (sIf (tOr (tVal (eOp2 eqD (eOp1 lenD (eVar 4)) (eC (.int 0)))) (tVal (eOp2 eqD (eOp1 lenD (eVar 4)) (eOp2 subD (eVar 0) (eC (.int 1)))))) (sRet (eC (.bool false))) sNil) (sSeq (sFor [5] (gNm 5) (itSeq (eVar 4)) l__law_form_holds_2) (sUnp (gNm 2) (eCall f__law_starts [.bw (eCall f__law_inverse [.bw (eVar 3)])]))))))
def b__law_form_holds : SM :=
  (sSeq (sIf (tOr (tNot (tTru (eOp1 (isiD .tuple) (eVar 1)))) (tVal (eOp2 neD (eOp1 lenD (eVar 1)) (eC (.int 2))))) (sRet (eC (.bool false))) sNil) (sSeq (sIf (tOr (tNot (tTru (eCall f__law_is_integer [.bw (eOp2 ixD (eVar 1) (eC (.int 0)))]))) (tNot (tTru (eOp1 (isiD .tuple) (eOp2 ixD (eVar 1) (eC (.int 1))))))) (sRet (eC (.bool false))) sNil) (sSeq (sIf (tVal (eOp2 eqD (eVar 0) (eC (.int 1)))) (sRet (eAnd (eOp2 eqD (eOp2 ixD (eVar 1) (eC (.int 0))) (eC (.int 0))) (eOp2 eqD (eOp1 lenD (eOp2 ixD (eVar 1) (eC (.int 1)))) (eC (.int 0))))) sNil) (sSeq (sUnp (gNm 2) (eRgL (itR2 (eC (.int 1)) (eVar 0)))) (sSeq (sFor [3, 4, 5] (gNm 3) (itSeq (eOp2 ixD (eVar 1) (eC (.int 1)))) l__law_form_holds_1) (sRet (eC (.bool true))))))))
def f__law_form_holds : FnS := mkFn [.bw, .bw] 4 b__law_form_holds
/-! _law_front_holds: 0 n, 1 shape, 2 found, 3 heads -/
def b__law_front_holds : SM :=
  (sSeq (sIf (tOr (tVal (eOp2 eqD (eVar 3) (eLst aNil))) (tNot (tTru (eCall f__law_form_holds [.bw (eVar 0), .bw (eVar 2)])))) (sRet (eC (.bool false))) sNil) (sSeq (sIf (tVal (eOp2 neD (eVar 2) (eCall f__law_form_of_heads [.bw (eVar 0), .bw (eOp2 ixD (eVar 1) (eC (.int 0))), .bw (eVar 3)]))) (sRet (eC (.bool false))) sNil) (sRet (eOp2 eqD (eCall f__law_heads_of_form [.bw (eVar 0), .bw (eOp2 ixD (eVar 1) (eC (.int 0))), .bw (eVar 2), .bw (eOp1 lenD (eVar 3))]) (eVar 3)))))
def f__law_front_holds : FnS := mkFn [.bw, .bw, .bw, .bw] 0 b__law_front_holds
/-! _law_staircase: 0 row, 1 line, 2 m, 3 many, 4 k -/
def l__law_staircase_2 : M RV :=
  (eVar 4)
def t__law_staircase_2 : M Bool :=
  (tVal (eOp2 gtD (eOp2 ixD (eVar 0) (eVar 4)) (eOp2 ixD (eVar 0) (eVar 2))))
def l__law_staircase_3 : M RV :=
  (eOp2 subD (eVar 2) (eVar 4))
def l__law_staircase_1 : SM :=
  (sSeq (sUnp (gNm 3) (eOp1 lenD (eLc [4] (gNm 4) (itR1 (eVar 2)) t__law_staircase_2 l__law_staircase_2))) (sAsg 1 (eOp2 addD (eVar 1) (eLc [4] (gNm 4) (itR1 (eVar 3)) tYes l__law_staircase_3))))
def b__law_staircase : SM :=
  (sSeq (sAsg 1 (eLst aNil)) (sSeq (sFor [2, 3, 4] (gNm 2) (itR2 (eC (.int 1)) (eOp1 lenD (eVar 0))) l__law_staircase_1) (sRet (eVar 1))))
def f__law_staircase : FnS := mkFn [.bw] 4 b__law_staircase
/-! _law_form_letters: 0 n, 1 shape, 2 half, 3 line, 4 factor, 5 k, 6 letter -/
def l__law_form_letters_1 : M RV :=
  (eOp2 subD (eVar 0) (eVar 5))
def l__law_form_letters_2 : M RV :=
  (eOp2 subD (eC (.int 0)) (eVar 6))
def l__law_form_letters_3 : SM :=
  (sAsg 3 (eOp2 addD (eVar 3) (eCall f__law_staircase [.bw (eVar 4)])))
def b__law_form_letters : SM :=
  (sSeq (sUnp (gNm 2) (eCall f__law_staircase [.bw (eLc [5] (gNm 5) (itR1 (eVar 0)) tYes l__law_form_letters_1)])) (sSeq (sAsg 3 (eOp2 mulD (eVar 2) (eOp2 maxD (eC (.int 0)) (eOp2 ixD (eVar 1) (eC (.int 0)))))) (sSeq (sIf (tVal (eOp2 ltD (eOp2 ixD (eVar 1) (eC (.int 0))) (eC (.int 0)))) (sAsg 3 (eOp2 mulD (eLc [6] (gNm 6) (itSeq (eOp1 revD (eVar 2))) tYes l__law_form_letters_2) (eOp2 subD (eC (.int 0)) (eOp2 ixD (eVar 1) (eC (.int 0)))))) sNil) (sSeq (sFor [4] (gNm 4) (itSeq (eOp2 ixD (eVar 1) (eC (.int 1)))) l__law_form_letters_3) (sRet (eVar 3))))))
def f__law_form_letters : FnS := mkFn [.bw, .bw] 5 b__law_form_letters
/-! _law_sign_sum: 0 line, 1 letter -/
def l__law_sign_sum_1 : M RV :=
  (eVar 1)
def t__law_sign_sum_1 : M Bool :=
  (tVal (eOp2 gtD (eVar 1) (eC (.int 0))))
def l__law_sign_sum_2 : M RV :=
  (eVar 1)
def t__law_sign_sum_2 : M Bool :=
  (tVal (eOp2 ltD (eVar 1) (eC (.int 0))))
def b__law_sign_sum : SM :=
  (sRet (eOp2 subD (eOp1 lenD (eLc [1] (gNm 1) (itSeq (eVar 0)) t__law_sign_sum_1 l__law_sign_sum_1)) (eOp1 lenD (eLc [1] (gNm 1) (itSeq (eVar 0)) t__law_sign_sum_2 l__law_sign_sum_2))))
def f__law_sign_sum : FnS := mkFn [.bw] 1 b__law_sign_sum
/-! _law_free: 0 first, 1 second, 2 gone, 3 k -/
def l__law_free_1 : SM :=
  (sSeq (sIf (tVal (eOp2 neD (eOp2 ixD (eVar 0) (eOp2 subD (eOp2 subD (eOp1 lenD (eVar 0)) (eC (.int 1))) (eVar 3))) (eOp2 subD (eC (.int 0)) (eOp2 ixD (eVar 1) (eVar 3))))) sBk sNil) (sUnp (gNm 2) (eOp2 addD (eVar 2) (eC (.int 1)))))
def b__law_free : SM :=
  (sSeq (sUnp (gNm 2) (eC (.int 0))) (sSeq (sFor [3] (gNm 3) (itR1 (eOp2 minD (eOp1 lenD (eVar 0)) (eOp1 lenD (eVar 1)))) l__law_free_1) (sRet (eOp2 addD (eSl slD (eVar 0) oNo (oSo (eOp2 subD (eOp1 lenD (eVar 0)) (eVar 2)))) (eSl slD (eVar 1) (oSo (eVar 2)) oNo)))))
def f__law_free : FnS := mkFn [.bw, .bw] 2 b__law_free
/-! _law_images: 0 n, 1 line, 2 row, 3 letter, 4 at, 5 left, 6 right, 7 k -/
def l__law_images_1 : M RV :=
  (eLst (aCons (eVar 7) aNil))
def l__law_images_3 : M RV :=
  (eOp2 subD (eC (.int 0)) (eVar 7))
def l__law_images_4 : M RV :=
  (eOp2 subD (eC (.int 0)) (eVar 7))
def l__law_images_2 : SM :=
  (sSeq (sUnp (gNm 4) (eOp2 subD (eOp1 absD (eVar 3)) (eC (.int 1)))) (sSeq (sUnp (gNm 5) (eOp2 ixD (eVar 2) (eVar 4))) (sSeq (sUnp (gNm 6) (eOp2 ixD (eVar 2) (eOp2 addD (eVar 4) (eC (.int 1))))) (sIf (tVal (eOp2 gtD (eVar 3) (eC (.int 0)))) (sSeq (sSet 2 (eVar 4) (eCall f__law_free [.bw (eCall f__law_free [.bw (eVar 5), .bw (eVar 6)]), .bw (eLc [7] (gNm 7) (itSeq (eOp1 revD (eVar 5))) tYes l__law_images_3)])) (sSet 2 (eOp2 addD (eVar 4) (eC (.int 1))) (eVar 5))) (sSeq (sSet 2 (eVar 4) (eVar 6)) (sSet 2 (eOp2 addD (eVar 4) (eC (.int 1))) (eCall f__law_free [.bw (eCall f__law_free [.bw (eLc [7] (gNm 7) (itSeq (eOp1 revD (eVar 6))) tYes l__law_images_4), .bw (eVar 5)]), .bw (eVar 6)])))))))
def b__law_images : SM :=
  (sSeq (sAsg 2 (eLc [7] (gNm 7) (itR2 (eC (.int 1)) (eOp2 addD (eVar 0) (eC (.int 1)))) tYes l__law_images_1)) (sSeq (sFor [3, 4, 5, 6, 7] (gNm 3) (itSeq (eVar 1)) l__law_images_2) (sRet (eVar 2))))
def f__law_images : FnS := mkFn [.bw, .bw] 6 b__law_images
/-! _law_letters_hold: 0 n, 1 perm, 2 shape, 3 found, 4 line, 5 row -/
def b__law_letters_hold : SM :=
  (sSeq (sUnp (gNm 4) (eOp2 addD (eCall f__law_staircase [.bw (eVar 1)]) (eCall f__law_form_letters [.bw (eVar 0), .bw (eVar 2)]))) (sSeq (sUnp (gNm 5) (eCall f__law_form_letters [.bw (eVar 0), .bw (eVar 3)])) (sSeq (sIf (tVal (eOp2 neD (eCall f__law_sign_sum [.bw (eVar 5)]) (eCall f__law_sign_sum [.bw (eVar 4)]))) (sRet (eC (.bool false))) sNil) (sSeq (sIf (tVal (eOp2 leD (eVar 0) (eC (.int 2)))) (sRet (eOp2 eqD (eVar 3) (eTup (aCons (eCall f__law_sign_sum [.bw (eVar 4)]) (aCons (eTup aNil) aNil))))) sNil) (sRet (eOr (eOp2 gtD (eOp1 lenD (eOp2 ixD (eVar 2) (eC (.int 1)))) (eC (.int 6))) (eOp2 eqD (eCall f__law_images [.bw (eVar 0), .bw (eVar 5)]) (eCall f__law_images [.bw (eVar 0), .bw (eVar 4)]))))))))
def f__law_letters_hold : FnS := mkFn [.bw, .bw, .bw, .bw] 2 b__law_letters_hold
/-! law: 0 script, 1 box, 2 n, 3 perm, 4 lowest, 5 near, 6 row, 7 shape, 8 heads, 9 found, 10 kept, 11 allowed, 12 far, 13 other, 14 other_heads, 15 other_found, 16 again -/
def b_law : SM :=
  (sSeq (sAsg 1 (eCall f__law_box [.sc 0, .bw (eC (.int 0))])) (sSeq (sUnp (gNm 2) (eCall f__law_strands [.mt 1])) (sSeq (sUnp (gNm 3) (eCall f__law_perm [.mt 1, .bw (eVar 2)])) (sSeq (sUnp (gNm 4) (eCall f__law_power [.mt 1, .bw (eVar 2)])) (sSeq (sAsg 5 (eCall f__law_box [.sc 0, .bw (eC (.int 1))])) (sSeq (sUnp (gNm 6) (eCall f__law_row [.mt 5, .bw (eVar 2), .bw (eCall f__law_most [.mt 5, .bw (eVar 2)]), .bw (eRgL (itR2 (eC (.int 1)) (eVar 2)))])) (sSeq (sUnp (gNm 7) (eTup (aCons (eVar 4) (aCons (eOp1 tupleD (eVar 6)) aNil)))) (sSeq (sUnp (gNm 8) (eCall f__law_heads [.bw (eVar 2), .fz (eVar 3), .bw (eVar 7)])) (sSeq (sUnp (gNm 9) (eCall f_put_in_front [.bw (eVar 2), .fz (eVar 3), .fz (eVar 7)])) (sSeq (sIf (tNot (tTru (eCall f__law_front_holds [.bw (eVar 2), .bw (eVar 7), .bw (eVar 9), .bw (eVar 8)]))) (sRet (eC (.bool false))) sNil) (sSeq (sIf (tNot (tTru (eCall f__law_letters_hold [.bw (eVar 2), .bw (eVar 3), .bw (eVar 7), .bw (eVar 9)]))) (sRet (eC (.bool false))) sNil) (sSeq (sUnp (gNm 10) (eCall f__law_take [.mt 1, .bw (eOp2 addD (eOp1 lenD (eVar 6)) (eC (.int 1)))])) (sSeq (sUnp (gNm 11) (eRgL (itR2 (eC (.int 1)) (eVar 2)))) (sSeq (sIf (tVal (eOp2 gtD (eVar 10) (eC (.int 0)))) (sUnp (gNm 11) (eCall f__law_starts [.bw (eCall f__law_inverse [.bw (eOp2 ixD (eVar 6) (eOp2 subD (eVar 10) (eC (.int 1))))])])) sNil) (sSeq (sAsg 12 (eCall f__law_box [.sc 0, .bw (eC (.int 2))])) (sSeq (sIf (tVal (eOp2 gtD (eVar 2) (eC (.int 1)))) (sUnp (gNm 4) (eOp2 addD (eVar 4) (eOp2 mulD (eC (.int 2)) (eOp2 subD (eCall f__law_take [.mt 12, .bw (eC (.int 7))]) (eC (.int 3)))))) sNil) (sSeq (sUnp (gNm 13) (eTup (aCons (eVar 4) (aCons (eOp1 tupleD (eOp2 addD (eSl slD (eVar 6) oNo (oSo (eVar 10))) (eCall f__law_row [.mt 12, .bw (eVar 2), .bw (eCall f__law_most [.mt 12, .bw (eVar 2)]), .bw (eVar 11)]))) aNil)))) (sSeq (sUnp (gNm 14) (eCall f__law_heads [.bw (eVar 2), .fz (eVar 3), .bw (eVar 13)])) (sSeq (sUnp (gNm 15) (eCall f_put_in_front [.bw (eVar 2), .fz (eVar 3), .fz (eVar 13)])) (sSeq (sIf (tNot (tTru (eCall f__law_front_holds [.bw (eVar 2), .bw (eVar 13), .bw (eVar 15), .bw (eVar 14)]))) (sRet (eC (.bool false))) sNil) (sSeq (sIf (tNot (tTru (eCall f__law_letters_hold [.bw (eVar 2), .bw (eVar 3), .bw (eVar 13), .bw (eVar 15)]))) (sRet (eC (.bool false))) sNil) (sSeq (sIf (tVal (eOp2 neD (eSl slD (eVar 14) oNo (oSo (eVar 10))) (eSl slD (eVar 8) oNo (oSo (eVar 10))))) (sRet (eC (.bool false))) sNil) (sSeq (sUnp (gNm 16) (eCall f__law_heads_of_form [.bw (eVar 2), .bw (eVar 4), .bw (eVar 15), .bw (eOp1 lenD (eVar 14))])) (sRet (eAnd (eOp2 eqD (eSl slD (eVar 16) oNo (oSo (eVar 10))) (eSl slD (eVar 8) oNo (oSo (eVar 10)))) (eOp2 eqD (eCall f_put_in_front [.bw (eVar 2), .fz (eVar 3), .fz (eVar 7)]) (eVar 9)))))))))))))))))))))))))))
def f_law : FnS := mkFn [.sc] 16 b_law
end K12
namespace GA
/-- a permutation of 0 .. n - 1, with its inverse -/
structure P (n : Nat) where
  f : Nat → Nat
  g : Nat → Nat
  fg : ∀ x, f (g x) = x
  gf : ∀ x, g (f x) = x
  on : ∀ x, n ≤ x → f x = x
variable {n : Nat}
theorem P.inj (p : P n) {x y : Nat} (h : p.f x = p.f y) : x = y := by rw [← p.gf x, ← p.gf y, h]
theorem P.ginj (p : P n) {x y : Nat} (h : p.g x = p.g y) : x = y := by rw [← p.fg x, ← p.fg y, h]
theorem P.ext {p q : P n} (h : ∀ x, p.f x = q.f x) : p = q := by
  have hf : p.f = q.f := funext h
  have hg : p.g = q.g := funext fun x => by
    apply p.inj
    rw [p.fg, h, q.fg]
  cases p; cases q
  simp only at hf hg
  subst hf hg
  rfl
theorem P.gon (p : P n) (x : Nat) (h : n ≤ x) : p.g x = x := by
  apply p.inj
  rw [p.fg, p.on x h]
theorem P.lt (p : P n) {x : Nat} (h : x < n) : p.f x < n := by
  rcases Nat.lt_or_ge (p.f x) n with z | z
  · exact z
  · have := p.on (p.f x) z
    have := p.inj this
    omega
theorem P.glt (p : P n) {x : Nat} (h : x < n) : p.g x < n := by
  rcases Nat.lt_or_ge (p.g x) n with z | z
  · exact z
  · have := p.gon (p.g x) z
    have := p.ginj this
    omega
def one : P n := ⟨id, id, fun _ => rfl, fun _ => rfl, fun _ _ => rfl⟩
/-- first p, then q -/
def mul (p q : P n) : P n := ⟨fun x => q.f (p.f x), fun x => p.g (q.g x), fun x => by rw [p.fg, q.fg], fun x => by rw [q.gf, p.gf], fun x h => by rw [p.on x h, q.on x h]⟩
def inv (p : P n) : P n := ⟨p.g, p.f, p.gf, p.fg, p.gon⟩
instance : Mul (P n) := ⟨mul⟩
@[simp] theorem mul_f (p q : P n) (x : Nat) : (p * q).f x = q.f (p.f x) := rfl
@[simp] theorem mul_g (p q : P n) (x : Nat) : (p * q).g x = p.g (q.g x) := rfl
@[simp] theorem inv_f (p : P n) (x : Nat) : (inv p).f x = p.g x := rfl
@[simp] theorem inv_g (p : P n) (x : Nat) : (inv p).g x = p.f x := rfl
@[simp] theorem one_f (x : Nat) : (one : P n).f x = x := rfl
@[simp] theorem one_g (x : Nat) : (one : P n).g x = x := rfl
theorem assoc (p q r : P n) : p * q * r = p * (q * r) := rfl
theorem one_mul (p : P n) : one * p = p := rfl
theorem mul_one (p : P n) : p * one = p := rfl
theorem inv_mul (p : P n) : inv p * p = one := P.ext fun x => p.fg x
theorem mul_inv (p : P n) : p * inv p = one := P.ext fun x => p.gf x
theorem inv_inv (p : P n) : inv (inv p) = p := rfl
theorem inv_prod (p q : P n) : inv (p * q) = inv q * inv p := rfl
theorem canc (p q : P n) : inv p * (p * q) = q := by rw [← assoc, inv_mul, one_mul]
theorem canc' (p q : P n) : p * (inv p * q) = q := by rw [← assoc, mul_inv, one_mul]
/-! ### inversions -/
def I (p : P n) (i j : Nat) : Prop := i < j ∧ p.f j < p.f i
theorem I.lt {p : P n} {i j : Nat} (h : I p i j) : j < n := by
  rcases Nat.lt_or_ge j n with z | z
  · exact z
  · have h1 := p.on j z
    have h2 := h.2
    rcases Nat.lt_or_ge i n with w | w
    · have := p.lt w
      omega
    · have := p.on i w
      have := h.1
      omega
theorem notI {p : P n} {i j : Nat} (h : i < j) (k : ¬ I p i j) : p.f i < p.f j := by
  have : p.f i ≠ p.f j := fun z => by have := p.inj z; omega
  unfold I at k
  omega
def le (u w : P n) : Prop := ∀ i j, I u i j → I w i j
theorem le_refl (u : P n) : le u u := fun _ _ h => h
theorem le_trans {u v w : P n} (h : le u v) (k : le v w) : le u w := fun i j z => k i j (h i j z)
/-- the lengths add -/
def Add (u v : P n) : Prop := le u (u * v)
theorem add_iff {u v : P n} : Add u v ↔ ∀ i j, I u i j → ¬ I v (u.f j) (u.f i) := by
  constructor
  · intro h i j k z
    have := (h i j k).2
    have := z.2
    simp only [mul_f] at *
    omega
  · intro h i j k
    refine ⟨k.1, ?_⟩
    have := h i j k
    show v.f (u.f j) < v.f (u.f i)
    exact notI k.2 this
theorem add_of_le {u w : P n} (h : le u w) : Add u (inv u * w) := by
  unfold Add
  rw [canc']
  exact h
theorem le_of_add {u v : P n} (h : Add u v) : le u (u * v) := h
theorem add3 {u v w : P n} (h : Add u v) (k : Add (u * v) w) : Add v w ∧ Add u (v * w) := by
  constructor
  · intro a b hab
    refine ⟨hab.1, ?_⟩
    have ea : u.f (u.g a) = a := u.fg a
    have eb : u.f (u.g b) = b := u.fg b
    rcases Nat.lt_trichotomy (u.g a) (u.g b) with z | z | z
    · have i1 : I (u * v) (u.g a) (u.g b) := ⟨z, by simp only [mul_f, ea, eb]; exact hab.2⟩
      have := (k _ _ i1).2
      simp only [mul_f, ea, eb] at this
      exact this
    · have := u.ginj z
      have := hab.1
      omega
    · have i1 : I u (u.g b) (u.g a) := ⟨z, by rw [ea, eb]; exact hab.1⟩
      have := (h _ _ i1).2
      simp only [mul_f, ea, eb] at this
      have := hab.2
      omega
  · exact le_trans h k
theorem add3' {u v w : P n} (h : Add v w) (k : Add u (v * w)) : Add u v ∧ Add (u * v) w := by
  have h1 : Add u v := fun i j hu => by
    have a := (k i j hu).2
    refine ⟨hu.1, ?_⟩
    rcases Nat.lt_trichotomy (v.f (u.f j)) (v.f (u.f i)) with z | z | z
    · exact z
    · have := v.inj z
      have := u.inj this
      have := hu.1
      omega
    · have := (h (u.f j) (u.f i) ⟨hu.2, z⟩).2
      simp only [mul_f] at *
      omega
  refine ⟨h1, fun i j hij => ?_⟩
  by_cases c : I u i j
  · exact k i j c
  · have z := notI hij.1 c
    have := (h (u.f i) (u.f j) ⟨z, hij.2⟩).2
    exact ⟨hij.1, this⟩
theorem le_mul_left {u v w : P n} (h : Add u w) (k : le v w) : Add u v ∧ le (u * v) (u * w) := by
  have a := add_of_le k
  have e : v * (inv v * w) = w := canc' v w
  have := add3' (u := u) a (by rw [e]; exact h)
  refine ⟨this.1, ?_⟩
  have b := this.2
  unfold Add at b
  rwa [assoc, e] at b
/-! ### letters -/
def St (p : P n) (i : Nat) : Prop := p.f (i + 1) < p.f i
theorem st_I {p : P n} {i : Nat} : St p i ↔ I p i (i + 1) := ⟨fun h => ⟨by omega, h⟩, fun h => h.2⟩
theorem St.lt {p : P n} {i : Nat} (h : St p i) : i + 1 < n := (st_I.mp h).lt
def swf (i x : Nat) : Nat := if x = i then i + 1 else if x = i + 1 then i else x
theorem swf_swf (i x : Nat) : swf i (swf i x) = x := by unfold swf; split <;> split <;> (try split) <;> omega
def s (i : Nat) (h : i + 1 < n) : P n := ⟨swf i, swf i, swf_swf i, swf_swf i, fun x hx => by unfold swf; split <;> (try split) <;> omega⟩
theorem s_f (i : Nat) (h : i + 1 < n) (x : Nat) : (s i h : P n).f x = swf i x := rfl
theorem s_inv (i : Nat) (h : i + 1 < n) : inv (s i h : P n) = s i h := rfl
theorem s_s (i : Nat) (h : i + 1 < n) : (s i h : P n) * s i h = one := P.ext fun x => swf_swf i x
theorem swf1 (i : Nat) : swf i i = i + 1 := if_pos rfl
theorem swf2 (i : Nat) : swf i (i + 1) = i := by unfold swf; rw [if_neg (by omega), if_pos rfl]
theorem swf3 {i x : Nat} (h : x ≠ i) (k : x ≠ i + 1) : swf i x = x := by unfold swf; rw [if_neg h, if_neg k]
theorem s_I {i : Nat} {h : i + 1 < n} {a b : Nat} : I (s i h : P n) a b ↔ a = i ∧ b = i + 1 := by
  unfold I
  rw [s_f, s_f]
  unfold swf
  constructor
  · intro ⟨x, y⟩
    split at y <;> split at y <;> (try split at y) <;> (try split at y) <;> omega
  · rintro ⟨rfl, rfl⟩
    simp
theorem s_le {p : P n} {i : Nat} {h : i + 1 < n} : le (s i h) p ↔ St p i := by
  constructor
  · intro k
    exact st_I.mpr (k i (i + 1) (s_I.mpr ⟨rfl, rfl⟩))
  · intro k a b hab
    obtain ⟨rfl, rfl⟩ := s_I.mp hab
    exact st_I.mp k
theorem s_add {p : P n} {i : Nat} {h : i + 1 < n} : Add (s i h) p ↔ ¬ St p i := by
  rw [add_iff]
  constructor
  · intro k z
    have := k i (i + 1) (s_I.mpr ⟨rfl, rfl⟩)
    rw [s_f, s_f, swf1, swf2] at this
    exact this (st_I.mp z)
  · intro k a b hab
    obtain ⟨rfl, rfl⟩ := s_I.mp hab
    rw [s_f, s_f, swf1, swf2]
    exact fun z => k (st_I.mpr z)
/-- a letter behind -/
def Fi (p : P n) (i : Nat) : Prop := St (inv p) i
theorem add_s {p : P n} {i : Nat} {h : i + 1 < n} : Add p (s i h) ↔ ¬ Fi p i := by
  rw [add_iff]
  constructor
  · intro k z
    have z' : p.g (i + 1) < p.g i := z
    exact k (p.g (i + 1)) (p.g i) ⟨z', by rw [p.fg, p.fg]; omega⟩ (by rw [p.fg, p.fg]; exact s_I.mpr ⟨rfl, rfl⟩)
  · intro k a b hab z
    obtain ⟨e1, e2⟩ := s_I.mp z
    apply k
    show p.g (i + 1) < p.g i
    rw [← e2, p.gf, ← e1, p.gf]
    exact hab.1
theorem mono_one {p : P n} (h : ∀ i, ¬ St p i) : p = one := by
  have m : ∀ i, p.f i < p.f (i + 1) := fun i => notI (by omega) fun z => h i (st_I.mpr z)
  have m2 : ∀ d i, p.f i < p.f (i + d + 1) := fun d => by
    induction d with
    | zero => exact m
    | succ d ih => intro i; exact Nat.lt_trans (ih i) (m (i + d + 1))
  have m3 : ∀ i j, i < j → p.f i < p.f j := fun i j hij => by
    have := m2 (j - i - 1) i
    rwa [show i + (j - i - 1) + 1 = j by omega] at this
  have up : ∀ i, i ≤ p.f i := fun i => by
    induction i with
    | zero => omega
    | succ i ih => have := m i; omega
  have gm : ∀ i j, i < j → p.g i < p.g j := fun i j hij => by
    rcases Nat.lt_trichotomy (p.g i) (p.g j) with z | z | z
    · exact z
    · have := p.ginj z; omega
    · have := m3 _ _ z
      rw [p.fg, p.fg] at this
      omega
  have gup : ∀ i, i ≤ p.g i := fun i => by
    induction i with
    | zero => omega
    | succ i ih => have := gm i (i + 1) (by omega); omega
  apply P.ext
  intro x
  have a := up x
  have b := gup (p.f x)
  rw [p.gf] at b
  show p.f x = x
  omega
theorem antisymm {u w : P n} (h : le u w) (k : le w u) : u = w := by
  have a := add_of_le h
  have e : inv u * w = one := by
    apply mono_one
    intro i z
    have hz := z
    unfold St at z
    simp only [mul_f, inv_f] at z
    rcases Nat.lt_trichotomy (u.g i) (u.g (i + 1)) with q | q | q
    · have i1 : I w (u.g i) (u.g (i + 1)) := ⟨q, z⟩
      have := (k _ _ i1).2
      rw [u.fg, u.fg] at this
      omega
    · have := u.ginj q; omega
    · have i1 : I u (u.g (i + 1)) (u.g i) := ⟨q, by rw [u.fg, u.fg]; omega⟩
      have := (h _ _ i1).2
      omega
  have := canc' u w
  rw [e, mul_one] at this
  exact this
/-! ### common divisors that no letter makes greater -/
structure LM (m u w : P n) : Prop where
  l : le m u
  r : le m w
  no : ∀ i, ¬ (St (inv m * u) i ∧ St (inv m * w) i)
/-- chains of inversions of one of two -/
inductive J (u w : P n) : Nat → Nat → Prop
  | l {i j} : I u i j → J u w i j
  | r {i j} : I w i j → J u w i j
  | t {i j k} : J u w i j → J u w j k → J u w i k
theorem J.lt {u w : P n} {i j : Nat} (h : J u w i j) : i < j := by
  induction h with
  | l h => exact h.1
  | r h => exact h.1
  | t _ _ a b => omega
theorem I.trans {p : P n} {i j k : Nat} (h : I p i j) (g : I p j k) : I p i k := ⟨by have := h.1; have := g.1; omega, by have := h.2; have := g.2; omega⟩
theorem J.sub {u w v : P n} (h : le u v) (k : le w v) {i j : Nat} (z : J u w i j) : I v i j := by
  induction z with
  | l z => exact h _ _ z
  | r z => exact k _ _ z
  | t _ _ a b => exact a.trans b
theorem I.co {p : P n} {i j k : Nat} (h : I p i k) (a : i < j) (b : j < k) : I p i j ∨ I p j k := by
  by_cases c : I p i j
  · exact .inl c
  · have := notI a c
    have := h.2
    exact .inr ⟨b, by omega⟩
theorem J.co {u w : P n} {i k : Nat} (h : J u w i k) : ∀ j, i < j → j < k → J u w i j ∨ J u w j k := by
  induction h with
  | l h =>
    intro j a b
    rcases h.co a b with z | z
    · exact .inl (.l z)
    · exact .inr (.l z)
  | r h =>
    intro j a b
    rcases h.co a b with z | z
    · exact .inl (.r z)
    · exact .inr (.r z)
  | t p q hp hq =>
    rename_i x y z
    intro j a b
    rcases Nat.lt_trichotomy j y with c | c | c
    · rcases hp j a c with w | w
      · exact .inl w
      · exact .inr (.t w q)
    · subst c; exact .inl p
    · rcases hq j c b with w | w
      · exact .inl (.t p w)
      · exact .inr w
/-- such a divisor is the greatest -/
theorem LM.great {m u w d : P n} (h : LM m u w) (h1 : le d u) (h2 : le d w) : le d m := by
  have main : ∀ D k l, J d m k l → ¬ I m k l → m.f l - m.f k = D → False := by
    intro D
    induction D using Nat.strongRecOn with
    | _ D ih =>
      intro k l hJ hn hD
      have kl := hJ.lt
      have ml := notI kl hn
      by_cases adj : m.f l = m.f k + 1
      · have iu := hJ.sub h1 h.l
        have iw := hJ.sub h2 h.r
        refine h.no (m.f k) ⟨?_, ?_⟩
        · show u.f (m.g (m.f k + 1)) < u.f (m.g (m.f k))
          rw [← adj, m.gf, m.gf]
          exact iu.2
        · show w.f (m.g (m.f k + 1)) < w.f (m.g (m.f k))
          rw [← adj, m.gf, m.gf]
          exact iw.2
      · obtain ⟨c, hc⟩ : ∃ c, m.f c = m.f k + 1 := ⟨m.g (m.f k + 1), m.fg _⟩
        have ck : c ≠ k := fun z => by rw [z] at hc; omega
        have cl : c ≠ l := fun z => by rw [z] at hc; omega
        rcases Nat.lt_trichotomy c k with z | z | z
        · have : J d m c k := .r ⟨z, by omega⟩
          refine ih (m.f l - m.f c) (by omega) c l (.t this hJ) (fun q => by have := q.2; omega) rfl
        · exact ck z
        · rcases Nat.lt_trichotomy c l with y | y | y
          · rcases hJ.co c z y with q | q
            · exact ih (m.f c - m.f k) (by omega) k c q (fun q => by have := q.2; omega) rfl
            · exact ih (m.f l - m.f c) (by omega) c l q (fun q => by have := q.2; omega) rfl
          · exact cl y
          · have : J d m l c := .r ⟨y, by omega⟩
            exact ih (m.f c - m.f k) (by omega) k c (.t hJ this) (fun q => by have := q.2; omega) rfl
  intro i j hij
  exact Classical.byContradiction fun c => main _ i j (.l hij) c rfl
theorem LM.uniq {m m' u w : P n} (h : LM m u w) (k : LM m' u w) : m = m' := antisymm (k.great h.l h.r) (h.great k.l k.r)
/-! ### there is one -/
def S : Nat → (Nat → Nat) → Nat
  | 0, _ => 0
  | k + 1, h => S k h + h k
theorem S_congr : ∀ (k : Nat) (h h' : Nat → Nat), (∀ x, x < k → h x = h' x) → S k h = S k h'
  | 0, _, _, _ => rfl
  | k + 1, h, h', e => by
    show S k h + h k = S k h' + h' k
    rw [S_congr k h h' fun x hx => e x (by omega), e k (by omega)]
theorem S_two (i : Nat) (h h' : Nat → Nat) (e : ∀ x, x ≠ i → x ≠ i + 1 → h x = h' x) : ∀ k, i + 1 < k → S k h + h' i + h' (i + 1) = S k h' + h i + h (i + 1)
  | 0, hk => by omega
  | k + 1, hk => by
    show S k h + h k + h' i + h' (i + 1) = S k h' + h' k + h i + h (i + 1)
    rcases Nat.lt_or_ge (i + 1) k with z | z
    · have := S_two i h h' e k z
      rw [e k (by omega) (by omega)]
      omega
    · have hk' : k = i + 1 := by omega
      subst hk'
      show S i h + h i + h (i + 1) + h' i + h' (i + 1) = S i h' + h' i + h' (i + 1) + h i + h (i + 1)
      rw [S_congr i h h' fun x hx => e x (by omega) (by omega)]
      omega
theorem S_le (B : Nat) (h : Nat → Nat) : ∀ k, (∀ x, x < k → h x ≤ B) → S k h ≤ k * B
  | 0, _ => by simp [S]
  | k + 1, e => by
    have := S_le B h k fun x hx => e x (by omega)
    have := e k (by omega)
    show S k h + h k ≤ (k + 1) * B
    rw [Nat.add_mul]
    omega
/-- how far it is still to go -/
def far (p : P n) : Nat := n * (n * n) - S n fun x => x * p.f x
theorem far_lt {p : P n} {i : Nat} (h : St p i) : far (s i h.lt * p) < far p := by
  have hi := h.lt
  have st := S_two i (fun x => x * (s i h.lt * p).f x) (fun x => x * p.f x) (fun x a b => by
    show x * p.f (swf i x) = x * p.f x
    rw [swf3 a b]) n hi
  have e1 : (s i h.lt * p).f i = p.f (i + 1) := by show p.f (swf i i) = _; rw [swf1]
  have e2 : (s i h.lt * p).f (i + 1) = p.f i := by show p.f (swf i (i + 1)) = _; rw [swf2]
  simp only [e1, e2] at st
  have bd : S n (fun x => x * (s i h.lt * p).f x) ≤ n * (n * n) := S_le (n * n) _ n fun x hx => Nat.mul_le_mul (by omega) (by have := (s i h.lt * p).lt hx; omega)
  have hp : p.f (i + 1) < p.f i := h
  rw [Nat.add_mul, Nat.add_mul, Nat.one_mul, Nat.one_mul] at st
  unfold far
  omega
theorem inv_s_mul (i : Nat) (h : i + 1 < n) (m u : P n) : inv (s i h * m) * u = inv m * (s i h * u) := rfl
theorem ex_LM : ∀ (N : Nat) (u w : P n), far u ≤ N → ∃ m, LM m u w
  | N, u, w, hN => by
    by_cases c : ∃ i, St u i ∧ St w i
    · obtain ⟨i, h1, h2⟩ := c
      have fl := far_lt h1
      match N, hN with
      | 0, hN => omega
      | N + 1, hN =>
        obtain ⟨m, hm⟩ := ex_LM N (s i h1.lt * u) (s i h1.lt * w) (by omega)
        have key : ∀ v : P n, St v i → le m (s i h1.lt * v) → le (s i h1.lt * m) v := fun v hv hl => by
          have a : Add (s i h1.lt) (s i h1.lt * v) := by
            unfold Add
            rw [← assoc, s_s, one_mul]
            exact s_le.mpr hv
          have := (le_mul_left a hl).2
          rwa [← assoc, s_s, one_mul] at this
        refine ⟨s i h1.lt * m, key u h1 hm.l, key w h2 hm.r, fun j hj => hm.no j ?_⟩
        rwa [inv_s_mul, inv_s_mul] at hj
    · exact ⟨one, fun i j h => absurd h.2 (by simp; have := h.1; omega), fun i j h => absurd h.2 (by simp; have := h.1; omega), fun i hi => c ⟨i, hi⟩⟩
noncomputable def meet (u w : P n) : P n := Classical.choose (ex_LM (far u) u w (Nat.le_refl _))
theorem meet_LM (u w : P n) : LM (meet u w) u w := Classical.choose_spec (ex_LM (far u) u w (Nat.le_refl _))
theorem meet_is {m u w : P n} (h : LM m u w) : meet u w = m := (meet_LM u w).uniq h
end GA
namespace GA
variable {n : Nat}
/-! ### the half turn -/
def dlf (n x : Nat) : Nat := if x < n then n - 1 - x else x
theorem dlf_dlf (n x : Nat) : dlf n (dlf n x) = x := by
  unfold dlf
  by_cases h : x < n
  · rw [if_pos h, if_pos (by omega)]
    omega
  · rw [if_neg h, if_neg h]
def dl : P n := ⟨dlf n, dlf n, dlf_dlf n, dlf_dlf n, fun x h => by unfold dlf; rw [if_neg (by omega)]⟩
theorem dl_f (x : Nat) : (dl : P n).f x = dlf n x := rfl
theorem dl_inv : inv (dl : P n) = dl := rfl
theorem dl_dl : (dl : P n) * dl = one := P.ext fun x => dlf_dlf n x
theorem dlf_lt {x y : Nat} (hx : x < n) (hy : y < n) : dlf n y < dlf n x ↔ x < y := by
  unfold dlf
  rw [if_pos hx, if_pos hy]
  omega
theorem le_dl (u : P n) : le u dl := fun i j h => ⟨h.1, by
  have := h.lt
  rw [dl_f, dl_f, dlf_lt (by have := h.1; omega) this]
  exact h.1⟩
def C (p : P n) : P n := inv p * dl
theorem C_mul (p m : P n) : C (p * m) = inv m * C p := rfl
theorem le_C {p q : P n} : le q (C p) ↔ Add p q := by
  rw [add_iff]
  constructor
  · intro h i j hp hq
    have hl := hp.lt
    have := (h _ _ hq).2
    simp only [C, mul_f, inv_f, p.gf] at this
    rw [dl_f, dl_f, dlf_lt (by omega) (by have := hp.1; omega)] at this
    have := hp.1
    omega
  · intro h k l hq
    have hl := hq.lt
    refine ⟨hq.1, ?_⟩
    simp only [C, mul_f, inv_f]
    rw [dl_f, dl_f, dlf_lt (p.glt (by have := hq.1; omega)) (p.glt hl)]
    rcases Nat.lt_trichotomy (p.g k) (p.g l) with z | z | z
    · exact z
    · have := p.ginj z
      have := hq.1
      omega
    · have := h (p.g l) (p.g k) ⟨z, by rw [p.fg, p.fg]; exact hq.1⟩
      rw [p.fg, p.fg] at this
      exact absurd hq this
theorem st_C {p : P n} {i : Nat} (h : i + 1 < n) : St (C p) i ↔ ¬ Fi p i := by
  rw [← add_s (h := h), ← le_C, s_le]
/-! ### weighted pairs, slides -/
def Wt (a b : P n) : Prop := ∀ i, St b i → Fi a i
theorem wt_LM {a b : P n} : Wt a b ↔ LM one b (C a) := by
  have o : ∀ u : P n, le one u := fun u i j h => by have := h.1; have := h.2; simp at this; omega
  constructor
  · intro h
    exact ⟨o _, o _, fun i hi => (st_C hi.1.lt).mp hi.2 (h i hi.1)⟩
  · intro h i hi
    refine Classical.byContradiction fun c => h.no i ⟨hi, (st_C hi.lt).mpr c⟩
noncomputable def mt (a b : P n) : P n := meet b (C a)
noncomputable def hd (a b : P n) : P n := a * mt a b
noncomputable def rs (a b : P n) : P n := inv (mt a b) * b
theorem mt_LM (a b : P n) : LM (mt a b) b (C a) := meet_LM _ _
theorem hd_rs (a b : P n) : hd a b * rs a b = a * b := by unfold hd rs; rw [assoc, canc']
theorem add_mt (a b : P n) : Add a (mt a b) := le_C.mp (mt_LM a b).r
theorem mt_rs (a b : P n) : Add (mt a b) (rs a b) := add_of_le (mt_LM a b).l
theorem mt_mul (a b : P n) : mt a b * rs a b = b := canc' _ _
theorem wt_hd (a b : P n) : Wt (hd a b) (rs a b) := fun i hi => by
  refine Classical.byContradiction fun c => (mt_LM a b).no i ⟨hi, ?_⟩
  have := (st_C (p := hd a b) hi.lt).mpr c
  rwa [hd, C_mul] at this
theorem hd_w {a b : P n} (h : Wt a b) : mt a b = one := meet_is (wt_LM.mp h)
theorem hd_w1 {a b : P n} (h : Wt a b) : hd a b = a := by unfold hd; rw [hd_w h, mul_one]
theorem hd_w2 {a b : P n} (h : Wt a b) : rs a b = b := by unfold rs; rw [hd_w h]; rfl
/-! ### putting a permutation in front of a row without end -/
abbrev Str (n : Nat) := Nat → P n
noncomputable def stt (p : P n) (X : Str n) : Nat → P n
  | 0 => p
  | k + 1 => rs (stt p X k) (X k)
noncomputable def lam (p : P n) (X : Str n) : Str n := fun k => hd (stt p X k) (X k)
theorem step (p q a : P n) (h : Add p q) : hd p (hd q a) = hd (p * q) a ∧ rs (p * q) a = rs p (hd q a) * rs q a ∧ Add (rs p (hd q a)) (rs q a) := by
  obtain ⟨x, hx⟩ : ∃ x, x = mt (p * q) a := ⟨_, rfl⟩
  obtain ⟨y, hy⟩ : ∃ y, y = mt q a := ⟨_, rfl⟩
  have lx := mt_LM (p * q) a
  have ly := mt_LM q a
  rw [← hx] at lx
  rw [← hy] at ly
  have a1 : Add (p * q) x := le_C.mp lx.r
  obtain ⟨a2, a3⟩ := add3 h a1
  have a4 : Add q y := le_C.mp ly.r
  have xy : le x y := ly.great lx.l (le_C.mpr a2)
  have b1 : Add x (inv x * y) := add_of_le xy
  have b2 : Add y (inv y * a) := add_of_le ly.l
  have b3 : Add (inv x * y) (inv y * a) := (add3 (u := x) b1 (by rw [canc']; exact b2)).1
  have e1 : inv x * y * (inv y * a) = inv x * a := by rw [assoc, canc']
  have L : LM (q * x) (q * y) (C p) := by
    refine ⟨(le_mul_left a4 xy).2, le_C.mpr a3, fun i hi => lx.no i ⟨?_, ?_⟩⟩
    · have := hi.1
      rw [inv_prod, assoc, canc] at this
      have := s_le (h := this.lt).mpr this
      exact s_le.mp (le_trans this (by unfold Add at b3; rwa [e1] at b3))
    · exact hi.2
  have em : mt p (hd q a) = q * x := by
    unfold mt hd
    rw [← hy]
    exact meet_is L
  have eh : hd q a = q * y := by unfold hd; rw [← hy]
  have e2 : rs p (hd q a) = inv x * y := by
    unfold rs
    rw [em, eh, inv_prod, assoc, canc]
  have e3 : rs q a = inv y * a := by unfold rs; rw [← hy]
  refine ⟨?_, ?_, ?_⟩
  · show p * mt p (hd q a) = p * q * mt (p * q) a
    rw [em, ← hx, assoc]
  · rw [e2, e3, e1]
    unfold rs
    rw [← hx]
  · rw [e2, e3]
    exact b3
theorem lam_lam {p q : P n} (h : Add p q) (X : Str n) : lam p (lam q X) = lam (p * q) X := by
  have main : ∀ k, stt (p * q) X k = stt p (lam q X) k * stt q X k ∧ Add (stt p (lam q X) k) (stt q X k) := by
    intro k
    induction k with
    | zero => exact ⟨rfl, h⟩
    | succ k ih =>
      obtain ⟨_, s2, s3⟩ := step _ _ (X k) ih.2
      refine ⟨?_, s3⟩
      show rs (stt (p * q) X k) (X k) = _
      rw [ih.1, s2]
      rfl
  funext k
  show hd (stt p (lam q X) k) (lam q X k) = hd (stt (p * q) X k) (X k)
  rw [(main k).1, ← (step _ _ (X k) (main k).2).1]
  rfl
theorem one_hd (a : P n) : mt one a = a := meet_is ⟨le_refl a, le_dl a, fun i hi => by
  have := hi.1
  rw [inv_mul] at this
  unfold St at this
  simp at this
  omega⟩
theorem lam_one (X : Str n) : lam one X = X := by
  have main : ∀ k, stt one X k = one := by
    intro k
    induction k with
    | zero => rfl
    | succ k ih =>
      show rs (stt one X k) (X k) = one
      rw [ih]
      unfold rs
      rw [one_hd, inv_mul]
  funext k
  show hd (stt one X k) (X k) = X k
  rw [main]
  unfold hd
  rw [one_hd, one_mul]
def ones : Str n := fun _ => one
noncomputable def lamF (fs : List (P n)) : Str n := fs.foldr lam ones
theorem lamF_cons (a : P n) (fs : List (P n)) : lamF (a :: fs) = lam a (lamF fs) := rfl
theorem lamF_app (A B C' : List (P n)) (h : lamF B = lamF C') : lamF (A ++ B) = lamF (A ++ C') := by
  induction A with
  | nil => exact h
  | cons a A ih => rw [List.cons_append, List.cons_append, lamF_cons, lamF_cons, ih]
/-- two factors whose lengths add are one -/
theorem lamF_mul (A B : List (P n)) {p q : P n} (h : Add p q) : lamF (A ++ p :: q :: B) = lamF (A ++ (p * q) :: B) := by
  apply lamF_app
  rw [lamF_cons, lamF_cons, lamF_cons, lam_lam h]
theorem lamF_slide (A B : List (P n)) (a b : P n) : lamF (A ++ a :: b :: B) = lamF (A ++ hd a b :: rs a b :: B) := by
  apply lamF_app
  rw [lamF_cons, lamF_cons, lamF_cons, lamF_cons]
  have := lam_lam (mt_rs a b) (lamF B)
  rw [mt_mul] at this
  rw [← this, lam_lam (add_mt a b)]
  rfl
theorem lamF_one (A B : List (P n)) : lamF (A ++ one :: B) = lamF (A ++ B) := by
  apply lamF_app
  rw [lamF_cons, lam_one]
/-! ### weighted rows -/
def WtL : List (P n) → Prop
  | a :: b :: R => Wt a b ∧ WtL (b :: R)
  | _ => True
def strm (R : List (P n)) : Str n := fun k => R.getD k one
theorem wt_one (a : P n) : Wt a one := fun i h => by
  unfold St at h
  simp at h
  omega
theorem strm_w : ∀ (R : List (P n)), WtL R → ∀ k, Wt (strm R k) (strm R (k + 1))
  | [], _, k => wt_one _
  | [a], _, k => by
    have : strm [a] (k + 1) = one := by simp [strm]
    rw [this]
    exact wt_one _
  | a :: b :: R, h, 0 => h.1
  | a :: b :: R, h, k + 1 => strm_w (b :: R) h.2 k
theorem lam_self (X : Str n) (h : ∀ k, Wt (X k) (X (k + 1))) : lam (X 0) (fun k => X (k + 1)) = X := by
  have main : ∀ k, stt (X 0) (fun k => X (k + 1)) k = X k := by
    intro k
    induction k with
    | zero => rfl
    | succ k ih =>
      show rs (stt (X 0) (fun k => X (k + 1)) k) (X (k + 1)) = _
      rw [ih, hd_w2 (h k)]
  funext k
  show hd (stt (X 0) (fun k => X (k + 1)) k) (X (k + 1)) = X k
  rw [main, hd_w1 (h k)]
theorem WtL.tl {a : P n} {R : List (P n)} (h : WtL (a :: R)) : WtL R := by
  cases R with
  | nil => trivial
  | cons b R => exact h.2
/-- a weighted row is its own normal form -/
theorem lamF_w : ∀ (R : List (P n)), WtL R → lamF R = strm R
  | [], _ => by funext k; simp [lamF, strm, ones]
  | a :: R, h => by
    rw [lamF_cons, lamF_w R h.tl]
    exact lam_self (strm (a :: R)) (strm_w _ h)
/-- the last factor is not the identity -/
def NoE (R : List (P n)) : Prop := R.getLast? ≠ some one
theorem strm_inj : ∀ (R R' : List (P n)), NoE R → NoE R' → strm R = strm R' → R = R'
  | [], [], _, _, _ => rfl
  | [], b :: R', _, h', e => by
    exfalso
    obtain ⟨c, hc⟩ : ∃ c, (b :: R').getLast? = some c := ⟨_, List.getLast?_eq_some_getLast (by simp)⟩
    have := congrFun e R'.length
    have e2 : strm (b :: R') R'.length = c := by
      rw [List.getLast?_eq_getElem?] at hc
      simp only [List.length_cons, Nat.add_sub_cancel] at hc
      show (b :: R').getD R'.length one = c
      rw [List.getD_eq_getElem?_getD, hc]
      rfl
    rw [e2] at this
    apply h'
    rw [hc, ← this]
    simp [strm]
  | a :: R, [], h, _, e => by
    exfalso
    obtain ⟨c, hc⟩ : ∃ c, (a :: R).getLast? = some c := ⟨_, List.getLast?_eq_some_getLast (by simp)⟩
    have := congrFun e R.length
    have e2 : strm (a :: R) R.length = c := by
      rw [List.getLast?_eq_getElem?] at hc
      simp only [List.length_cons, Nat.add_sub_cancel] at hc
      show (a :: R).getD R.length one = c
      rw [List.getD_eq_getElem?_getD, hc]
      rfl
    rw [e2] at this
    apply h
    rw [hc, this]
    simp [strm]
  | a :: R, b :: R', h, h', e => by
    have e0 : a = b := congrFun e 0
    have e1 : strm R = strm R' := funext fun k => congrFun e (k + 1)
    have nR : NoE R := fun z => h (by
      cases R with
      | nil => cases z
      | cons c R => rw [List.getLast?_cons_cons]; exact z)
    have nR' : NoE R' := fun z => h' (by
      cases R' with
      | nil => cases z
      | cons c R => rw [List.getLast?_cons_cons]; exact z)
    rw [e0, strm_inj R R' nR nR' e1]
/-- one row for one product -/
theorem row_uniq {R R' : List (P n)} (w : WtL R) (w' : WtL R') (h : NoE R) (h' : NoE R') (e : lamF R = lamF R') : R = R' := by
  rw [lamF_w R w, lamF_w R' w'] at e
  exact strm_inj R R' h h' e
/-! ### a factor pushed from behind -/
theorem add_inv {u v : P n} (h : Add u v) : Add (inv v) (inv u) := by
  rw [add_iff] at *
  intro k l hk hl
  have a : v.g l < v.g k := hk.2
  have b : u.g (v.g k) < u.g (v.g l) := hl.2
  refine h (u.g (v.g k)) (u.g (v.g l)) ⟨b, by rw [u.fg, u.fg]; exact a⟩ ?_
  rw [u.fg, u.fg]
  exact ⟨a, by rw [v.fg, v.fg]; exact hk.1⟩
theorem disc {Q : Nat → Prop} {a b : Nat} (h : a < b) (ha : Q a) (hb : ¬ Q b) : ∃ t, a ≤ t ∧ t < b ∧ Q t ∧ ¬ Q (t + 1) := by
  obtain ⟨d, rfl⟩ : ∃ d, b = a + 1 + d := ⟨b - a - 1, by omega⟩
  induction d with
  | zero => exact ⟨a, Nat.le_refl _, by omega, ha, hb⟩
  | succ d ih =>
    by_cases c : Q (a + 1 + d)
    · exact ⟨a + 1 + d, by omega, by omega, c, hb⟩
    · obtain ⟨t, t0, t1, t2, t3⟩ := ih (by omega) c
      exact ⟨t, t0, by omega, t2, t3⟩
theorem desc {X Z H : P n} {i : Nat} (hX : le X H) (hZ : le Z H) (hi : St H i) (nX : ¬ St X i) (nZ : ¬ St Z i) : ∃ t, ∃ h : t + 1 < n, Fi H t ∧ le X (H * s t h) ∧ le Z (H * s t h) := by
  have hl := hi.lt
  obtain ⟨t, t0, t1, t2, t3⟩ := disc (Q := fun t => i + 1 ≤ H.g t) (a := H.f (i + 1)) (b := H.f i) hi (by simp [H.gf]) (by simp [H.gf])
  have tn : t + 1 < n := by have := H.lt (x := i) (by omega); omega
  have ft : H.f (H.g t) = t := H.fg t
  have ft1 : H.f (H.g (t + 1)) = t + 1 := H.fg (t + 1)
  have main : ∀ X : P n, le X H → ¬ St X i → le X (H * s t tn) := by
    intro X hX nX a b hab
    have hH := hX a b hab
    refine ⟨hab.1, ?_⟩
    show swf t (H.f b) < swf t (H.f a)
    by_cases c : H.f b = t ∧ H.f a = t + 1
    · exfalso
      have eb : b = H.g t := by rw [← c.1, H.gf]
      have ea : a = H.g (t + 1) := by rw [← c.2, H.gf]
      have x1 : X.f (i + 1) ≤ X.f b := by
        rcases Nat.lt_or_ge (i + 1) b with z | z
        · have : ¬ I X (i + 1) b := fun q => by
            have := (hX _ _ q).2
            rw [c.1] at this
            omega
          exact Nat.le_of_lt (notI z this)
        · have : b = i + 1 := by omega
          rw [this]; exact Nat.le_refl _
      have x2 : X.f a ≤ X.f i := by
        rcases Nat.lt_or_ge a i with z | z
        · have : ¬ I X a i := fun q => by
            have := (hX _ _ q).2
            rw [c.2] at this
            omega
          exact Nat.le_of_lt (notI z this)
        · have : a = i := by omega
          rw [this]; exact Nat.le_refl _
      apply nX
      have := hab.2
      unfold St
      omega
    · have := hH.2
      unfold swf
      split <;> split <;> (try split) <;> (try split) <;> omega
  refine ⟨t, tn, ?_, main X hX nX, main Z hZ nZ⟩
  show H.g (t + 1) < H.g t
  omega
theorem fi_of {X H : P n} {t : Nat} {h : t + 1 < n} (hX : le X H) (hf : Fi H t) (hl : le X (H * s t h)) : Fi (inv X * H) t := by
  refine Classical.byContradiction fun c => ?_
  have a := add_s (h := h).mpr c
  have b := add_of_le hl
  have d := (add3' (u := X) a (by rw [← assoc] at b; exact b)).2
  rw [canc'] at d
  exact add_s.mp d hf
/-- the pair behind a slide stays weighted -/
theorem domino {a b x r : P n} (hab : Wt a b) (hx : Add b x) (hxr : Add x r) (hr : Wt (b * x) r) : Wt (rs a (b * x)) r := by
  intro i hi
  refine Classical.byContradiction fun c => ?_
  have hin := hi.lt
  have fH := hr i hi
  have nx : ¬ Fi x i := by
    have := add_iff.mp hxr
    intro z
    have z' : x.g (i + 1) < x.g i := z
    have := this (x.g (i + 1)) (x.g i) ⟨z', by rw [x.fg, x.fg]; omega⟩
    rw [x.fg, x.fg] at this
    exact this (st_I.mp hi)
  obtain ⟨y, hy⟩ : ∃ y, y = mt a (b * x) := ⟨_, rfl⟩
  have L := mt_LM a (b * x)
  rw [← hy] at L
  have ez : rs a (b * x) = inv y * (b * x) := by unfold rs; rw [← hy]
  rw [ez] at c
  have az : Add y (inv y * (b * x)) := add_of_le L.l
  have lX : le (inv x) (inv (b * x)) := by
    have := add_inv hx
    exact this
  have lZ : le (inv (inv y * (b * x))) (inv (b * x)) := by
    have := add_inv az
    unfold Add at this
    rwa [← inv_prod, canc'] at this
  obtain ⟨t, tn, f1, l1, l2⟩ := desc lX lZ fH nx c
  have g1 := fi_of lX f1 l1
  have g2 := fi_of lZ f1 l2
  have e1 : inv (inv x) * inv (b * x) = inv b := by
    show x * (inv x * inv b) = inv b
    exact canc' _ _
  have e2 : inv (inv (inv y * (b * x))) * inv (b * x) = inv y := by
    show inv y * (b * x) * inv (b * x) = inv y
    rw [assoc, mul_inv, mul_one]
  rw [e1] at g1
  rw [e2] at g2
  have sb : St b t := g1
  have sy : St y t := g2
  have sC : St (C a) t := s_le.mp (le_trans (s_le (h := tn).mpr sy) L.r)
  exact (st_C tn).mp sC (hab t sb)
/-- a row, and a factor that is to go into it: what is told while it goes -/
structure Pu (R : List (P n)) (p : P n) (A : List (P n)) (h : P n) (B : List (P n)) : Prop where
  pre : ∃ T, R = A ++ T ∧ (T = [] → h = p ∧ B = []) ∧ ∀ b T', T = b :: T' → ∃ x r B', h = b * x ∧ Add b x ∧ B = r :: B' ∧ Add x r ∧ Wt h r
  wB : WtL B
  eq : ∀ Z, lamF (A ++ h :: (B ++ Z)) = lamF (R ++ p :: Z)
theorem Pu.start (R : List (P n)) (p : P n) : Pu R p R p [] := ⟨⟨[], by simp, fun _ => ⟨rfl, rfl⟩, fun b T' z => nomatch z⟩, trivial, fun _ => rfl⟩
theorem WtL.app_r : ∀ {A B : List (P n)}, WtL (A ++ B) → WtL B
  | [], _, h => h
  | a :: A, B, h => WtL.app_r (A := A) h.tl
theorem WtL.two : ∀ {A B : List (P n)} {a b : P n}, WtL (A ++ a :: b :: B) → Wt a b
  | [], _, _, _, h => h.1
  | _ :: A, B, a, b, h => WtL.two (A := A) (B := B) h.tl
theorem Pu.slide {R : List (P n)} {p : P n} {A : List (P n)} {a h : P n} {B : List (P n)} (hR : WtL R) (u : Pu R p (A ++ [a]) h B) : Pu R p A (hd a h) (rs a h :: B) := by
  obtain ⟨T, eR, h0, h1⟩ := u.pre
  refine ⟨⟨a :: T, by rw [eR]; simp, fun z => (nomatch z), fun b T' z => ?_⟩, ?_, ?_⟩
  · obtain ⟨z1, z2⟩ := List.cons.inj z
    subst z1
    exact ⟨mt a h, rs a h, B, rfl, add_mt a h, rfl, mt_rs a h, wt_hd a h⟩
  · cases T with
    | nil =>
      obtain ⟨_, e⟩ := h0 rfl
      rw [e]
      trivial
    | cons b T' =>
      obtain ⟨x, r, B', e1, e2, e3, e4, e5⟩ := h1 b T' rfl
      have hab : Wt a b := by
        rw [eR, List.append_assoc] at hR
        exact WtL.two (A := A) (B := T') hR
      rw [e3]
      refine ⟨?_, by have := u.wB; rwa [e3] at this⟩
      rw [e1]
      rw [e1] at e5
      exact domino hab e2 e4 e5
  · intro Z
    have := u.eq Z
    rw [List.append_assoc] at this
    rw [← this]
    exact (lamF_slide A (B ++ Z) a h).symm
theorem WtL.glue : ∀ {A B : List (P n)} {h : P n}, WtL (A ++ [h]) → WtL (h :: B) → WtL (A ++ h :: B)
  | [], _, _, _, k => k
  | [a], _, _, g, k => ⟨g.1, k⟩
  | a :: b :: A, B, h, g, k => ⟨g.1, WtL.glue (A := b :: A) g.2 k⟩
theorem WtL.app_l : ∀ {A B : List (P n)}, WtL (A ++ B) → WtL A
  | [], _, _ => trivial
  | [_], _, _ => trivial
  | _ :: b :: A, B, h => ⟨h.1, WtL.app_l (A := b :: A) h.2⟩
theorem WtL.snoc : ∀ {A : List (P n)} {a h : P n}, WtL (A ++ [a]) → Wt a h → WtL (A ++ [a] ++ [h])
  | [], _, _, _, k => ⟨k, trivial⟩
  | [b], _, _, g, k => ⟨g.1, k, trivial⟩
  | b :: c :: A, _, _, g, k => ⟨g.1, WtL.snoc (A := c :: A) g.2 k⟩
theorem Pu.wtail {R : List (P n)} {p : P n} {A : List (P n)} {h : P n} {B : List (P n)} (u : Pu R p A h B) : WtL (h :: B) := by
  obtain ⟨T, eR, h0, h1⟩ := u.pre
  cases T with
  | nil =>
    obtain ⟨_, e⟩ := h0 rfl
    rw [e]
    trivial
  | cons b T' =>
    obtain ⟨x, r, B', e1, e2, e3, e4, e5⟩ := h1 b T' rfl
    rw [e3]
    exact ⟨e5, by have := u.wB; rwa [e3] at this⟩
/-- the end: at the front, or at a weighted pair -/
theorem Pu.done {R : List (P n)} {p : P n} {A : List (P n)} {h : P n} {B : List (P n)} (hR : WtL R) (u : Pu R p A h B) (e : A = [] ∨ ∃ A' a, A = A' ++ [a] ∧ Wt a h) : WtL (A ++ h :: B) := by
  have wt := u.wtail
  rcases e with rfl | ⟨A', a, rfl, w⟩
  · exact wt
  · obtain ⟨T, eR, _⟩ := u.pre
    rw [eR] at hR
    exact WtL.glue (WtL.snoc hR.app_l w) wt
end GA
namespace GA
variable {n : Nat}
/-! ### half turns in a row -/
def tau (p : P n) : P n := dl * p * dl
theorem tau_tau (p : P n) : tau (tau p) = p := by
  show dl * (dl * p * dl) * dl = p
  rw [← assoc, ← assoc, dl_dl, one_mul, assoc, dl_dl, mul_one]
theorem tau_dl : tau (dl : P n) = dl := by
  show dl * dl * dl = dl
  rw [dl_dl, one_mul]
theorem tau_mul (p q : P n) : tau (p * q) = tau p * tau q := by
  show dl * (p * q) * dl = dl * p * dl * (dl * q * dl)
  have : dl * p * dl * (dl * q * dl) = dl * p * (dl * dl) * q * dl := rfl
  rw [this, dl_dl, mul_one]
  rfl
def cons (p : P n) (X : Str n) : Str n
  | 0 => p
  | k + 1 => X k
theorem fi_dl {i : Nat} (h : i + 1 < n) : Fi (dl : P n) i := by
  show dlf n (i + 1) < dlf n i
  rw [dlf_lt (by omega) h]
  omega
theorem wt_dl (a : P n) : Wt dl a := fun i h => fi_dl h.lt
theorem lam_tau (p : P n) (X : Str n) : lam (tau p) (cons dl X) = cons dl (lam p X) := by
  have em : mt (tau p) dl = C (tau p) := meet_is ⟨le_dl _, le_refl _, fun i hi => by
    have := hi.2
    rw [inv_mul] at this
    unfold St at this
    simp at this
    omega⟩
  have e1 : hd (tau p) dl = dl := by
    unfold hd
    rw [em]
    exact canc' _ _
  have e2 : rs (tau p) dl = p := by
    unfold rs
    rw [em]
    have : inv (C (tau p)) * dl = tau (tau p) := rfl
    rw [this, tau_tau]
  have st : ∀ k, stt (tau p) (cons dl X) (k + 1) = stt p X k := by
    intro k
    induction k with
    | zero => exact e2
    | succ k ih =>
      show rs (stt (tau p) (cons dl X) (k + 1)) (X k) = rs (stt p X k) (X k)
      rw [ih]
  funext k
  cases k with
  | zero => exact e1
  | succ k =>
    show hd (stt (tau p) (cons dl X) (k + 1)) (X k) = hd (stt p X k) (X k)
    rw [st]
/-- each product has a weighted row -/
theorem ex_push (R : List (P n)) (hR : WtL R) (p : P n) : ∃ R', WtL R' ∧ ∀ Z, lamF (R' ++ Z) = lamF (R ++ p :: Z) := by
  have main : ∀ (k : Nat) (A : List (P n)) (h : P n) (B : List (P n)), A.length = k → Pu R p A h B → ∃ R', WtL R' ∧ ∀ Z, lamF (R' ++ Z) = lamF (R ++ p :: Z) := by
    intro k
    induction k with
    | zero =>
      intro A h B hk u
      have : A = [] := List.length_eq_zero_iff.mp hk
      exact ⟨A ++ h :: B, u.done hR (.inl this), fun Z => by rw [List.append_assoc]; exact u.eq Z⟩
    | succ k ih =>
      intro A h B hk u
      have hn : A ≠ [] := fun z => by rw [z] at hk; simp at hk
      have e := (List.dropLast_concat_getLast hn).symm
      obtain ⟨A', a, rfl⟩ : ∃ A' a, A = A' ++ [a] := ⟨_, _, e⟩
      exact ih A' _ _ (by simpa using hk) (u.slide hR)
  exact main R.length R p [] rfl (Pu.start R p)
theorem ex_row (fs : List (P n)) : ∃ R, WtL R ∧ lamF R = lamF fs := by
  have main : ∀ (gs R : List (P n)), WtL R → ∃ R', WtL R' ∧ lamF R' = lamF (R ++ gs) := by
    intro gs
    induction gs with
    | nil => intro R h; exact ⟨R, h, by simp⟩
    | cons p gs ih =>
      intro R h
      obtain ⟨R1, w1, e1⟩ := ex_push R h p
      obtain ⟨R2, w2, e2⟩ := ih R1 w1
      exact ⟨R2, w2, by rw [e2, e1]⟩
  simpa using main fs [] trivial
theorem lam_dl (fs : List (P n)) : lamF (dl :: fs) = cons dl (lamF fs) := by
  obtain ⟨R, w, e⟩ := ex_row fs
  have wd : WtL (dl :: R) := by
    cases R with
    | nil => trivial
    | cons a R => exact ⟨wt_dl a, w⟩
  rw [lamF_cons, ← e, ← lamF_cons, lamF_w _ wd, lamF_w _ w]
  funext k
  cases k <;> rfl
theorem lam_dls (A B : List (P n)) : lamF (A.map tau ++ dl :: B) = cons dl (lamF (A ++ B)) := by
  induction A with
  | nil => exact lam_dl B
  | cons a A ih => rw [List.map_cons, List.cons_append, lamF_cons, ih, lam_tau]; rfl
/-! ### the factors of a word -/
def tw (k : Nat) (p : P n) : P n := if k % 2 = 1 then tau p else p
theorem tw_succ (k : Nat) (p : P n) : tw (k + 1) p = tau (tw k p) := by
  unfold tw
  by_cases h : k % 2 = 1
  · rw [if_neg (by omega), if_pos h, tau_tau]
  · rw [if_pos (by omega), if_neg h]
theorem tw_mul (k : Nat) (p q : P n) : tw k (p * q) = tw k p * tw k q := by
  unfold tw
  split
  · exact tau_mul p q
  · rfl
theorem tw_dl (k : Nat) : tw k (dl : P n) = dl := by
  unfold tw
  split
  · exact tau_dl
  · rfl
/-- a letter's permutation; the identity for a number that is no letter -/
def sg (n i : Nat) : P n := if h : i + 1 < n then s i h else one
theorem sg_sg (i : Nat) : sg n i * sg n i = one := by
  unfold sg
  split
  · exact s_s _ _
  · rfl
def bs (n : Nat) (x : Int) : P n := if x < 0 then dl * sg n (x.natAbs - 1) else sg n (x.natAbs - 1)
def neg : List Int → Nat
  | [] => 0
  | x :: w => (if x < 0 then 1 else 0) + neg w
theorem neg_app (u v : List Int) : neg (u ++ v) = neg u + neg v := by
  induction u with
  | nil => simp [neg]
  | cons x u ih => simp only [List.cons_append, neg, ih]; omega
def Fc (n : Nat) : List Int → List (P n)
  | [] => []
  | x :: w => tw (neg w) (bs n x) :: Fc n w
/-- the factors of u, with k negative letters behind -/
def Fk (n k : Nat) : List Int → List (P n)
  | [] => []
  | x :: w => tw (neg w + k) (bs n x) :: Fk n k w
theorem Fc_app (u v : List Int) : Fc n (u ++ v) = Fk n (neg v) u ++ Fc n v := by
  induction u with
  | nil => rfl
  | cons x u ih => simp only [List.cons_append, Fc, Fk, ih, neg_app]
theorem Fk_succ (k : Nat) (u : List Int) : Fk n (k + 1) u = (Fk n k u).map tau := by
  induction u with
  | nil => rfl
  | cons x u ih =>
    simp only [Fk, List.map_cons, ih]
    rw [← Nat.add_assoc, tw_succ]
def dpre : Nat → Str n → Str n
  | 0, X => X
  | k + 1, X => cons dl (dpre k X)
theorem cons_inj {p : P n} {X Y : Str n} (h : cons p X = cons p Y) : X = Y := funext fun k => congrFun h (k + 1)
theorem dpre_inj {k : Nat} {X Y : Str n} (h : dpre k X = dpre k Y) : X = Y := by
  induction k with
  | zero => exact h
  | succ k ih => exact ih (cons_inj h)
theorem dpre_add (j k : Nat) (X : Str n) : dpre (j + k) X = dpre j (dpre k X) := by
  induction j with
  | zero => rw [Nat.zero_add]; rfl
  | succ j ih => rw [Nat.succ_add]; show cons dl _ = cons dl _; rw [ih]
/-- one braid, told by the rows -/
def Eq2 (n : Nat) (u v : List Int) : Prop := dpre (neg v) (lamF (Fc n u)) = dpre (neg u) (lamF (Fc n v))
theorem Eq2.refl (u : List Int) : Eq2 n u u := rfl
theorem Eq2.symm {u v : List Int} (h : Eq2 n u v) : Eq2 n v u := Eq.symm h
theorem Eq2.trans {u v w : List Int} (h : Eq2 n u v) (k : Eq2 n v w) : Eq2 n u w := by
  unfold Eq2 at *
  apply dpre_inj (k := neg v)
  rw [← dpre_add, Nat.add_comm, dpre_add, h, ← dpre_add, Nat.add_comm, dpre_add, k, ← dpre_add, ← dpre_add, Nat.add_comm]
/-- the relations of the braid group -/
inductive Br (n : Nat) : List Int → List Int → Prop
  | refl (u) : Br n u u
  | symm {u v} : Br n u v → Br n v u
  | trans {u v w} : Br n u v → Br n v w → Br n u w
  | canc (u v) (x : Int) (h : x ≠ 0 ∧ x.natAbs < n) : Br n (u ++ ([x, -x] ++ v)) (u ++ v)
  | far (u v) (i j : Nat) (hi : i + 1 < n) (hj : j + 1 < n) (h : i + 2 ≤ j) : Br n (u ++ ([(i : Int) + 1, (j : Int) + 1] ++ v)) (u ++ ([(j : Int) + 1, (i : Int) + 1] ++ v))
  | braid (u v) (i : Nat) (h : i + 2 < n) : Br n (u ++ ([(i : Int) + 1, (i : Int) + 2, (i : Int) + 1] ++ v)) (u ++ ([(i : Int) + 2, (i : Int) + 1, (i : Int) + 2] ++ v))
theorem bs_pos (i : Nat) (h : i + 1 < n) : bs n ((i : Int) + 1) = s i h := by
  unfold bs sg
  rw [if_neg (by omega), show (((i : Int) + 1).natAbs - 1) = i by omega, dif_pos h]
theorem add_tau {p q : P n} (h : Add p q) : Add (tau p) (tau q) := by
  rw [add_iff] at *
  intro i j hp hq
  have li := hp.lt
  have lq := hq.lt
  have e : ∀ x, (tau p).f x = dlf n (p.f (dlf n x)) := fun _ => rfl
  have eq' : ∀ x, (tau q).f x = dlf n (q.f (dlf n x)) := fun _ => rfl
  have hij := hp.1
  have dj : dlf n j < n := (dl : P n).lt li
  have di : dlf n i < n := (dl : P n).lt (by omega)
  have a : dlf n j < dlf n i := (dlf_lt (by omega) li).mpr hij
  have p2 := hp.2
  rw [e, e, dlf_lt (p.lt di) (p.lt dj)] at p2
  have q2 := hq.2
  rw [eq', eq', e, e, dlf_dlf, dlf_dlf, dlf_lt (q.lt (p.lt dj)) (q.lt (p.lt di))] at q2
  exact h (dlf n j) (dlf n i) ⟨a, p2⟩ ⟨p2, q2⟩
theorem add_tw {p q : P n} (k : Nat) (h : Add p q) : Add (tw k p) (tw k q) := by
  unfold tw
  split
  · exact add_tau h
  · exact h
theorem lamF_rep (A B : List (P n)) (fs gs : List (P n)) (h : lamF (fs ++ B) = lamF (gs ++ B)) : lamF (A ++ (fs ++ B)) = lamF (A ++ (gs ++ B)) := lamF_app _ _ _ h
theorem neg_pos {x : Int} (h : 0 < x) (w : List Int) : neg (x :: w) = neg w := by
  show (if x < 0 then 1 else 0) + neg w = neg w
  rw [if_neg (by omega)]
  omega
theorem Eq2.of {u v : List Int} (h : neg u = neg v) (e : lamF (Fc n u) = lamF (Fc n v)) : Eq2 n u v := by
  unfold Eq2
  rw [h, e]
theorem s_far (i j : Nat) (hi : i + 1 < n) (hj : j + 1 < n) (h : i + 2 ≤ j) : (s i hi : P n) * s j hj = s j hj * s i hi := P.ext fun x => by
  show swf j (swf i x) = swf i (swf j x)
  unfold swf
  (repeat' split) <;> omega
theorem s_bra (i : Nat) (h : i + 2 < n) : (s i (by omega) : P n) * s (i + 1) h * s i (by omega) = s (i + 1) h * s i (by omega) * s (i + 1) h := P.ext fun x => by
  show swf i (swf (i + 1) (swf i x)) = swf (i + 1) (swf i (swf (i + 1) x))
  unfold swf
  (repeat' split) <;> omega
theorem st_s {i j : Nat} (h : i + 1 < n) : St (s i h : P n) j ↔ j = i := by
  rw [st_I, s_I]
  omega
theorem add_far (i j : Nat) (hi : i + 1 < n) (hj : j + 1 < n) (h : i ≠ j) : Add (s i hi : P n) (s j hj) := s_add.mpr fun z => h ((st_s hj).mp z)
theorem add_bra (i : Nat) (h : i + 2 < n) : Add (s i (by omega) * s (i + 1) h : P n) (s i (by omega)) ∧ Add (s (i + 1) h * s i (by omega) : P n) (s (i + 1) h) := by
  constructor
  · rw [add_s]
    show ¬ swf i (swf (i + 1) (i + 1)) < swf i (swf (i + 1) i)
    rw [swf1, swf3 (x := i) (i := i + 1) (by omega) (by omega), swf1, swf3 (by omega) (by omega)]
    omega
  · rw [add_s]
    show ¬ swf (i + 1) (swf i (i + 1 + 1)) < swf (i + 1) (swf i (i + 1))
    rw [swf2, swf3 (x := i + 1 + 1) (i := i) (by omega) (by omega), swf2, swf3 (x := i) (by omega) (by omega)]
    omega
theorem Br.eq2 {u v : List Int} (h : Br n u v) : Eq2 n u v := by
  induction h with
  | refl u => exact Eq2.refl u
  | symm _ ih => exact ih.symm
  | trans _ _ a b => exact a.trans b
  | far u v i j hi hj h =>
    refine Eq2.of (by simp [neg_app, neg]; split <;> split <;> omega) ?_
    rw [Fc_app u, Fc_app u]
    have e1 : neg ([(i : Int) + 1, (j : Int) + 1] ++ v) = neg ([(j : Int) + 1, (i : Int) + 1] ++ v) := by simp [neg_app, neg]; split <;> split <;> omega
    rw [e1]
    apply lamF_app
    simp only [List.cons_append, List.nil_append, Fc]
    rw [neg_pos (x := (j : Int) + 1) (by omega), neg_pos (x := (i : Int) + 1) (by omega), bs_pos i hi, bs_pos j hj]
    have a := lamF_mul [] (Fc n v) (add_tw (neg v) (add_far i j hi hj (by omega)))
    have b := lamF_mul [] (Fc n v) (add_tw (neg v) (add_far j i hj hi (by omega)))
    rw [← tw_mul, List.nil_append, List.nil_append] at a b
    rw [a, b, s_far i j hi hj h]
  | braid u v i h =>
    refine Eq2.of (by simp [neg_app, neg]; split <;> split <;> omega) ?_
    rw [Fc_app u, Fc_app u]
    have e1 : neg ([(i : Int) + 1, (i : Int) + 2, (i : Int) + 1] ++ v) = neg ([(i : Int) + 2, (i : Int) + 1, (i : Int) + 2] ++ v) := by simp [neg_app, neg]; split <;> split <;> omega
    rw [e1]
    apply lamF_app
    simp only [List.cons_append, List.nil_append, Fc]
    have b2 : bs n ((i : Int) + 2) = s (i + 1) h := by
      have := bs_pos (n := n) (i + 1) h
      rwa [show (((i + 1 : Nat) : Int) + 1) = (i : Int) + 2 by omega] at this
    have n1 : ∀ w, neg (((i : Int) + 1) :: w) = neg w := fun w => neg_pos (by omega) w
    have n2 : ∀ w, neg (((i : Int) + 2) :: w) = neg w := fun w => neg_pos (by omega) w
    have b1' : bs n ((i : Int) + 1) = s i (by omega) := bs_pos i (by omega)
    simp only [n1, n2, b1', b2]
    have a1 := lamF_mul [] (tw (neg v) (s i (by omega)) :: Fc n v) (add_tw (neg v) (add_far i (i + 1) (by omega) h (by omega)))
    have b1 := lamF_mul [] (tw (neg v) (s (i + 1) h) :: Fc n v) (add_tw (neg v) (add_far (i + 1) i h (by omega) (by omega)))
    have a2 := lamF_mul [] (Fc n v) (add_tw (neg v) (add_bra i h).1)
    have b3 := lamF_mul [] (Fc n v) (add_tw (neg v) (add_bra i h).2)
    rw [← tw_mul, List.nil_append, List.nil_append] at a1 b1 a2 b3
    rw [a1, b1, a2, b3, s_bra i h]
  | canc u v x h =>
    unfold Eq2
    have key : ∃ k, neg ([x, -x] ++ v) = neg v + 1 ∧ lamF (Fc n ([x, -x] ++ v)) = lamF (dl :: Fc n v) ∧ k = 0 := by
      refine ⟨0, by simp [neg]; split <;> split <;> omega, ?_, rfl⟩
      obtain ⟨i, hi⟩ : ∃ i, i = x.natAbs - 1 := ⟨_, rfl⟩
      have hn : i + 1 < n := by omega
      have e3 : (-x).natAbs - 1 = i := by omega
      have sd : sg n i = s i hn := dif_pos hn
      show lamF (tw (neg (-x :: v)) (bs n x) :: tw (neg v) (bs n (-x)) :: Fc n v) = _
      by_cases c : x < 0
      · rw [neg_pos (by omega)]
        have e1 : bs n x = dl * s i hn := by unfold bs; rw [if_pos c, ← hi, sd]
        have e2 : bs n (-x) = s i hn := by unfold bs; rw [if_neg (by omega), e3, sd]
        have ad : Add (dl * s i hn : P n) (s i hn) := by
          rw [add_s]
          show ¬ dlf n (swf i (i + 1)) < dlf n (swf i i)
          rw [swf1, swf2, dlf_lt hn (by omega)]
          omega
        have := lamF_mul [] (Fc n v) (add_tw (neg v) ad)
        rw [← tw_mul, assoc, s_s, mul_one, tw_dl, List.nil_append, List.nil_append] at this
        rw [e1, e2, this]
      · have e0 : neg (-x :: v) = neg v + 1 := by
          show (if -x < 0 then 1 else 0) + neg v = neg v + 1
          rw [if_pos (by omega)]
          omega
        have e1 : bs n x = s i hn := by unfold bs; rw [if_neg c, ← hi, sd]
        have e2 : bs n (-x) = dl * s i hn := by unfold bs; rw [if_pos (by omega), e3, sd]
        have ad : Add (tau (s i hn) : P n) (dl * s i hn) := by
          have : (dl * s i hn : P n) = C (tau (s i hn)) := by
            show _ = inv (dl * s i hn * dl) * dl
            have : inv (dl * s i hn * dl) * dl = (dl * s i hn * (dl * dl) : P n) := rfl
            rw [this, dl_dl, mul_one]
          rw [this]
          exact le_C.mp (le_refl _)
        have := lamF_mul [] (Fc n v) (add_tw (neg v) ad)
        have e4 : (tau (s i hn) * (dl * s i hn) : P n) = dl := by
          have : (tau (s i hn) * (dl * s i hn) : P n) = dl * s i hn * (dl * dl) * s i hn := rfl
          rw [this, dl_dl, mul_one, assoc, s_s, mul_one]
        rw [← tw_mul, e4, tw_dl, List.nil_append, List.nil_append] at this
        have e5 : tw (neg v + 1) (s i hn : P n) = tw (neg v) (tau (s i hn)) := by
          rw [tw_succ]
          unfold tw
          split <;> rfl
        rw [e0, e1, e2, e5, this]
    obtain ⟨_, k1, k2, _⟩ := key
    rw [Fc_app u, Fc_app u, neg_app u, neg_app u, k1, Fk_succ, lamF_app _ _ _ k2, lam_dls, show neg u + (neg v + 1) = (neg u + neg v) + 1 by omega, show neg u + neg v + 1 = (neg u + neg v) + 1 by omega, dpre_add (neg u + neg v) 1]
    rfl
end GA
namespace GA
variable {n : Nat}
theorem Br.ctx {u v : List Int} (h : Br n u v) (a b : List Int) : Br n (a ++ (u ++ b)) (a ++ (v ++ b)) := by
  induction h with
  | refl u => exact .refl _
  | symm _ ih => exact .symm ih
  | trans _ _ p q => exact .trans p q
  | canc u v x h =>
    have := Br.canc (n := n) (a ++ u) (v ++ b) x h
    simpa using this
  | far u v i j hi hj h =>
    have := Br.far (n := n) (a ++ u) (v ++ b) i j hi hj h
    simpa using this
  | braid u v i h =>
    have := Br.braid (n := n) (a ++ u) (v ++ b) i h
    simpa using this
theorem Br.r {u v : List Int} (h : Br n u v) (b : List Int) : Br n (u ++ b) (v ++ b) := h.ctx [] b
theorem Br.l {u v : List Int} (a : List Int) (h : Br n u v) : Br n (a ++ u) (a ++ v) := by simpa using h.ctx a []
theorem Br.app {u v u' v' : List Int} (h : Br n u v) (k : Br n u' v') : Br n (u ++ u') (v ++ v') := (h.r u').trans (Br.l v k)
theorem Br.of {u v : List Int} (h : u = v) : Br n u v := h ▸ .refl _
/-! ### the word of a permutation -/
def cn (f : Nat → Nat) (m : Nat) : Nat := ((List.range m).filter fun k => decide (f m < f k)).length
def blk (m c : Nat) : List Int := (List.range c).map fun k => (m : Int) - (k : Nat)
def Wm (f : Nat → Nat) : Nat → List Int
  | 0 => []
  | m + 1 => Wm f m ++ blk m (cn f m)
def W (p : P n) : List Int := Wm p.f n
theorem blk_succ (m c : Nat) : blk m (c + 1) = blk m c ++ [(m : Int) - c] := by
  unfold blk
  rw [List.range_succ, List.map_append]
  rfl
theorem cn_le (f : Nat → Nat) (m : Nat) : cn f m ≤ m := by
  unfold cn
  have := List.length_filter_le (fun k => decide (f m < f k)) (List.range m)
  rwa [List.length_range] at this
theorem far_one {i j : Nat} (hi : i + 1 < n) (hj : j + 1 < n) (h : i + 2 ≤ j) : Br n [(j : Int) + 1, (i : Int) + 1] [(i : Int) + 1, (j : Int) + 1] := by
  simpa using (Br.far (n := n) [] [] i j hi hj h).symm
theorem bra_one {i : Nat} (h : i + 2 < n) : Br n [(i : Int) + 2, (i : Int) + 1, (i : Int) + 2] [(i : Int) + 1, (i : Int) + 2, (i : Int) + 1] := by
  simpa using (Br.braid (n := n) [] [] i h).symm
theorem chain_far (m x : Nat) (hm : m < n) (hx : 1 ≤ x) : ∀ c, x + 1 + c ≤ m → Br n (blk m c ++ [(x : Int)]) ([(x : Int)] ++ blk m c)
  | 0, _ => .of (by simp [blk])
  | c + 1, h => by
    rw [blk_succ, List.append_assoc]
    have f := far_one (n := n) (i := x - 1) (j := m - c - 1) (by omega) (by omega) (by omega)
    rw [show ((m - c - 1 : Nat) : Int) + 1 = (m : Int) - c by omega, show ((x - 1 : Nat) : Int) + 1 = (x : Int) by omega] at f
    have ih := chain_far m x hm hx c (by omega)
    have a := Br.l (blk m c) f
    have b := ih.r [(m : Int) - c]
    refine a.trans ?_
    have : blk m c ++ [(x : Int), (m : Int) - c] = blk m c ++ [(x : Int)] ++ [(m : Int) - c] := by simp
    rw [this, ← List.append_assoc]
    exact b
theorem chain_in (m y : Nat) (hm : m < n) (hy : 1 ≤ y) (hym : y + 1 ≤ m) : ∀ c, m + 1 ≤ y + c → c ≤ m → Br n (blk m c ++ [(y : Int) + 1]) ([(y : Int)] ++ blk m c)
  | 0, h, _ => by omega
  | c + 1, h, hc => by
    by_cases e : m + 1 ≤ y + c
    · rw [blk_succ, List.append_assoc]
      have f := (far_one (n := n) (i := m - c - 1) (j := y) (by omega) (by omega) (by omega)).symm
      rw [show ((m - c - 1 : Nat) : Int) + 1 = (m : Int) - c by omega] at f
      have ih := chain_in m y hm hy hym c e (by omega)
      refine (Br.l (blk m c) f).trans ?_
      have : blk m c ++ [(y : Int) + 1, (m : Int) - c] = blk m c ++ [(y : Int) + 1] ++ [(m : Int) - c] := by simp
      rw [this, ← List.append_assoc]
      exact ih.r _
    · have ey : y + c = m := by omega
      obtain ⟨d, rfl⟩ : ∃ d, c = d + 1 := ⟨c - 1, by omega⟩
      have f := bra_one (n := n) (i := y - 1) (by omega)
      rw [show ((y - 1 : Nat) : Int) + 2 = (y : Int) + 1 by omega, show ((y - 1 : Nat) : Int) + 1 = (y : Int) by omega] at f
      have e1 : (m : Int) - ((d + 1 : Nat) : Int) = y := by omega
      have e2 : (m : Int) - (d : Nat) = (y : Int) + 1 := by omega
      rw [blk_succ, blk_succ, e1, e2]
      have a := Br.l (blk m d) f
      have cf := (chain_far m y hm hy d (by omega)).r [(y : Int) + 1, (y : Int)]
      have s1 : blk m d ++ [(y : Int) + 1] ++ [(y : Int)] ++ [(y : Int) + 1] = blk m d ++ [(y : Int) + 1, (y : Int), (y : Int) + 1] := by simp
      have s2 : blk m d ++ [(y : Int), (y : Int) + 1, (y : Int)] = blk m d ++ [(y : Int)] ++ [(y : Int) + 1, (y : Int)] := by simp
      have s3 : [(y : Int)] ++ blk m d ++ [(y : Int) + 1, (y : Int)] = [(y : Int)] ++ (blk m d ++ [(y : Int) + 1] ++ [(y : Int)]) := by simp
      rw [s1, ← s3]
      rw [s2] at a
      exact a.trans cf
/-! counting -/
theorem flt_range (q : Nat → Bool) (m : Nat) : ((List.range m).filter q).length + ((List.range m).filter fun k => !q k).length = m := by
  induction m with
  | zero => rfl
  | succ m ih =>
    rw [List.range_succ, List.filter_append, List.filter_append, List.length_append, List.length_append]
    cases h : q m <;> simp [h] <;> omega
theorem flt_le (q r : Nat → Bool) (m : Nat) (h : ∀ k, k < m → q k = true → r k = true) : ((List.range m).filter q).length ≤ ((List.range m).filter r).length := by
  induction m with
  | zero => exact Nat.le_refl _
  | succ m ih =>
    have := ih fun k hk => h k (by omega)
    have hm := h m (by omega)
    rw [List.range_succ, List.filter_append, List.filter_append, List.length_append, List.length_append]
    cases a : q m <;> cases b : r m <;> simp_all <;> omega
theorem flt_lt (q r : Nat → Bool) (m c : Nat) (hc : c < m) (hq : q c = false) (hr : r c = true) (h : ∀ k, k < m → q k = true → r k = true) : ((List.range m).filter q).length + 1 ≤ ((List.range m).filter r).length := by
  induction m with
  | zero => omega
  | succ m ih =>
    rw [List.range_succ, List.filter_append, List.filter_append, List.length_append, List.length_append]
    rcases Nat.lt_or_ge c m with z | z
    · have := ih z fun k hk => h k (by omega)
      have hm := h m (by omega)
      cases a : q m <;> cases b : r m <;> simp_all <;> omega
    · have : c = m := by omega
      subst this
      have := flt_le q r c fun k hk => h k (by omega)
      simp [hq, hr]
      omega
theorem flt_one (q r : Nat → Bool) (m c : Nat) (hc : c < m) (hq : q c = false) (hr : r c = true) (h : ∀ k, k < m → k ≠ c → q k = r k) : ((List.range m).filter r).length = ((List.range m).filter q).length + 1 := by
  induction m with
  | zero => omega
  | succ m ih =>
    rw [List.range_succ, List.filter_append, List.filter_append, List.length_append, List.length_append]
    rcases Nat.lt_or_ge c m with z | z
    · have := ih z fun k hk => h k (by omega)
      have hm := h m (by omega) (by omega)
      rw [this]
      cases a : q m <;> cases b : r m <;> simp_all <;> omega
    · have : c = m := by omega
      subst this
      have e : (List.range c).filter r = (List.range c).filter q := List.filter_congr fun k hk => (h k (by have := List.mem_range.mp hk; omega) (by have := List.mem_range.mp hk; omega)).symm
      rw [e]
      simp [hq, hr]
theorem cnt_lt (p : P n) (j : Nat) (hj : j ≤ n) : ((List.range n).filter fun k => decide (p.f k < j)).length = j := by
  have pm : ((List.range n).map p.f).Perm (List.range n) := by
    apply (List.perm_ext_iff_of_nodup ?_ List.nodup_range).mpr
    · intro x
      rw [List.mem_map, List.mem_range]
      constructor
      · rintro ⟨k, hk, rfl⟩
        exact p.lt (List.mem_range.mp hk)
      · intro hx
        exact ⟨p.g x, List.mem_range.mpr (p.glt hx), p.fg x⟩
    · rw [List.Nodup, List.pairwise_map]
      exact List.nodup_range.imp fun h z => h (p.inj z)
  have e := (pm.filter fun x => decide (x < j)).length_eq
  rw [List.filter_map, List.length_map] at e
  have : ((List.range n).filter fun x => decide (x < j)).length = j := by
    clear e pm
    induction n with
    | zero => simp; omega
    | succ n ih =>
      rw [List.range_succ, List.filter_append, List.length_append]
      rcases Nat.lt_or_ge n j with z | z
      · have : ((List.range n).filter fun x => decide (x < j)) = List.range n := List.filter_eq_self.mpr fun x hx => by have := List.mem_range.mp hx; simp; omega
        rw [this]
        simp [z]
        omega
      · have := ih (p := one) z
        rw [this]
        have : ¬ n < j := by omega
        simp [this]
  rw [this] at e
  exact e
/-- the place of the i-th among the first m -/
def ps (p : P n) (i m : Nat) : Nat := ((List.range m).filter fun k => decide (p.f k ≤ i)).length
theorem ps_succ (p : P n) (i m : Nat) : ps p i (m + 1) = ps p i m + if p.f m ≤ i then 1 else 0 := by
  unfold ps
  rw [List.range_succ, List.filter_append, List.length_append]
  by_cases h : p.f m ≤ i <;> simp [h]
theorem Wm_congr {f g : Nat → Nat} : ∀ m, (∀ k, k < m → cn f k = cn g k) → Wm f m = Wm g m
  | 0, _ => rfl
  | m + 1, h => by
    show Wm f m ++ _ = Wm g m ++ _
    rw [Wm_congr m fun k hk => h k (by omega), h m (by omega)]
theorem lemM (p : P n) (i : Nat) (hi : i + 1 < n) (hf : ¬ Fi p i) : Br n (W p ++ [(i : Int) + 1]) (W (p * s i hi)) := by
  obtain ⟨a, ha⟩ : ∃ a, a = p.g i := ⟨_, rfl⟩
  obtain ⟨b, hb⟩ : ∃ b, b = p.g (i + 1) := ⟨_, rfl⟩
  have pa : p.f a = i := by rw [ha, p.fg]
  have pb : p.f b = i + 1 := by rw [hb, p.fg]
  have ab : a < b := by
    have : ¬ p.g (i + 1) < p.g i := hf
    have : a ≠ b := fun z => by rw [z] at pa; omega
    omega
  have bn : b < n := by rw [hb]; exact p.glt hi
  have only : ∀ k, k ≠ a → k ≠ b → p.f k ≠ i ∧ p.f k ≠ i + 1 := fun k h1 h2 => ⟨fun z => h1 (by rw [ha, ← z, p.gf]), fun z => h2 (by rw [hb, ← z, p.gf])⟩
  have f' : ∀ x, (p * s i hi).f x = swf i (p.f x) := fun _ => rfl
  have fa' : (p * s i hi).f a = i + 1 := by rw [f', pa, swf1]
  have fb' : (p * s i hi).f b = i := by rw [f', pb, swf2]
  have fo' : ∀ k, k ≠ a → k ≠ b → (p * s i hi).f k = p.f k := fun k h1 h2 => by
    rw [f']
    exact swf3 (only k h1 h2).1 (only k h1 h2).2
  have c_ne : ∀ m, m ≠ b → cn (p * s i hi).f m = cn p.f m := fun m hm => by
    unfold cn
    congr 1
    apply List.filter_congr
    intro k hk
    have hk' := List.mem_range.mp hk
    congr 1
    apply propext
    by_cases ma : m = a
    · subst ma
      have k2 : k ≠ b := by omega
      have k1 : k ≠ m := by omega
      rw [fa', fo' k k1 k2, pa]
      have := only k k1 k2
      omega
    · rw [fo' m ma hm]
      have om := only m ma hm
      by_cases ka : k = a
      · rw [ka, fa', pa]; omega
      · by_cases kb : k = b
        · rw [kb, fb', pb]; omega
        · rw [fo' k ka kb]
  have c_b : cn (p * s i hi).f b = cn p.f b + 1 := by
    unfold cn
    apply flt_one _ _ b a ab
    · rw [pa, pb]; simp
    · rw [fa', fb']; simp
    · intro k hk hka
      have := only k hka (by omega)
      rw [fo' k hka (by omega), fb', pb]
      by_cases z : p.f k > i + 1
      · rw [decide_eq_true (by omega), decide_eq_true (by omega)]
      · rw [decide_eq_false (by omega), decide_eq_false (by omega)]
  have low : ∀ m, b < m → m ≤ n → Br n (Wm p.f m ++ [(ps p i m : Int)]) (Wm (p * s i hi).f m) := by
    intro m
    induction m with
    | zero => intro h; omega
    | succ m ih =>
      intro h hm
      rcases Nat.lt_or_ge b m with z | z
      · have ih' := ih z (by omega)
        show Br n (Wm p.f m ++ blk m (cn p.f m) ++ _) (Wm (p * s i hi).f m ++ blk m (cn (p * s i hi).f m))
        rw [c_ne m (by omega)]
        have om := only m (by omega) (by omega)
        have cle := cn_le p.f m
        have comp : cn p.f m + ((List.range m).filter fun k => decide (p.f k < p.f m)).length = m := by
          have := flt_range (fun k => decide (p.f m < p.f k)) m
          have e : ((List.range m).filter fun k => !decide (p.f m < p.f k)) = (List.range m).filter fun k => decide (p.f k < p.f m) := by
            apply List.filter_congr
            intro k hk
            have hk' := List.mem_range.mp hk
            have : p.f k ≠ p.f m := fun z => by have := p.inj z; omega
            by_cases q : p.f m < p.f k
            · rw [decide_eq_true q, decide_eq_false (by omega)]; rfl
            · rw [decide_eq_false q, decide_eq_true (by omega)]; rfl
          rw [e] at this
          exact this
        have key : Br n (blk m (cn p.f m) ++ [(ps p i (m + 1) : Int)]) ([(ps p i m : Int)] ++ blk m (cn p.f m)) := by
          rw [ps_succ]
          have pa1 : 1 ≤ ps p i m := by
            have := flt_lt (fun _ => false) (fun k => decide (p.f k ≤ i)) m a (by omega) rfl (by simp [pa]) (fun k _ h => by cases h)
            have e0 : ((List.range m).filter fun _ => false).length = 0 := by simp
            unfold ps
            omega
          by_cases q : p.f m ≤ i
          · rw [if_pos q]
            have l1 := flt_lt (fun k => decide (p.f k < p.f m)) (fun k => decide (p.f k ≤ i)) m a (by omega) (by simp [pa]; omega) (by simp [pa]) (fun k _ h => by have := of_decide_eq_true h; exact decide_eq_true (by omega))
            have l2 := flt_lt (fun k => decide (p.f k ≤ i)) (fun _ => true) m b z (by simp [pb]) rfl (fun _ _ _ => rfl)
            have e1 : ((List.range m).filter fun _ => true).length = m := by rw [List.filter_eq_self.mpr (fun _ _ => rfl), List.length_range]
            have := chain_in (n := n) m (ps p i m) (by omega) pa1 (by unfold ps; omega) (cn p.f m) (by unfold ps; omega) cle
            exact this
          · rw [if_neg q, Nat.add_zero]
            have l1 := flt_lt (fun k => decide (p.f k ≤ i)) (fun k => decide (p.f k < p.f m)) m b z (by simp [pb]) (by simp [pb]; omega) (fun k _ h => by have := of_decide_eq_true h; exact decide_eq_true (by omega))
            exact chain_far (n := n) m (ps p i m) (by omega) pa1 (cn p.f m) (by unfold ps; omega)
        rw [List.append_assoc]
        refine (Br.l _ key).trans ?_
        rw [← List.append_assoc]
        exact ih'.r _
      · have hb' : m = b := by omega
        subst hb'
        show Br n (Wm p.f m ++ blk m (cn p.f m) ++ _) (Wm (p * s i hi).f m ++ blk m (cn (p * s i hi).f m))
        rw [c_b, blk_succ, Wm_congr (f := (p * s i hi).f) (g := p.f) m fun k hk => c_ne k (by omega)]
        have e : (ps p i (m + 1) : Int) = (m : Int) - (cn p.f m : Nat) := by
          rw [ps_succ, if_neg (by omega), Nat.add_zero]
          have := flt_range (fun k => decide (p.f m < p.f k)) m
          have e : ((List.range m).filter fun k => !decide (p.f m < p.f k)) = (List.range m).filter fun k => decide (p.f k ≤ i) := by
            apply List.filter_congr
            intro k hk
            have hk' := List.mem_range.mp hk
            have : p.f k ≠ p.f m := fun z => by have := p.inj z; omega
            rw [pb] at *
            by_cases q : i + 1 < p.f k
            · rw [decide_eq_true q, decide_eq_false (by omega)]; rfl
            · rw [decide_eq_false q, decide_eq_true (by omega)]; rfl
          rw [e] at this
          unfold ps cn
          omega
        rw [e]
        exact .of (by simp)
  have fin := low n bn (Nat.le_refl _)
  have e : ps p i n = i + 1 := by
    have := cnt_lt p (i + 1) (by omega)
    unfold ps
    rw [← this]
    congr 1
    apply List.filter_congr
    intro k _
    congr 1
    apply propext
    omega
  rw [e] at fin
  exact fin
end GA
namespace GA
variable {n : Nat}
theorem W_one : W (one : P n) = [] := by
  have : ∀ m, Wm (one : P n).f m = [] := by
    intro m
    induction m with
    | zero => rfl
    | succ m ih =>
      show Wm _ m ++ blk m (cn _ m) = []
      have : cn (one : P n).f m = 0 := by
        unfold cn
        rw [List.length_eq_zero_iff, List.filter_eq_nil_iff]
        intro k hk
        have := List.mem_range.mp hk
        intro z
        have z' : m < k := of_decide_eq_true z
        omega
      rw [ih, this]
      rfl
  exact this n
theorem W_s (i : Nat) (h : i + 1 < n) : Br n [(i : Int) + 1] (W (s i h)) := by
  have := lemM one i h (fun z => by have z' : (one : P n).g (i + 1) < (one : P n).g i := z; simp at z'; omega)
  rw [W_one] at this
  exact this
/-- a letter off the end -/
theorem off_end {q : P n} (h : q ≠ one) : ∃ i, ∃ hi : i + 1 < n, ∃ q' : P n, q = q' * s i hi ∧ Add q' (s i hi) ∧ far (inv q') < far (inv q) := by
  have : ∃ i, St (inv q) i := Classical.byContradiction fun c => h (by
    have := mono_one (p := inv q) fun i z => c ⟨i, z⟩
    rw [← inv_inv q, this]
    rfl)
  obtain ⟨i, hi⟩ := this
  refine ⟨i, hi.lt, q * s i hi.lt, ?_, ?_, far_lt hi⟩
  · rw [assoc, s_s, mul_one]
  · rw [add_s]
    intro z
    have z' : q.g (swf i (i + 1)) < q.g (swf i i) := z
    have h' : q.g (i + 1) < q.g i := hi
    rw [swf1, swf2] at z'
    omega
theorem W_mul : ∀ (N : Nat) {p q : P n}, far (inv q) ≤ N → Add p q → Br n (W p ++ W q) (W (p * q))
  | N, p, q, hN, h => by
    by_cases c : q = one
    · subst c
      rw [W_one, mul_one, List.append_nil]
      exact .refl _
    · obtain ⟨i, hi, q', e, ad, fl⟩ := off_end c
      match N, hN with
      | 0, hN => omega
      | N + 1, hN =>
        have k1 := lemM q' i hi (add_s.mp ad)
        rw [← e] at k1
        have a := add3' (u := p) ad (by rw [← e]; exact h)
        have ih := W_mul N (p := p) (q := q') (by omega) a.1
        have k2 := lemM (p * q') i hi (add_s.mp a.2)
        rw [assoc, ← e] at k2
        refine (Br.l (W p) k1.symm).trans ?_
        rw [← List.append_assoc]
        exact (ih.r _).trans k2
theorem Wmul {p q : P n} (h : Add p q) : Br n (W p ++ W q) (W (p * q)) := W_mul _ (Nat.le_refl _) h
def tl (n i : Nat) : Nat := n - 2 - i
theorem tau_s (i : Nat) (h : i + 1 < n) (h' : n - 2 - i + 1 < n) : tau (s i h : P n) = s (n - 2 - i) h' := P.ext fun x => by
  show dlf n (swf i (dlf n x)) = swf (n - 2 - i) x
  unfold dlf swf
  (repeat' split) <;> omega
theorem letD (i : Nat) (h : i + 1 < n) : Br n ([(i : Int) + 1] ++ W (dl : P n)) (W (dl : P n) ++ [((n - 2 - i : Nat) : Int) + 1]) := by
  have h' : n - 2 - i + 1 < n := by omega
  obtain ⟨r, hr⟩ : ∃ r : P n, r = s i h * dl := ⟨_, rfl⟩
  have e1 : s i h * r = dl := by rw [hr, ← assoc, s_s, one_mul]
  have e2 : r * s (n - 2 - i) h' = dl := by
    rw [← tau_s i h h', hr]
    have : s i h * dl * tau (s i h) = s i h * (dl * dl) * s i h * dl := rfl
    rw [this, dl_dl, mul_one, s_s, one_mul]
  have a1 : Add (s i h) r := by
    unfold Add
    rw [e1]
    exact le_dl _
  have a2 : Add r (s (n - 2 - i) h') := by
    unfold Add
    rw [e2]
    exact le_dl _
  have w1 := Wmul a1
  have w2 := Wmul a2
  rw [e1] at w1
  rw [e2] at w2
  have s1 := W_s i h
  have s2 := W_s (n - 2 - i) h'
  -- [i] D ~ [i] r [t] ~ D [t]
  have b1 : Br n ([(i : Int) + 1] ++ W (dl : P n)) ([(i : Int) + 1] ++ (W r ++ [((n - 2 - i : Nat) : Int) + 1])) := Br.l _ ((w2.symm).trans (Br.l _ s2.symm))
  have b2 : Br n ([(i : Int) + 1] ++ (W r ++ [((n - 2 - i : Nat) : Int) + 1])) (W (dl : P n) ++ [((n - 2 - i : Nat) : Int) + 1]) := by
    rw [← List.append_assoc]
    exact ((s1.r _).trans w1).r _
  exact b1.trans b2
theorem add_tau_s {q' : P n} {i : Nat} {hi : i + 1 < n} (h : Add q' (s i hi)) : Add (tau q') (s (n - 2 - i) (by omega)) := by
  rw [← tau_s i hi (by omega)]
  exact add_tau h
theorem W_D : ∀ (N : Nat) (q : P n), far (inv q) ≤ N → Br n (W q ++ W (dl : P n)) (W (dl : P n) ++ W (tau q))
  | N, q, hN => by
    by_cases c : q = one
    · subst c
      have : tau (one : P n) = one := dl_dl
      rw [this, W_one, List.append_nil]
      exact .refl _
    · obtain ⟨i, hi, q', e, ad, fl⟩ := off_end c
      match N, hN with
      | 0, hN => omega
      | N + 1, hN =>
        have k1 := lemM q' i hi (add_s.mp ad)
        rw [← e] at k1
        have ih := W_D N q' (by omega)
        have at' := add_tau_s ad
        have k2 := lemM (tau q') (n - 2 - i) (by omega) (add_s.mp at')
        have e2 : tau q' * s (n - 2 - i) (by omega) = tau q := by rw [e, tau_mul, tau_s i hi]
        rw [e2] at k2
        have ld := letD i hi
        have b1 : Br n (W q ++ W (dl : P n)) (W q' ++ ([(i : Int) + 1] ++ W (dl : P n))) := by
          rw [← List.append_assoc]
          exact k1.symm.r _
        have b2 := Br.l (W q') ld
        have b3 : Br n (W q' ++ (W (dl : P n) ++ [((n - 2 - i : Nat) : Int) + 1])) (W (dl : P n) ++ (W (tau q') ++ [((n - 2 - i : Nat) : Int) + 1])) := by
          rw [← List.append_assoc, ← List.append_assoc]
          exact ih.r _
        exact (b1.trans b2).trans (b3.trans (Br.l _ k2))
def Fits (n : Nat) (w : List Int) : Prop := ∀ x ∈ w, x ≠ 0 ∧ x.natAbs < n
theorem Fits.app {a b : List Int} (h : Fits n a) (k : Fits n b) : Fits n (a ++ b) := fun x hx => by
  rcases List.mem_append.mp hx with z | z
  · exact h x z
  · exact k x z
theorem Wm_fits (f : Nat → Nat) : ∀ m, m ≤ n → Fits n (Wm f m)
  | 0, _ => fun x hx => nomatch hx
  | m + 1, h => (Wm_fits f m (by omega)).app fun x hx => by
    obtain ⟨k, hk, rfl⟩ := List.mem_map.mp hx
    have := List.mem_range.mp hk
    have := cn_le f m
    omega
theorem W_fits (p : P n) : Fits n (W p) := Wm_fits p.f n (Nat.le_refl _)
/-- the inverse word -/
def iw (w : List Int) : List Int := w.reverse.map fun x => -x
theorem iw_cons (x : Int) (w : List Int) : iw (x :: w) = iw w ++ [-x] := by simp [iw]
theorem iw_canc : ∀ (w : List Int), Fits n w → Br n (w ++ iw w) []
  | [], _ => .refl _
  | x :: w, h => by
    have ih := iw_canc w fun y hy => h y (List.mem_cons_of_mem _ hy)
    have hx := h x (List.mem_cons_self ..)
    rw [iw_cons]
    have e : x :: w ++ (iw w ++ [-x]) = [x] ++ ((w ++ iw w) ++ [-x]) := by simp
    rw [e]
    have := Br.canc (n := n) [] [] x hx
    exact (ih.ctx [x] [-x]).trans (by simpa using this)
theorem iw_iw (w : List Int) : iw (iw w) = w := by simp [iw, Function.comp_def]
theorem iw_fits {w : List Int} (h : Fits n w) : Fits n (iw w) := fun x hx => by
  obtain ⟨y, hy, rfl⟩ := List.mem_map.mp hx
  have := h y (List.mem_reverse.mp hy)
  omega
theorem iw_canc' (w : List Int) (h : Fits n w) : Br n (iw w ++ w) [] := by
  have := iw_canc (iw w) (iw_fits h)
  rwa [iw_iw] at this
abbrev Dw (n : Nat) : List Int := W (dl : P n)
abbrev Dv (n : Nat) : List Int := iw (W (dl : P n))
theorem D_inv (q : P n) : Br n (W q ++ Dv n) (Dv n ++ W (tau q)) := by
  have h := W_D _ (tau q) (Nat.le_refl _)
  rw [tau_tau] at h
  -- tau q D ~ D q  =>  q D' ~ D' D q D' ~ D' tau q D D' ~ D' tau q
  have f := W_fits (dl : P n)
  have a : Br n (W q ++ Dv n) (Dv n ++ Dw n ++ (W q ++ Dv n)) := (iw_canc' _ f).symm.r _
  have b : Br n (Dv n ++ Dw n ++ (W q ++ Dv n)) (Dv n ++ (W (tau q) ++ Dw n) ++ Dv n) := by
    have := (h.symm).ctx (Dv n) (Dv n)
    simpa using this
  have c : Br n (Dv n ++ (W (tau q) ++ Dw n) ++ Dv n) (Dv n ++ W (tau q)) := by
    have := Br.l (Dv n ++ W (tau q)) (iw_canc (Dw n) f)
    simpa using this
  exact (a.trans b).trans c
/-- a word many times -/
def rpt : Nat → List Int → List Int
  | 0, _ => []
  | k + 1, w => w ++ rpt k w
theorem D_invs (q : P n) : ∀ k, Br n (W q ++ rpt k (Dv n)) (rpt k (Dv n) ++ W (tw k q))
  | 0 => .of (by simp [rpt, tw])
  | k + 1 => by
    have ih := D_invs (tau q) k
    have e : tw k (tau q) = tw (k + 1) q := by
      rw [tw_succ]
      unfold tw
      split <;> rfl
    rw [e] at ih
    have a : Br n (W q ++ (Dv n ++ rpt k (Dv n))) (Dv n ++ W (tau q) ++ rpt k (Dv n)) := by
      rw [← List.append_assoc]
      exact (D_inv q).r _
    have b := Br.l (Dv n) ih
    show Br n (W q ++ (Dv n ++ rpt k (Dv n))) (Dv n ++ rpt k (Dv n) ++ W (tw (k + 1) q))
    rw [List.append_assoc]
    rw [List.append_assoc] at a
    exact a.trans b
def flat (R : List (P n)) : List Int := (R.map W).flatten
theorem flat_cons (p : P n) (R : List (P n)) : flat (p :: R) = W p ++ flat R := rfl
theorem flat_app (A B : List (P n)) : flat (A ++ B) = flat A ++ flat B := by simp [flat]
/-- a word is what its factors say -/
theorem word_factors : ∀ (w : List Int), Fits n w → Br n w (rpt (neg w) (Dv n) ++ flat (Fc n w))
  | [], _ => .refl _
  | x :: w, h => by
    have ih := word_factors w fun y hy => h y (List.mem_cons_of_mem _ hy)
    have hx := h x (List.mem_cons_self ..)
    obtain ⟨i, hi⟩ : ∃ i, i = x.natAbs - 1 := ⟨_, rfl⟩
    have hin : i + 1 < n := by omega
    have sd : sg n i = s i hin := dif_pos hin
    have a : Br n ([x] ++ w) ([x] ++ (rpt (neg w) (Dv n) ++ flat (Fc n w))) := Br.l [x] ih
    have mid : ∀ q : P n, Br n (W q ++ (rpt (neg w) (Dv n) ++ flat (Fc n w))) (rpt (neg w) (Dv n) ++ flat (tw (neg w) q :: Fc n w)) := fun q => by
      rw [flat_cons, ← List.append_assoc, ← List.append_assoc]
      exact (D_invs q (neg w)).r _
    by_cases c : x < 0
    · have eb : bs n x = dl * s i hin := by unfold bs; rw [if_pos c, ← hi, sd]
      have xi : -x = (i : Int) + 1 := by omega
      have en : neg (x :: w) = neg w + 1 := by
        show (if x < 0 then 1 else 0) + neg w = _
        rw [if_pos c]
        omega
      -- D ~ W (dl s) [i]
      have ad : Add (dl * s i hin : P n) (s i hin) := by
        rw [add_s]
        show ¬ dlf n (swf i (i + 1)) < dlf n (swf i i)
        rw [swf1, swf2, dlf_lt hin (by omega)]
        omega
      have w1 := Wmul ad
      rw [assoc, s_s, mul_one] at w1
      have w2 : Br n (W (dl * s i hin : P n) ++ [-x]) (Dw n) := by
        rw [xi]
        exact (Br.l _ (W_s i hin)).trans w1
      -- [x] ~ D' D [x] ~ D' W [-x] [x] ~ D' W
      have f := W_fits (dl : P n)
      have q1 : Br n [x] (Dv n ++ (Dw n ++ [x])) := by
        have := (iw_canc' _ f).symm.r [x]
        simpa using this
      have q2 : Br n (Dv n ++ (Dw n ++ [x])) (Dv n ++ (W (dl * s i hin : P n) ++ [-x] ++ [x])) := Br.l _ (w2.symm.r _)
      have q3 : Br n (Dv n ++ (W (dl * s i hin : P n) ++ [-x] ++ [x])) (Dv n ++ W (dl * s i hin : P n)) := by
        have := Br.canc (n := n) (Dv n ++ W (dl * s i hin : P n)) [] (-x) (by omega)
        simpa using this
      have q := ((q1.trans q2).trans q3).r (rpt (neg w) (Dv n) ++ flat (Fc n w))
      have m := Br.l (Dv n) (mid (dl * s i hin))
      show Br n ([x] ++ w) _
      rw [en]
      show Br n ([x] ++ w) (Dv n ++ rpt (neg w) (Dv n) ++ flat (tw (neg w) (bs n x) :: Fc n w))
      rw [eb, List.append_assoc]
      rw [List.append_assoc] at q
      exact (a.trans q).trans m
    · have eb : bs n x = s i hin := by unfold bs; rw [if_neg c, ← hi, sd]
      have xi : x = (i : Int) + 1 := by omega
      have en : neg (x :: w) = neg w := by
        show (if x < 0 then 1 else 0) + neg w = _
        rw [if_neg c]
        omega
      show Br n ([x] ++ w) _
      rw [en]
      show Br n ([x] ++ w) (rpt (neg w) (Dv n) ++ flat (tw (neg w) (bs n x) :: Fc n w))
      rw [eb]
      have q : Br n ([x] ++ (rpt (neg w) (Dv n) ++ flat (Fc n w))) (W (s i hin : P n) ++ (rpt (neg w) (Dv n) ++ flat (Fc n w))) := by
        rw [xi]
        exact (W_s i hin).r _
      exact (a.trans q).trans (mid (s i hin))
theorem flat_slide (A B : List (P n)) (a b : P n) : Br n (flat (A ++ a :: b :: B)) (flat (A ++ hd a b :: rs a b :: B)) := by
  rw [flat_app, flat_app, flat_cons, flat_cons, flat_cons, flat_cons]
  apply Br.l
  rw [← List.append_assoc, ← List.append_assoc]
  apply Br.r
  have h1 := Wmul (mt_rs a b)
  rw [mt_mul] at h1
  have h2 := Wmul (add_mt a b)
  refine (Br.l _ h1.symm).trans ?_
  rw [← List.append_assoc]
  exact h2.r _
/-- each word of factors has a weighted row, which is the same braid -/
theorem ex_pushB (R : List (P n)) (hR : WtL R) (p : P n) : ∃ R', WtL R' ∧ (∀ Z, lamF (R' ++ Z) = lamF (R ++ p :: Z)) ∧ Br n (flat R') (flat (R ++ [p])) := by
  have main : ∀ (k : Nat) (A : List (P n)) (h : P n) (B : List (P n)), A.length = k → Pu R p A h B → Br n (flat (A ++ h :: B)) (flat (R ++ [p])) → ∃ R', WtL R' ∧ (∀ Z, lamF (R' ++ Z) = lamF (R ++ p :: Z)) ∧ Br n (flat R') (flat (R ++ [p])) := by
    intro k
    induction k with
    | zero =>
      intro A h B hk u b
      have : A = [] := List.length_eq_zero_iff.mp hk
      exact ⟨A ++ h :: B, u.done hR (.inl this), fun Z => by rw [List.append_assoc]; exact u.eq Z, b⟩
    | succ k ih =>
      intro A h B hk u b
      have hn : A ≠ [] := fun z => by rw [z] at hk; simp at hk
      have e := (List.dropLast_concat_getLast hn).symm
      obtain ⟨A', a, rfl⟩ : ∃ A' a, A = A' ++ [a] := ⟨_, _, e⟩
      refine ih A' _ _ (by simpa using hk) (u.slide hR) ?_
      have := flat_slide A' B a h
      rw [List.append_assoc] at b
      exact this.symm.trans b
  exact main R.length R p [] rfl (Pu.start R p) (.refl _)
theorem ex_rowB (fs : List (P n)) : ∃ R, WtL R ∧ NoE R ∧ lamF R = lamF fs ∧ Br n (flat R) (flat fs) := by
  have main : ∀ (gs R : List (P n)), WtL R → ∃ R', WtL R' ∧ lamF R' = lamF (R ++ gs) ∧ Br n (flat R') (flat (R ++ gs)) := by
    intro gs
    induction gs with
    | nil => intro R h; exact ⟨R, h, by simp, .of (by simp)⟩
    | cons p gs ih =>
      intro R h
      obtain ⟨R1, w1, e1, b1⟩ := ex_pushB R h p
      obtain ⟨R2, w2, e2, b2⟩ := ih R1 w1
      refine ⟨R2, w2, by rw [e2, e1], b2.trans ?_⟩
      have : flat (R ++ p :: gs) = flat (R ++ [p]) ++ flat gs := by rw [← flat_app]; simp
      rw [this, flat_app]
      exact b1.r _
  have strip : ∀ (k : Nat) (R : List (P n)), R.length = k → WtL R → ∃ R', WtL R' ∧ NoE R' ∧ lamF R' = lamF R ∧ Br n (flat R') (flat R) := by
    intro k
    induction k with
    | zero =>
      intro R hk w
      have : R = [] := List.length_eq_zero_iff.mp hk
      subst this
      exact ⟨[], trivial, by unfold NoE; simp, rfl, .refl _⟩
    | succ k ih =>
      intro R hk w
      have hn : R ≠ [] := fun z => by rw [z] at hk; simp at hk
      have e := (List.dropLast_concat_getLast hn).symm
      obtain ⟨A, a, rfl⟩ : ∃ A a, R = A ++ [a] := ⟨_, _, e⟩
      by_cases c : a = one
      · subst c
        obtain ⟨R', w', n', e', b'⟩ := ih A (by simpa using hk) w.app_l
        refine ⟨R', w', n', ?_, b'.trans (.of ?_)⟩
        · rw [e']
          have := lamF_one A ([] : List (P n))
          rw [List.append_nil] at this
          exact this.symm
        · rw [flat_app]
          simp [flat, W_one]
      · exact ⟨A ++ [a], w, by unfold NoE; simpa using c, rfl, .refl _⟩
  obtain ⟨R, w, e, b⟩ := main fs [] trivial
  obtain ⟨R', w', n', e', b'⟩ := strip R.length R rfl w
  exact ⟨R', w', n', by rw [e', e]; rfl, b'.trans b⟩
/-- the row of a word, and the word itself -/
theorem row_word {w : List Int} (hf : Fits n w) {R : List (P n)} (h : WtL R) (k : NoE R) (e : lamF R = lamF (Fc n w)) : Br n w (rpt (neg w) (Dv n) ++ flat R) := by
  obtain ⟨R', w', n', e', b'⟩ := ex_rowB (Fc n w)
  have : R = R' := row_uniq h w' k n' (by rw [e, e'])
  rw [this]
  exact (word_factors w hf).trans (Br.l _ b'.symm)
end GA
namespace GA
variable {n : Nat}
/-! ### the normal form of a word -/
/-- power and row of a word -/
def NF (w : List Int) (pw : Int) (R : List (P n)) : Prop := ∃ (c : Nat) (S : List (P n)), WtL S ∧ NoE S ∧ lamF S = lamF (Fc n w) ∧ S = List.replicate c dl ++ R ∧ R.head? ≠ some dl ∧ pw = -(neg w : Int) + c
theorem lamF_dls (k : Nat) (R : List (P n)) : lamF (List.replicate k dl ++ R) = dpre k (lamF R) := by
  induction k with
  | zero => rfl
  | succ k ih =>
    rw [List.replicate_succ, List.cons_append, lam_dl, ih]
    rfl
theorem wt_dls (k : Nat) {R : List (P n)} (h : WtL R) : WtL (List.replicate k dl ++ R) := by
  induction k with
  | zero => exact h
  | succ k ih =>
    rw [List.replicate_succ, List.cons_append]
    generalize List.replicate k dl ++ R = S at *
    cases S with
    | nil => trivial
    | cons a S => exact ⟨wt_dl a, ih⟩
theorem dl_ne (h : 1 < n) : (dl : P n) ≠ one := fun z => by
  have := congrArg (fun p : P n => p.f 0) z
  simp [dl_f, dlf] at this
  omega
theorem last_app {α : Type} (A : List α) {R : List α} (h : R ≠ []) : (A ++ R).getLast? = R.getLast? := by
  rw [List.getLast?_append, List.getLast?_eq_some_getLast h]
  rfl
theorem noe_dls (hn : 1 < n) (k c : Nat) {R : List (P n)} (h : NoE (List.replicate c dl ++ R)) : NoE (List.replicate k dl ++ R) := by
  unfold NoE at *
  cases R with
  | nil =>
    cases k with
    | zero => simp
    | succ k =>
      rw [List.append_nil, List.getLast?_replicate]
      simp
      exact dl_ne hn
  | cons a R =>
    rw [last_app _ (by simp)] at h ⊢
    exact h
theorem rep_inj {a b : Nat} {R R' : List (P n)} (h : R.head? ≠ some dl) (h' : R'.head? ≠ some dl) (e : List.replicate a (dl : P n) ++ R = List.replicate b dl ++ R') : a = b ∧ R = R' := by
  induction a generalizing b with
  | zero =>
    cases b with
    | zero => exact ⟨rfl, e⟩
    | succ b =>
      exfalso
      apply h
      have e' : R = List.replicate (b + 1) dl ++ R' := e
      rw [e', List.replicate_succ]; rfl
  | succ a ih =>
    cases b with
    | zero =>
      exfalso
      apply h'
      have e' : List.replicate (a + 1) dl ++ R = R' := e
      rw [← e', List.replicate_succ]; rfl
    | succ b =>
      rw [List.replicate_succ, List.replicate_succ, List.cons_append, List.cons_append] at e
      obtain ⟨z1, z2⟩ := ih (List.cons.inj e).2
      exact ⟨by rw [z1], z2⟩
theorem NF.uniq (hn : 1 < n) {w w' : List Int} {pw pw' : Int} {R R' : List (P n)} (hb : Br n w w') (h : NF w pw R) (h' : NF w' pw' R') : pw = pw' ∧ R = R' := by
  obtain ⟨c, S, w1, e1, l1, s1, d1, p1⟩ := h
  obtain ⟨c', S', w2, e2, l2, s2, d2, p2⟩ := h'
  have q : Eq2 n w w' := hb.eq2
  unfold Eq2 at q
  rw [← l1, ← l2, s1, s2, lamF_dls, lamF_dls, ← dpre_add, ← dpre_add, ← lamF_dls, ← lamF_dls] at q
  have wR : WtL R := by rw [s1] at w1; exact w1.app_r
  have wR' : WtL R' := by rw [s2] at w2; exact w2.app_r
  rw [s1] at e1
  rw [s2] at e2
  have := row_uniq (wt_dls _ wR) (wt_dls _ wR') (noe_dls hn _ c e1) (noe_dls hn _ c' e2) q
  obtain ⟨a, b⟩ := rep_inj d1 d2 this
  exact ⟨by rw [p1, p2]; omega, b⟩
/-! ### the letters of a form -/
def fl (pw : Int) (R : List (P n)) : List Int := (if 0 ≤ pw then rpt pw.toNat (Dw n) else rpt (-pw).toNat (Dv n)) ++ flat R
theorem rpt_end (k : Nat) (w : List Int) : rpt (k + 1) w = rpt k w ++ w := by
  induction k with
  | zero => simp [rpt]
  | succ k ih =>
    show w ++ rpt (k + 1) w = w ++ rpt k w ++ w
    rw [ih, List.append_assoc]
theorem flat_dls (k : Nat) : flat (List.replicate k (dl : P n)) = rpt k (Dw n) := by
  induction k with
  | zero => rfl
  | succ k ih => rw [List.replicate_succ, flat_cons, ih]; rfl
theorem rpt_canc : ∀ a c : Nat, Br n (rpt a (Dv n) ++ rpt c (Dw n)) (if (0 : Int) ≤ -(a : Int) + c then rpt (-(a : Int) + c).toNat (Dw n) else rpt (-(-(a : Int) + c)).toNat (Dv n))
  | 0, c => by
    rw [if_pos (by omega), show (-((0 : Nat) : Int) + c).toNat = c by omega]
    exact .refl _
  | a + 1, 0 => by
    rw [if_neg (by omega), show (-(-((a + 1 : Nat) : Int) + ((0 : Nat) : Int))).toNat = a + 1 by omega]
    exact .of (by simp [rpt])
  | a + 1, c + 1 => by
    have ih := rpt_canc a c
    rw [show -((a + 1 : Nat) : Int) + ((c + 1 : Nat) : Int) = -(a : Int) + c by omega]
    refine .trans ?_ ih
    rw [rpt_end]
    have := (iw_canc' _ (W_fits (dl : P n))).ctx (rpt a (Dv n)) (rpt c (Dw n))
    simpa [rpt] using this
theorem NF.word {w : List Int} (hf : Fits n w) {pw : Int} {R : List (P n)} (h : NF w pw R) : Br n w (fl pw R) := by
  obtain ⟨c, S, w1, e1, l1, s1, d1, p1⟩ := h
  have b := row_word hf w1 e1 l1
  rw [s1, flat_app, flat_dls, ← List.append_assoc] at b
  rw [p1]
  exact b.trans ((rpt_canc _ _).r _)
theorem fl_fits (pw : Int) (R : List (P n)) : Fits n (fl pw R) := by
  have rp : ∀ (k : Nat) (w : List Int), Fits n w → Fits n (rpt k w) := fun k w h => by
    induction k with
    | zero => exact fun x z => nomatch z
    | succ k ih => exact h.app ih
  refine Fits.app ?_ ?_
  · split
    · exact rp _ _ (W_fits _)
    · exact rp _ _ (iw_fits (W_fits _))
  · intro x hx
    obtain ⟨l, hl, hx⟩ := List.mem_flatten.mp hx
    obtain ⟨p, _, rfl⟩ := List.mem_map.mp hl
    exact W_fits p x hx
/-! ### its factors -/
theorem all_fi {p : P n} (h : ∀ i, i + 1 < n → Fi p i) : p = dl := by
  have c : C p = one := mono_one fun i hi => (st_C hi.lt).mp hi (h i hi.lt)
  have := congrArg (fun q => p * q) c
  replace this : p * C p = p * one := this
  rw [mul_one] at this
  unfold C at this
  rw [canc'] at this
  exact this.symm
theorem all_st {p : P n} (h : ∀ i, i + 1 < n → St p i) : p = dl := by
  have := all_fi (p := inv p) fun i hi => by
    unfold Fi
    rw [inv_inv]
    exact h i hi
  rw [← inv_inv p, this, dl_inv]
theorem head_dl : ∀ {R : List (P n)}, WtL R → dl ∈ R → R.head? = some dl
  | [], _, h => nomatch h
  | a :: R, w, h => by
    rcases List.mem_cons.mp h with rfl | h
    · rfl
    · have ih := head_dl w.tl h
      cases R with
      | nil => cases h
      | cons b R =>
        simp only [List.head?_cons, Option.some.injEq] at ih ⊢
        subst ih
        exact all_fi fun i hi => w.1 i (st_I.mpr ⟨by omega, by show dlf n (i + 1) < dlf n i; exact (dlf_lt (by omega) hi).mpr (by omega)⟩)
theorem last_one : ∀ {R : List (P n)}, WtL R → one ∈ R → R.getLast? = some one
  | [], _, h => nomatch h
  | [a], w, h => by rw [List.mem_singleton.mp h]; rfl
  | a :: b :: R, w, h => by
    have hb : (one : P n) ∈ b :: R := by
      rcases List.mem_cons.mp h with z | z
      · subst z
        have : b = one := mono_one fun i hi => by
          have z := w.1 i hi
          have z' : (one : P n).f (i + 1) < (one : P n).f i := z
          simp at z'
          omega
        rw [this]
        exact List.mem_cons_self ..
      · exact z
    rw [List.getLast?_cons_cons]
    exact last_one w.2 hb
theorem NF.good {w : List Int} {pw : Int} {R : List (P n)} (h : NF w pw R) : WtL R ∧ ∀ p ∈ R, p ≠ one ∧ p ≠ dl := by
  obtain ⟨c, S, w1, e1, l1, s1, d1, p1⟩ := h
  have wR : WtL R := by rw [s1] at w1; exact w1.app_r
  refine ⟨wR, fun p hp => ⟨fun z => ?_, fun z => ?_⟩⟩
  · subst z
    have := last_one wR hp
    apply e1
    have ne : R ≠ [] := fun z => by rw [z] at hp; cases hp
    rw [s1, last_app _ ne]
    exact this
  · subst z
    exact d1 (head_dl wR hp)
end GA
namespace GA
variable {n : Nat}
/-! ### the letters of a form have this form -/
theorem neg_blk (m c : Nat) (h : c ≤ m) : neg (blk m c) = 0 := by
  induction c with
  | zero => rfl
  | succ c ih =>
    rw [blk_succ, neg_app, ih (by omega)]
    simp only [neg]
    rw [if_neg (by omega)]
theorem neg_Wm (f : Nat → Nat) : ∀ m, neg (Wm f m) = 0
  | 0 => rfl
  | m + 1 => by
    show neg (Wm f m ++ blk m (cn f m)) = 0
    rw [neg_app, neg_Wm f m, neg_blk _ _ (cn_le f m)]
theorem neg_W (p : P n) : neg (W p) = 0 := neg_Wm p.f n
theorem tw_one (k : Nat) : tw k (one : P n) = one := by
  unfold tw
  split
  · show dl * one * dl = one
    rw [mul_one, dl_dl]
  · rfl
theorem lamF_W : ∀ (N : Nat) (p : P n) (w : List Int), far (inv p) ≤ N → lamF (Fc n (W p ++ w)) = lam (tw (neg w) p) (lamF (Fc n w))
  | N, p, w, hN => by
    by_cases c : p = one
    · subst c
      rw [W_one, tw_one, lam_one]
      rfl
    · obtain ⟨i, hi, q, e, ha, hf⟩ := off_end c
      match N, hN with
      | 0, hN => omega
      | N + 1, hN =>
        have b := (lemM q i hi (add_s.mp ha)).r w
        rw [← e] at b
        have q2 : Eq2 n _ _ := b.eq2
        unfold Eq2 at q2
        have n1 : neg (W q ++ [(i : Int) + 1] ++ w) = neg w := by
          rw [neg_app, neg_app, neg_W]
          simp only [neg]
          rw [if_neg (by omega)]
          omega
        have n2 : neg (W p ++ w) = neg w := by rw [neg_app, neg_W]; omega
        rw [n1, n2] at q2
        have q3 := dpre_inj q2
        have n3 : neg ([(i : Int) + 1] ++ w) = neg w := by
          rw [neg_app]
          simp only [neg]
          rw [if_neg (by omega)]
          omega
        rw [← q3, List.append_assoc, lamF_W N q _ (by omega), n3]
        have f1 : Fc n ([(i : Int) + 1] ++ w) = tw (neg w) (s i hi) :: Fc n w := by
          show tw (neg w) (bs n ((i : Int) + 1)) :: Fc n w = _
          rw [bs_pos i hi]
        rw [f1, lamF_cons, lam_lam (add_tw _ ha), ← tw_mul, ← e]
theorem neg_flat (R : List (P n)) : neg (flat R) = 0 := by
  induction R with
  | nil => rfl
  | cons q R ih => rw [flat_cons, neg_app, neg_W, ih]
theorem lamF_flat : ∀ R : List (P n), lamF (Fc n (flat R)) = lamF R
  | [] => rfl
  | p :: R => by
    rw [flat_cons, lamF_W _ p _ (Nat.le_refl _), neg_flat R, lamF_flat R, lamF_cons]
    rfl
theorem neg_rptD (k : Nat) : neg (rpt k (Dw n)) = 0 := by
  induction k with
  | zero => rfl
  | succ k ih => show neg (Dw n ++ rpt k (Dw n)) = 0; rw [neg_app, neg_W, ih]
theorem lamF_rptD (w : List Int) (k : Nat) : lamF (Fc n (rpt k (Dw n) ++ w)) = dpre k (lamF (Fc n w)) := by
  induction k with
  | zero => rfl
  | succ k ih =>
    show lamF (Fc n (Dw n ++ rpt k (Dw n) ++ w)) = cons dl (dpre k _)
    rw [List.append_assoc, lamF_W _ (dl : P n) _ (Nat.le_refl _), tw_dl, ih]
    have := lam_dl (Fc n (rpt k (Dw n) ++ w))
    rw [lamF_cons, ih] at this
    exact this
theorem Dw_ne (h : 1 < n) : 1 ≤ (Dw n).length := by
  rcases Nat.eq_zero_or_pos (Dw n).length with z | z
  · exfalso
    have e : Dw n = [] := List.length_eq_zero_iff.mp z
    have a := lamF_W (n := n) _ (dl : P n) [] (Nat.le_refl _)
    rw [show W (dl : P n) = [] from e] at a
    have b := lam_dl (n := n) []
    rw [lamF_cons] at b
    have t0 : tw (neg []) (dl : P n) = dl := tw_dl _
    rw [t0] at a
    have c : lamF (Fc n ([] ++ [])) = (cons dl (lamF ([] : List (P n)))) := by rw [a]; exact b
    have d := congrFun c 0
    exact dl_ne h d.symm
  · exact z
theorem neg_iw : ∀ w : List Int, (∀ x ∈ w, 0 < x) → neg (iw w) = w.length
  | [], _ => rfl
  | x :: w, h => by
    rw [iw_cons, neg_app, neg_iw w fun y hy => h y (List.mem_cons_of_mem _ hy)]
    have := h x (List.mem_cons_self ..)
    simp only [neg]
    rw [if_pos (by omega)]
    rfl
theorem W_pos (p : P n) : ∀ x ∈ W p, 0 < x := by
  have : ∀ m, ∀ x ∈ Wm p.f m, 0 < x := fun m => by
    induction m with
    | zero => intro x hx; cases hx
    | succ m ih =>
      intro x hx
      rcases List.mem_append.mp hx with z | z
      · exact ih x z
      · obtain ⟨k, hk, rfl⟩ := List.mem_map.mp z
        have := List.mem_range.mp hk
        have := cn_le p.f m
        omega
  exact this n
theorem neg_Dv : neg (Dv n) = (Dw n).length := neg_iw _ (W_pos _)
theorem lamF_Dv (h : 1 < n) (w : List Int) : lamF (Fc n (Dv n ++ w)) = dpre ((Dw n).length - 1) (lamF (Fc n w)) := by
  have b : Br n (Dw n ++ (Dv n ++ w)) w := by
    have := (iw_canc (Dw n) (W_fits _)).r w
    rwa [List.append_assoc] at this
  have q : Eq2 n _ _ := b.eq2
  unfold Eq2 at q
  have l := lamF_rptD (n := n) (Dv n ++ w) 1
  have e1 : rpt 1 (Dw n) = Dw n := by simp [rpt]
  rw [e1] at l
  have d := Dw_ne h
  have n1 : neg (Dw n ++ (Dv n ++ w)) = neg w + ((Dw n).length - 1 + 1) := by
    rw [neg_app, neg_app, neg_W, neg_Dv]; omega
  rw [l, n1, ← dpre_add] at q
  have q' : dpre (neg w + 1) (lamF (Fc n (Dv n ++ w))) = dpre (neg w + 1) (dpre ((Dw n).length - 1) (lamF (Fc n w))) := by
    rw [q, ← dpre_add]
    congr 1
    omega
  exact dpre_inj q'
theorem lamF_Dvs (h : 1 < n) (w : List Int) (k : Nat) : lamF (Fc n (rpt k (Dv n) ++ w)) = dpre (k * ((Dw n).length - 1)) (lamF (Fc n w)) ∧ neg (rpt k (Dv n)) = k * (Dw n).length := by
  induction k with
  | zero => simp [rpt, dpre, neg]
  | succ k ih =>
    constructor
    · show lamF (Fc n (Dv n ++ rpt k (Dv n) ++ w)) = _
      rw [List.append_assoc, lamF_Dv h, ih.1, ← dpre_add, Nat.succ_mul, Nat.add_comm]
    · show neg (Dv n ++ rpt k (Dv n)) = _
      rw [neg_app, neg_Dv, ih.2, Nat.succ_mul]; omega
theorem noe_good {R : List (P n)} (h : 1 < n) (k : Nat) (hg : ∀ p ∈ R, p ≠ one ∧ p ≠ dl) : NoE (List.replicate k dl ++ R) := by
  have : NoE (List.replicate 0 dl ++ R) := fun z => (hg one (List.mem_of_getLast? z)).1 rfl
  exact noe_dls h k 0 this
theorem NF.fixed (h : 1 < n) (pw : Int) {R : List (P n)} (w : WtL R) (hg : ∀ p ∈ R, p ≠ one ∧ p ≠ dl) : NF (fl pw R) pw R := by
  have hd : R.head? ≠ some dl := fun z => (hg dl (List.mem_of_head? z)).2 rfl
  unfold fl
  by_cases c : 0 ≤ pw
  · rw [if_pos c]
    refine ⟨pw.toNat, _, wt_dls _ w, noe_good h _ hg, ?_, rfl, hd, ?_⟩
    · rw [lamF_rptD, lamF_flat, lamF_dls]
    · rw [neg_app, neg_rptD, neg_flat]
      omega
  · rw [if_neg c]
    have l := lamF_Dvs h (flat R) (-pw).toNat
    refine ⟨(-pw).toNat * ((Dw n).length - 1), _, wt_dls _ w, noe_good h _ hg, ?_, rfl, hd, ?_⟩
    · rw [l.1, lamF_flat, lamF_dls]
    · rw [neg_app, neg_flat, l.2]
      have d := Dw_ne h
      have : (-pw).toNat * (Dw n).length = (-pw).toNat * ((Dw n).length - 1) + (-pw).toNat := by
        conv => lhs; rw [show (Dw n).length = ((Dw n).length - 1) + 1 by omega]
        rw [Nat.mul_succ]
      rw [this]
      omega
end GA
namespace GA
variable {n : Nat}
/-! ### the sum of signs -/
def sgn (x : Int) : Int := if 0 < x then 1 else if x < 0 then -1 else 0
def ssum : List Int → Int
  | [] => 0
  | x :: w => sgn x + ssum w
theorem ssum_app (u v : List Int) : ssum (u ++ v) = ssum u + ssum v := by
  induction u with
  | nil => simp [ssum]
  | cons x u ih => simp only [List.cons_append, ssum, ih]; omega
theorem Br.ssum {u v : List Int} (h : Br n u v) : ssum u = ssum v := by
  induction h with
  | refl u => rfl
  | symm _ ih => exact ih.symm
  | trans _ _ p q => exact p.trans q
  | canc u v x hx =>
    rw [ssum_app, ssum_app, ssum_app]
    simp only [GA.ssum, sgn]
    split <;> split <;> (try split) <;> omega
  | far u v i j hi hj h =>
    rw [ssum_app, ssum_app, ssum_app, ssum_app]
    simp only [GA.ssum, sgn]
    rw [if_pos (by omega), if_pos (by omega)]
  | braid u v i h =>
    rw [ssum_app, ssum_app, ssum_app, ssum_app]
    simp only [GA.ssum, sgn]
    rw [if_pos (by omega), if_pos (by omega)]
theorem ssum_pos : ∀ w : List Int, (∀ x ∈ w, 0 < x) → ssum w = w.length
  | [], _ => rfl
  | x :: w, h => by
    have := ssum_pos w fun y hy => h y (List.mem_cons_of_mem _ hy)
    have hx := h x (List.mem_cons_self ..)
    simp only [ssum, sgn, if_pos hx, List.length_cons, this]
    omega
theorem ssum_W (p : P n) : ssum (W p) = (W p).length := ssum_pos _ (W_pos p)
theorem ssum_iw (w : List Int) : ssum (iw w) = - ssum w := by
  induction w with
  | nil => rfl
  | cons x w ih =>
    rw [iw_cons, ssum_app, ih]
    simp only [ssum, sgn]
    split <;> split <;> (try split) <;> omega
theorem ssum_rpt (k : Nat) (w : List Int) : ssum (rpt k w) = k * ssum w := by
  induction k with
  | zero => simp [rpt, ssum]
  | succ k ih =>
    show ssum (w ++ rpt k w) = _
    rw [ssum_app, ih, Int.natCast_succ, Int.add_mul]
    omega
theorem ssum_fl (pw : Int) (R : List (P n)) : ssum (fl pw R) = pw * (Dw n).length + ssum (flat R) := by
  unfold fl
  rw [ssum_app]
  congr 1
  have d : ssum (Dw n) = (Dw n).length := ssum_W _
  by_cases c : 0 ≤ pw
  · rw [if_pos c, ssum_rpt, d, show ((pw.toNat : Nat) : Int) = pw by omega]
  · rw [if_neg c, ssum_rpt, ssum_iw, d, show (((-pw).toNat : Nat) : Int) = -pw by omega, Int.mul_neg, Int.neg_mul, Int.neg_neg]
/-- a letter more makes the word of a permutation longer or shorter by one -/
theorem len_add {p : P n} {i : Nat} (hi : i + 1 < n) (h : ¬ Fi p i) : (W (p * s i hi)).length = (W p).length + 1 := by
  have := (lemM p i hi h).ssum
  rw [ssum_app, ssum_W, ssum_W] at this
  simp only [ssum, sgn] at this
  rw [if_pos (by omega)] at this
  omega
theorem fi_s {p : P n} {i : Nat} (hi : i + 1 < n) (h : Fi p i) : ¬ Fi (p * s i hi) i := by
  intro z
  have z' : p.g (swf i (i + 1)) < p.g (swf i i) := z
  rw [swf1, swf2] at z'
  have h' : p.g (i + 1) < p.g i := h
  omega
theorem len_sub {p : P n} {i : Nat} (hi : i + 1 < n) (h : Fi p i) : (W (p * s i hi)).length + 1 = (W p).length := by
  have := len_add hi (fi_s hi h)
  rw [assoc, s_s, mul_one] at this
  exact this.symm
/-! ### the permutation of a word -/
def pm (w : List Int) : P n := w.foldl (fun p x => p * sg n (x.natAbs - 1)) one
theorem pm_app (u v : List Int) : (pm (u ++ v) : P n) = pm u * pm v := by
  unfold pm
  rw [List.foldl_append]
  have : ∀ (w : List Int) (p q : P n), w.foldl (fun p x => p * sg n (x.natAbs - 1)) (p * q) = p * w.foldl (fun p x => p * sg n (x.natAbs - 1)) q := fun w => by
    induction w with
    | nil => intro p q; rfl
    | cons x w ih => intro p q; exact ih p (q * sg n (x.natAbs - 1))
  exact this v (u.foldl _ one) one
theorem pm_one (x : Int) : (pm [x] : P n) = sg n (x.natAbs - 1) := one_mul _
theorem pm_two (x y : Int) : (pm [x, y] : P n) = sg n (x.natAbs - 1) * sg n (y.natAbs - 1) := rfl
theorem pm_three (x y z : Int) : (pm [x, y, z] : P n) = sg n (x.natAbs - 1) * sg n (y.natAbs - 1) * sg n (z.natAbs - 1) := rfl
theorem sg_is (i : Nat) (h : i + 1 < n) : sg n i = s i h := dif_pos h
theorem Br.pm {u v : List Int} (h : Br n u v) : (pm u : P n) = GA.pm v := by
  induction h with
  | refl u => rfl
  | symm _ ih => exact ih.symm
  | trans _ _ p q => exact p.trans q
  | canc u v x hx =>
    rw [pm_app, pm_app, pm_app, pm_two, show (-x).natAbs = x.natAbs by omega, sg_sg, one_mul]
  | far u v i j hi hj h =>
    rw [pm_app, pm_app, pm_app, pm_app, pm_two, pm_two]
    rw [show ((i : Int) + 1).natAbs - 1 = i by omega, show ((j : Int) + 1).natAbs - 1 = j by omega, sg_is i hi, sg_is j hj, s_far i j hi hj h]
  | braid u v i h =>
    rw [pm_app, pm_app, pm_app, pm_app, pm_three, pm_three]
    rw [show ((i : Int) + 1).natAbs - 1 = i by omega, show ((i : Int) + 2).natAbs - 1 = i + 1 by omega, sg_is i (by omega), sg_is (i + 1) h, s_bra i h]
end GA
namespace GA
variable {n : Nat}
/-! ### a permutation in front of a weighted row -/
noncomputable def hs (c : P n) : List (P n) → List (P n)
  | [] => [c]
  | f :: fs => hd c f :: hs (rs c f) fs
theorem hs_cons (c f : P n) (fs : List (P n)) : hs c (f :: fs) = hd c f :: hs (rs c f) fs := rfl
theorem hs_len (c : P n) (fs : List (P n)) : (hs c fs).length = fs.length + 1 := by
  induction fs generalizing c with
  | nil => rfl
  | cons f fs ih => rw [hs_cons, List.length_cons, ih, List.length_cons]
theorem hs_flat (c : P n) (fs : List (P n)) : Br n (flat (c :: fs)) (flat (hs c fs)) := by
  induction fs generalizing c with
  | nil => exact .refl _
  | cons f fs ih =>
    have a := flat_slide [] fs c f
    rw [List.nil_append, List.nil_append] at a
    refine a.trans ?_
    rw [hs_cons, flat_cons, flat_cons (hd c f)]
    exact (ih (rs c f)).l _
theorem stt_shift (c : P n) (X : Str n) : ∀ k, stt c X (k + 1) = stt (rs c (X 0)) (fun k => X (k + 1)) k
  | 0 => rfl
  | k + 1 => by
    show rs (stt c X (k + 1)) (X (k + 1)) = rs (stt (rs c (X 0)) (fun k => X (k + 1)) k) (X (k + 1))
    rw [stt_shift c X k]
theorem mt_one (a : P n) : mt a one = one := antisymm (mt_LM a one).l (fun i j h => absurd h.2 (by have := h.1; show ¬ (j < i); omega))
theorem strm_hs (c : P n) (fs : List (P n)) : strm (hs c fs) = lam c (strm fs) := by
  induction fs generalizing c with
  | nil =>
    funext k
    have e1 : ∀ x : P n, hd x one = x := fun x => by unfold hd; rw [mt_one, mul_one]
    have e2 : ∀ x : P n, rs x one = one := fun x => by unfold rs; rw [mt_one]; rfl
    have e3 : ∀ k, stt c (strm []) (k + 1) = one := fun k => e2 _
    show ([c] : List (P n)).getD k one = hd (stt c (strm []) k) one
    rw [e1]
    cases k with
    | zero => rfl
    | succ k => rw [e3]; rfl
  | cons f fs ih =>
    funext k
    cases k with
    | zero => rfl
    | succ k =>
      show strm (hs (rs c f) fs) k = hd (stt c (strm (f :: fs)) (k + 1)) (strm fs k)
      rw [ih, stt_shift]
      rfl
theorem wtl_strm : ∀ {R : List (P n)}, (∀ k, Wt (strm R k) (strm R (k + 1))) → WtL R
  | [], _ => trivial
  | [_], _ => trivial
  | a :: b :: R, h => ⟨h 0, wtl_strm (R := b :: R) fun k => h (k + 1)⟩
theorem hs_wt (c : P n) {fs : List (P n)} (h : WtL fs) : WtL (hs c fs) := by
  obtain ⟨R, hR, e⟩ := ex_row (c :: fs)
  refine wtl_strm fun k => ?_
  rw [strm_hs]
  rw [lamF_w R hR, lamF_cons, lamF_w fs h] at e
  rw [← e]
  exact strm_w R hR k
/-- leading half turns, factors, identities at the end -/
theorem split (h2 : 1 < n) {H : List (P n)} (h : WtL H) : ∃ (c : Nat) (R : List (P n)) (t : Nat), H = List.replicate c dl ++ (R ++ List.replicate t one) ∧ WtL R ∧ ∀ p ∈ R, p ≠ one ∧ p ≠ dl := by
  have A : ∀ H : List (P n), ∃ (c : Nat) (R : List (P n)), H = List.replicate c dl ++ R ∧ R.head? ≠ some dl := fun H => by
    induction H with
    | nil => exact ⟨0, [], rfl, by simp⟩
    | cons p H ih =>
      by_cases q : p = dl
      · obtain ⟨c, R, e, k⟩ := ih
        exact ⟨c + 1, R, by rw [e, q]; rfl, k⟩
      · exact ⟨0, p :: H, rfl, fun z => q (by simpa using z)⟩
  have B : ∀ (m : Nat) (H : List (P n)), H.length = m → ∃ (t : Nat) (R : List (P n)), H = R ++ List.replicate t one ∧ R.getLast? ≠ some one := fun m => by
    induction m with
    | zero => intro H hl; exact ⟨0, [], by rw [List.length_eq_zero_iff.mp hl]; rfl, by simp⟩
    | succ m ih =>
      intro H hl
      have hne : H ≠ [] := fun z => by rw [z] at hl; simp at hl
      obtain ⟨H', x, rfl⟩ : ∃ u' x, H = u' ++ [x] := ⟨_, _, (List.dropLast_concat_getLast hne).symm⟩
      by_cases q : x = one
      · obtain ⟨t, R, e, k⟩ := ih H' (by simpa using hl)
        refine ⟨t + 1, R, ?_, k⟩
        rw [e, q, List.append_assoc, List.replicate_succ']
      · refine ⟨0, H' ++ [x], by simp, ?_⟩
        simp
        exact q
  obtain ⟨c, R, e, k⟩ := A H
  obtain ⟨t, R2, e2, k2⟩ := B _ R rfl
  subst e2
  subst e
  have w : WtL (R2 ++ List.replicate t one) := h.app_r
  have w2 : WtL R2 := w.app_l
  refine ⟨c, R2, t, rfl, w2, fun p hp => ⟨fun z => k2 (last_one w2 (z ▸ hp)), fun z => ?_⟩⟩
  have hd := head_dl w2 (z ▸ hp)
  apply k
  cases R2 with
  | nil => cases hd
  | cons q R2 => exact hd
theorem W_Ds (q : P n) : ∀ k, Br n (W q ++ rpt k (Dw n)) (rpt k (Dw n) ++ W (tw k q))
  | 0 => by
    show Br n (W q ++ []) ([] ++ W (tw 0 q))
    have : tw 0 q = q := if_neg (by decide)
    rw [this, List.append_nil, List.nil_append]
    exact .refl _
  | k + 1 => by
    rw [rpt_end, ← List.append_assoc]
    refine ((W_Ds q k).r _).trans ?_
    rw [tw_succ, List.append_assoc, List.append_assoc]
    exact (W_D _ _ (Nat.le_refl _)).l _
theorem rpt_add (a b : Nat) (w : List Int) : rpt (a + b) w = rpt a w ++ rpt b w := by
  induction a with
  | zero => rw [Nat.zero_add]; rfl
  | succ a ih => rw [Nat.succ_add]; show w ++ rpt (a + b) w = w ++ rpt a w ++ rpt b w; rw [ih, List.append_assoc]
/-- the half turn to a power -/
def hpw (n : Nat) (pw : Int) : List Int := if 0 ≤ pw then rpt pw.toNat (Dw n) else rpt (-pw).toNat (Dv n)
theorem fl_is (pw : Int) (R : List (P n)) : fl pw R = hpw n pw ++ flat R := rfl
theorem W_hpw (q : P n) (pw : Int) : Br n (W q ++ hpw n pw) (hpw n pw ++ W (tw pw.natAbs q)) := by
  unfold hpw
  by_cases c : 0 ≤ pw
  · rw [if_pos c, show pw.natAbs = pw.toNat by omega]
    exact W_Ds q _
  · rw [if_neg c, show pw.natAbs = (-pw).toNat by omega]
    exact D_invs q _
theorem hpw_add (pw : Int) (c : Nat) : Br n (hpw n pw ++ rpt c (Dw n)) (hpw n (pw + c)) := by
  unfold hpw
  by_cases k : 0 ≤ pw
  · rw [if_pos k, if_pos (by omega), ← rpt_add, show (pw + c).toNat = pw.toNat + c by omega]
    exact .refl _
  · rw [if_neg k]
    have := rpt_canc (n := n) (-pw).toNat c
    rw [show -((-pw).toNat : Int) + (c : Int) = pw + c by omega] at this
    exact this
theorem flat_ones (t : Nat) : flat (List.replicate t (one : P n)) = [] := by
  induction t with
  | zero => rfl
  | succ t ih => rw [List.replicate_succ, flat_cons, ih, W_one]; rfl
/-- a permutation's word in front of a form's word -/
theorem front_word (p : P n) (pw : Int) (R : List (P n)) {c t : Nat} {R' : List (P n)} (e : hs (tw pw.natAbs p) R = List.replicate c dl ++ (R' ++ List.replicate t one)) : Br n (W p ++ fl pw R) (fl (pw + c) R') := by
  rw [fl_is, fl_is, ← List.append_assoc]
  refine ((W_hpw p pw).r _).trans ?_
  rw [List.append_assoc, ← flat_cons]
  refine ((hs_flat _ R).l _).trans ?_
  rw [e, flat_app, flat_app, flat_ones, List.append_nil, flat_dls, ← List.append_assoc]
  exact (hpw_add pw c).r _
end GA
namespace FW
def inv (l : List Int) : List Int := l.reverse.map fun x => -x
theorem inv_len (l : List Int) : (inv l).length = l.length := by simp [inv]
def stp : List Int → Int → List Int
  | y :: t, x => if y = -x then t else x :: y :: t
  | [], x => [x]
theorem stp_c (y : Int) (t : List Int) (x : Int) : stp (y :: t) x = if y = -x then t else x :: y :: t := rfl
def red (l : List Int) : List Int := (l.foldl stp []).reverse
def Rd : List Int → Prop
  | a :: b :: t => b ≠ -a ∧ Rd (b :: t)
  | _ => True
theorem Rd.tl {a : Int} {t : List Int} (h : Rd (a :: t)) : Rd t := by
  cases t with
  | nil => trivial
  | cons b t => exact h.2
theorem stp_rd {s : List Int} (h : Rd s) (x : Int) : Rd (stp s x) := by
  cases s with
  | nil => trivial
  | cons y t =>
    rw [stp_c]
    split
    · exact h.tl
    · rename_i c
      exact ⟨c, h⟩
theorem stp_two {s : List Int} (h : Rd s) (x : Int) : stp (stp s x) (-x) = s := by
  cases s with
  | nil => simp [stp]
  | cons y t =>
    by_cases c : y = -x
    · have e : stp (y :: t) x = t := by rw [stp_c, if_pos c]
      rw [e]
      cases t with
      | nil => simp [stp, c]
      | cons z t =>
        have : z ≠ -y := h.1
        rw [stp_c, if_neg (by rw [c] at this; simpa using this), c]
    · have e : stp (y :: t) x = x :: y :: t := by rw [stp_c, if_neg c]
      rw [e]
      rw [stp_c, if_pos (by omega)]
theorem fold_inv : ∀ (w s : List Int), Rd s → (w ++ inv w).foldl stp s = s
  | [], s, _ => rfl
  | x :: w, s, h => by
    have e : x :: w ++ inv (x :: w) = x :: ((w ++ inv w) ++ [-x]) := by simp [inv]
    rw [e, List.foldl_cons, List.foldl_append, fold_inv w _ (stp_rd h x)]
    exact stp_two h x
theorem red_inv (w : List Int) : red (w ++ inv w) = [] := by
  unfold red
  rw [fold_inv w [] trivial]
  rfl
theorem stp_len (s : List Int) (x : Int) : (stp s x).length ≤ s.length + 1 ∧ ((stp s x).length + s.length) % 2 = 1 := by
  cases s with
  | nil => simp [stp]
  | cons y t =>
    rw [stp_c]
    split <;> simp <;> omega
theorem fold_len : ∀ (l s : List Int), (l.foldl stp s).length ≤ s.length + l.length ∧ ((l.foldl stp s).length + s.length + l.length) % 2 = 0
  | [], s => by simp; omega
  | x :: l, s => by
    have := fold_len l (stp s x)
    have := stp_len s x
    simp only [List.foldl_cons, List.length_cons]
    omega
theorem red_len (l : List Int) : (red l).length ≤ l.length ∧ ((red l).length + l.length) % 2 = 0 := by
  have := fold_len l []
  simpa [red] using this
theorem fold_rd : ∀ (l s : List Int), Rd s → Rd (l.foldl stp s)
  | [], _, h => h
  | x :: l, s, h => fold_rd l _ (stp_rd h x)
theorem fold_red (l : List Int) : ∀ s : List Int, Rd s → (red l).foldl stp s = l.foldl stp s := by
  have main : ∀ (m : List Int), ∀ s : List Int, Rd s → ((m.reverse.foldl stp []).reverse).foldl stp s = m.reverse.foldl stp s := by
    intro m
    induction m with
    | nil => intro s h; rfl
    | cons x m ih =>
      intro s h
      rw [List.reverse_cons, List.foldl_append, List.foldl_append]
      have t := fold_rd m.reverse [] trivial
      have i := ih s h
      generalize m.reverse.foldl stp [] = q at *
      rw [← i]
      cases q with
      | nil => rfl
      | cons y q =>
        simp only [List.foldl_cons, List.foldl_nil]
        rw [stp_c]
        by_cases c : y = -x
        · rw [if_pos c, List.reverse_cons, List.foldl_append]
          have := stp_two (fold_rd q.reverse s h) y
          simp only [List.foldl_cons, List.foldl_nil]
          rw [show x = -y by omega, this]
        · rw [if_neg c]
          simp [List.foldl_append]
  have := main l.reverse
  simp only [List.reverse_reverse] at this
  exact this
/-- one word in the free group -/
def Eqv (a b : List Int) : Prop := ∀ s, Rd s → a.foldl stp s = b.foldl stp s
theorem Eqv.refl (a : List Int) : Eqv a a := fun _ _ => rfl
theorem Eqv.symm {a b : List Int} (h : Eqv a b) : Eqv b a := fun s hs => (h s hs).symm
theorem Eqv.trans {a b c : List Int} (h : Eqv a b) (k : Eqv b c) : Eqv a c := fun s hs => (h s hs).trans (k s hs)
theorem Eqv.app {a b c d : List Int} (h : Eqv a b) (k : Eqv c d) : Eqv (a ++ c) (b ++ d) := fun s hs => by
  rw [List.foldl_append, List.foldl_append, h s hs]
  exact k _ (fold_rd b s hs)
theorem Eqv.red {a b : List Int} (h : Eqv a b) : red a = red b := by
  unfold FW.red
  rw [h [] trivial]
theorem eqv_red (l : List Int) : Eqv (red l) l := fold_red l
theorem eqv_of {a b : List Int} (h : red a = red b) : Eqv a b := (eqv_red a).symm.trans (h ▸ eqv_red b)
theorem eqv_inv (w : List Int) : Eqv (w ++ inv w) [] := fun s hs => fold_inv w s hs
theorem inv_inv (w : List Int) : inv (inv w) = w := by
  unfold inv
  simp [Function.comp_def]
theorem eqv_inv' (w : List Int) : Eqv (inv w ++ w) [] := by
  have := eqv_inv (inv w)
  rwa [inv_inv] at this
theorem inv_app (a b : List Int) : inv (a ++ b) = inv b ++ inv a := by simp [inv]
theorem Eqv.inv {a b : List Int} (h : Eqv a b) : Eqv (inv a) (inv b) := by
  have h1 : Eqv (FW.inv a) (FW.inv a ++ (b ++ FW.inv b)) := by
    have := (Eqv.refl (FW.inv a)).app (eqv_inv b)
    rw [List.append_nil] at this
    exact this.symm
  have h2 : Eqv (FW.inv a ++ (b ++ FW.inv b)) (FW.inv b) := by
    rw [← List.append_assoc]
    have := (((Eqv.refl (FW.inv a)).app h.symm).trans (eqv_inv' a)).app (Eqv.refl (FW.inv b))
    exact this
  exact h1.trans h2
theorem red_rd (l : List Int) : red (red l) = red l := (eqv_red l).red
/-- a reduced word -/
def Red (l : List Int) : Prop := red l = l
theorem red_is (l : List Int) : Red (red l) := red_rd l
/-! ### putting words for the generators -/
def gen (R : List (List Int)) (x : Int) : List Int := if 0 < x then R.getD (x - 1).toNat [] else inv (R.getD (-x - 1).toNat [])
def sub (R : List (List Int)) (w : List Int) : List Int := (w.map (gen R)).flatten
theorem sub_nil (R : List (List Int)) : sub R [] = [] := rfl
theorem sub_cons (R : List (List Int)) (x : Int) (w : List Int) : sub R (x :: w) = gen R x ++ sub R w := rfl
theorem sub_app (R : List (List Int)) (v w : List Int) : sub R (v ++ w) = sub R v ++ sub R w := by simp [sub]
theorem gen_neg (R : List (List Int)) (x : Int) (h : x ≠ 0) : gen R (-x) = inv (gen R x) := by
  unfold gen
  by_cases c : 0 < x
  · rw [if_pos c, if_neg (by omega), Int.neg_neg]
  · rw [if_neg c, if_pos (by omega), inv_inv]
def Nz (l : List Int) : Prop := ∀ x ∈ l, x ≠ 0
theorem Nz.app {a b : List Int} (h : Nz a) (k : Nz b) : Nz (a ++ b) := fun x hx => by
  rcases List.mem_append.mp hx with z | z
  · exact h x z
  · exact k x z
theorem Nz.inv {a : List Int} (h : Nz a) : Nz (inv a) := fun x hx => by
  unfold FW.inv at hx
  obtain ⟨y, hy, rfl⟩ := List.mem_map.mp hx
  have := h y (List.mem_reverse.mp hy)
  omega
theorem sub_inv (R : List (List Int)) : ∀ (w : List Int), Nz w → sub R (inv w) = inv (sub R w)
  | [], _ => rfl
  | x :: w, h => by
    have e : inv (x :: w) = inv w ++ [-x] := by simp [inv]
    rw [e, sub_app, sub_inv R w (fun y hy => h y (List.mem_cons_of_mem _ hy)), sub_cons, sub_cons R x w, inv_app, sub_nil, List.append_nil, gen_neg R x (h x (List.mem_cons_self ..))]
theorem mem_stp {s : List Int} {x y : Int} (h : y ∈ stp s x) : y ∈ s ∨ y = x := by
  cases s with
  | nil => simp [stp] at h; exact .inr h
  | cons z t =>
    rw [stp_c] at h
    split at h
    · exact .inl (List.mem_cons_of_mem _ h)
    · rcases List.mem_cons.mp h with rfl | h
      · exact .inr rfl
      · exact .inl h
theorem mem_fold : ∀ (l s : List Int) {y : Int}, y ∈ l.foldl stp s → y ∈ s ∨ y ∈ l
  | [], s, y, h => .inl h
  | x :: l, s, y, h => by
    rcases mem_fold l (stp s x) h with z | z
    · rcases mem_stp z with z | rfl
      · exact .inl z
      · exact .inr (List.mem_cons_self ..)
    · exact .inr (List.mem_cons_of_mem _ z)
theorem mem_red {l : List Int} {y : Int} (h : y ∈ red l) : y ∈ l := by
  unfold red at h
  rcases mem_fold l [] (List.mem_reverse.mp h) with z | z
  · cases z
  · exact z
theorem Nz.red {l : List Int} (h : Nz l) : Nz (red l) := fun x hx => h x (mem_red hx)
theorem sub_fold (R : List (List Int)) : ∀ (l s : List Int), Nz l → Nz s → Eqv (sub R (l.foldl stp s).reverse) (sub R (s.reverse ++ l))
  | [], s, _, _ => by rw [List.append_nil]; exact Eqv.refl _
  | x :: l, s, hl, hs => by
    have hx : x ≠ 0 := hl x (List.mem_cons_self ..)
    have hl' : Nz l := fun y hy => hl y (List.mem_cons_of_mem _ hy)
    have hs' : Nz (stp s x) := fun y hy => by
      rcases mem_stp hy with z | rfl
      · exact hs y z
      · exact hx
    have i := sub_fold R l (stp s x) hl' hs'
    rw [List.foldl_cons]
    refine i.trans ?_
    have e : s.reverse ++ x :: l = (s.reverse ++ [x]) ++ l := by simp
    rw [e, sub_app, sub_app R (s.reverse ++ [x])]
    refine Eqv.app ?_ (Eqv.refl _)
    cases s with
    | nil => exact Eqv.refl _
    | cons y t =>
      rw [stp_c]
      split
      · rename_i c
        have : y = -x := c
        rw [List.reverse_cons, sub_app, sub_app, sub_cons, sub_cons, sub_nil, List.append_nil, List.append_nil, this, gen_neg R x hx, List.append_assoc]
        have := (Eqv.refl (sub R t.reverse)).app (eqv_inv' (gen R x))
        rw [List.append_nil] at this
        exact this.symm
      · rw [List.reverse_cons]
        exact Eqv.refl _
theorem sub_red (R : List (List Int)) (w : List Int) (h : Nz w) : Eqv (sub R (red w)) (sub R w) := by
  have := sub_fold R w [] h (fun x hx => nomatch hx)
  simpa [red] using this
def sR (R : List (List Int)) (w : List Int) : List Int := red (sub R w)
theorem sub_len (R : List (List Int)) (M : Nat) (hR : ∀ e ∈ R, e.length ≤ M) : ∀ w : List Int, (sub R w).length ≤ w.length * M
  | [] => by simp [sub_nil]
  | x :: w => by
    have i := sub_len R M hR w
    have g : (gen R x).length ≤ M := by
      have d : ∀ k : Nat, (R.getD k []).length ≤ M := fun k => by
        rw [List.getD_eq_getElem?_getD]
        cases q : R[k]? with
        | none => simp
        | some e => exact hR e (List.mem_of_getElem? q)
      unfold gen
      split
      · exact d _
      · rw [inv_len]; exact d _
    rw [sub_cons, List.length_append, List.length_cons, Nat.add_mul]
    omega
/-! ### the action -/
def stepR (a b : List Int) (x : Int) : List (List Int) := if 0 < x then [red (a ++ b ++ inv a), a] else [b, red (inv b ++ a ++ b)]
def ix (x : Int) : Nat := (x.natAbs - 1)
def mv1 (R : List (List Int)) (x : Int) : List (List Int) := R.take (ix x) ++ (stepR (R.getD (ix x) []) (R.getD (ix x + 1) []) x ++ R.drop (ix x + 2))
def rows (w : List Int) (R : List (List Int)) : List (List Int) := w.foldl mv1 R
theorem rows_app (v w : List Int) (R : List (List Int)) : rows (v ++ w) R = rows w (rows v R) := by simp [rows]
theorem rows_cons (x : Int) (w : List Int) (R : List (List Int)) : rows (x :: w) R = rows w (mv1 R x) := rfl
/-- letters that fit n strands -/
def Fits (n : Nat) (w : List Int) : Prop := ∀ x ∈ w, x ≠ 0 ∧ x.natAbs < n
theorem Fits.app {n : Nat} {a b : List Int} (h : Fits n a) (k : Fits n b) : Fits n (a ++ b) := fun x hx => by
  rcases List.mem_append.mp hx with z | z
  · exact h x z
  · exact k x z
theorem Fits.left {n : Nat} {a b : List Int} (h : Fits n (a ++ b)) : Fits n a := fun x hx => h x (List.mem_append_left _ hx)
theorem Fits.right {n : Nat} {a b : List Int} (h : Fits n (a ++ b)) : Fits n b := fun x hx => h x (List.mem_append_right _ hx)
theorem split2 (R : List (List Int)) (i : Nat) (h : i + 1 < R.length) : ∃ p a b q, R = p ++ a :: b :: q ∧ p.length = i ∧ R.getD i [] = a ∧ R.getD (i + 1) [] = b ∧ R.take i = p ∧ R.drop (i + 2) = q := by
  have e : R = R.take i ++ R.drop i := (List.take_append_drop i R).symm
  have pl : (R.take i).length = i := by rw [List.length_take]; omega
  have d1 : R.drop i = R[i] :: R.drop (i + 1) := List.drop_eq_getElem_cons (by omega)
  have d2 : R.drop (i + 1) = R[i + 1] :: R.drop (i + 2) := List.drop_eq_getElem_cons (by omega)
  refine ⟨R.take i, R[i], R[i + 1], R.drop (i + 2), ?_, pl, ?_, ?_, rfl, rfl⟩
  · conv => lhs; rw [e, d1, d2]
  · rw [List.getD_eq_getElem?_getD, List.getElem?_eq_getElem (by omega)]; rfl
  · rw [List.getD_eq_getElem?_getD, List.getElem?_eq_getElem (by omega)]; rfl
/-- a step, told of the parts -/
theorem mv1_parts (p q : List (List Int)) (a b : List Int) (x : Int) (h : p.length = ix x) : mv1 (p ++ a :: b :: q) x = p ++ (stepR a b x ++ q) := by
  unfold mv1
  have e1 : (p ++ a :: b :: q).getD (ix x) [] = a := by rw [← h, List.getD_eq_getElem?_getD]; simp
  have e2 : (p ++ a :: b :: q).getD (ix x + 1) [] = b := by rw [← h, List.getD_eq_getElem?_getD]; simp
  have e3 : (p ++ a :: b :: q).take (ix x) = p := by rw [← h]; simp
  have e4 : (p ++ a :: b :: q).drop (ix x + 2) = q := by rw [← h, List.drop_append]; simp
  rw [e1, e2, e3, e4]
theorem ix_ok {n : Nat} {x : Int} (h : x ≠ 0 ∧ x.natAbs < n) : ix x + 1 < n := by unfold ix; omega
theorem mv_case (R : List (List Int)) (x : Int) (h : x ≠ 0 ∧ x.natAbs < R.length) : ∃ p a b q, R = p ++ a :: b :: q ∧ p.length = ix x ∧ mv1 R x = p ++ (stepR a b x ++ q) := by
  obtain ⟨p, a, b, q, e, pl, _⟩ := split2 R (ix x) (ix_ok h)
  exact ⟨p, a, b, q, e, pl, e ▸ mv1_parts p q a b x pl⟩
theorem mv1_len (R : List (List Int)) (x : Int) (h : x ≠ 0 ∧ x.natAbs < R.length) : (mv1 R x).length = R.length := by
  obtain ⟨p, a, b, q, e, pl, m⟩ := mv_case R x h
  rw [m, e]
  unfold stepR
  split <;> simp
theorem rows_len (w : List Int) : ∀ (R : List (List Int)), Fits R.length w → (rows w R).length = R.length := by
  induction w with
  | nil => intro R _; rfl
  | cons x w ih =>
    intro R h
    have l := mv1_len R x (h x (List.mem_cons_self ..))
    rw [rows_cons, ih _ (by rw [l]; exact fun y hy => h y (List.mem_cons_of_mem _ hy)), l]
/-- all entries have a property -/
def All (P : List Int → Prop) (R : List (List Int)) : Prop := ∀ e ∈ R, P e
theorem all_mv1 {P : List Int → Prop} (h1 : ∀ a b, P a → P b → P (red (a ++ b ++ inv a))) (h2 : ∀ a b, P a → P b → P (red (inv b ++ a ++ b))) {R : List (List Int)} {x : Int} (h : x ≠ 0 ∧ x.natAbs < R.length) (hR : All P R) : All P (mv1 R x) := by
  obtain ⟨p, a, b, q, e, pl, m⟩ := mv_case R x h
  rw [m]
  subst e
  have ha : P a := hR a (by simp)
  have hb : P b := hR b (by simp)
  intro c hc
  simp only [List.mem_append] at hc
  rcases hc with hc | hc | hc
  · exact hR c (by simp [hc])
  · unfold stepR at hc
    split at hc
    · simp only [List.mem_cons, List.not_mem_nil, or_false] at hc
      rcases hc with rfl | rfl
      · exact h1 a b ha hb
      · exact ha
    · simp only [List.mem_cons, List.not_mem_nil, or_false] at hc
      rcases hc with rfl | rfl
      · exact hb
      · exact h2 a b ha hb
  · exact hR c (by simp [hc])
theorem all_rows {P : List Int → Prop} (h1 : ∀ a b, P a → P b → P (red (a ++ b ++ inv a))) (h2 : ∀ a b, P a → P b → P (red (inv b ++ a ++ b))) (w : List Int) : ∀ {R : List (List Int)}, Fits R.length w → All P R → All P (rows w R) := by
  induction w with
  | nil => intro R _ h; exact h
  | cons x w ih =>
    intro R h hR
    have hx := h x (List.mem_cons_self ..)
    rw [rows_cons]
    exact ih (by rw [mv1_len R x hx]; exact fun y hy => h y (List.mem_cons_of_mem _ hy)) (all_mv1 h1 h2 hx hR)
/-- letters are generators 1 .. n -/
def Gn (n : Nat) (l : List Int) : Prop := ∀ x ∈ l, x ≠ 0 ∧ x.natAbs ≤ n
theorem Gn.nz {n : Nat} {l : List Int} (h : Gn n l) : Nz l := fun x hx => (h x hx).1
theorem Gn.app {n : Nat} {a b : List Int} (h : Gn n a) (k : Gn n b) : Gn n (a ++ b) := fun x hx => by
  rcases List.mem_append.mp hx with z | z
  · exact h x z
  · exact k x z
theorem Gn.inv {n : Nat} {a : List Int} (h : Gn n a) : Gn n (inv a) := fun x hx => by
  unfold FW.inv at hx
  obtain ⟨y, hy, rfl⟩ := List.mem_map.mp hx
  have := h y (List.mem_reverse.mp hy)
  omega
theorem Gn.red {n : Nat} {a : List Int} (h : Gn n a) : Gn n (red a) := fun x hx => h x (mem_red hx)
theorem gn_rows {n : Nat} (w : List Int) {R : List (List Int)} (h : Fits R.length w) (hR : All (Gn n) R) : All (Gn n) (rows w R) :=
  all_rows (fun a b ha hb => ((ha.app hb).app ha.inv).red) (fun a b ha hb => ((hb.inv.app ha).app hb).red) w h hR
theorem red_rows (w : List Int) {R : List (List Int)} (h : Fits R.length w) (hR : All Red R) : All Red (rows w R) :=
  all_rows (fun a b _ _ => red_is _) (fun a b _ _ => red_is _) w h hR
/-- the images, put in: a step -/
theorem sR_mv1 (R S : List (List Int)) (x : Int) (h : x ≠ 0 ∧ x.natAbs < S.length) (hS : All Nz S) : (mv1 S x).map (sR R) = mv1 (S.map (sR R)) x := by
  obtain ⟨p, a, b, q, e, pl, m⟩ := mv_case S x h
  rw [m]
  subst e
  have ha : Nz a := hS a (by simp)
  have hb : Nz b := hS b (by simp)
  rw [List.map_append, List.map_append, List.map_append, List.map_cons, List.map_cons, mv1_parts _ _ _ _ _ (by rw [List.length_map]; exact pl)]
  congr 2
  unfold stepR
  split
  · simp only [List.map_cons, List.map_nil, List.cons.injEq, and_true]
    refine Eqv.red ?_
    refine (sub_red R _ ((ha.app hb).app ha.inv)).trans ?_
    rw [sub_app, sub_app, sub_inv R a ha]
    exact ((eqv_red _).symm.app (eqv_red _).symm).app (eqv_red _).symm.inv
  · simp only [List.map_cons, List.map_nil, List.cons.injEq, and_true, true_and]
    refine Eqv.red ?_
    refine (sub_red R _ ((hb.inv.app ha).app hb)).trans ?_
    rw [sub_app, sub_app, sub_inv R b hb]
    exact ((eqv_red _).symm.inv.app (eqv_red _).symm).app (eqv_red _).symm
theorem nz_rows (w : List Int) {R : List (List Int)} (h : Fits R.length w) (hR : All Nz R) : All Nz (rows w R) :=
  all_rows (fun a b ha hb => ((ha.app hb).app ha.inv).red) (fun a b ha hb => ((hb.inv.app ha).app hb).red) w h hR
theorem sR_rows (R : List (List Int)) (w : List Int) : ∀ (S : List (List Int)), Fits S.length w → All Nz S → (rows w S).map (sR R) = rows w (S.map (sR R)) := by
  induction w with
  | nil => intro S _ _; rfl
  | cons x w ih =>
    intro S h hS
    have hx := h x (List.mem_cons_self ..)
    rw [rows_cons, rows_cons, ih (mv1 S x) (by rw [mv1_len S x hx]; exact fun y hy => h y (List.mem_cons_of_mem _ hy)) (nz_rows [x] (fun y hy => by cases List.mem_singleton.mp hy; exact hx) hS), sR_mv1 R S x hx hS]
/-- the generators -/
def start (n : Nat) : List (List Int) := (List.range n).map fun k => [((k : Nat) : Int) + 1]
theorem start_len (n : Nat) : (start n).length = n := by simp [start]
theorem start_gn (n : Nat) : All (Gn n) (start n) := fun e he => by
  obtain ⟨k, hk, rfl⟩ := List.mem_map.mp he
  have := List.mem_range.mp hk
  intro x hx
  cases List.mem_singleton.mp hx
  omega
theorem start_nz (n : Nat) : All Nz (start n) := fun e he => (start_gn n e he).nz
theorem red_one (x : Int) : red [x] = [x] := by simp [red, stp]
theorem start_red (n : Nat) : All Red (start n) := fun e he => by
  obtain ⟨k, hk, rfl⟩ := List.mem_map.mp he
  exact red_one _
theorem start_sub (R : List (List Int)) (h : All Red R) : (start R.length).map (sR R) = R := by
  apply List.ext_getElem
  · simp [start]
  · intro i h1 h2
    have : (start R.length)[i]'(by simpa [start] using h2) = [(i : Int) + 1] := by simp [start]
    rw [List.getElem_map, this]
    unfold sR
    rw [sub_cons, sub_nil, List.append_nil]
    unfold gen
    rw [if_pos (by omega), show ((i : Int) + 1 - 1).toNat = i by omega, List.getD_eq_getElem?_getD, List.getElem?_eq_getElem h2]
    exact h _ (List.getElem_mem h2)
theorem rows_sub (R : List (List Int)) (w : List Int) (hw : Fits R.length w) (h : All Red R) : (rows w (start R.length)).map (sR R) = rows w R := by
  rw [sR_rows R w _ (by rw [start_len]; exact hw) (start_nz _), start_sub R h]
/-! ### the product of the images -/
theorem flat_mv1 (R : List (List Int)) (x : Int) (h : x ≠ 0 ∧ x.natAbs < R.length) : Eqv (mv1 R x).flatten R.flatten := by
  obtain ⟨p, a, b, q, e, pl, m⟩ := mv_case R x h
  rw [m, e, List.flatten_append, List.flatten_append, List.flatten_append, List.flatten_cons, List.flatten_cons, ← List.append_assoc a b q.flatten]
  refine (Eqv.refl _).app (Eqv.app ?_ (Eqv.refl _))
  unfold stepR
  split
  · simp only [List.flatten_cons, List.flatten_nil, List.append_nil]
    refine ((eqv_red _).app (Eqv.refl a)).trans ?_
    rw [List.append_assoc]
    have := (Eqv.refl (a ++ b)).app (eqv_inv' a)
    rwa [List.append_nil] at this
  · simp only [List.flatten_cons, List.flatten_nil, List.append_nil]
    refine ((Eqv.refl b).app (eqv_red _)).trans ?_
    rw [← List.append_assoc, ← List.append_assoc]
    exact ((eqv_inv b).app (Eqv.refl a)).app (Eqv.refl b)
theorem flat_rows (w : List Int) : ∀ (R : List (List Int)), Fits R.length w → Eqv (rows w R).flatten R.flatten := by
  induction w with
  | nil => intro R _; exact Eqv.refl _
  | cons x w ih =>
    intro R h
    have hx := h x (List.mem_cons_self ..)
    rw [rows_cons]
    exact (ih _ (by rw [mv1_len R x hx]; exact fun y hy => h y (List.mem_cons_of_mem _ hy))).trans (flat_mv1 R x hx)
def pos (n : Nat) : List Int := (List.range n).map fun k => ((k : Nat) : Int) + 1
theorem fold_pos : ∀ (l s : List Int), (∀ x ∈ l, 0 < x) → (∀ x ∈ s, 0 < x) → l.foldl stp s = l.reverse ++ s
  | [], _, _, _ => rfl
  | x :: l, s, hl, hs => by
    have hx := hl x (List.mem_cons_self ..)
    have e : stp s x = x :: s := by
      cases s with
      | nil => rfl
      | cons y t =>
        have := hs y (List.mem_cons_self ..)
        rw [stp_c, if_neg (by omega)]
    rw [List.foldl_cons, e, fold_pos l _ (fun y hy => hl y (List.mem_cons_of_mem _ hy)) (fun y hy => by
      rcases List.mem_cons.mp hy with rfl | hy
      · exact hx
      · exact hs y hy)]
    simp
theorem red_pos (n : Nat) : red (pos n) = pos n := by
  unfold red
  rw [fold_pos (pos n) [] (fun x hx => by
    obtain ⟨k, _, rfl⟩ := List.mem_map.mp hx
    omega) (fun x hx => nomatch hx)]
  simp
theorem start_flat (n : Nat) : (start n).flatten = pos n := by
  unfold start pos
  generalize List.range n = l
  induction l with
  | nil => rfl
  | cons a l ih => simp [ih]
theorem flat_ok (n : Nat) (w : List Int) (h : Fits n w) : red (rows w (start n)).flatten = pos n := by
  have := flat_rows w (start n) (by rw [start_len]; exact h)
  rw [this.red, start_flat, red_pos]
/-! ### one step and back -/
theorem mv1_back (R : List (List Int)) (x : Int) (h : x ≠ 0 ∧ x.natAbs < R.length) (hR : All Red R) : mv1 (mv1 R x) (-x) = R := by
  obtain ⟨p, a, b, q, e, pl, m⟩ := mv_case R x h
  rw [m]
  have hi : ix (-x) = ix x := by unfold ix; omega
  subst e
  have ha : red a = a := hR a (by simp)
  have hb : red b = b := hR b (by simp)
  by_cases c : 0 < x
  · have s1 : stepR a b x = [red (a ++ b ++ inv a), a] := if_pos c
    rw [s1, show p ++ ([red (a ++ b ++ inv a), a] ++ q) = p ++ red (a ++ b ++ inv a) :: a :: q from rfl, mv1_parts _ _ _ _ _ (by rw [hi]; exact pl)]
    unfold stepR
    rw [if_neg (by omega)]
    have : red (inv a ++ red (a ++ b ++ inv a) ++ a) = b := by
      rw [← hb]
      conv => rhs; rw [← red_rd]
      refine Eqv.red ?_
      rw [hb]
      refine (((Eqv.refl _).app (eqv_red _)).app (Eqv.refl _)).trans ?_
      rw [List.append_assoc, List.append_assoc, List.append_assoc, ← List.append_assoc (inv a) a]
      have := (eqv_inv' a).app ((Eqv.refl b).app (eqv_inv' a))
      rw [List.append_nil, List.nil_append] at this
      exact this
    rw [this]
    rfl
  · have s1 : stepR a b x = [b, red (inv b ++ a ++ b)] := if_neg c
    rw [s1, show p ++ ([b, red (inv b ++ a ++ b)] ++ q) = p ++ b :: red (inv b ++ a ++ b) :: q from rfl, mv1_parts _ _ _ _ _ (by rw [hi]; exact pl)]
    unfold stepR
    rw [if_pos (by omega)]
    have : red (b ++ red (inv b ++ a ++ b) ++ inv b) = a := by
      rw [← ha]
      conv => rhs; rw [← red_rd]
      refine Eqv.red ?_
      rw [ha]
      refine (((Eqv.refl _).app (eqv_red _)).app (Eqv.refl _)).trans ?_
      rw [List.append_assoc, List.append_assoc, List.append_assoc, ← List.append_assoc b (inv b)]
      have := (eqv_inv b).app ((Eqv.refl a).app (eqv_inv b))
      rw [List.append_nil, List.nil_append] at this
      exact this
    rw [this]
    rfl
/-! ### bounds -/
def Le (C : Nat) (e : List Int) : Prop := e.length ≤ C
def Small (R : List (List Int)) (w : List Int) (C : Nat) : Prop := ∀ p q, w = p ++ q → All (Le C) (rows p R)
theorem Small.up {R w C C'} (h : Small R w C) (e : C ≤ C') : Small R w C' := fun p q z e' he => Nat.le_trans (h p q z e' he) e
theorem small_nil {R C} (h : All (Le C) R) : Small R [] C := fun p q z => by
  have : p = [] := by cases p <;> simp_all
  subst this
  exact h
theorem Small.app {R u w C} (h : Small R u C) (k : Small (rows u R) w C) : Small R (u ++ w) C := fun p q z => by
  rcases List.append_eq_append_iff.mp z.symm with ⟨t, e1, e2⟩ | ⟨t, e1, e2⟩
  · exact h p t e1
  · subst e1
    rw [rows_app]
    exact k t q e2
theorem Small.left {R u w C} (h : Small R (u ++ w) C) : Small R u C := fun p q z => h p (q ++ w) (by rw [z, List.append_assoc])
theorem Small.right {R u w C} (h : Small R (u ++ w) C) : Small (rows u R) w C := fun p q z => by
  have := h (u ++ p) q (by rw [z, List.append_assoc])
  rwa [rows_app] at this
theorem Small.all {R w C} (h : Small R w C) : All (Le C) (rows w R) := h w [] (by simp)
theorem le_mv1 {R : List (List Int)} {x : Int} {C : Nat} (h : x ≠ 0 ∧ x.natAbs < R.length) (hR : All (Le C) R) : All (Le (3 * C)) (mv1 R x) := by
  obtain ⟨p, a, b, q, e, pl, m⟩ := mv_case R x h
  rw [m]
  subst e
  have ha : a.length ≤ C := hR a (by simp)
  have hb : b.length ≤ C := hR b (by simp)
  intro c hc
  simp only [List.mem_append] at hc
  unfold Le
  rcases hc with hc | hc | hc
  · have : c.length ≤ C := hR c (by simp [hc])
    omega
  · unfold stepR at hc
    split at hc
    · simp only [List.mem_cons, List.not_mem_nil, or_false] at hc
      rcases hc with rfl | rfl
      · have := (red_len (a ++ b ++ inv a)).1
        simp only [List.length_append, inv_len] at this
        omega
      · omega
    · simp only [List.mem_cons, List.not_mem_nil, or_false] at hc
      rcases hc with rfl | rfl
      · omega
      · have := (red_len (inv b ++ a ++ b)).1
        simp only [List.length_append, inv_len] at this
        omega
  · have : c.length ≤ C := hR c (by simp [hc])
    omega
theorem small_any (w : List Int) : ∀ (R : List (List Int)) (C : Nat), Fits R.length w → All (Le C) R → Small R w (C * 3 ^ w.length) := by
  induction w with
  | nil => intro R C _ h; exact small_nil (by simpa using h)
  | cons x w ih =>
    intro R C h hR p q z
    have hx := h x (List.mem_cons_self ..)
    cases p with
    | nil =>
      intro e he
      have := hR e he
      unfold Le at *
      have : 1 ≤ 3 ^ (x :: w).length := Nat.one_le_pow _ _ (by decide)
      calc e.length ≤ C * 1 := by omega
        _ ≤ _ := Nat.mul_le_mul_left _ this
    | cons y p =>
      rw [List.cons_append] at z
      obtain ⟨z1, z2⟩ := List.cons.inj z
      subst z1
      rw [rows_cons]
      have := ih (mv1 R x) (3 * C) (by rw [mv1_len R x hx]; exact fun y hy => h y (List.mem_cons_of_mem _ hy)) (le_mv1 hx hR) p q z2
      intro e he
      have := this e he
      unfold Le at *
      rw [List.length_cons, Nat.pow_succ]
      calc _ ≤ 3 * C * 3 ^ w.length := this
        _ = _ := by rw [Nat.mul_comm 3 C, Nat.mul_assoc, Nat.mul_comm 3]
theorem Small.snoc {R : List (List Int)} {u v : List Int} {C : Nat} (hf : Fits R.length (u ++ v)) (h : Small R u C) : Small R (u ++ v) (C * 3 ^ v.length) := by
  have e : 1 ≤ 3 ^ v.length := Nat.one_le_pow _ _ (by decide)
  have : C ≤ C * 3 ^ v.length := by
    calc C = C * 1 := by omega
      _ ≤ _ := Nat.mul_le_mul_left _ e
  exact (h.up this).app (small_any v _ C (by rw [rows_len _ _ hf.left]; exact hf.right) h.all)
theorem small_sub {R : List (List Int)} {w : List Int} {C M : Nat} (hf : Fits R.length w) (hR : All Red R) (hM : All (Le M) R) (h : Small (start R.length) w C) : Small R w (C * M) := fun p q z => by
  have hp : Fits R.length p := fun x hx => hf x (by rw [z]; exact List.mem_append_left _ hx)
  rw [← rows_sub R p hp hR]
  intro e he
  obtain ⟨f, hf', rfl⟩ := List.mem_map.mp he
  have := h p q z f hf'
  unfold Le at *
  have h2 := (red_len (sub R f)).1
  have h3 := sub_len R M hM f
  unfold sR
  have : f.length * M ≤ C * M := Nat.mul_le_mul_right _ this
  omega
end FW
namespace FW
/-! ### the rows of images hang on the braid alone -/
theorem stepR_pos (a b : List Int) {x : Int} (h : 0 < x) : stepR a b x = [red (a ++ b ++ inv a), a] := if_pos h
theorem split4 (R : List (List Int)) (i j : Nat) (h : i + 2 ≤ j) (hj : j + 1 < R.length) : ∃ p a b m c d q, R = p ++ a :: b :: (m ++ c :: d :: q) ∧ p.length = i ∧ (p ++ a :: b :: m).length = j := by
  obtain ⟨p, a, b, q, e, pl, _⟩ := split2 R i (by omega)
  have lq : j - (i + 2) + 1 < q.length := by
    have := congrArg List.length e
    simp at this
    omega
  obtain ⟨m, c, d, q', e', ml, _⟩ := split2 q (j - (i + 2)) lq
  exact ⟨p, a, b, m, c, d, q', by rw [e, e'], pl, by simp; omega⟩
theorem mv1_far (R : List (List Int)) (i j : Nat) (h : i + 2 ≤ j) (hj : j + 1 < R.length) : mv1 (mv1 R ((i : Int) + 1)) ((j : Int) + 1) = mv1 (mv1 R ((j : Int) + 1)) ((i : Int) + 1) := by
  obtain ⟨p, a, b, m, c, d, q, e, pl, ml⟩ := split4 R i j h hj
  have ii : ix ((i : Int) + 1) = i := by unfold ix; omega
  have ij : ix ((j : Int) + 1) = j := by unfold ix; omega
  subst e
  have e1 : p ++ a :: b :: (m ++ c :: d :: q) = (p ++ a :: b :: m) ++ c :: d :: q := by simp
  rw [mv1_parts p _ a b _ (by rw [ii]; exact pl), stepR_pos a b (by omega)]
  have e2 : p ++ ([red (a ++ b ++ inv a), a] ++ (m ++ c :: d :: q)) = (p ++ red (a ++ b ++ inv a) :: a :: m) ++ c :: d :: q := by simp
  rw [e2, mv1_parts _ q c d _ (by rw [ij, ← ml]; simp), stepR_pos c d (by omega)]
  rw [e1, mv1_parts _ q c d _ (by rw [ij]; exact ml), stepR_pos c d (by omega)]
  have e3 : p ++ a :: b :: m ++ ([red (c ++ d ++ inv c), c] ++ q) = p ++ a :: b :: (m ++ ([red (c ++ d ++ inv c), c] ++ q)) := by simp
  rw [e3, mv1_parts p _ a b _ (by rw [ii]; exact pl), stepR_pos a b (by omega)]
  simp
theorem bra_red (a b c : List Int) : red (red (a ++ b ++ inv a) ++ red (a ++ c ++ inv a) ++ inv (red (a ++ b ++ inv a))) = red (a ++ red (b ++ c ++ inv b) ++ inv a) := by
  refine Eqv.red ?_
  have u := eqv_red (a ++ b ++ inv a)
  have v := eqv_red (a ++ c ++ inv a)
  have w := eqv_red (b ++ c ++ inv b)
  refine ((u.app v).app u.inv).trans ?_
  refine Eqv.trans ?_ (((Eqv.refl a).app w).app (Eqv.refl (inv a))).symm
  have e1 : inv (a ++ b ++ inv a) = a ++ inv b ++ inv a := by rw [inv_app, inv_app, inv_inv, List.append_assoc]
  rw [e1]
  have k := eqv_inv' a
  have s1 : Eqv (a ++ b ++ (inv a ++ a) ++ c ++ (inv a ++ a) ++ inv b ++ inv a) (a ++ b ++ [] ++ c ++ [] ++ inv b ++ inv a) :=
    ((((((Eqv.refl (a ++ b)).app k).app (Eqv.refl c)).app k).app (Eqv.refl (inv b))).app (Eqv.refl (inv a)))
  simpa [List.append_assoc] using s1
theorem mv1_bra (R : List (List Int)) (i : Nat) (h : i + 2 < R.length) : mv1 (mv1 (mv1 R ((i : Int) + 1)) ((i : Int) + 2)) ((i : Int) + 1) = mv1 (mv1 (mv1 R ((i : Int) + 2)) ((i : Int) + 1)) ((i : Int) + 2) := by
  obtain ⟨p, a, b, q, e, pl, _⟩ := split2 R i (by omega)
  have lq : 0 < q.length := by
    have := congrArg List.length e
    simp at this
    omega
  obtain ⟨c, q', rfl⟩ : ∃ c q', q = c :: q' := by
    cases q with
    | nil => simp at lq
    | cons c q' => exact ⟨c, q', rfl⟩
  have ii : ix ((i : Int) + 1) = i := by unfold ix; omega
  have ij : ix ((i : Int) + 2) = i + 1 := by unfold ix; omega
  have m1 : ∀ x y : List Int, ∀ z : List (List Int), mv1 (p ++ x :: y :: z) ((i : Int) + 1) = p ++ red (x ++ y ++ inv x) :: x :: z := fun x y z => by
    rw [mv1_parts p z x y _ (by rw [ii]; exact pl), stepR_pos x y (by omega)]; rfl
  have m2 : ∀ x y z : List Int, mv1 (p ++ x :: y :: z :: q') ((i : Int) + 2) = p ++ x :: red (y ++ z ++ inv y) :: y :: q' := fun x y z => by
    have e2 : p ++ x :: y :: z :: q' = (p ++ [x]) ++ y :: z :: q' := by simp
    rw [e2, mv1_parts (p ++ [x]) q' y z _ (by rw [ij, List.length_append, List.length_singleton, pl]), stepR_pos y z (by omega)]
    simp
  rw [e, m1, m2, m1, m2, m1, m2, bra_red]
/-- a letter's move; nothing for a number that is no letter -/
def mvT (n : Nat) (R : List (List Int)) (x : Int) : List (List Int) := if x ≠ 0 ∧ x.natAbs < n then mv1 R x else R
theorem mvT_len {n : Nat} {R : List (List Int)} (h : R.length = n) (x : Int) : (mvT n R x).length = n := by
  unfold mvT
  split
  · rename_i c
    rw [mv1_len R x (by rw [h]; exact c), h]
  · exact h
theorem mvT_red {n : Nat} {R : List (List Int)} (h : R.length = n) (hR : All Red R) (x : Int) : All Red (mvT n R x) := by
  unfold mvT
  split
  · rename_i c
    exact red_rows [x] (R := R) (fun y hy => by rw [List.mem_singleton.mp hy, h]; exact c) hR
  · exact hR
def rowsT (n : Nat) (w : List Int) (R : List (List Int)) : List (List Int) := w.foldl (mvT n) R
theorem rowsT_app (n : Nat) (u v : List Int) (R : List (List Int)) : rowsT n (u ++ v) R = rowsT n v (rowsT n u R) := by simp [rowsT]
theorem rowsT_ok {n : Nat} (w : List Int) : ∀ {R : List (List Int)}, R.length = n → All Red R → (rowsT n w R).length = n ∧ All Red (rowsT n w R) := by
  induction w with
  | nil => intro R h hR; exact ⟨h, hR⟩
  | cons x w ih => intro R h hR; exact ih (mvT_len h x) (mvT_red h hR x)
theorem rowsT_is {n : Nat} (w : List Int) : ∀ {R : List (List Int)}, R.length = n → Fits n w → rowsT n w R = rows w R := by
  induction w with
  | nil => intro R _ _; rfl
  | cons x w ih =>
    intro R h hf
    have hx := hf x (List.mem_cons_self ..)
    have e : mvT n R x = mv1 R x := if_pos hx
    show rowsT n w (mvT n R x) = rows w (mv1 R x)
    rw [e]
    exact ih (by rw [mv1_len R x (by rw [h]; exact hx), h]) fun y hy => hf y (List.mem_cons_of_mem _ hy)
theorem mvT_pos {n i : Nat} (R : List (List Int)) (h : i + 1 < n) : mvT n R ((i : Int) + 1) = mv1 R ((i : Int) + 1) := if_pos (by omega)
theorem br_rows {n : Nat} {u v : List Int} (h : GA.Br n u v) : ∀ R : List (List Int), R.length = n → All Red R → rowsT n u R = rowsT n v R := by
  induction h with
  | refl u => intro R _ _; rfl
  | symm _ ih => intro R a b; exact (ih R a b).symm
  | trans _ _ p q => intro R a b; exact (p R a b).trans (q R a b)
  | canc u v x hx =>
    intro R hl hR
    obtain ⟨l1, r1⟩ := rowsT_ok u hl hR
    rw [rowsT_app, rowsT_app, rowsT_app]
    generalize rowsT n u R = S at *
    have e1 : mvT n S x = mv1 S x := if_pos hx
    have e2 : rowsT n [x, -x] S = S := by
      show mvT n (mvT n S x) (-x) = S
      rw [e1, show mvT n (mv1 S x) (-x) = mv1 (mv1 S x) (-x) from if_pos (by omega)]
      exact mv1_back S x (by rw [l1]; exact hx) r1
    rw [e2]
  | far u v i j hi hj hij =>
    intro R hl hR
    obtain ⟨l1, r1⟩ := rowsT_ok u hl hR
    rw [rowsT_app, rowsT_app, rowsT_app, rowsT_app]
    generalize rowsT n u R = S at *
    have e2 : rowsT n [(i : Int) + 1, (j : Int) + 1] S = rowsT n [(j : Int) + 1, (i : Int) + 1] S := by
      show mvT n (mvT n S _) _ = mvT n (mvT n S _) _
      rw [mvT_pos _ hi, mvT_pos _ hj, mvT_pos _ hj, mvT_pos _ hi]
      exact mv1_far S i j hij (by rw [l1]; exact hj)
    rw [e2]
  | braid u v i hi =>
    intro R hl hR
    obtain ⟨l1, r1⟩ := rowsT_ok u hl hR
    rw [rowsT_app, rowsT_app, rowsT_app, rowsT_app]
    generalize rowsT n u R = S at *
    have m2 : ∀ T : List (List Int), mvT n T ((i : Int) + 2) = mv1 T ((i : Int) + 2) := fun T => if_pos (by omega)
    have e2 : rowsT n [(i : Int) + 1, (i : Int) + 2, (i : Int) + 1] S = rowsT n [(i : Int) + 2, (i : Int) + 1, (i : Int) + 2] S := by
      show mvT n (mvT n (mvT n S _) _) _ = mvT n (mvT n (mvT n S _) _) _
      rw [mvT_pos _ (by omega), mvT_pos _ (by omega), mvT_pos _ (by omega), m2, m2, m2]
      exact mv1_bra S i (by rw [l1]; exact hi)
    rw [e2]
end FW
namespace FW
/-! ### how fast the images grow: a new entry is longer than two old ones and a third, and only one entry is new -/
/-- all entries at most a, all but one at most b -/
def Two (R : List (List Int)) (a b : Nat) : Prop := All (Le a) R ∧ ∃ p e q, R = p ++ e :: q ∧ All (Le b) p ∧ All (Le b) q
theorem red3_len (x y z : List Int) : (red (x ++ y ++ z)).length ≤ x.length + y.length + z.length := by
  have := (red_len (x ++ y ++ z)).1
  rw [List.length_append, List.length_append] at this
  exact this
theorem two_mv1 {R : List (List Int)} {a b : Nat} {x : Int} (h : x ≠ 0 ∧ x.natAbs < R.length) (hab : b ≤ a) (t : Two R a b) : Two (mv1 R x) (2 * a + b) a := by
  obtain ⟨p, u, v, q, e, pl, m⟩ := mv_case R x h
  obtain ⟨ha, p', f, q', e', hp', hq'⟩ := t
  rw [m]
  have hu : u.length ≤ a := ha u (by rw [e]; simp)
  have hv : v.length ≤ a := ha v (by rw [e]; simp)
  have hp : All (Le a) p := fun z hz => ha z (by rw [e]; simp [hz])
  have hq : All (Le a) q := fun z hz => ha z (by rw [e]; simp [hz])
  have uv : u.length ≤ b ∨ v.length ≤ b := by
    have e2 : p ++ u :: v :: q = p' ++ f :: q' := e.symm.trans e'
    rcases List.append_eq_append_iff.mp e2 with ⟨c, c1, c2⟩ | ⟨c, c1, c2⟩
    · cases c with
      | nil =>
        right
        have := (List.cons.inj c2).2
        exact hq' v (by rw [← this]; simp)
      | cons w c =>
        left
        have w1 : u = w := (List.cons.inj c2).1
        exact hp' u (by rw [c1, w1]; simp)
    · cases c with
      | nil =>
        right
        have := (List.cons.inj c2).2
        exact hq' v (by rw [this]; simp)
      | cons w c =>
        left
        have := (List.cons.inj c2).2
        exact hq' u (by rw [this]; simp)
  by_cases c : 0 < x
  · have s1 : stepR u v x = [red (u ++ v ++ inv u), u] := if_pos c
    rw [s1]
    have l := red3_len u v (inv u)
    rw [inv_len] at l
    have ln : (red (u ++ v ++ inv u)).length ≤ 2 * a + b := by omega
    refine ⟨fun z hz => ?_, p, red (u ++ v ++ inv u), u :: q, rfl, hp, fun z hz => ?_⟩
    · rcases List.mem_append.mp hz with w | w
      · have := hp z w; unfold Le at *; omega
      · rcases List.mem_cons.mp w with rfl | w
        · exact ln
        · rcases List.mem_cons.mp w with rfl | w
          · unfold Le; omega
          · have := hq z w; unfold Le at *; omega
    · rcases List.mem_cons.mp hz with rfl | w
      · exact hu
      · exact hq z w
  · have s1 : stepR u v x = [v, red (inv v ++ u ++ v)] := if_neg c
    rw [s1]
    have l := red3_len (inv v) u v
    rw [inv_len] at l
    have ln : (red (inv v ++ u ++ v)).length ≤ 2 * a + b := by omega
    refine ⟨fun z hz => ?_, p ++ [v], red (inv v ++ u ++ v), q, by simp, fun z hz => ?_, hq⟩
    · rcases List.mem_append.mp hz with w | w
      · have := hp z w; unfold Le at *; omega
      · rcases List.mem_cons.mp w with rfl | w
        · unfold Le; omega
        · rcases List.mem_cons.mp w with rfl | w
          · exact ln
          · have := hq z w; unfold Le at *; omega
    · rcases List.mem_append.mp hz with w | w
      · exact hp z w
      · rw [List.mem_singleton.mp w]; exact hv
/-- the bounds: 1, 3, 7, 17, .. -/
def pell : Nat → Nat × Nat
  | 0 => (1, 1)
  | k + 1 => (2 * (pell k).1 + (pell k).2, (pell k).1)
theorem pell_le : ∀ k, (pell k).2 ≤ (pell k).1
  | 0 => Nat.le_refl _
  | k + 1 => by show (pell k).1 ≤ 2 * (pell k).1 + (pell k).2; omega
theorem two_rows (w : List Int) : ∀ (R : List (List Int)) (k : Nat), Fits R.length w → Two R (pell k).1 (pell k).2 → Two (rows w R) (pell (k + w.length)).1 (pell (k + w.length)).2 := by
  induction w with
  | nil => intro R k _ t; exact t
  | cons x w ih =>
    intro R k hf t
    have hx := hf x (List.mem_cons_self ..)
    have := ih (mv1 R x) (k + 1) (fun y hy => by rw [mv1_len R x hx]; exact hf y (List.mem_cons_of_mem _ hy)) (two_mv1 hx (pell_le k) t)
    rw [show k + (x :: w).length = k + 1 + w.length by rw [List.length_cons]; omega]
    exact this
end FW
namespace FW
open GA (P one St Fi)
variable {n : Nat}
/-! ### the images of a simple word -/
/-- who has crossed strand c from the left: ascending -/
def below (p : P n) (c : Nat) : List Int := ((List.range c).filter fun k => decide (p.f c < p.f k)).map fun k => ((k : Nat) : Int) + 1
def ent (p : P n) (c : Nat) : List Int := below p c ++ [(c : Int) + 1] ++ inv (below p c)
/-- the row of the permutation p -/
def rowP (p : P n) : List (List Int) := (List.range n).map fun j => ent p (p.g j)
theorem rowP_len (p : P n) : (rowP p).length = n := by simp [rowP]
theorem ent_len (p : P n) (c : Nat) (hc : c < n) : (ent p c).length ≤ 2 * n - 1 := by
  have : (below p c).length ≤ c := by
    unfold below
    rw [List.length_map]
    have := List.length_filter_le (fun k => decide (p.f c < p.f k)) (List.range c)
    rwa [List.length_range] at this
  unfold ent
  rw [List.length_append, List.length_append, inv_len, List.length_singleton]
  omega
theorem rowP_one : rowP (one : P n) = start n := by
  unfold rowP start
  apply List.map_congr_left
  intro j _
  have e : below (one : P n) ((one : P n).g j) = [] := by
    unfold below
    rw [List.map_eq_nil_iff, List.filter_eq_nil_iff]
    intro k hk
    have hk' := List.mem_range.mp hk
    have hk2 : k < j := hk'
    show ¬ decide (j < k) = true
    rw [decide_eq_true_eq]
    omega
  unfold ent
  rw [e]
  rfl
/-- one more crossing: who is below whom -/
theorem below_step (p : P n) (i : Nat) (hi : i + 1 < n) (h : ¬ Fi p i) : below (p * GA.s i hi) (p.g i) = below p (p.g i) := by
  have hlt : p.g i < p.g (i + 1) := by
    rcases Nat.lt_or_ge (p.g i) (p.g (i + 1)) with z | z
    · exact z
    · exfalso
      apply h
      show p.g (i + 1) < p.g i
      have : p.g (i + 1) ≠ p.g i := fun q => by have := p.ginj q; omega
      omega
  unfold below
  congr 1
  apply List.filter_congr
  intro k hk
  have hk' := List.mem_range.mp hk
  have e1 : (p * GA.s i hi).f (p.g i) = i + 1 := by
    show GA.swf i (p.f (p.g i)) = i + 1
    rw [p.fg, GA.swf1]
  have e2 : (p * GA.s i hi).f k = GA.swf i (p.f k) := rfl
  have ne : p.f k ≠ i + 1 := fun q => by
    have : k = p.g (i + 1) := by rw [← q, p.gf]
    omega
  have ne2 : p.f k ≠ i := fun q => by
    have : k = p.g i := by rw [← q, p.gf]
    omega
  rw [e1, e2, GA.swf3 ne2 ne, p.fg]
  congr 1
  apply propext
  omega
end FW
namespace FW
open GA (P one St Fi)
variable {n : Nat}
/-- a row of negative letters on a positive one that does not meet it -/
theorem fold_neg : ∀ (l s : List Int) (t : Int), (∀ x ∈ l, x < 0) → t < 0 → l.foldl stp (t :: s) = l.reverse ++ t :: s
  | [], s, t, _, _ => rfl
  | x :: l, s, t, h, ht => by
    have hx := h x (List.mem_cons_self ..)
    show l.foldl stp (stp (t :: s) x) = _
    rw [stp_c, if_neg (by omega), fold_neg l (t :: s) x (fun y hy => h y (List.mem_cons_of_mem _ hy)) hx]
    simp
theorem red_sym (A : List Int) (y : Int) (hA : ∀ x ∈ A, 0 < x) (hy : 0 < y) (ne : y ∉ A) : red (A ++ [y] ++ inv A) = A ++ [y] ++ inv A := by
  have f1 : (A ++ [y]).foldl stp [] = y :: A.reverse := by
    rw [fold_pos (A ++ [y]) [] (fun x hx => by
      rcases List.mem_append.mp hx with z | z
      · exact hA x z
      · rw [List.mem_singleton.mp z]; exact hy) (fun x hx => nomatch hx)]
    simp
  have f2 : (inv A).foldl stp (y :: A.reverse) = (inv A).reverse ++ y :: A.reverse := by
    have neg : ∀ x ∈ inv A, x < 0 ∧ y ≠ -x := fun x hx => by
      obtain ⟨z, hz, rfl⟩ := List.mem_map.mp hx
      have hz' := List.mem_reverse.mp hz
      have := hA z hz'
      exact ⟨by omega, fun q => ne (by rw [q, Int.neg_neg]; exact hz')⟩
    generalize inv A = l at *
    cases l with
    | nil => rfl
    | cons x l =>
      obtain ⟨h1, h2⟩ := neg x (List.mem_cons_self ..)
      show l.foldl stp (stp (y :: A.reverse) x) = _
      rw [stp_c, if_neg h2, fold_neg l (y :: A.reverse) x (fun z hz => (neg z (List.mem_cons_of_mem _ hz)).1) h1]
      simp
  unfold red
  rw [List.foldl_append, f1, f2]
  simp
/-- the crossing of x over y, told by their rows: L1 below x, L1 ++ L2 below y -/
theorem cross_red (L1 L2 : List Int) (x y : Int) (h : red (L1 ++ [x] ++ L2 ++ [y] ++ inv (L1 ++ [x] ++ L2)) = L1 ++ [x] ++ L2 ++ [y] ++ inv (L1 ++ [x] ++ L2)) :
    red ((L1 ++ [x] ++ inv L1) ++ ((L1 ++ L2) ++ [y] ++ inv (L1 ++ L2)) ++ inv (L1 ++ [x] ++ inv L1)) = L1 ++ [x] ++ L2 ++ [y] ++ inv (L1 ++ [x] ++ L2) := by
  rw [← h]
  refine Eqv.red ?_
  have k := eqv_inv' L1
  have e1 : inv (L1 ++ [x] ++ inv L1) = L1 ++ inv [x] ++ inv L1 := by rw [inv_app, inv_app, inv_inv, List.append_assoc]
  have e2 : inv (L1 ++ L2) = inv L2 ++ inv L1 := inv_app _ _
  have e3 : inv (L1 ++ [x] ++ L2) = inv L2 ++ (inv [x] ++ inv L1) := by rw [inv_app, inv_app]
  rw [e1, e2, e3]
  have s1 : Eqv (L1 ++ [x] ++ (inv L1 ++ L1) ++ L2 ++ [y] ++ inv L2 ++ (inv L1 ++ L1) ++ inv [x] ++ inv L1) (L1 ++ [x] ++ [] ++ L2 ++ [y] ++ inv L2 ++ [] ++ inv [x] ++ inv L1) :=
    (((((((Eqv.refl (L1 ++ [x])).app k).app (Eqv.refl L2)).app (Eqv.refl [y])).app (Eqv.refl (inv L2))).app k).app (Eqv.refl (inv [x]))).app (Eqv.refl (inv L1))
  simpa [List.append_assoc] using s1
end FW
namespace FW
open GA (P one St Fi)
variable {n : Nat}
theorem flt_below (p : P n) (i : Nat) (hi : i + 1 < n) (h : p.g i < p.g (i + 1)) :
    ∃ L1 L2 : List Int, below p (p.g i) = L1 ∧ below p (p.g (i + 1)) = L1 ++ L2 ∧ below (p * GA.s i hi) (p.g (i + 1)) = L1 ++ [((p.g i : Nat) : Int) + 1] ++ L2 ∧
      (∀ z ∈ L1, 0 < z ∧ z < ((p.g (i + 1) : Nat) : Int) + 1) ∧ ∀ z ∈ L2, 0 < z ∧ z < ((p.g (i + 1) : Nat) : Int) + 1 := by
  generalize hx : p.g i = x at *
  generalize hy : p.g (i + 1) = y at *
  have fx : p.f x = i := by rw [← hx, p.fg]
  have fy : p.f y = i + 1 := by rw [← hy, p.fg]
  have rs : List.range y = List.range x ++ x :: (List.range (y - x - 1)).map (fun k => x + 1 + k) := by
    have e : y = x + (y - x - 1 + 1) := by omega
    conv => lhs; rw [e]
    rw [List.range_add, List.range_succ_eq_map, List.map_cons, List.map_map, Nat.add_zero]
    congr 2
    apply List.map_congr_left
    intro k _
    show x + (k + 1) = x + 1 + k
    omega
  let Q : Nat → Bool := fun k => decide (i + 1 < p.f k)
  let f : Nat → Int := fun k => ((k : Nat) : Int) + 1
  have other : ∀ k, k ≠ x → k ≠ y → p.f k ≠ i ∧ p.f k ≠ i + 1 := fun k a b => ⟨fun z => a (p.inj (by rw [z, fx])), fun z => b (p.inj (by rw [z, fy]))⟩
  refine ⟨((List.range x).filter Q).map f, (((List.range (y - x - 1)).map (fun k => x + 1 + k)).filter Q).map f, ?_, ?_, ?_, ?_, ?_⟩
  · unfold below
    congr 1
    apply List.filter_congr
    intro k hk
    have hk' := List.mem_range.mp hk
    obtain ⟨a, b⟩ := other k (by omega) (by omega)
    rw [fx]
    show decide (i < p.f k) = decide (i + 1 < p.f k)
    congr 1
    apply propext
    omega
  · unfold below
    rw [fy, rs, List.filter_append, List.filter_cons, fx, if_neg (by simp), List.map_append]
  · unfold below
    have e1 : (p * GA.s i hi).f y = i := by
      show GA.swf i (p.f y) = i
      rw [fy, GA.swf2]
    have e2 : ∀ k, k ≠ y → k ≠ x → decide (i < (p * GA.s i hi).f k) = Q k := fun k a b => by
      obtain ⟨c, d⟩ := other k b a
      show decide (i < GA.swf i (p.f k)) = decide (i + 1 < p.f k)
      rw [GA.swf3 c d]
      congr 1
      apply propext
      omega
    have e3 : (p * GA.s i hi).f x = i + 1 := by
      show GA.swf i (p.f x) = i + 1
      rw [fx, GA.swf1]
    rw [e1, rs, List.filter_append, List.filter_cons, e3, if_pos (by simp), List.map_append, List.map_cons]
    have a1 : (List.range x).filter (fun k => decide (i < (p * GA.s i hi).f k)) = (List.range x).filter Q := List.filter_congr fun k hk => by
      have := List.mem_range.mp hk
      exact e2 k (by omega) (by omega)
    have a2 : ((List.range (y - x - 1)).map (fun k => x + 1 + k)).filter (fun k => decide (i < (p * GA.s i hi).f k)) = ((List.range (y - x - 1)).map (fun k => x + 1 + k)).filter Q := List.filter_congr fun k hk => by
      obtain ⟨j, hj, rfl⟩ := List.mem_map.mp hk
      have := List.mem_range.mp hj
      exact e2 _ (by omega) (by omega)
    rw [a1, a2, List.append_assoc]
    rfl
  · intro z hz
    obtain ⟨k, hk, rfl⟩ := List.mem_map.mp hz
    have := List.mem_range.mp (List.mem_filter.mp hk).1
    show 0 < ((k : Nat) : Int) + 1 ∧ ((k : Nat) : Int) + 1 < ((y : Nat) : Int) + 1
    omega
  · intro z hz
    obtain ⟨k, hk, rfl⟩ := List.mem_map.mp hz
    obtain ⟨j, hj, rfl⟩ := List.mem_map.mp (List.mem_filter.mp hk).1
    have := List.mem_range.mp hj
    show 0 < ((x + 1 + j : Nat) : Int) + 1 ∧ ((x + 1 + j : Nat) : Int) + 1 < ((y : Nat) : Int) + 1
    omega
end FW
namespace FW
open GA (P one St Fi)
variable {n : Nat}
theorem range_two (i : Nat) (hi : i + 1 < n) : List.range n = List.range i ++ i :: (i + 1) :: (List.range (n - i - 2)).map (fun k => i + 2 + k) := by
  have e : n = i + (n - i - 2 + 1 + 1) := by omega
  conv => lhs; rw [e]
  rw [List.range_add, List.range_succ_eq_map, List.range_succ_eq_map, List.map_cons, List.map_map, List.map_cons, List.map_map, Nat.add_zero]
  congr 2
  show (i + 1) :: _ = _
  congr 1
  apply List.map_congr_left
  intro k _
  show i + (k + 1 + 1) = i + 2 + k
  omega
theorem ent_far (p : P n) (i j : Nat) (hi : i + 1 < n) (h1 : j ≠ i) (h2 : j ≠ i + 1) : ent (p * GA.s i hi) ((p * GA.s i hi).g j) = ent p (p.g j) := by
  have e : (p * GA.s i hi).g j = p.g j := by
    show p.g (GA.swf i j) = p.g j
    rw [GA.swf3 h1 h2]
  rw [e]
  unfold ent
  have b : below (p * GA.s i hi) (p.g j) = below p (p.g j) := by
    unfold below
    congr 1
    apply List.filter_congr
    intro k _
    show decide (GA.swf i (p.f (p.g j)) < GA.swf i (p.f k)) = decide (p.f (p.g j) < p.f k)
    rw [p.fg, GA.swf3 h1 h2]
    congr 1
    apply propext
    unfold GA.swf
    split
    · omega
    · split <;> omega
  rw [b]
theorem rowP_step (p : P n) (i : Nat) (hi : i + 1 < n) (h : ¬ Fi p i) : mv1 (rowP p) ((i : Int) + 1) = rowP (p * GA.s i hi) := by
  have hlt : p.g i < p.g (i + 1) := by
    rcases Nat.lt_or_ge (p.g i) (p.g (i + 1)) with z | z
    · exact z
    · exfalso
      apply h
      show p.g (i + 1) < p.g i
      have : p.g (i + 1) ≠ p.g i := fun q => by have := p.ginj q; omega
      omega
  obtain ⟨L1, L2, b1, b2, b3, p1, p2⟩ := flt_below p i hi hlt
  have ii : ix ((i : Int) + 1) = i := by unfold ix; omega
  unfold rowP
  rw [range_two i hi, List.map_append, List.map_cons, List.map_cons, List.map_append, List.map_cons, List.map_cons]
  rw [mv1_parts _ _ _ _ _ (by rw [ii]; simp), stepR_pos _ _ (by omega)]
  have g1 : (p * GA.s i hi).g i = p.g (i + 1) := by
    show p.g (GA.swf i i) = _
    rw [GA.swf1]
  have g2 : (p * GA.s i hi).g (i + 1) = p.g i := by
    show p.g (GA.swf i (i + 1)) = _
    rw [GA.swf2]
  have f1 : (List.range i).map (fun j => ent (p * GA.s i hi) ((p * GA.s i hi).g j)) = (List.range i).map (fun j => ent p (p.g j)) := List.map_congr_left fun j hj => by
    have := List.mem_range.mp hj
    exact ent_far p i j hi (by omega) (by omega)
  have f2 : ((List.range (n - i - 2)).map (fun k => i + 2 + k)).map (fun j => ent (p * GA.s i hi) ((p * GA.s i hi).g j)) = ((List.range (n - i - 2)).map (fun k => i + 2 + k)).map (fun j => ent p (p.g j)) := List.map_congr_left fun j hj => by
    obtain ⟨k, _, rfl⟩ := List.mem_map.mp hj
    exact ent_far p i _ hi (by omega) (by omega)
  rw [f1, f2, g1, g2]
  have s := below_step p i hi h
  have e2 : ent (p * GA.s i hi) (p.g i) = ent p (p.g i) := by unfold ent; rw [s]
  have c := cross_red L1 L2 (((p.g i : Nat) : Int) + 1) (((p.g (i + 1) : Nat) : Int) + 1) (red_sym _ _ (fun z hz => by
      rcases List.mem_append.mp hz with w | w
      · rcases List.mem_append.mp w with w | w
        · exact (p1 z w).1
        · rw [List.mem_singleton.mp w]; omega
      · exact (p2 z w).1) (by omega) fun hz => by
      rcases List.mem_append.mp hz with w | w
      · rcases List.mem_append.mp w with w | w
        · have := (p1 _ w).2; omega
        · have := List.mem_singleton.mp w; omega
      · have := (p2 _ w).2; omega)
  have e1 : ent (p * GA.s i hi) (p.g (i + 1)) = red (ent p (p.g i) ++ ent p (p.g (i + 1)) ++ inv (ent p (p.g i))) := by
    unfold ent
    rw [b1, b2, b3]
    exact c.symm
  rw [e1, e2]
  rfl
end FW
namespace FW
open GA (P one St Fi W pm)
variable {n : Nat}
theorem pm_W : ∀ (N : Nat) (p : P n), GA.far (GA.inv p) ≤ N → (pm (W p) : P n) = p
  | N, p, hN => by
    by_cases c : p = one
    · subst c
      rw [GA.W_one]
      rfl
    · obtain ⟨i, hi, q, e, ha, hf⟩ := GA.off_end c
      match N, hN with
      | 0, hN => omega
      | N + 1, hN =>
        have b := (GA.lemM q i hi (GA.add_s.mp ha)).pm
        rw [← e, GA.pm_app, pm_W N q (by omega), GA.pm_one, show ((i : Int) + 1).natAbs - 1 = i by omega, GA.sg_is i hi, ← e] at b
        exact b.symm
theorem len_letter (q : P n) (x : Int) (hx : 0 < x ∧ x.natAbs < n) : ∃ i, ∃ hi : i + 1 < n, x = (i : Int) + 1 ∧ (pm [x] : P n) = GA.s i hi ∧ (W (q * pm [x])).length ≤ (W q).length + 1 := by
  refine ⟨x.natAbs - 1, by omega, by omega, ?_, ?_⟩
  · rw [GA.pm_one, GA.sg_is]
  · rw [GA.pm_one, GA.sg_is _ (show x.natAbs - 1 + 1 < n by omega)]
    by_cases c : Fi q (x.natAbs - 1)
    · have := GA.len_sub (show x.natAbs - 1 + 1 < n by omega) c
      omega
    · have := GA.len_add (show x.natAbs - 1 + 1 < n by omega) c
      omega
theorem len_word : ∀ (v : List Int) (q : P n), (∀ x ∈ v, 0 < x ∧ x.natAbs < n) → (W (q * pm v)).length ≤ (W q).length + v.length
  | [], q, _ => by
    have e : (pm [] : P n) = one := rfl
    rw [e, GA.mul_one]
    exact Nat.le_refl _
  | x :: v, q, h => by
    have e : (pm (x :: v) : P n) = pm [x] * pm v := GA.pm_app [x] v
    obtain ⟨_, _, _, _, l⟩ := len_letter q x (h x (List.mem_cons_self ..))
    have := len_word v (q * pm [x]) fun y hy => h y (List.mem_cons_of_mem _ hy)
    rw [e, ← GA.assoc, List.length_cons]
    omega
/-- every beginning of the word of a permutation has a row of short entries -/
theorem prefix_row (p : P n) : ∀ (k : Nat) (u v : List Int), u.length = k → W p = u ++ v → rows u (start n) = rowP (pm u : P n) ∧ (W (pm u : P n)).length = u.length := by
  intro k
  have pos : ∀ u v : List Int, W p = u ++ v → (∀ x ∈ u, 0 < x ∧ x.natAbs < n) ∧ ∀ x ∈ v, 0 < x ∧ x.natAbs < n := fun u v e => by
    have f : ∀ x ∈ W p, 0 < x ∧ x.natAbs < n := fun x hx => ⟨GA.W_pos p x hx, (GA.W_fits p x hx).2⟩
    rw [e] at f
    exact ⟨fun x hx => f x (List.mem_append_left _ hx), fun x hx => f x (List.mem_append_right _ hx)⟩
  have full : ∀ u v : List Int, W p = u ++ v → (W (pm u : P n)).length = u.length := fun u v e => by
    obtain ⟨hu, hv⟩ := pos u v e
    have a := len_word v (pm u : P n) hv
    have b := len_word u (one : P n) hu
    rw [GA.one_mul, GA.W_one, List.length_nil] at b
    have c := pm_W _ p (Nat.le_refl _)
    rw [e, GA.pm_app] at c
    rw [c] at a
    have d := congrArg List.length e
    rw [List.length_append] at d
    omega
  induction k with
  | zero =>
    intro u v hk e
    have : u = [] := List.length_eq_zero_iff.mp hk
    subst this
    exact ⟨rowP_one.symm, full [] v e⟩
  | succ k ih =>
    intro u v hk e
    have hne : u ≠ [] := fun z => by rw [z] at hk; simp at hk
    obtain ⟨u', x, rfl⟩ : ∃ u' x, u = u' ++ [x] := ⟨_, _, (List.dropLast_concat_getLast hne).symm⟩
    have e' : W p = u' ++ ([x] ++ v) := by rw [e, List.append_assoc]
    obtain ⟨r, l⟩ := ih u' ([x] ++ v) (by simpa using hk) e'
    have l2 := full (u' ++ [x]) v e
    obtain ⟨i, hi, ex, es, _⟩ := len_letter (pm u' : P n) x ((pos _ _ e).1 x (by simp))
    refine ⟨?_, l2⟩
    rw [GA.pm_app, es] at l2 ⊢
    have nf : ¬ Fi (pm u' : P n) i := fun z => by
      have := GA.len_sub hi z
      rw [List.length_append, List.length_singleton] at l2
      omega
    rw [rows_app, r, ex]
    exact rowP_step _ i hi nf
end FW
namespace FW
open GA (P one St Fi W pm)
variable {n : Nat}
/-! ### positive words that are as short as can be -/
def Pl (n : Nat) (u : List Int) : Prop := ∀ x ∈ u, 0 < x ∧ x.natAbs < n
def Sh (n : Nat) (u : List Int) : Prop := Pl n u ∧ (W (pm u : P n)).length = u.length
theorem Pl.l {a b : List Int} (h : Pl n (a ++ b)) : Pl n a := fun x hx => h x (List.mem_append_left _ hx)
theorem Pl.r {a b : List Int} (h : Pl n (a ++ b)) : Pl n b := fun x hx => h x (List.mem_append_right _ hx)
theorem W_pl (p : P n) : Pl n (W p) := fun x hx => ⟨GA.W_pos p x hx, (GA.W_fits p x hx).2⟩
theorem pmW (p : P n) : (pm (W p) : P n) = p := pm_W _ p (Nat.le_refl _)
theorem pl_le {u : List Int} (h : Pl n u) : (W (pm u : P n)).length ≤ u.length := by
  have b := len_word u (one : P n) h
  rw [GA.one_mul, GA.W_one, List.length_nil] at b
  omega
theorem Sh.min {u : List Int} (h : Pl n u) : Sh n u ↔ ∀ v : List Int, Pl n v → (pm v : P n) = pm u → u.length ≤ v.length := by
  constructor
  · rintro ⟨_, l⟩ v hv e
    have := pl_le hv
    rw [e, l] at this
    exact this
  · intro g
    refine ⟨h, ?_⟩
    have := g (W (pm u : P n)) (W_pl _) (pmW _)
    have := pl_le h
    omega
theorem Sh.W (p : P n) : Sh n (GA.W p) := ⟨W_pl p, by rw [pmW]⟩
theorem Sh.left {a b : List Int} (h : Sh n (a ++ b)) : Sh n a := by
  obtain ⟨g, l⟩ := h
  refine ⟨g.l, ?_⟩
  have := len_word b (pm a : P n) g.r
  have := pl_le g.l
  rw [GA.pm_app, List.length_append] at l
  omega
theorem Sh.right {a b : List Int} (h : Sh n (a ++ b)) : Sh n b := by
  refine (Sh.min h.1.r).mpr fun v hv e => ?_
  have := (Sh.min h.1).mp h (a ++ v) (fun x hx => by
    rcases List.mem_append.mp hx with z | z
    · exact h.1.l x z
    · exact hv x z) (by rw [GA.pm_app, GA.pm_app, e])
  rw [List.length_append, List.length_append] at this
  omega
theorem Sh.row : ∀ (k : Nat) (u : List Int), u.length = k → Sh n u → rows u (start n) = rowP (pm u : P n) := by
  intro k
  induction k with
  | zero =>
    intro u hk _
    have : u = [] := List.length_eq_zero_iff.mp hk
    subst this
    exact rowP_one.symm
  | succ k ih =>
    intro u hk h
    have hne : u ≠ [] := fun z => by rw [z] at hk; simp at hk
    obtain ⟨u', x, rfl⟩ : ∃ u' x, u = u' ++ [x] := ⟨_, _, (List.dropLast_concat_getLast hne).symm⟩
    have r := ih u' (by simpa using hk) h.left
    have l := h.left.2
    have l2 := h.2
    obtain ⟨i, hi, ex, es, _⟩ := len_letter (pm u' : P n) x (h.1 x (by simp))
    rw [GA.pm_app, es] at l2 ⊢
    have nf : ¬ Fi (pm u' : P n) i := fun z => by
      have := GA.len_sub hi z
      rw [List.length_append, List.length_singleton] at l2
      omega
    rw [rows_app, r, ex]
    exact rowP_step _ i hi nf
theorem rowP_le (p : P n) : All (Le (2 * n - 1)) (rowP p) := fun e he => by
  unfold rowP at he
  obtain ⟨j, hj, rfl⟩ := List.mem_map.mp he
  exact ent_len p _ (p.glt (List.mem_range.mp hj))
theorem Sh.le {u : List Int} (h : Sh n u) : All (Le (2 * n - 1)) (rows u (start n)) := by
  rw [Sh.row _ u rfl h]
  exact rowP_le _
/-! ### the other side of the mirror -/
theorem neg_stp (s : List Int) (x : Int) : (stp s x).map (fun z => -z) = stp (s.map fun z => -z) (-x) := by
  cases s with
  | nil => rfl
  | cons y t =>
    rw [stp_c, List.map_cons, stp_c]
    by_cases c : y = -x
    · rw [if_pos c, if_pos (by omega)]
    · rw [if_neg c, if_neg (by omega)]
      rfl
theorem neg_fold : ∀ (l s : List Int), (l.foldl stp s).map (fun z => -z) = (l.map fun z => -z).foldl stp (s.map fun z => -z)
  | [], _ => rfl
  | x :: l, s => by
    rw [List.foldl_cons, List.map_cons, List.foldl_cons, neg_fold l (stp s x), neg_stp]
theorem neg_neg (l : List Int) : (l.map fun z => -z).map (fun z => -z) = l := by
  rw [List.map_map]
  conv => rhs; rw [← List.map_id l]
  apply List.map_congr_left
  intro x _
  show - -x = x
  omega
theorem rd_neg : ∀ {s : List Int}, Rd s → Rd (s.map fun z => -z)
  | [], _ => trivial
  | [_], _ => trivial
  | a :: b :: t, ⟨h, k⟩ => ⟨fun z => h (by have z' : -b = - -a := z; omega), rd_neg (s := b :: t) k⟩
theorem Eqv.neg {a b : List Int} (h : Eqv a b) : Eqv (a.map fun z => -z) (b.map fun z => -z) := fun s hs => by
  have := congrArg (fun l => l.map fun z => -z) (h (s.map fun z => -z) (rd_neg hs))
  simp only [neg_fold, neg_neg] at this
  exact this
theorem rev_inv (l : List Int) : l.reverse = (inv l).map fun z => -z := (neg_neg _).symm
theorem Eqv.rev {a b : List Int} (h : Eqv a b) : Eqv a.reverse b.reverse := by
  rw [rev_inv, rev_inv]
  exact h.inv.neg
theorem inv_rev (l : List Int) : (inv l).reverse = inv l.reverse := by
  unfold inv
  rw [← List.map_reverse]
def rr (e : List Int) : List Int := red e.reverse
theorem rr_len (e : List Int) : (rr e).length ≤ e.length := by
  have := (red_len e.reverse).1
  rw [List.length_reverse] at this
  exact this
theorem rr_rr {e : List Int} (h : Red e) : rr (rr e) = e := by
  unfold rr
  rw [Eqv.red (Eqv.rev (eqv_red e.reverse)), List.reverse_reverse]
  exact h
def mir (R : List (List Int)) : List (List Int) := (R.map rr).reverse
theorem mir_len (R : List (List Int)) : (mir R).length = R.length := by simp [mir]
theorem mir_red (R : List (List Int)) : All Red (mir R) := fun e he => by
  obtain ⟨f, _, rfl⟩ := List.mem_map.mp (List.mem_reverse.mp he)
  exact red_is _
theorem mir_mir {R : List (List Int)} (h : All Red R) : mir (mir R) = R := by
  unfold mir
  rw [List.map_reverse, List.reverse_reverse, List.map_map]
  conv => rhs; rw [← List.map_id R]
  apply List.map_congr_left
  intro e he
  exact rr_rr (h e he)
theorem mir_le {R : List (List Int)} {C : Nat} (h : All (Le C) R) : All (Le C) (mir R) := fun e he => by
  obtain ⟨f, hf, rfl⟩ := List.mem_map.mp (List.mem_reverse.mp he)
  exact Nat.le_trans (rr_len f) (h f hf)
/-- a positive letter, seen in the mirror -/
theorem mir_step (R : List (List Int)) (x : Int) (hx : 0 < x) (h : x.natAbs < R.length) : mv1 (mir R) (x - R.length) = mir (mv1 R x) := by
  obtain ⟨p, a, b, q, e, pl, m⟩ := mv_case R x ⟨by omega, h⟩
  rw [m]
  have hl : R.length = p.length + q.length + 2 := by rw [e]; simp; omega
  have hi : (q.map rr).reverse.length = ix (x - R.length) := by
    unfold ix at *
    simp
    omega
  have e1 : mir R = (q.map rr).reverse ++ rr b :: rr a :: (p.map rr).reverse := by
    rw [e]; simp [mir]
  rw [e1, mv1_parts _ _ _ _ _ hi]
  unfold stepR
  rw [if_neg (by omega), if_pos hx]
  have e2 : mir (p ++ ([red (a ++ b ++ inv a), a] ++ q)) = (q.map rr).reverse ++ ([rr a, rr (red (a ++ b ++ inv a))] ++ (p.map rr).reverse) := by
    simp [mir]
  rw [e2]
  have e3 : red (inv (rr a) ++ rr b ++ rr a) = rr (red (a ++ b ++ inv a)) := by
    unfold rr
    refine Eqv.red ?_
    refine Eqv.trans ?_ (Eqv.rev (eqv_red _)).symm
    rw [List.reverse_append, List.reverse_append, inv_rev, ← List.append_assoc]
    exact ((eqv_red _).inv.app (eqv_red _)).app (eqv_red _)
  rw [e3]
theorem mir_rows : ∀ (u : List Int) (R : List (List Int)), Pl R.length u → rows (u.map fun x => x - R.length) (mir R) = mir (rows u R)
  | [], _, _ => rfl
  | x :: u, R, h => by
    have hx := h x (List.mem_cons_self ..)
    have hl := mv1_len R x ⟨by omega, hx.2⟩
    rw [List.map_cons, rows_cons, rows_cons, mir_step R x hx.1 hx.2, ← mir_rows u (mv1 R x) (by rw [hl]; exact fun y hy => h y (List.mem_cons_of_mem _ hy)), hl]
/-- a negative word whose mirror image is short -/
theorem neg_le {u : List Int} (h : Sh n u) : All (Le (2 * n - 1)) (rows (u.map fun x => x - n) (start n)) := by
  have l0 : (mir (start n)).length = n := by rw [mir_len, start_len]
  have hf : Fits (mir (start n)).length u := fun x hx => by rw [l0]; exact ⟨by have := (h.1 x hx).1; omega, (h.1 x hx).2⟩
  have e := mir_rows u (mir (start n)) (by rw [l0]; exact h.1)
  rw [l0, mir_mir (start_red n)] at e
  rw [e]
  refine mir_le ?_
  rw [← rows_sub (mir (start n)) u hf (mir_red _), l0]
  intro e' he'
  obtain ⟨f, hf', rfl⟩ := List.mem_map.mp he'
  have h1 := h.le f hf'
  have h2 := (red_len (sub (mir (start n)) f)).1
  have h3 := sub_len (mir (start n)) 1 (mir_le fun e he => by
    obtain ⟨k, _, rfl⟩ := List.mem_map.mp he
    exact Nat.le_refl 1) f
  unfold Le sR at *
  omega
/-- a word read backwards with its indexes turned about -/
def tr (n : Nat) (u : List Int) : List Int := u.reverse.map fun x => (n : Int) - x
theorem tr_tr (u : List Int) : tr n (tr n u) = u := by
  unfold tr
  rw [← List.map_reverse, List.reverse_reverse, List.map_map]
  conv => rhs; rw [← List.map_id u]
  apply List.map_congr_left
  intro x _
  show (n : Int) - (n - x) = x
  omega
theorem tr_len (u : List Int) : (tr n u).length = u.length := by simp [tr]
theorem tr_pl {u : List Int} (h : Pl n u) : Pl n (tr n u) := fun x hx => by
  obtain ⟨y, hy, rfl⟩ := List.mem_map.mp hx
  have := h y (List.mem_reverse.mp hy)
  omega
theorem tr_pm : ∀ (u : List Int), Pl n u → (pm (tr n u) : P n) = GA.tau (GA.inv (pm u))
  | [], _ => by
    show (one : P n) = GA.tau (GA.inv one)
    refine GA.P.ext fun x => ?_
    show x = GA.dlf n (GA.dlf n x)
    rw [GA.dlf_dlf]
  | x :: u, h => by
    have hx := h x (List.mem_cons_self ..)
    have e1 : tr n (x :: u) = tr n u ++ [(n : Int) - x] := by simp [tr]
    have e2 : (pm (x :: u) : P n) = pm [x] * pm u := GA.pm_app [x] u
    rw [e1, GA.pm_app, tr_pm u fun y hy => h y (List.mem_cons_of_mem _ hy), e2, GA.inv_prod, GA.tau_mul]
    congr 1
    rw [GA.pm_one, GA.pm_one, GA.sg_is (x.natAbs - 1) (by omega), GA.s_inv, GA.tau_s _ (by omega) (by omega), show ((n : Int) - x).natAbs - 1 = n - 2 - (x.natAbs - 1) by omega, GA.sg_is]
theorem Sh.tr {u : List Int} (h : Sh n u) : Sh n (FW.tr n u) := by
  refine (Sh.min (tr_pl h.1)).mpr fun v hv e => ?_
  have := (Sh.min h.1).mp h (FW.tr n v) (tr_pl hv) (by
    rw [tr_pm v hv, e, tr_pm u h.1]
    show GA.dl * GA.inv (GA.dl * GA.inv (pm u) * GA.dl) * GA.dl = pm u
    rw [GA.inv_prod, GA.inv_prod, GA.inv_inv, GA.dl_inv]
    rw [GA.assoc, GA.assoc, GA.assoc, GA.dl_dl, GA.mul_one, ← GA.assoc, GA.dl_dl, GA.one_mul])
  rw [tr_len] at this ⊢
  exact this
/-- the inverse word of a short one -/
theorem Sh.inv_le {u : List Int} (h : Sh n u) : All (Le (2 * n - 1)) (rows (GA.iw u) (start n)) := by
  have := neg_le h.tr
  have e : ((FW.tr n u).map fun x => x - (n : Int)) = GA.iw u := by
    unfold FW.tr GA.iw
    rw [List.map_map]
    apply List.map_congr_left
    intro x _
    show (n : Int) - x - n = -x
    omega
  rw [e] at this
  exact this
end FW
namespace FW
open GA (P one St Fi W pm Br Dw Dv rpt iw)
variable {n : Nat}
/-! ### bounds that hang on the braid alone -/
def Bd (n : Nat) (w : List Int) (C : Nat) : Prop := All (Le C) (rowsT n w (start n))
theorem Bd.br {u v : List Int} {C : Nat} (h : Br n u v) (b : Bd n u C) : Bd n v C := by
  unfold Bd at *
  rw [← br_rows h _ (start_len n) (start_red n)]
  exact b
theorem Bd.up {u : List Int} {C D : Nat} (b : Bd n u C) (h : C ≤ D) : Bd n u D := fun e he => Nat.le_trans (b e he) h
theorem Bd.of {u : List Int} {C : Nat} (hf : Fits n u) (b : All (Le C) (rows u (start n))) : Bd n u C := by
  unfold Bd
  rw [rowsT_is u (start_len n) hf]
  exact b
theorem Bd.is {u : List Int} {C : Nat} (hf : Fits n u) (b : Bd n u C) : All (Le C) (rows u (start n)) := by
  unfold Bd at b
  rw [rowsT_is u (start_len n) hf] at b
  exact b
theorem Bd.mul {u v : List Int} {C M : Nat} (hu : Bd n u M) (hf : Fits n v) (hv : Bd n v C) : Bd n (u ++ v) (C * M) := by
  obtain ⟨l, r⟩ := rowsT_ok u (start_len n) (start_red n)
  unfold Bd at hu ⊢
  rw [rowsT_app, rowsT_is v l hf]
  generalize rowsT n u (start n) = R at *
  subst l
  rw [← rows_sub R v hf r]
  intro e he
  obtain ⟨f, hf', rfl⟩ := List.mem_map.mp he
  have h1 : f.length ≤ C := hv.is hf f hf'
  have h2 := (red_len (sub R f)).1
  have h3 := sub_len R M hu f
  unfold Le sR
  have : f.length * M ≤ C * M := Nat.mul_le_mul_right _ h1
  omega
theorem pl_fits {u : List Int} (h : Pl n u) : Fits n u := fun x hx => ⟨by have := (h x hx).1; omega, (h x hx).2⟩
theorem Bd.sh {u : List Int} (h : Sh n u) : Bd n u (2 * n - 1) := .of (pl_fits h.1) h.le
theorem Bd.shI {u : List Int} (h : Sh n u) : Bd n (iw u) (2 * n - 1) := .of (GA.iw_fits (pl_fits h.1)) h.inv_le
theorem Bd.W (p : P n) : Bd n (GA.W p) (2 * n - 1) := .sh (.W p)
theorem Bd.WI (p : P n) : Bd n (iw (GA.W p)) (2 * n - 1) := .shI (.W p)
theorem Bd.nil : Bd n [] 1 := fun e he => by
  obtain ⟨k, _, rfl⟩ := List.mem_map.mp (show e ∈ start n from he)
  exact Nat.le_refl 1
/-! ### conjugated rows -/
def cj (g : List Int) (R : List (List Int)) : List (List Int) := R.map fun e => red (g ++ e ++ inv g)
theorem cj_len (g : List Int) (R : List (List Int)) : (cj g R).length = R.length := by simp [cj]
theorem cj_red (g : List Int) (R : List (List Int)) : All Red (cj g R) := fun e he => by
  obtain ⟨f, _, rfl⟩ := List.mem_map.mp he
  exact red_is _
theorem cj_le (g : List Int) {R : List (List Int)} {C : Nat} (h : All (Le C) R) : All (Le (C + 2 * g.length)) (cj g R) := fun e he => by
  obtain ⟨f, hf, rfl⟩ := List.mem_map.mp he
  have := h f hf
  have := red3_len g f (inv g)
  rw [inv_len] at this
  unfold Le at *
  omega
theorem cj_eqv (g a b c : List Int) : Eqv ((g ++ a ++ inv g) ++ (g ++ b ++ inv g) ++ (g ++ c ++ inv g)) (g ++ (a ++ b ++ c) ++ inv g) := by
  have k : ∀ x y : List Int, Eqv ((g ++ x ++ inv g) ++ (g ++ y ++ inv g)) (g ++ (x ++ y) ++ inv g) := fun x y => by
    have := ((Eqv.refl (g ++ x)).app (eqv_inv' g)).app (Eqv.refl (y ++ inv g))
    rw [List.append_nil] at this
    simpa [List.append_assoc] using this
  refine ((k a b).app (Eqv.refl _)).trans ?_
  exact k (a ++ b) c
theorem cj_inv (g a : List Int) : inv (g ++ a ++ inv g) = g ++ inv a ++ inv g := by
  rw [inv_app, inv_app, inv_inv, List.append_assoc]
theorem cj_step (g : List Int) (R : List (List Int)) (x : Int) (h : x ≠ 0 ∧ x.natAbs < R.length) : mv1 (cj g R) x = cj g (mv1 R x) := by
  obtain ⟨p, a, b, q, e, pl, m⟩ := mv_case R x h
  rw [m]
  subst e
  have e1 : cj g (p ++ a :: b :: q) = cj g p ++ red (g ++ a ++ inv g) :: red (g ++ b ++ inv g) :: cj g q := by simp [cj]
  have e2 : cj g (p ++ (stepR a b x ++ q)) = cj g p ++ (cj g (stepR a b x) ++ cj g q) := by simp [cj]
  rw [e1, e2, mv1_parts _ _ _ _ _ (by rw [cj_len]; exact pl)]
  congr 2
  have in3 : ∀ y z w : List Int, Eqv (g ++ red (y ++ z ++ w) ++ inv g) (g ++ (y ++ z ++ w) ++ inv g) := fun y z w => ((Eqv.refl g).app (eqv_red _)).app (Eqv.refl _)
  unfold stepR
  split
  · simp only [cj, List.map_cons, List.map_nil, List.cons.injEq, and_true]
    refine Eqv.red ?_
    refine (((eqv_red _).app (eqv_red _)).app (eqv_red _).inv).trans ?_
    rw [cj_inv]
    exact (cj_eqv g a b (inv a)).trans (in3 a b (inv a)).symm
  · simp only [cj, List.map_cons, List.map_nil, List.cons.injEq, and_true, true_and]
    refine Eqv.red ?_
    refine (((eqv_red _).inv.app (eqv_red _)).app (eqv_red _)).trans ?_
    rw [cj_inv]
    exact (cj_eqv g (inv b) a b).trans (in3 (inv b) a b).symm
theorem cj_rows (g : List Int) : ∀ (w : List Int) (R : List (List Int)), Fits R.length w → rows w (cj g R) = cj g (rows w R)
  | [], _, _ => rfl
  | x :: w, R, h => by
    have hx := h x (List.mem_cons_self ..)
    rw [rows_cons, rows_cons, cj_step g R x hx, cj_rows g w (mv1 R x) (by rw [mv1_len R x hx]; exact fun y hy => h y (List.mem_cons_of_mem _ hy))]
/-! ### two half turns -/
def yy (m : Nat) : List Int := (List.range m).map fun k => ((k : Nat) : Int) + 1
theorem yy_succ (m : Nat) : yy (m + 1) = yy m ++ [(m : Int) + 1] := by
  unfold yy
  rw [List.range_succ, List.map_append]
  rfl
theorem yy_len (m : Nat) : (yy m).length = m := by simp [yy]
theorem below_dl (c : Nat) (hc : c < n) : below (GA.dl : P n) c = yy c := by
  unfold below yy
  congr 1
  rw [List.filter_eq_self]
  intro k hk
  have := List.mem_range.mp hk
  show decide (GA.dlf n c < GA.dlf n k) = true
  unfold GA.dlf
  rw [if_pos hc, if_pos (by omega), decide_eq_true_eq]
  omega
theorem ent_dl (c : Nat) (hc : c < n) : ent (GA.dl : P n) c = yy c ++ [(c : Int) + 1] ++ inv (yy c) := by
  unfold ent
  rw [below_dl c hc]
/-- the half turn's row, put for the first generators -/
theorem sub_yy : ∀ (m : Nat), m ≤ n → Eqv (sub (rowP (GA.dl : P n)) (yy m)) (yy n ++ inv (yy (n - m)))
  | 0, _ => by
    have : yy 0 = [] := rfl
    rw [this, sub_nil, Nat.sub_zero]
    exact (eqv_inv _).symm
  | m + 1, h => by
    rw [yy_succ, sub_app, sub_cons, sub_nil, List.append_nil]
    have g : gen (rowP (GA.dl : P n)) ((m : Int) + 1) = ent (GA.dl : P n) (n - 1 - m) := by
      unfold gen rowP
      rw [if_pos (by omega), show ((m : Int) + 1 - 1).toNat = m by omega, List.getD_eq_getElem?_getD, List.getElem?_map, List.getElem?_range (by omega)]
      show ent _ (GA.dlf n m) = _
      unfold GA.dlf
      rw [if_pos (by omega)]
    rw [g, ent_dl _ (by omega)]
    refine ((sub_yy m (by omega)).app (Eqv.refl _)).trans ?_
    have e1 : yy (n - m) = yy (n - 1 - m) ++ [((n - 1 - m : Nat) : Int) + 1] := by
      rw [← yy_succ]
      congr 1
      omega
    rw [show n - (m + 1) = n - 1 - m by omega, ← e1, List.append_assoc]
    refine (Eqv.refl (yy n)).app ?_
    have := (eqv_inv' (yy (n - m))).app (Eqv.refl (inv (yy (n - 1 - m))))
    simpa [List.append_assoc] using this
theorem yy_nz (m : Nat) : Nz (yy m) := fun x hx => by
  obtain ⟨k, _, rfl⟩ := List.mem_map.mp hx
  omega
theorem dw_fits : Fits n (Dw n) := GA.W_fits _
theorem two_turns : rows (Dw n ++ Dw n) (start n) = cj (yy n) (start n) := by
  have r1 : rows (Dw n) (start n) = rowP (GA.dl : P n) := by
    rw [Sh.row _ _ rfl (.W _), pmW]
  have rr : All Red (rowP (GA.dl : P n)) := by
    rw [← r1]
    exact red_rows _ (by rw [start_len]; exact dw_fits) (start_red n)
  rw [rows_app, r1, ← rows_sub (rowP (GA.dl : P n)) (Dw n) (by rw [rowP_len]; exact dw_fits) rr, rowP_len, r1]
  unfold cj
  unfold rowP start
  rw [List.map_map, List.map_map]
  apply List.map_congr_left
  intro j hj
  have hj' := List.mem_range.mp hj
  show sR (rowP (GA.dl : P n)) (ent _ (GA.dlf n j)) = red (yy n ++ [(j : Int) + 1] ++ inv (yy n))
  have ej : GA.dlf n j = n - 1 - j := if_pos hj'
  rw [ej, ent_dl _ (by omega)]
  unfold sR
  refine Eqv.red ?_
  rw [← yy_succ, sub_app, sub_inv _ _ (yy_nz _)]
  refine ((sub_yy (n - 1 - j + 1) (by omega)).app (sub_yy (n - 1 - j) (by omega)).inv).trans ?_
  rw [inv_app, inv_inv, show n - (n - 1 - j + 1) = j by omega, show n - (n - 1 - j) = j + 1 by omega, yy_succ]
  have := (Eqv.refl (yy n)).app ((eqv_inv' (yy j)).app (Eqv.refl ([(j : Int) + 1] ++ inv (yy n))))
  simpa [List.append_assoc] using this
theorem Bd.turn {w : List Int} {C : Nat} (hf : Fits n w) (h : Bd n w C) : Bd n (Dw n ++ Dw n ++ w) (C + 2 * n) := by
  refine .of ((dw_fits.app dw_fits).app hf) ?_
  rw [rows_app, two_turns, cj_rows _ _ _ (by rw [start_len]; exact hf)]
  have := cj_le (yy n) (h.is hf)
  rw [yy_len] at this
  exact this
theorem cj_cj (g : List Int) {R : List (List Int)} (h : All Red R) : cj g (cj (inv g) R) = R := by
  unfold cj
  rw [List.map_map]
  conv => rhs; rw [← List.map_id R]
  apply List.map_congr_left
  intro e he
  show red (g ++ red (inv g ++ e ++ inv (inv g)) ++ inv g) = e
  rw [inv_inv]
  conv => rhs; rw [← h e he]
  refine Eqv.red ?_
  refine (((Eqv.refl g).app (eqv_red _)).app (Eqv.refl _)).trans ?_
  have := (eqv_inv g).app ((Eqv.refl e).app (eqv_inv g))
  rw [List.append_nil] at this
  simpa [List.append_assoc] using this
theorem dv_fits : Fits n (Dv n) := GA.iw_fits dw_fits
theorem Bd.turnI {w : List Int} {C : Nat} (hf : Fits n w) (h : Bd n w C) : Bd n (Dv n ++ Dv n ++ w) (C + 2 * n) := by
  have f2 : Fits n (Dv n ++ Dv n) := dv_fits.app dv_fits
  have l0 : (cj (inv (yy n)) (start n)).length = n := by rw [cj_len, start_len]
  have e : rows (Dv n ++ Dv n) (start n) = cj (inv (yy n)) (start n) := by
    have b : Br n (Dw n ++ Dw n ++ (Dv n ++ Dv n)) [] := by
      have := ((GA.iw_canc (Dw n) dw_fits).ctx (Dw n) (Dv n))
      rw [List.nil_append] at this
      have k := this.trans (GA.iw_canc (Dw n) dw_fits)
      simpa [List.append_assoc] using k
    have := br_rows b (cj (inv (yy n)) (start n)) l0 (cj_red _ _)
    rw [rowsT_is _ l0 ((dw_fits.app dw_fits).app f2), rows_app, cj_rows _ _ _ (by rw [start_len]; exact dw_fits.app dw_fits), two_turns] at this
    have e2 := cj_cj (inv (yy n)) (start_red n)
    rw [inv_inv] at e2
    rw [e2] at this
    exact this
  refine .of (f2.app hf) ?_
  rw [rows_app, e, cj_rows _ _ _ (by rw [start_len]; exact hf)]
  have := cj_le (inv (yy n)) (h.is hf)
  rw [inv_len, yy_len] at this
  exact this
theorem Bd.turns {w : List Int} {C : Nat} (hf : Fits n w) (h : Bd n w C) : ∀ k, Bd n (rpt (2 * k) (Dw n) ++ w) (C + 2 * n * k)
  | 0 => by simpa [rpt] using h
  | k + 1 => by
    have fr : ∀ j, Fits n (rpt j (Dw n)) := fun j => by
      induction j with
      | zero => exact fun x hx => nomatch hx
      | succ j ih => exact dw_fits.app ih
    have := Bd.turn ((fr (2 * k)).app hf) (Bd.turns hf h k)
    have e : Dw n ++ Dw n ++ (rpt (2 * k) (Dw n) ++ w) = rpt (2 * (k + 1)) (Dw n) ++ w := by
      show _ = Dw n ++ (Dw n ++ rpt (2 * k) (Dw n)) ++ w
      simp [List.append_assoc]
    rw [e] at this
    exact this.up (by rw [Nat.mul_succ]; omega)
theorem Bd.turnsI {w : List Int} {C : Nat} (hf : Fits n w) (h : Bd n w C) : ∀ k, Bd n (rpt (2 * k) (Dv n) ++ w) (C + 2 * n * k)
  | 0 => by simpa [rpt] using h
  | k + 1 => by
    have fr : ∀ j, Fits n (rpt j (Dv n)) := fun j => by
      induction j with
      | zero => exact fun x hx => nomatch hx
      | succ j ih => exact dv_fits.app ih
    have := Bd.turnI ((fr (2 * k)).app hf) (Bd.turnsI hf h k)
    have e : Dv n ++ Dv n ++ (rpt (2 * k) (Dv n) ++ w) = rpt (2 * (k + 1)) (Dv n) ++ w := by
      show _ = Dv n ++ (Dv n ++ rpt (2 * k) (Dv n)) ++ w
      simp [List.append_assoc]
    rw [e] at this
    exact this.up (by rw [Nat.mul_succ]; omega)
end FW
namespace FW
open GA (P one St Fi W pm Br Dw Dv rpt iw tw tau C dl Add flat fl hpw)
variable {n : Nat}
/-! ### the images of a form's word, letter by letter -/
theorem tw_even (m : Nat) (p : P n) : tw (2 * m) p = p := if_neg (by omega)
theorem tw_odd (m : Nat) (p : P n) : tw (2 * m + 1) p = tau p := if_pos (by omega)
theorem tw_tw (k : Nat) (p : P n) : tw k (tw k p) = p := by
  unfold GA.tw
  split
  · exact GA.tau_tau p
  · rfl
theorem add_C (p : P n) : Add p (C p) := GA.le_C.mp (GA.le_refl _)
/-- a permutation's word is a half turn and an inverse word -/
theorem W_back (q : P n) : Br n (W q) (Dw n ++ iw (W (C q))) := by
  have a := GA.Wmul (add_C q)
  have e : q * C q = dl := by
    show q * (GA.inv q * dl) = dl
    rw [GA.canc']
  rw [e] at a
  have b := a.r (iw (W (C q)))
  rw [List.append_assoc] at b
  have c := (GA.iw_canc (W (C q)) (GA.W_fits _)).l (W q)
  rw [List.append_nil] at c
  exact c.symm.trans b
theorem rpt_fits {w : List Int} (h : Fits n w) : ∀ k, Fits n (rpt k w)
  | 0 => fun x hx => nomatch hx
  | k + 1 => h.app (rpt_fits h k)
theorem hpw_fits (pw : Int) : Fits n (hpw n pw) := by
  unfold GA.hpw
  split
  · exact rpt_fits dw_fits _
  · exact rpt_fits dv_fits _
theorem half (p : P n) (k : Nat) : ∃ m s, Fits n s ∧ Bd n s (2 * n - 1) ∧ 2 * m ≤ k + 1 ∧ Br n (W p ++ rpt k (Dw n)) (rpt (2 * m) (Dw n) ++ s) := by
  rcases Nat.mod_two_eq_zero_or_one k with h | h
  · obtain ⟨m, rfl⟩ : ∃ m, k = 2 * m := ⟨k / 2, by omega⟩
    have := GA.W_Ds p (2 * m)
    rw [tw_even] at this
    exact ⟨m, W p, GA.W_fits p, .W p, by omega, this⟩
  · obtain ⟨m, rfl⟩ : ∃ m, k = 2 * m + 1 := ⟨k / 2, by omega⟩
    have := GA.W_Ds p (2 * m + 1)
    rw [tw_odd] at this
    refine ⟨m + 1, iw (W (C (tau p))), GA.iw_fits (GA.W_fits _), .WI _, by omega, this.trans ?_⟩
    have e : rpt (2 * (m + 1)) (Dw n) = rpt (2 * m + 1) (Dw n) ++ Dw n := GA.rpt_end (2 * m + 1) _
    rw [e, List.append_assoc]
    exact (W_back (tau p)).l _
theorem halfI (p : P n) (k : Nat) : ∃ m s, Fits n s ∧ Bd n s (2 * n - 1) ∧ 2 * m ≤ k + 1 ∧ Br n (W p ++ rpt k (Dv n)) (rpt (2 * m) (Dv n) ++ s) := by
  rcases Nat.mod_two_eq_zero_or_one k with h | h
  · obtain ⟨m, rfl⟩ : ∃ m, k = 2 * m := ⟨k / 2, by omega⟩
    have := GA.D_invs p (2 * m)
    rw [tw_even] at this
    exact ⟨m, W p, GA.W_fits p, .W p, by omega, this⟩
  · obtain ⟨m, rfl⟩ : ∃ m, k = 2 * m + 1 := ⟨k / 2, by omega⟩
    have := GA.D_invs p (2 * m + 1)
    rw [tw_odd] at this
    refine ⟨m, iw (W (C (tau p))), GA.iw_fits (GA.W_fits _), .WI _, by omega, this.trans ?_⟩
    rw [GA.rpt_end, List.append_assoc]
    refine Br.l _ ?_
    have b := (W_back (tau p)).l (Dv n)
    refine b.trans ?_
    rw [← List.append_assoc]
    have c := (GA.iw_canc' (Dw n) dw_fits).r (iw (W (C (tau p))))
    rw [List.nil_append] at c
    exact c
theorem Bd.pw (p : P n) (pw : Int) {v : List Int} {c : Nat} (hf : Fits n v) (hv : Bd n v c) : Bd n (GA.W p ++ (hpw n pw ++ v)) (c * (2 * n - 1) + n * (pw.natAbs + 1)) := by
  unfold GA.hpw
  by_cases k : 0 ≤ pw
  · rw [if_pos k]
    obtain ⟨m, s, fs, bs, hm, b⟩ := half p pw.toNat
    have b1 := b.r v
    rw [List.append_assoc, List.append_assoc] at b1
    refine Bd.br b1.symm ((Bd.turns (fs.app hf) (bs.mul hf hv) m).up ?_)
    have : n * (2 * m) ≤ n * (pw.natAbs + 1) := Nat.mul_le_mul_left _ (by omega)
    have e : 2 * n * m = n * (2 * m) := by rw [Nat.mul_comm 2 n, Nat.mul_assoc]
    omega
  · rw [if_neg k]
    obtain ⟨m, s, fs, bs, hm, b⟩ := halfI p (-pw).toNat
    have b1 := b.r v
    rw [List.append_assoc, List.append_assoc] at b1
    refine Bd.br b1.symm ((Bd.turnsI (fs.app hf) (bs.mul hf hv) m).up ?_)
    have : n * (2 * m) ≤ n * (pw.natAbs + 1) := Nat.mul_le_mul_left _ (by omega)
    have e : 2 * n * m = n * (2 * m) := by rw [Nat.mul_comm 2 n, Nat.mul_assoc]
    omega
/-- where a beginning of two words ends -/
theorem cut2 {a b u v : List Int} (h : a ++ b = u ++ v) : (∃ w, a = u ++ w) ∨ ∃ w, u = a ++ w ∧ b = w ++ v := by
  rcases List.append_eq_append_iff.mp h with ⟨w, e1, e2⟩ | ⟨w, e1, e2⟩
  · exact .inr ⟨w, e1, e2⟩
  · exact .inl ⟨w, e1⟩
theorem cut_rpt (w : List Int) : ∀ (k : Nat) (u v : List Int), rpt k w = u ++ v → ∃ j u' v', j ≤ k ∧ w = u' ++ v' ∧ u = rpt j w ++ u'
  | 0, u, v, h => ⟨0, [], w, Nat.le_refl _, rfl, by
      have : u = [] := (List.append_eq_nil_iff.mp (show u ++ v = [] from h.symm)).1
      rw [this]; rfl⟩
  | k + 1, u, v, h => by
    rcases cut2 (show w ++ rpt k w = u ++ v from h) with ⟨z, e⟩ | ⟨z, e1, e2⟩
    · exact ⟨0, u, z, by omega, e, rfl⟩
    · obtain ⟨j, u', v', hj, e3, e4⟩ := cut_rpt w k z v e2
      exact ⟨j + 1, u', v', by omega, e3, by rw [e1, e4]; show _ = w ++ rpt j w ++ u'; rw [List.append_assoc]⟩
theorem Fits.pre {u v : List Int} (h : Fits n (u ++ v)) : Fits n u := h.left
theorem dw_pre {u v : List Int} (h : Dw n = u ++ v) : Fits n u ∧ Bd n u (2 * n - 1) := by
  have s : Sh n (u ++ v) := by rw [← h]; exact .W _
  exact ⟨pl_fits s.left.1, .sh s.left⟩
theorem W_pre {p : P n} {u v : List Int} (h : W p = u ++ v) : Fits n u ∧ Bd n u (2 * n - 1) := by
  have s : Sh n (u ++ v) := by rw [← h]; exact .W _
  exact ⟨pl_fits s.left.1, .sh s.left⟩
theorem iw_app (a b : List Int) : iw (a ++ b) = iw b ++ iw a := by simp [GA.iw]
theorem WI_pre {p : P n} {u v : List Int} (h : iw (W p) = u ++ v) : Fits n u ∧ Bd n u (2 * n - 1) := by
  have e : W p = iw v ++ iw u := by rw [← iw_app, ← h, GA.iw_iw]
  have s : Sh n (iw v ++ iw u) := by rw [← e]; exact .W _
  have b := Bd.shI s.right
  rw [GA.iw_iw] at b
  refine ⟨?_, b⟩
  have f : Fits n (u ++ v) := by rw [← h]; exact GA.iw_fits (GA.W_fits p)
  exact f.left
theorem hpw_pre {pw : Int} {u v : List Int} (h : hpw n pw = u ++ v) : ∃ (j : Int) (u' : List Int), u = hpw n j ++ u' ∧ Fits n u' ∧ Bd n u' (2 * n - 1) ∧ j.natAbs ≤ pw.natAbs := by
  unfold GA.hpw at h
  by_cases k : 0 ≤ pw
  · rw [if_pos k] at h
    obtain ⟨j, u', v', hj, e1, e2⟩ := cut_rpt _ _ _ _ h
    obtain ⟨f, b⟩ := dw_pre e1
    exact ⟨j, u', by rw [e2]; unfold GA.hpw; rw [if_pos (by omega)]; rfl, f, b, by omega⟩
  · rw [if_neg k] at h
    obtain ⟨j, u', v', hj, e1, e2⟩ := cut_rpt _ _ _ _ h
    obtain ⟨f, b⟩ := WI_pre e1
    refine ⟨-(j : Int), u', ?_, f, b, by omega⟩
    rw [e2]
    unfold GA.hpw
    by_cases z : j = 0
    · subst z; rfl
    · rw [if_neg (by omega), show (- -(j : Int)).toNat = j by omega]
theorem flat_fits (R : List (P n)) : Fits n (flat R) := by
  induction R with
  | nil => exact fun x hx => nomatch hx
  | cons p R ih => rw [GA.flat_cons]; exact Fits.app (GA.W_fits p) ih
theorem flat_pre (h1 : 1 ≤ n) : ∀ (R : List (P n)) (u v : List Int), flat R = u ++ v → Fits n u ∧ Bd n u ((2 * n - 1) ^ R.length)
  | [], u, v, h => by
    have : u = [] := (List.append_eq_nil_iff.mp (show u ++ v = [] from h.symm)).1
    subst this
    exact ⟨(fun x hx => nomatch hx), .nil⟩
  | p :: R, u, v, h => by
    rw [GA.flat_cons] at h
    rcases cut2 h with ⟨z, e⟩ | ⟨z, e1, e2⟩
    · obtain ⟨f, b⟩ := W_pre e
      refine ⟨f, b.up ?_⟩
      rw [List.length_cons, Nat.pow_succ]
      have : 1 ≤ (2 * n - 1) ^ R.length := Nat.one_le_pow _ _ (by omega)
      calc 2 * n - 1 = 1 * (2 * n - 1) := by omega
        _ ≤ _ := Nat.mul_le_mul_right _ this
    · obtain ⟨f, b⟩ := flat_pre h1 R z v e2
      subst e1
      refine ⟨Fits.app (GA.W_fits p) f, ?_⟩
      rw [List.length_cons, Nat.pow_succ]
      exact (Bd.W p).mul f b
theorem one_pow (h1 : 1 ≤ n) (k : Nat) : 1 ≤ (2 * n - 1) ^ k := Nat.one_le_pow _ _ (by omega)
/-- the letters of a permutation and a form -/
theorem front_small (h1 : 1 ≤ n) (p : P n) (pw : Int) (R : List (P n)) (u v : List Int) (h : W p ++ fl pw R = u ++ v) : Bd n u ((2 * n - 1) ^ (max R.length 1 + 1) + n * (pw.natAbs + 1)) := by
  have b2 : (2 * n - 1) ≤ (2 * n - 1) ^ (max R.length 1) := by
    calc (2 * n - 1) = (2 * n - 1) ^ 1 := (Nat.pow_one _).symm
      _ ≤ _ := Nat.pow_le_pow_right (by omega) (by omega)
  have b3 : (2 * n - 1) ^ R.length ≤ (2 * n - 1) ^ (max R.length 1) := Nat.pow_le_pow_right (by omega) (by omega)
  have mul : ∀ c, c ≤ (2 * n - 1) ^ (max R.length 1) → c * (2 * n - 1) ≤ (2 * n - 1) ^ (max R.length 1 + 1) := fun c hc => by
    rw [Nat.pow_succ]; exact Nat.mul_le_mul_right _ hc
  rcases cut2 h with ⟨z, e⟩ | ⟨z, e1, e2⟩
  · refine (W_pre e).2.up ?_
    have := mul 1 (one_pow h1 _)
    omega
  · subst e1
    rw [GA.fl_is] at e2
    rcases cut2 e2 with ⟨y, e⟩ | ⟨y, e3, e4⟩
    · obtain ⟨j, u', rfl, f, b, hj⟩ := hpw_pre e
      refine (Bd.pw p j f b).up ?_
      have := mul _ b2
      have : n * (j.natAbs + 1) ≤ n * (pw.natAbs + 1) := Nat.mul_le_mul_left _ (by omega)
      omega
    · subst e3
      obtain ⟨f, b⟩ := flat_pre h1 R y v e4
      refine (Bd.pw p pw f b).up ?_
      have := mul _ b3
      omega
/-- the letters of a form -/
theorem form_small (h1 : 1 ≤ n) (pw : Int) (R : List (P n)) (u v : List Int) (h : fl pw R = u ++ v) : Bd n u ((2 * n - 1) ^ (max R.length 2) + n * (pw.natAbs + 1)) := by
  have p2 : (2 * n - 1) * (2 * n - 1) ≤ (2 * n - 1) ^ (max R.length 2) := by
    calc (2 * n - 1) * (2 * n - 1) = (2 * n - 1) ^ 2 := by rw [Nat.pow_two]
      _ ≤ _ := Nat.pow_le_pow_right (by omega) (by omega)
  rw [GA.fl_is] at h
  rcases cut2 h with ⟨z, e⟩ | ⟨z, e1, e2⟩
  · obtain ⟨j, u', rfl, f, b, hj⟩ := hpw_pre e
    have := Bd.pw (one : P n) j f b
    rw [GA.W_one, List.nil_append] at this
    refine this.up ?_
    have : n * (j.natAbs + 1) ≤ n * (pw.natAbs + 1) := Nat.mul_le_mul_left _ (by omega)
    omega
  · subst e1
    cases R with
    | nil =>
      have : z = [] := (List.append_eq_nil_iff.mp (show z ++ v = [] from e2.symm)).1
      subst this
      have := Bd.pw (one : P n) pw (v := []) (fun x hx => nomatch hx) .nil
      rw [GA.W_one, List.nil_append] at this
      refine this.up ?_
      have : 1 * (2 * n - 1) ≤ (2 * n - 1) * (2 * n - 1) := Nat.mul_le_mul_right _ (by omega)
      omega
    | cons p R =>
      rw [GA.flat_cons] at e2
      rcases cut2 e2 with ⟨y, e⟩ | ⟨y, e3, e4⟩
      · obtain ⟨f, b⟩ := W_pre e
        have := Bd.pw (one : P n) pw f b
        rw [GA.W_one, List.nil_append] at this
        exact this.up (by omega)
      · subst e3
        obtain ⟨f, b⟩ := flat_pre h1 R y v e4
        have s := Bd.pw (tw pw.natAbs p) pw f b
        have br := ((GA.W_hpw (tw pw.natAbs p) pw).r y)
        rw [tw_tw, List.append_assoc, List.append_assoc] at br
        refine Bd.br br (s.up ?_)
        have : (2 * n - 1) ^ R.length * (2 * n - 1) ≤ (2 * n - 1) ^ (max (p :: R).length 2) := by
          rw [← Nat.pow_succ]
          exact Nat.pow_le_pow_right (by omega) (by rw [List.length_cons]; omega)
        omega
end FW
namespace FW
/-! ### reduced words, told by their neighbours; the product of two -/
theorem rd_push : ∀ (b s : List Int), Rd b → (∀ x y, b.head? = some x → s.head? = some y → y ≠ -x) → b.foldl stp s = b.reverse ++ s
  | [], _, _, _ => rfl
  | x :: b, s, h, k => by
    have e : stp s x = x :: s := by
      cases s with
      | nil => rfl
      | cons y t => rw [stp_c, if_neg (k x y rfl rfl)]
    rw [List.foldl_cons, e, rd_push b (x :: s) h.tl fun z y hz hy => by
      cases b with
      | nil => cases hz
      | cons w b =>
        cases hz
        cases hy
        have := h.1
        omega]
    simp
theorem rd_red {l : List Int} (h : Rd l) : Red l := by
  show (l.foldl stp []).reverse = l
  rw [rd_push l [] h fun x y _ hy => by cases hy]
  simp
theorem rd_snoc : ∀ {l : List Int} {x : Int}, Rd l → (∀ y, l.getLast? = some y → x ≠ -y) → Rd (l ++ [x])
  | [], _, _, _ => trivial
  | [a], x, _, k => ⟨k a rfl, trivial⟩
  | a :: b :: t, x, h, k => ⟨h.1, rd_snoc (l := b :: t) h.2 fun y hy => k y (by rw [List.getLast?_cons_cons]; exact hy)⟩
theorem rd_rev : ∀ {l : List Int}, Rd l → Rd l.reverse
  | [], _ => trivial
  | [a], _ => trivial
  | a :: b :: t, h => by
    rw [List.reverse_cons]
    refine rd_snoc (rd_rev (l := b :: t) h.2) fun y hy => ?_
    rw [List.getLast?_reverse] at hy
    cases hy
    have := h.1
    omega
theorem red_rd' {l : List Int} (h : Red l) : Rd l := by
  have a : Rd (l.foldl stp []) := fold_rd l [] trivial
  have b := rd_rev a
  have e : (l.foldl stp []).reverse = l := h
  rw [e] at b
  exact b
theorem rd_app : ∀ {a b : List Int}, Rd a → Rd b → (∀ x y, a.getLast? = some x → b.head? = some y → y ≠ -x) → Rd (a ++ b)
  | [], b, _, h, _ => h
  | [x], [], _, _, _ => trivial
  | [x], y :: b, _, h, k => ⟨k x y rfl rfl, h⟩
  | x :: y :: a, b, h, h2, k => ⟨h.1, rd_app (a := y :: a) h.2 h2 fun u v hu hv => k u v (by rw [List.getLast?_cons_cons]; exact hu) hv⟩
theorem rd_left : ∀ {a b : List Int}, Rd (a ++ b) → Rd a
  | [], _, _ => trivial
  | [x], _, _ => trivial
  | x :: y :: a, b, h => ⟨h.1, rd_left (a := y :: a) (b := b) h.2⟩
theorem rd_right : ∀ {a b : List Int}, Rd (a ++ b) → Rd b
  | [], _, h => h
  | x :: a, b, h => rd_right (a := a) (b := b) (Rd.tl (a := x) (t := a ++ b) h)
/-- the product of two reduced words, g letters of which meet -/
theorem free_red (a b : List Int) (ha : Red a) (hb : Red b) (g : Nat) (g1 : g ≤ a.length) (g2 : g ≤ b.length)
    (hm : ∀ i, i < g → a.getD (a.length - 1 - i) 0 = -b.getD i 0)
    (hx : g = a.length ∨ g = b.length ∨ a.getD (a.length - 1 - g) 0 ≠ -b.getD g 0) : a.take (a.length - g) ++ b.drop g = red (a ++ b) := by
  obtain ⟨a1, c, ea, lc⟩ : ∃ a1 c, a = a1 ++ c ∧ c.length = g := ⟨a.take (a.length - g), a.drop (a.length - g), (List.take_append_drop _ _).symm, by rw [List.length_drop]; omega⟩
  obtain ⟨d, b1, eb, ld⟩ : ∃ d b1, b = d ++ b1 ∧ d.length = g := ⟨b.take g, b.drop g, (List.take_append_drop _ _).symm, by rw [List.length_take]; omega⟩
  have ed : d = inv c := by
    apply List.ext_getElem
    · rw [inv_len, lc, ld]
    · intro i h1 h2
      have m := hm i (by omega)
      have e1 : a.getD (a.length - 1 - i) 0 = c[c.length - 1 - i]'(by omega) := by
        rw [ea, List.getD_eq_getElem?_getD, List.getElem?_append_right (by rw [List.length_append]; omega), List.getElem?_eq_getElem (by rw [List.length_append]; omega)]
        simp only [Option.getD_some]
        congr 1
        rw [List.length_append]
        omega
      have e2 : b.getD i 0 = d[i]'h1 := by
        rw [eb, List.getD_eq_getElem?_getD, List.getElem?_append_left h1, List.getElem?_eq_getElem h1]
        rfl
      rw [e1, e2] at m
      have e3 : (inv c)[i]'h2 = -(c[c.length - 1 - i]'(by omega)) := by
        simp [inv]
      rw [e3]
      omega
  have la : a.length = a1.length + g := by rw [ea, List.length_append, lc]
  have lb : b.length = g + b1.length := by rw [eb, List.length_append, ld]
  have t1 : a.take (a.length - g) = a1 := by
    rw [show a.length - g = a1.length by omega, ea]
    simp
  have t2 : b.drop g = b1 := by
    rw [← ld, eb]
    simp
  rw [t1, t2]
  have r : Rd (a1 ++ b1) := by
    refine rd_app (rd_left (b := c) (ea ▸ red_rd' ha)) (rd_right (a := d) (eb ▸ red_rd' hb)) fun x y hx' hy => ?_
    rcases hx with z | z | z
    · have : a1 = [] := List.length_eq_zero_iff.mp (by omega)
      rw [this] at hx'; cases hx'
    · have : b1 = [] := List.length_eq_zero_iff.mp (by omega)
      rw [this] at hy; cases hy
    · have e1 : a.getD (a.length - 1 - g) 0 = x := by
        rw [List.getLast?_eq_getElem?] at hx'
        have hl : a1.length - 1 < a1.length := (List.getElem?_eq_some_iff.mp hx').1
        rw [ea, List.getD_eq_getElem?_getD, List.length_append, lc, show a1.length + g - 1 - g = a1.length - 1 by omega, List.getElem?_append_left hl, hx']
        rfl
      have e2 : b.getD g 0 = y := by
        rw [List.head?_eq_getElem?] at hy
        rw [eb, List.getD_eq_getElem?_getD, ← ld, List.getElem?_append_right (Nat.le_refl _), Nat.sub_self, hy]
        rfl
      rw [e1, e2] at z
      omega
  have q : red (a1 ++ b1) = a1 ++ b1 := rd_red r
  rw [← q]
  refine Eqv.red ?_
  rw [ea, eb, ed]
  have := ((Eqv.refl a1).app (eqv_inv c)).app (Eqv.refl b1)
  rw [List.append_nil] at this
  have e : a1 ++ c ++ (inv c ++ b1) = a1 ++ (c ++ inv c) ++ b1 := by simp
  rw [e]
  exact this.symm
end FW
namespace FW
open GA (P one St Fi W pm Br Dw Dv rpt iw tw tau C dl Add flat fl hpw S)
variable {n : Nat}
/-! ### squares of lengths -/
theorem four_le (X Q : Nat) : 4 * (X * Q) ≤ (X + Q) * (X + Q) := by
  have h : (0 : Int) ≤ ((X : Int) - Q) * ((X : Int) - Q) := by
    rcases Int.le_total 0 ((X : Int) - Q) with z | z
    · exact Int.mul_nonneg z z
    · exact Int.mul_nonneg_of_nonpos_of_nonpos z z
  have e : ((X : Int) - Q) * ((X : Int) - Q) = (X : Int) * X - 2 * ((X : Int) * Q) + (Q : Int) * Q := by
    rw [Int.sub_mul, Int.mul_sub, Int.mul_sub, Int.mul_comm (Q : Int) X]
    omega
  rw [e] at h
  have e2 : (X + Q) * (X + Q) = X * X + 2 * (X * Q) + Q * Q := by
    rw [Nat.add_mul, Nat.mul_add, Nat.mul_add, Nat.mul_comm Q X]
    omega
  rw [e2]
  have h2 : (0 : Int) ≤ ((X * X : Nat) : Int) - 2 * ((X * Q : Nat) : Int) + ((Q * Q : Nat) : Int) := by
    rw [Int.natCast_mul, Int.natCast_mul, Int.natCast_mul]
    exact h
  omega
theorem amgm {M A Q l : Nat} (h : M * M ≤ A * Q) : 2 * (M * l) ≤ A * (l * l) + Q := by
  by_cases c : 2 * (M * l) ≤ A * (l * l) + Q
  · exact c
  · exfalso
    have c' : A * (l * l) + Q < 2 * (M * l) := by omega
    have a := Nat.mul_self_lt_mul_self c'
    have b := four_le (A * (l * l)) Q
    have e1 : 2 * (M * l) * (2 * (M * l)) = 4 * (M * M * (l * l)) := by
      rw [Nat.mul_mul_mul_comm, Nat.mul_mul_mul_comm M l M l]
    have e2 : A * (l * l) * Q = A * Q * (l * l) := by rw [Nat.mul_assoc, Nat.mul_comm (l * l) Q, ← Nat.mul_assoc]
    have d : M * M * (l * l) ≤ A * Q * (l * l) := Nat.mul_le_mul_right _ h
    rw [e1] at a
    rw [e2] at b
    omega
/-! sums -/
theorem S_mono (k : Nat) (h h' : Nat → Nat) (e : ∀ x, x < k → h x ≤ h' x) : S k h ≤ S k h' := by
  induction k with
  | zero => exact Nat.le_refl _
  | succ k ih =>
    have := ih fun x hx => e x (by omega)
    have := e k (by omega)
    show S k h + h k ≤ S k h' + h' k
    omega
theorem S_up {k m : Nat} (h : Nat → Nat) (e : k ≤ m) : S k h ≤ S m h := by
  induction m with
  | zero => have : k = 0 := by omega
            rw [this]; exact Nat.le_refl _
  | succ m ih =>
    by_cases c : k = m + 1
    · rw [c]; exact Nat.le_refl _
    · have := ih (by omega)
      show S k h ≤ S m h + h m
      omega
theorem S_mul (a : Nat) (h : Nat → Nat) : ∀ k, S k (fun x => a * h x) = a * S k h
  | 0 => rfl
  | k + 1 => by show S k (fun x => a * h x) + a * h k = a * (S k h + h k); rw [S_mul a h k, Nat.mul_add]
theorem S_add (h h' : Nat → Nat) : ∀ k, S k (fun x => h x + h' x) = S k h + S k h'
  | 0 => rfl
  | k + 1 => by
    show S k (fun x => h x + h' x) + (h k + h' k) = S k h + h k + (S k h' + h' k)
    rw [S_add h h' k]; omega
theorem S_swf (i : Nat) (H : Nat → Nat) (hi : i + 1 < n) : S n (fun x => H (GA.swf i x)) = S n H := by
  have := GA.S_two i H (fun x => H (GA.swf i x)) (fun x h1 h2 => by
    show H x = H (GA.swf i x)
    rw [GA.swf3 h1 h2]) n hi
  simp only [GA.swf1, GA.swf2] at this
  omega
theorem S_perm : ∀ (N : Nat) (p : P n) (h : Nat → Nat), GA.far (GA.inv p) ≤ N → S n (fun x => h (p.g x)) = S n h
  | N, p, h, hN => by
    by_cases c : p = one
    · subst c; rfl
    · obtain ⟨i, hi, q, e, ha, hf⟩ := GA.off_end c
      match N, hN with
      | 0, hN => omega
      | N + 1, hN =>
        have ih := S_perm N q h (by omega)
        rw [e]
        have := S_swf (n := n) i (fun x => h (q.g x)) hi
        rw [← ih, ← this]
        rfl
/-- Cauchy, for a sum over some of the numbers -/
theorem cauchy (pr : Nat → Bool) (l : Nat → Nat) : ∀ k, S k (fun x => if pr x then l x else 0) * S k (fun x => if pr x then l x else 0) ≤ S k (fun x => if pr x then 1 else 0) * S k (fun x => if pr x then l x * l x else 0)
  | 0 => Nat.le_refl _
  | k + 1 => by
    have ih := cauchy pr l k
    show (S k (fun x => if pr x then l x else 0) + (if pr k then l k else 0)) * (S k (fun x => if pr x then l x else 0) + (if pr k then l k else 0)) ≤ (S k (fun x => if pr x then 1 else 0) + (if pr k then 1 else 0)) * (S k (fun x => if pr x then l x * l x else 0) + (if pr k then l k * l k else 0))
    generalize S k (fun x => if pr x then l x else 0) = M at *
    generalize S k (fun x => if pr x then 1 else 0) = A at *
    generalize S k (fun x => if pr x then l x * l x else 0) = Q at *
    cases pr k with
    | false => simpa using ih
    | true =>
      simp only [if_true]
      have := amgm (l := l k) ih
      rw [Nat.add_mul, Nat.mul_add, Nat.mul_add, Nat.add_mul, Nat.mul_add, Nat.one_mul, Nat.mul_comm (l k) M]
      omega
/-! lengths of rows -/
def ln (R : List (List Int)) (k : Nat) : Nat := (R.getD k []).length
def qq (R : List (List Int)) : Nat := S R.length fun k => ln R k * ln R k
def sl (R : List (List Int)) (w : List Int) : Nat := (w.map fun x => ln R (x.natAbs - 1)).sum
theorem sl_app (R : List (List Int)) (a b : List Int) : sl R (a ++ b) = sl R a + sl R b := by simp [sl]
theorem sub_sl (R : List (List Int)) : ∀ w : List Int, (sub R w).length = sl R w
  | [] => rfl
  | x :: w => by
    rw [sub_cons, List.length_append, sub_sl R w]
    have : (gen R x).length = ln R (x.natAbs - 1) := by
      unfold gen ln
      split
      · congr 2; omega
      · rw [inv_len]; congr 2; omega
    rw [this]
    simp [sl]
theorem sl_inv (R : List (List Int)) : ∀ w : List Int, sl R (inv w) = sl R w
  | [] => rfl
  | x :: w => by
    have e : inv (x :: w) = inv w ++ [-x] := by simp [inv]
    rw [e, sl_app, sl_inv R w]
    simp [sl]
    omega
theorem flt_S (pr : Nat → Bool) (g : Nat → Nat) : ∀ m, (((List.range m).filter pr).map g).sum = S m fun k => if pr k then g k else 0
  | 0 => rfl
  | m + 1 => by
    rw [List.range_succ, List.filter_append, List.map_append, List.sum_append, flt_S pr g m]
    show _ = S m _ + _
    congr 1
    by_cases c : pr m = true
    · simp [c]
    · simp [c]
def bl (p : P n) (l : Nat → Nat) (c : Nat) : Nat := S c fun k => if decide (p.f c < p.f k) then l k else 0
theorem sl_below (R : List (List Int)) (p : P n) (c : Nat) : sl R (below p c) = bl p (ln R) c := by
  unfold sl below bl
  rw [List.map_map, ← flt_S]
  rfl
theorem sl_ent (R : List (List Int)) (p : P n) (c : Nat) : sl R (ent p c) = ln R c + 2 * bl p (ln R) c := by
  unfold ent
  rw [sl_app, sl_app, sl_inv, sl_below]
  have : sl R [(c : Int) + 1] = ln R c := by
    simp [sl]
    congr 1
  rw [this]
  omega
theorem rows_ent {v : List Int} (h : Sh n v) {R : List (List Int)} (hl : R.length = n) (hR : All Red R) : rows v R = (rowP (pm v : P n)).map (sR R) := by
  subst hl
  rw [← rows_sub R v (pl_fits h.1) hR, Sh.row _ v rfl h]
theorem rows_ln {v : List Int} (h : Sh n v) {R : List (List Int)} (hl : R.length = n) (hR : All Red R) {j : Nat} (hj : j < n) : ln (rows v R) j ≤ ln R ((pm v : P n).g j) + 2 * bl (pm v : P n) (ln R) ((pm v : P n).g j) := by
  rw [rows_ent h hl hR]
  unfold ln rowP
  rw [List.map_map, List.getD_eq_getElem?_getD, List.getElem?_map, List.getElem?_range hj]
  show (sR R (ent (pm v : P n) ((pm v : P n).g j))).length ≤ _
  have a := (red_len (sub R (ent (pm v : P n) ((pm v : P n).g j)))).1
  rw [sub_sl, sl_ent] at a
  exact a
/-- how many cross strand c from the left -/
def ac (p : P n) (c : Nat) : Nat := S c fun k => if decide (p.f c < p.f k) then 1 else 0
theorem bl_sq (p : P n) (l : Nat → Nat) (c : Nat) (hc : c ≤ n) : bl p l c * bl p l c ≤ ac p c * S c fun k => l k * l k := by
  refine Nat.le_trans (cauchy (fun k => decide (p.f c < p.f k)) l c) ?_
  refine Nat.mul_le_mul_left _ (S_mono _ _ _ fun x _ => ?_)
  split
  · exact Nat.le_refl _
  · exact Nat.zero_le _
theorem ac_le (p : P n) (c : Nat) : ac p c ≤ c := by
  have : ac p c ≤ S c fun _ => 1 := S_mono _ _ _ fun x _ => by split <;> omega
  have e : ∀ c, S c (fun _ => 1) = c := fun c => by
    induction c with
    | zero => rfl
    | succ c ih => show S c (fun _ => 1) + 1 = c + 1; rw [ih]
  rw [e] at this
  exact this
theorem cn_S (f : Nat → Nat) (m : Nat) : GA.cn f m = S m fun k => if decide (f m < f k) then 1 else 0 := by
  have := flt_S (fun k => decide (f m < f k)) (fun _ => 1) m
  unfold GA.cn
  rw [← this]
  generalize (List.range m).filter (fun k => decide (f m < f k)) = L
  induction L with
  | nil => rfl
  | cons a L ih => rw [List.length_cons, List.map_cons, List.sum_cons, ih]; omega
theorem Wm_S (f : Nat → Nat) : ∀ m, (GA.Wm f m).length = S m (GA.cn f)
  | 0 => rfl
  | m + 1 => by
    show (GA.Wm f m ++ GA.blk m (GA.cn f m)).length = S m (GA.cn f) + GA.cn f m
    rw [List.length_append, Wm_S f m]
    simp [GA.blk]
theorem W_S (p : P n) : (W p).length = S n (ac p) := by
  unfold GA.W
  rw [Wm_S]
  exact GA.S_congr _ _ _ fun x _ => cn_S _ _
/-- one square -/
theorem sq_le (e l m : Nat) : e * ((l + 2 * m) * (l + 2 * m)) ≤ e * (1 + e) * (l * l) + 4 * (e + 1) * (m * m) := by
  have h := four_le (e * l) (2 * m)
  have e1 : e * ((l + 2 * m) * (l + 2 * m)) = e * (l * l) + 4 * (e * (l * m)) + 4 * (e * (m * m)) := by
    have : (l + 2 * m) * (l + 2 * m) = l * l + 4 * (l * m) + 4 * (m * m) := by
      rw [Nat.add_mul, Nat.mul_add, Nat.mul_add, Nat.mul_mul_mul_comm, Nat.mul_comm (2 * m) l, Nat.mul_left_comm l 2 m]
      omega
    rw [this, Nat.mul_add, Nat.mul_add, Nat.mul_left_comm e 4, Nat.mul_left_comm e 4]
  have e2 : e * (1 + e) * (l * l) = e * (l * l) + e * e * (l * l) := by rw [Nat.mul_add, Nat.add_mul, Nat.mul_one]
  have e3 : 4 * (e + 1) * (m * m) = 4 * (e * (m * m)) + 4 * (m * m) := by
    rw [Nat.mul_add, Nat.add_mul, Nat.mul_one, Nat.mul_assoc]
  have e4 : (e * l + 2 * m) * (e * l + 2 * m) = e * e * (l * l) + 4 * (e * (l * m)) + 4 * (m * m) := by
    rw [Nat.add_mul, Nat.mul_add, Nat.mul_add, Nat.mul_mul_mul_comm, Nat.mul_mul_mul_comm 2 m 2 m, Nat.mul_comm (2 * m) (e * l), Nat.mul_left_comm (e * l) 2 m, Nat.mul_assoc e l m]
    omega
  have e5 : e * l * (2 * m) = 2 * (e * (l * m)) := by rw [Nat.mul_left_comm (e * l) 2 m, Nat.mul_assoc e l m]
  rw [e1, e2, e3]
  rw [e4, e5] at h
  omega
/-- a short word with few crossings does not make the squares much greater -/
theorem qq_mid {v : List Int} (h : Sh n v) {R : List (List Int)} (hl : R.length = n) (hR : All Red R) (e : Nat) : e * qq (rows v R) ≤ (e * (1 + e) + 4 * (e + 1) * v.length) * qq R := by
  obtain ⟨p, hp⟩ : ∃ p : P n, p = pm v := ⟨_, rfl⟩
  have lr : (rows v R).length = n := by rw [rows_len _ _ (by rw [hl]; exact pl_fits h.1), hl]
  have a : qq (rows v R) ≤ S n (fun j => (ln R j + 2 * bl p (ln R) j) * (ln R j + 2 * bl p (ln R) j)) := by
    unfold qq
    rw [lr]
    refine Nat.le_trans ?_ (Nat.le_of_eq (S_perm _ p (fun j => (ln R j + 2 * bl p (ln R) j) * (ln R j + 2 * bl p (ln R) j)) (Nat.le_refl _)))
    refine S_mono _ _ _ fun j hj => ?_
    have := rows_ln h hl hR hj
    rw [← hp] at this
    exact Nat.mul_le_mul this this
  have b : e * S n (fun j => (ln R j + 2 * bl p (ln R) j) * (ln R j + 2 * bl p (ln R) j)) ≤ S n (fun j => e * (1 + e) * (ln R j * ln R j) + 4 * (e + 1) * (bl p (ln R) j * bl p (ln R) j)) := by
    rw [← S_mul]
    exact S_mono _ _ _ fun j _ => sq_le e _ _
  have c : S n (fun j => bl p (ln R) j * bl p (ln R) j) ≤ v.length * qq R := by
    have c1 : S n (fun j => bl p (ln R) j * bl p (ln R) j) ≤ S n (fun j => qq R * ac p j) := S_mono _ _ _ fun j hj => by
      refine Nat.le_trans (bl_sq p (ln R) j (by omega)) ?_
      rw [Nat.mul_comm]
      refine Nat.mul_le_mul_right _ ?_
      unfold qq
      rw [hl]
      exact S_up _ (by omega)
    have hv : (W p).length = v.length := by rw [hp]; exact h.2
    rw [S_mul, ← W_S, hv, Nat.mul_comm] at c1
    exact c1
  rw [S_add, S_mul, S_mul] at b
  have q1 : S n (fun j => ln R j * ln R j) = qq R := by unfold qq; rw [hl]
  rw [q1] at b
  have a' := Nat.mul_le_mul_left e a
  have c' := Nat.mul_le_mul_left (4 * (e + 1)) c
  rw [Nat.add_mul, Nat.mul_assoc (4 * (e + 1)) v.length]
  omega
/-- the first word: all entries short -/
def F : Nat → Nat
  | 0 => 0
  | k + 1 => F k + (1 + 2 * k) * (1 + 2 * k)
theorem qq_first {v : List Int} (h : Sh n v) {R : List (List Int)} (hl : R.length = n) (hR : All Red R) (h1 : ∀ k, ln R k ≤ 1) : qq (rows v R) ≤ F n := by
  obtain ⟨p, hp⟩ : ∃ p : P n, p = pm v := ⟨_, rfl⟩
  have lr : (rows v R).length = n := by rw [rows_len _ _ (by rw [hl]; exact pl_fits h.1), hl]
  have a : qq (rows v R) ≤ S n (fun j => (ln R j + 2 * bl p (ln R) j) * (ln R j + 2 * bl p (ln R) j)) := by
    unfold qq
    rw [lr]
    refine Nat.le_trans ?_ (Nat.le_of_eq (S_perm _ p (fun j => (ln R j + 2 * bl p (ln R) j) * (ln R j + 2 * bl p (ln R) j)) (Nat.le_refl _)))
    refine S_mono _ _ _ fun j hj => ?_
    have := rows_ln h hl hR hj
    rw [← hp] at this
    exact Nat.mul_le_mul this this
  refine Nat.le_trans a ?_
  have e : ∀ n, F n = S n fun k => (1 + 2 * k) * (1 + 2 * k) := fun n => by
    induction n with
    | zero => rfl
    | succ n ih => show F n + _ = S n _ + _; rw [ih]
  rw [e]
  refine S_mono _ _ _ fun j _ => ?_
  have b : bl p (ln R) j ≤ ac p j := S_mono _ _ _ fun x _ => by
    split
    · exact h1 x
    · exact Nat.le_refl _
  have c := ac_le p j
  have d := h1 j
  exact Nat.mul_le_mul (by omega) (by omega)
/-- the last word -/
theorem le_last {v : List Int} (h : Sh n v) {R : List (List Int)} (hl : R.length = n) (hR : All Red R) {B : Nat} (hB : (4 * n - 3) * qq R ≤ B * B) : All (Le B) (rows v R) := by
  intro e he
  obtain ⟨p, hp⟩ : ∃ p : P n, p = pm v := ⟨_, rfl⟩
  obtain ⟨j, hj, rfl⟩ := List.getElem_of_mem he
  have lr : (rows v R).length = n := by rw [rows_len _ _ (by rw [hl]; exact pl_fits h.1), hl]
  have a := rows_ln h hl hR (show j < n by omega)
  have ej : ln (rows v R) j = ((rows v R)[j]).length := by
    unfold ln
    rw [List.getD_eq_getElem?_getD, List.getElem?_eq_getElem hj]
    rfl
  rw [ej, ← hp] at a
  show ((rows v R)[j]).length ≤ B
  have hc : p.g j < n := p.glt (by omega)
  generalize p.g j = c at a hc
  have b1 := bl_sq p (ln R) c (by omega)
  have b2 := ac_le p c
  have b3 : S c (fun k => ln R k * ln R k) + ln R c * ln R c ≤ qq R := by
    unfold qq
    rw [hl]
    exact S_up (fun k => ln R k * ln R k) (show c + 1 ≤ n by omega)
  generalize bl p (ln R) c = m at *
  generalize S c (fun k => ln R k * ln R k) = Q at *
  generalize ln R c = l at *
  have b1' : m * m ≤ (n - 1) * Q := Nat.le_trans b1 (Nat.mul_le_mul_right _ (by omega))
  have g := amgm (l := 2 * l) b1'
  have e1 : (l + 2 * m) * (l + 2 * m) = l * l + 4 * (l * m) + 4 * (m * m) := by
    rw [Nat.add_mul, Nat.mul_add, Nat.mul_add, Nat.mul_mul_mul_comm, Nat.mul_comm (2 * m) l, Nat.mul_left_comm l 2 m]
    omega
  have e2 : 2 * (m * (2 * l)) = 4 * (l * m) := by rw [Nat.mul_left_comm m 2 l, Nat.mul_comm m l]; omega
  have e3 : (n - 1) * (2 * l * (2 * l)) = 4 * ((n - 1) * (l * l)) := by rw [Nat.mul_mul_mul_comm, Nat.mul_left_comm]
  rw [e2, e3] at g
  have t : (l + 2 * m) * (l + 2 * m) ≤ (4 * n - 3) * (Q + l * l) := by
    have f1 : (4 * n - 3) * (Q + l * l) = Q + l * l + 4 * ((n - 1) * Q) + 4 * ((n - 1) * (l * l)) := by
      rw [show 4 * n - 3 = 1 + 4 * (n - 1) by omega, Nat.add_mul, Nat.one_mul, Nat.mul_assoc, Nat.mul_add, Nat.mul_add]
      omega
    rw [e1, f1]
    omega
  have u : (l + 2 * m) * (l + 2 * m) ≤ B * B := Nat.le_trans t (Nat.le_trans (Nat.mul_le_mul_left _ b3) hB)
  have w : l + 2 * m ≤ B := by
    by_cases z : l + 2 * m ≤ B
    · exact z
    · have := Nat.mul_self_lt_mul_self (show B < l + 2 * m by omega)
      omega
  omega
end FW
namespace FW
open GA (P one St Fi W pm Br Dw Dv rpt iw tw tau C dl Add flat fl hpw S)
variable {n : Nat}
/-! ### the same for inverse words -/
theorem rows_iw {v : List Int} (h : Sh n v) {R : List (List Int)} (hl : R.length = n) (hR : All Red R) : rows (iw v) R = mir (rows (tr n v) (mir R)) := by
  have l0 : (mir R).length = n := by rw [mir_len, hl]
  have e := mir_rows (tr n v) (mir R) (by rw [l0]; exact h.tr.1)
  rw [l0, mir_mir hR] at e
  have e2 : ((tr n v).map fun x => x - (n : Int)) = iw v := by
    unfold tr GA.iw
    rw [List.map_map]
    apply List.map_congr_left
    intro x _
    show (n : Int) - x - n = -x
    omega
  rw [e2] at e
  exact e
theorem ln_mir {R : List (List Int)} {k : Nat} (hk : k < R.length) : ln (mir R) k ≤ ln R (R.length - 1 - k) := by
  unfold ln mir
  rw [List.getD_eq_getElem?_getD, List.getD_eq_getElem?_getD, List.getElem?_reverse (by rw [List.length_map]; exact hk), List.length_map, List.getElem?_map, List.getElem?_eq_getElem (by omega)]
  exact rr_len _
theorem qq_mir {R : List (List Int)} (hl : R.length = n) : qq (mir R) ≤ qq R := by
  have e := S_perm _ (dl : P n) (fun k => ln R k * ln R k) (Nat.le_refl _)
  unfold qq
  rw [mir_len, hl, ← e]
  refine S_mono _ _ _ fun k hk => ?_
  have a := ln_mir (R := R) (k := k) (by omega)
  have d : (dl : P n).g k = n - 1 - k := if_pos hk
  rw [d]
  rw [hl] at a
  exact Nat.mul_le_mul a a
theorem ln_one {R : List (List Int)} (h : ∀ k, ln R k ≤ 1) (k : Nat) : ln (mir R) k ≤ 1 := by
  by_cases c : k < R.length
  · exact Nat.le_trans (ln_mir c) (h _)
  · unfold ln
    rw [List.getD_eq_getElem?_getD, List.getElem?_eq_none (by rw [mir_len]; omega)]
    exact Nat.zero_le _
/-- a short word, or the inverse of one -/
def Fst (n : Nat) (w : List Int) : Prop := ∃ v, Sh n v ∧ (w = v ∨ w = iw v)
def Md (n : Nat) (w : List Int) : Prop := ∃ v, Sh n v ∧ 2 * v.length ≤ (Dw n).length ∧ (w = v ∨ w = iw v)
theorem Fst.fits {w : List Int} (h : Fst n w) : Fits n w := by
  obtain ⟨v, s, rfl | rfl⟩ := h
  · exact pl_fits s.1
  · exact GA.iw_fits (pl_fits s.1)
theorem Md.fst {w : List Int} (h : Md n w) : Fst n w := by
  obtain ⟨v, s, _, e⟩ := h
  exact ⟨v, s, e⟩
theorem qq_Md {w : List Int} (h : Md n w) {R : List (List Int)} (hl : R.length = n) (hR : All Red R) {e K : Nat} (he : 0 < e) (hK : ∀ L, 2 * L ≤ (Dw n).length → e * (1 + e) + 4 * (e + 1) * L ≤ e * K) : qq (rows w R) ≤ K * qq R := by
  have fin : ∀ a b L : Nat, 2 * L ≤ (Dw n).length → e * a ≤ (e * (1 + e) + 4 * (e + 1) * L) * b → a ≤ K * b := fun a b L hL h => by
    have := Nat.le_trans h (Nat.mul_le_mul_right b (hK L hL))
    rw [Nat.mul_assoc] at this
    exact Nat.le_of_mul_le_mul_left this he
  obtain ⟨v, s, l, rfl | rfl⟩ := h
  · exact fin _ _ _ l (qq_mid s hl hR e)
  · rw [rows_iw s hl hR]
    have l0 : (mir R).length = n := by rw [mir_len, hl]
    have m := qq_mid s.tr l0 (mir_red R) e
    rw [tr_len] at m
    have a := fin _ _ _ l m
    have b := qq_mir (R := rows (tr n v) (mir R)) (by rw [rows_len _ _ (by rw [l0]; exact pl_fits s.tr.1), l0])
    exact Nat.le_trans b (Nat.le_trans a (Nat.mul_le_mul_left _ (qq_mir hl)))
theorem ln_start (k : Nat) : ln (start n) k ≤ 1 := by
  unfold ln start
  rw [List.getD_eq_getElem?_getD, List.getElem?_map]
  by_cases c : k < n
  · rw [List.getElem?_range c]
    exact Nat.le_refl _
  · rw [List.getElem?_eq_none (by rw [List.length_range]; omega)]
    exact Nat.zero_le _
theorem qq_Fst {w : List Int} (h : Fst n w) : qq (rows w (start n)) ≤ F n := by
  obtain ⟨v, s, rfl | rfl⟩ := h
  · exact qq_first s (start_len n) (start_red n) ln_start
  · rw [rows_iw s (start_len n) (start_red n)]
    have l0 : (mir (start n)).length = n := by rw [mir_len, start_len]
    exact Nat.le_trans (qq_mir (by rw [rows_len _ _ (by rw [l0]; exact pl_fits s.tr.1), l0])) (qq_first s.tr l0 (mir_red _) (ln_one ln_start))
theorem mids_fits {ms : List (List Int)} (h : ∀ w ∈ ms, Md n w) : Fits n ms.flatten := fun x hx => by
  obtain ⟨w, hw, hx⟩ := List.mem_flatten.mp hx
  exact (h w hw).fst.fits x hx
theorem qq_mids {e K : Nat} (he : 0 < e) (hK : ∀ L, 2 * L ≤ (Dw n).length → e * (1 + e) + 4 * (e + 1) * L ≤ e * K) : ∀ (ms : List (List Int)) {R : List (List Int)}, (∀ w ∈ ms, Md n w) → R.length = n → All Red R → qq (rows ms.flatten R) ≤ K ^ ms.length * qq R
  | [], R, _, _, _ => by show qq R ≤ 1 * qq R; omega
  | w :: ms, R, h, hl, hR => by
    have hw := h w (List.mem_cons_self ..)
    have fw : Fits R.length w := by rw [hl]; exact hw.fst.fits
    have a := qq_Md hw hl hR he hK
    have b := qq_mids he hK ms (R := rows w R) (fun x hx => h x (List.mem_cons_of_mem _ hx)) (by rw [rows_len _ _ fw, hl]) (red_rows w fw hR)
    rw [List.flatten_cons, rows_app, List.length_cons, Nat.pow_succ, Nat.mul_assoc]
    exact Nat.le_trans b (Nat.mul_le_mul_left _ a)
/-- a first word, some words with few crossings, and a last one -/
theorem Bd.chain {s u : List Int} {ms : List (List Int)} (hs : Fst n s) (hm : ∀ w ∈ ms, Md n w) (hu : Sh n u) {e K B : Nat} (he : 0 < e) (hK : ∀ L, 2 * L ≤ (Dw n).length → e * (1 + e) + 4 * (e + 1) * L ≤ e * K)
    (hB : (4 * n - 3) * (K ^ ms.length * FW.F n) ≤ B * B) : Bd n (s ++ (ms.flatten ++ u)) B := by
  have f1 : Fits (start n).length s := by rw [start_len]; exact hs.fits
  have l1 : (rows s (start n)).length = n := by rw [rows_len _ _ f1, start_len]
  have r1 : All Red (rows s (start n)) := red_rows s f1 (start_red n)
  have f2 : Fits (rows s (start n)).length ms.flatten := by rw [l1]; exact mids_fits hm
  have l2 : (rows ms.flatten (rows s (start n))).length = n := by rw [rows_len _ _ f2, l1]
  have r2 : All Red (rows ms.flatten (rows s (start n))) := red_rows _ f2 r1
  refine .of (hs.fits.app ((mids_fits hm).app (pl_fits hu.1))) ?_
  rw [rows_app, rows_app]
  refine le_last hu l2 r2 (Nat.le_trans (Nat.mul_le_mul_left _ ?_) hB)
  exact Nat.le_trans (qq_mids he hK ms hm l1 r1) (Nat.mul_le_mul_left _ (qq_Fst hs))
/-! ### factors with few crossings -/
theorem len_C (f : P n) : (W f).length + (W (C f)).length = (Dw n).length := by
  have a := GA.Wmul (add_C f)
  have e : f * C f = dl := by
    show f * (GA.inv f * dl) = dl
    rw [GA.canc']
  rw [e] at a
  have b := a.ssum
  rw [GA.ssum_app, GA.ssum_W, GA.ssum_W, GA.ssum_W] at b
  have b' : ((W f).length : Int) + ((W (C f)).length : Int) = ((W (dl : P n)).length : Int) := b
  show (W f).length + (W (C f)).length = (W (dl : P n)).length
  omega
theorem one_mid (f : P n) : ∃ w, Md n w ∧ (Br n (W f) w ∨ Br n (W f) (Dw n ++ w)) := by
  by_cases c : 2 * (W f).length ≤ (Dw n).length
  · exact ⟨W f, ⟨W f, .W f, c, .inl rfl⟩, .inl (.refl _)⟩
  · have := len_C f
    exact ⟨iw (W (C f)), ⟨W (C f), .W _, by omega, .inr rfl⟩, .inr (W_back f)⟩
theorem flat_mids : ∀ fs : List (P n), ∃ (j : Nat) (ms : List (List Int)), ms.length = fs.length ∧ j ≤ fs.length ∧ (∀ w ∈ ms, Md n w) ∧ Br n (flat fs) (rpt j (Dw n) ++ ms.flatten)
  | [] => ⟨0, [], rfl, Nat.le_refl _, (fun _ h => nomatch h), .refl _⟩
  | f :: fs => by
    obtain ⟨j, ms, h1, h2, h3, h4⟩ := flat_mids fs
    have a : Br n (flat (f :: fs)) (rpt j (Dw n) ++ (W (tw j f) ++ ms.flatten)) := by
      rw [GA.flat_cons]
      refine (h4.l (W f)).trans ?_
      rw [← List.append_assoc, ← List.append_assoc]
      exact (GA.W_Ds f j).r _
    obtain ⟨w, hw, b | b⟩ := one_mid (tw j f)
    · refine ⟨j, w :: ms, by rw [List.length_cons, List.length_cons, h1], by rw [List.length_cons]; omega, fun x hx => ?_, a.trans ?_⟩
      · rcases List.mem_cons.mp hx with rfl | hx
        · exact hw
        · exact h3 x hx
      · rw [List.flatten_cons]
        exact (b.r _).l _
    · refine ⟨j + 1, w :: ms, by rw [List.length_cons, List.length_cons, h1], by rw [List.length_cons]; omega, fun x hx => ?_, a.trans ?_⟩
      · rcases List.mem_cons.mp hx with rfl | hx
        · exact hw
        · exact h3 x hx
      · rw [List.flatten_cons, GA.rpt_end, List.append_assoc, ← List.append_assoc (Dw n)]
        exact (b.r _).l _
theorem half' (p : P n) (k : Nat) : ∃ m s, Fst n s ∧ 2 * m ≤ k + 1 ∧ Br n (W p ++ rpt k (Dw n)) (rpt (2 * m) (Dw n) ++ s) := by
  rcases Nat.mod_two_eq_zero_or_one k with h | h
  · obtain ⟨m, rfl⟩ : ∃ m, k = 2 * m := ⟨k / 2, by omega⟩
    have := GA.W_Ds p (2 * m)
    rw [tw_even] at this
    exact ⟨m, W p, ⟨_, .W p, .inl rfl⟩, by omega, this⟩
  · obtain ⟨m, rfl⟩ : ∃ m, k = 2 * m + 1 := ⟨k / 2, by omega⟩
    have := GA.W_Ds p (2 * m + 1)
    rw [tw_odd] at this
    refine ⟨m + 1, iw (W (C (tau p))), ⟨_, .W _, .inr rfl⟩, by omega, this.trans ?_⟩
    have e : rpt (2 * (m + 1)) (Dw n) = rpt (2 * m + 1) (Dw n) ++ Dw n := GA.rpt_end (2 * m + 1) _
    rw [e, List.append_assoc]
    exact (W_back (tau p)).l _
theorem halfI' (p : P n) (k : Nat) : ∃ m s, Fst n s ∧ 2 * m ≤ k + 1 ∧ Br n (W p ++ rpt k (Dv n)) (rpt (2 * m) (Dv n) ++ s) := by
  rcases Nat.mod_two_eq_zero_or_one k with h | h
  · obtain ⟨m, rfl⟩ : ∃ m, k = 2 * m := ⟨k / 2, by omega⟩
    have := GA.D_invs p (2 * m)
    rw [tw_even] at this
    exact ⟨m, W p, ⟨_, .W p, .inl rfl⟩, by omega, this⟩
  · obtain ⟨m, rfl⟩ : ∃ m, k = 2 * m + 1 := ⟨k / 2, by omega⟩
    have := GA.D_invs p (2 * m + 1)
    rw [tw_odd] at this
    refine ⟨m, iw (W (C (tau p))), ⟨_, .W _, .inr rfl⟩, by omega, this.trans ?_⟩
    rw [GA.rpt_end, List.append_assoc]
    refine Br.l _ ?_
    have b := (W_back (tau p)).l (Dv n)
    refine b.trans ?_
    rw [← List.append_assoc]
    have c := (GA.iw_canc' (Dw n) dw_fits).r (iw (W (C (tau p))))
    rw [List.nil_append] at c
    exact c
/-- a permutation, half turns, factors, and the beginning of one more -/
theorem Bd.line (p : P n) (pw : Int) (fs : List (P n)) {u : List Int} (hu : Sh n u) {e K B : Nat} (he : 0 < e) (hK : ∀ L, 2 * L ≤ (Dw n).length → e * (1 + e) + 4 * (e + 1) * L ≤ e * K)
    (hB : (4 * n - 3) * (K ^ fs.length * FW.F n) ≤ B * B) : Bd n (GA.W p ++ (hpw n pw ++ (flat fs ++ u))) (B + n * (pw.natAbs + fs.length + 1)) := by
  obtain ⟨j, ms, h1, h2, h3, h4⟩ := flat_mids fs
  have fm := (mids_fits h3).app (pl_fits hu.1)
  have a : Br n (GA.W p ++ (hpw n pw ++ (flat fs ++ u))) (GA.W p ++ hpw n (pw + j) ++ (ms.flatten ++ u)) := by
    rw [List.append_assoc]
    refine Br.l _ ?_
    refine (((h4.r u).l (hpw n pw))).trans ?_
    have := (GA.hpw_add (n := n) pw j).r (ms.flatten ++ u)
    simpa [List.append_assoc] using this
  have key : ∀ m : Nat, 2 * m ≤ (pw + (j : Int)).natAbs + 1 → B + 2 * n * m ≤ B + n * (pw.natAbs + fs.length + 1) := fun m hm => by
    have : n * (2 * m) ≤ n * (pw.natAbs + fs.length + 1) := Nat.mul_le_mul_left _ (by omega)
    have e : 2 * n * m = n * (2 * m) := by rw [Nat.mul_comm 2 n, Nat.mul_assoc]
    omega
  refine Bd.br a.symm ?_
  unfold GA.hpw
  by_cases k : 0 ≤ pw + j
  · rw [if_pos k]
    obtain ⟨m, s, hs, hm, b⟩ := half' p (pw + j).toNat
    have b1 := b.r (ms.flatten ++ u)
    rw [List.append_assoc (rpt (2 * m) (Dw n))] at b1
    exact Bd.br b1.symm ((Bd.turns (hs.fits.app fm) (Bd.chain hs h3 hu he hK (by rw [h1]; exact hB)) m).up (key m (by omega)))
  · rw [if_neg k]
    obtain ⟨m, s, hs, hm, b⟩ := halfI' p (-(pw + j)).toNat
    have b1 := b.r (ms.flatten ++ u)
    rw [List.append_assoc (rpt (2 * m) (Dv n))] at b1
    exact Bd.br b1.symm ((Bd.turnsI (hs.fits.app fm) (Bd.chain hs h3 hu he hK (by rw [h1]; exact hB)) m).up (key m (by omega)))
/-- where a beginning of the factors' words ends -/
theorem cut_flat : ∀ (R : List (P n)) (u v : List Int), flat R = u ++ v → ∃ (fs : List (P n)) (y : List Int), u = flat fs ++ y ∧ Sh n y ∧ fs.length ≤ R.length - 1
  | [], u, v, h => by
    have : u = [] := (List.append_eq_nil_iff.mp (show u ++ v = [] from h.symm)).1
    exact ⟨[], [], by rw [this]; rfl, by have := Sh.W (one : P n); rw [GA.W_one] at this; exact this, Nat.zero_le _⟩
  | p :: R, u, v, h => by
    rw [GA.flat_cons] at h
    rcases cut2 h with ⟨z, e⟩ | ⟨z, e1, e2⟩
    · have s : Sh n (u ++ z) := by rw [← e]; exact .W _
      exact ⟨[], u, rfl, s.left, Nat.zero_le _⟩
    · cases R with
      | nil =>
        have : z = [] := (List.append_eq_nil_iff.mp (show z ++ v = [] from e2.symm)).1
        subst this
        rw [List.append_nil] at e1
        exact ⟨[], u, rfl, by rw [e1]; exact .W p, Nat.zero_le _⟩
      | cons q R =>
        obtain ⟨fs, y, f1, f2, f3⟩ := cut_flat (q :: R) z v e2
        refine ⟨p :: fs, y, by rw [e1, f1, GA.flat_cons, List.append_assoc], f2, ?_⟩
        simp only [List.length_cons] at f3 ⊢
        omega
theorem hB_up {K m k B f : Nat} (hKp : 1 ≤ K) (h : m ≤ k) (hB : f * (K ^ k * FW.F n) ≤ B * B) : f * (K ^ m * FW.F n) ≤ B * B :=
  Nat.le_trans (Nat.mul_le_mul_left _ (Nat.mul_le_mul_right _ (Nat.pow_le_pow_right hKp h))) hB
/-- the letters of a permutation and a form, letter by letter -/
theorem front_l2 (p : P n) (pw : Int) (R : List (P n)) {e K B : Nat} (he : 0 < e) (hK : ∀ L, 2 * L ≤ (Dw n).length → e * (1 + e) + 4 * (e + 1) * L ≤ e * K) (hKp : 1 ≤ K) (h1 : 1 ≤ n)
    (hB : (4 * n - 3) * (K ^ (R.length - 1) * FW.F n) ≤ B * B) (hB2 : (2 * n - 1) * (2 * n - 1) ≤ B) (u v : List Int) (h : W p ++ fl pw R = u ++ v) : Bd n u (B + n * (pw.natAbs + R.length + 1)) := by
  rcases cut2 h with ⟨z, e⟩ | ⟨z, e1, e2⟩
  · refine (W_pre e).2.up ?_
    have : 1 * (2 * n - 1) ≤ (2 * n - 1) * (2 * n - 1) := Nat.mul_le_mul_right _ (by omega)
    omega
  · subst e1
    rw [GA.fl_is] at e2
    rcases cut2 e2 with ⟨y, e⟩ | ⟨y, e3, e4⟩
    · obtain ⟨j, u', rfl, f, b, hj⟩ := hpw_pre e
      refine (Bd.pw p j f b).up ?_
      have : n * (j.natAbs + 1) ≤ n * (pw.natAbs + R.length + 1) := Nat.mul_le_mul_left _ (by omega)
      omega
    · subst e3
      obtain ⟨fs, y', rfl, f2, f3⟩ := cut_flat R y v e4
      refine (Bd.line p pw fs f2 he hK (hB_up hKp f3 hB)).up ?_
      have : n * (pw.natAbs + fs.length + 1) ≤ n * (pw.natAbs + R.length + 1) := Nat.mul_le_mul_left _ (by omega)
      omega
/-- the letters of a form, letter by letter -/
theorem form_l2 (pw : Int) (R : List (P n)) {e K B : Nat} (he : 0 < e) (hK : ∀ L, 2 * L ≤ (Dw n).length → e * (1 + e) + 4 * (e + 1) * L ≤ e * K) (hKp : 1 ≤ K) (h1 : 1 ≤ n)
    (hB : (4 * n - 3) * (K ^ (R.length - 2) * FW.F n) ≤ B * B) (hB2 : (2 * n - 1) * (2 * n - 1) ≤ B) (u v : List Int) (h : fl pw R = u ++ v) : Bd n u (B + n * (pw.natAbs + R.length + 1)) := by
  have up : ∀ j : Int, j.natAbs ≤ pw.natAbs → n * (j.natAbs + 1) ≤ n * (pw.natAbs + R.length + 1) := fun j hj => Nat.mul_le_mul_left _ (by omega)
  rw [GA.fl_is] at h
  rcases cut2 h with ⟨z, e⟩ | ⟨z, e1, e2⟩
  · obtain ⟨j, u', rfl, f, b, hj⟩ := hpw_pre e
    have := Bd.pw (one : P n) j f b
    rw [GA.W_one, List.nil_append] at this
    refine this.up ?_
    have := up j hj
    omega
  · subst e1
    cases R with
    | nil =>
      have : z = [] := (List.append_eq_nil_iff.mp (show z ++ v = [] from e2.symm)).1
      subst this
      have := Bd.pw (one : P n) pw (v := []) (fun x hx => nomatch hx) .nil
      rw [GA.W_one, List.nil_append] at this
      refine this.up ?_
      have : 1 * (2 * n - 1) ≤ (2 * n - 1) * (2 * n - 1) := Nat.mul_le_mul_right _ (by omega)
      have := up pw (Nat.le_refl _)
      omega
    | cons p R =>
      rw [GA.flat_cons] at e2
      rcases cut2 e2 with ⟨y, e⟩ | ⟨y, e3, e4⟩
      · obtain ⟨f, b⟩ := W_pre e
        have := Bd.pw (one : P n) pw f b
        rw [GA.W_one, List.nil_append] at this
        have := up pw (Nat.le_refl _)
        exact Bd.up ‹_› (by omega)
      · subst e3
        obtain ⟨fs, y', rfl, f2, f3⟩ := cut_flat R y v e4
        have s := Bd.line (tw pw.natAbs p) pw fs f2 he hK (hB_up hKp (by rw [List.length_cons]; omega) hB)
        have br := ((GA.W_hpw (tw pw.natAbs p) pw).r (flat fs ++ y'))
        rw [tw_tw, List.append_assoc, List.append_assoc] at br
        refine Bd.br br (s.up ?_)
        have : n * (pw.natAbs + fs.length + 1) ≤ n * (pw.natAbs + (p :: R).length + 1) := Nat.mul_le_mul_left _ (by rw [List.length_cons]; omega)
        omega
/-! the numbers -/
def eN (n : Nat) : Nat := [1, 1, 1, 2, 3, 4, 4, 5, 7].getD n 1
def kN (n : Nat) : Nat := [1, 1, 1, 9, 20, 30, 40, 54, 72].getD n 1
theorem num (h3 : 3 ≤ n) (h8 : n ≤ 8) : 0 < eN n ∧ 1 ≤ kN n ∧ ∀ L, 2 * L ≤ (Dw n).length → eN n * (1 + eN n) + 4 * (eN n + 1) * L ≤ eN n * kN n := by
  have : n = 3 ∨ n = 4 ∨ n = 5 ∨ n = 6 ∨ n = 7 ∨ n = 8 := by omega
  rcases this with rfl | rfl | rfl | rfl | rfl | rfl
  · have d : (Dw 3).length = 3 := by decide
    refine ⟨by decide, by decide, fun L hL => ?_⟩
    rw [d] at hL
    show 2 * (1 + 2) + 4 * (2 + 1) * L ≤ 2 * 9
    omega
  · have d : (Dw 4).length = 6 := by decide
    refine ⟨by decide, by decide, fun L hL => ?_⟩
    rw [d] at hL
    show 3 * (1 + 3) + 4 * (3 + 1) * L ≤ 3 * 20
    omega
  · have d : (Dw 5).length = 10 := by decide
    refine ⟨by decide, by decide, fun L hL => ?_⟩
    rw [d] at hL
    show 4 * (1 + 4) + 4 * (4 + 1) * L ≤ 4 * 30
    omega
  · have d : (Dw 6).length = 15 := by decide
    refine ⟨by decide, by decide, fun L hL => ?_⟩
    rw [d] at hL
    show 4 * (1 + 4) + 4 * (4 + 1) * L ≤ 4 * 40
    omega
  · have d : (Dw 7).length = 21 := by decide
    refine ⟨by decide, by decide, fun L hL => ?_⟩
    rw [d] at hL
    show 5 * (1 + 5) + 4 * (5 + 1) * L ≤ 5 * 54
    omega
  · have d : (Dw 8).length = 28 := by decide
    refine ⟨by decide, by decide, fun L hL => ?_⟩
    rw [d] at hL
    show 7 * (1 + 7) + 4 * (7 + 1) * L ≤ 7 * 72
    omega
end FW
namespace K12
open PySem J
open GA (P one inv St Fi Add Wt dl C)
variable {n : Nat}
/-! ### permutations as lists -/
def toL (p : P n) : List Int := (List.range n).map fun k => ((p.f k : Nat) : Int) + 1
@[simp] theorem toL_len (p : P n) : (toL p).length = n := by unfold toL; rw [List.length_map, List.length_range]
theorem toL_nat (p : P n) {k : Nat} (h : k < n) : gt (toL p) k = ((p.f k : Nat) : Int) + 1 := by
  unfold toL
  rw [gt_nat, List.getD_eq_getElem?_getD, List.getElem?_map, List.getElem?_range h]
  rfl
theorem toL_gt (p : P n) {i : Int} (h0 : 0 ≤ i) (h1 : i < n) : gt (toL p) i = ((p.f i.toNat : Nat) : Int) + 1 := by
  have := toL_nat p (k := i.toNat) (by omega)
  rwa [show ((i.toNat : Nat) : Int) = i by omega] at this
theorem ext_gt {l m : List Int} (hl : l.length = n) (hm : m.length = n) (h : ∀ k : Nat, k < n → gt l k = gt m k) : l = m := by
  apply List.ext_getElem (by rw [hl, hm])
  intro i h1 h2
  have := h i (by omega)
  rw [gt_nat, gt_nat, List.getD_eq_getElem?_getD, List.getD_eq_getElem?_getD, List.getElem?_eq_getElem h1, List.getElem?_eq_getElem h2] at this
  exact this
theorem toL_ext {l : List Int} {p : P n} (hl : l.length = n) (h : ∀ k : Nat, k < n → gt l k = ((p.f k : Nat) : Int) + 1) : l = toL p :=
  ext_gt hl (toL_len p) fun k hk => by rw [h k hk, toL_nat p hk]
theorem toL_inj {p q : P n} (h : toL p = toL q) : p = q := by
  apply P.ext
  intro x
  by_cases c : x < n
  · have a := toL_nat p c
    rw [h, toL_nat q c] at a
    omega
  · rw [p.on x (by omega), q.on x (by omega)]
theorem toL_mem {p : P n} {x : Int} (h : x ∈ toL p) : 1 ≤ x ∧ x ≤ n := by
  obtain ⟨k, hk, rfl⟩ := List.mem_map.mp h
  have := p.lt (List.mem_range.mp hk)
  omega
abbrev pd (p : P n) : D := .tuple (li (toL p))
theorem map_gt (l : List Int) (f : Int → Int) {k : Nat} (h : k < l.length) : gt (l.map f) k = f (gt l k) := by
  rw [gt_nat, gt_nat, List.getD_eq_getElem?_getD, List.getD_eq_getElem?_getD, List.getElem?_map, List.getElem?_eq_getElem h]
  rfl
theorem lim (h : n < 1000) : n ≤ limit := by unfold limit; omega
theorem compose_ok (hn : n < 1000) (p q : P n) : f_compose [pd p, pd q] = some (.fz (pd (p * q)), []) := by
  have hc := lc_li (g := gNm 2) (t := tYes) (a := l_compose_1) (er := [2]) (env := [.fz (pd p), .fz (pd q), .no]) (f := fun x => .int (gt (toL q) (x - 1))) (l := toL p) fun x hx => by
    have := toL_mem hx
    have := toL_len q
    simp (disch := (try simp only [toL_len]); omega) [turnL, l_compose_1]
  have e : ((toL p).map fun x => gt (toL q) (x - 1)) = toL (p * q) := toL_ext (by rw [List.length_map, toL_len]) fun k hk => by
    rw [map_gt _ _ (by rw [toL_len]; exact hk), toL_nat p hk, show ((p.f k : Nat) : Int) + 1 - 1 = ((p.f k : Nat) : Int) by omega, toL_nat q (p.lt hk)]
    rfl
  rw [li_map, e] at hc
  simp (disch := omega) [f_compose, q_fn, b_compose, hc, lim hn]
theorem rng_one : rngD 1 n = li (toL (one : P n)) := by
  unfold rngD li toL
  rw [List.map_map]
  apply List.map_congr_left
  intro k _
  simp
  omega
theorem rngM_dl : rngM n n = li (toL (dl : P n)) := by
  unfold rngM li toL
  rw [List.map_map]
  apply List.map_congr_left
  intro k hk
  have := List.mem_range.mp hk
  simp [GA.dl_f, GA.dlf, this]
  omega
theorem identity_ok (hn : n < 1000) : f_identity [.int n] = some (.fz (pd (one : P n)), []) := by
  have hl : n ≤ limit := by unfold limit; omega
  simp (disch := omega) [f_identity, q_fn, b_identity, rng_one, hl]
theorem half_ok (hn : n < 1000) : f_half_turn [.int n] = some (.fz (pd (dl : P n)), []) := by
  have hl : n ≤ limit := by unfold limit; omega
  simp (disch := omega) [f_half_turn, q_fn, b_half_turn, rngM_dl, hl]
/-! ### the inverse -/
def Wd (l : List Int) (u : D) : Prop := u = .list (li l) ∨ u = .tuple (li l)
theorem set_gt {l : List Int} {i k : Nat} (v : Int) (hi : i < l.length) : gt (l.set i v) k = if k = i then v else gt l k := by
  rw [gt_nat, gt_nat, List.getD_eq_getElem?_getD, List.getD_eq_getElem?_getD, List.getElem?_set]
  by_cases c : k = i
  · subst c; rw [if_pos rfl, if_pos rfl, if_pos hi]; rfl
  · rw [if_neg (fun z => c z.symm), if_neg c]
/-- what is told of the first j places -/
def Told (p : P n) (q : List Int) (j : Nat) : Prop := q.length = n ∧ ∀ k : Nat, k < j → gt q (p.f k : Nat) = (k : Int) + 1
theorem told_step {p : P n} {q : List Int} {j : Nat} (hj : j < n) (h : Told p q j) : Told p (q.set (p.f j) ((j : Int) + 1)) (j + 1) := by
  refine ⟨by rw [List.length_set]; exact h.1, fun k hk => ?_⟩
  rw [set_gt _ (by rw [h.1]; exact p.lt hj)]
  by_cases c : k = j
  · subst c; rw [if_pos rfl]
  · rw [if_neg (fun z => c (p.inj z))]; exact h.2 k (by omega)
theorem told_inv {p : P n} {q : List Int} (h : Told p q n) : q = toL (inv p) := toL_ext h.1 fun k hk => by
  have := h.2 (p.g k) (p.glt hk)
  rw [p.fg] at this
  exact this
theorem inverse_ok (hn : n < 1000) (p : P n) (u : D) (hu : Wd (toL p) u) : f_inverse_perm [u] = some (.fz (pd (inv p)), []) := by
  have lp := fun a => for_enR (g := gTp (glCons (gNm 2) (glCons (gNm 3) glNil))) (body := l_inverse_perm_1) (er := [2, 3]) (fun (j : Int) env => 0 ≤ j ∧ ∃ q, env = [a, .ow (li q), .no, .no] ∧ Told p q j.toNat) (fun _ => False) (toL p) [a, .ow (li (toL p)), .no, .no] ⟨by omega, toL p, rfl, toL_len p, fun k hk => by omega⟩ fun k env k0 k1 ⟨_, q, he, ht⟩ => by
    subst he
    rw [toL_len] at k1
    have ql := ht.1
    have g := toL_gt p k0 k1
    have pl := p.lt (x := k.toNat) (by omega)
    have st := told_step (j := k.toNat) (by omega) ht
    rw [show ((k.toNat : Nat) : Int) = k by omega, show k.toNat + 1 = (k + 1).toNat by omega] at st
    have e : ((((p.f k.toNat : Nat) : Int) + 1 - 1)).toNat = p.f k.toNat := by omega
    refine .inl ⟨[a, .ow (li (q.set (p.f k.toNat) (k + 1))), .no, .no], ?_, by omega, _, rfl, st⟩
    rw [g]
    simp (disch := omega) [turn, l_inverse_perm_1]
  rcases hu with rfl | rfl
  · rcases lp (.bw (li (toL p))) with ⟨e, h, _, q, rfl, ht⟩ | ⟨_, _, w⟩
    · rw [toL_len, show ((n : Nat) : Int).toNat = n by omega] at ht
      have := told_inv ht
      subst this
      simp [f_inverse_perm, q_fn, b_inverse_perm, h, lim hn]
    · exact w.elim
  · rcases lp (.fz (pd p)) with ⟨e, h, _, q, rfl, ht⟩ | ⟨_, _, w⟩
    · rw [toL_len, show ((n : Nat) : Int).toNat = n by omega] at ht
      have := told_inv ht
      subst this
      simp [f_inverse_perm, q_fn, b_inverse_perm, h, lim hn]
    · exact w.elim
/-! ### starts, finishes, weighted -/
theorem lc_if {g : G} {t : M Bool} {a : M RV} {er : List Nat} {env : J.Env} {Pr : Int → Bool} {f : Int → D} : ∀ {l : List Int}, (∀ x ∈ l, turnL g t a er (.int x) env = some (if Pr x = true then some (f x) else none, env)) → runLc g t a er (li l) env = some ((l.filter Pr).map f, env)
  | [], _ => rfl
  | x :: l, h => by
    have hx := h x (List.mem_cons_self ..)
    have ih := lc_if (l := l) fun y hy => h y (List.mem_cons_of_mem _ hy)
    rw [li_cons, lc_turn, hx, List.filter_cons]
    by_cases c : Pr x = true
    · rw [if_pos c, if_pos c]
      simp only
      rw [ih]
      rfl
    · rw [if_neg c, if_neg c]
      simp only
      rw [ih]
def lab (m : Nat) : List Int := (List.range m).map fun k => ((k : Nat) : Int) + 1
theorem lab_len (m : Nat) : (lab m).length = m := by unfold lab; rw [List.length_map, List.length_range]
theorem lab_mem {m : Nat} {x : Int} : x ∈ lab m ↔ 1 ≤ x ∧ x ≤ m := by
  unfold lab
  rw [List.mem_map]
  constructor
  · rintro ⟨k, hk, rfl⟩
    have := List.mem_range.mp hk
    omega
  · intro h
    exact ⟨(x - 1).toNat, List.mem_range.mpr (by omega), by omega⟩
theorem lab_li (m : Nat) : rngD 1 m = li (lab m) := by
  unfold rngD li lab
  rw [List.map_map]
  apply List.map_congr_left
  intro k _
  simp
  omega
/-- the starts of a permutation, as the program tells them -/
def sts (p : P n) : List Int := (lab (n - 1)).filter fun i => decide (gt (toL p) (i - 1) > gt (toL p) i)
theorem sts_mem {p : P n} {x : Int} : x ∈ sts p ↔ 1 ≤ x ∧ St p (x - 1).toNat := by
  unfold sts
  rw [List.mem_filter, lab_mem, decide_eq_true_eq]
  constructor
  · rintro ⟨⟨h0, h1⟩, h2⟩
    rw [toL_gt p (by omega) (by omega), toL_gt p (by omega) (by omega)] at h2
    refine ⟨h0, ?_⟩
    show p.f ((x - 1).toNat + 1) < p.f (x - 1).toNat
    rw [show (x - 1).toNat + 1 = x.toNat by omega]
    omega
  · rintro ⟨h0, h⟩
    have l := h.lt
    have h' : p.f ((x - 1).toNat + 1) < p.f (x - 1).toNat := h
    rw [show (x - 1).toNat + 1 = x.toNat by omega] at h'
    refine ⟨⟨h0, by omega⟩, ?_⟩
    rw [toL_gt p (by omega) (by omega), toL_gt p (by omega) (by omega)]
    omega
theorem starts_ok (hn : n < 1000) (p : P n) : f_starts [pd p] = some (.ow (li (sts p)), []) := by
  have e : rngD 1 (n - 1) = li (lab (n - 1)) := lab_li _
  have hl := toL_len p
  have hc := lc_if (g := gNm 1) (t := t_starts_1) (a := l_starts_1) (er := [1]) (env := [.fz (pd p), .no]) (Pr := fun i => decide (gt (toL p) (i - 1) > gt (toL p) i)) (f := .int) (l := lab (n - 1)) fun x hx => by
    have := lab_mem.mp hx
    by_cases c : gt (toL p) x < gt (toL p) (x - 1)
    · simp (disch := (try simp only [toL_len]); omega) [turnL, t_starts_1, l_starts_1, c]
    · simp (disch := (try simp only [toL_len]); omega) [turnL, t_starts_1, l_starts_1, c]
  rw [← e] at hc
  have hd : (sts p).map PyData.int = li (sts p) := rfl
  unfold sts at hd ⊢
  rw [hd] at hc
  generalize (lab (n - 1)).filter _ = z at *
  have hl3 : n ≤ limit + 1 := by unfold limit; omega
  simp (disch := omega) [f_starts, q_fn, b_starts, hc, hl3]
theorem finishes_ok (hn : n < 1000) (p : P n) : f_finishes [pd p] = some (.ow (li (sts (inv p))), []) := by
  have e := inverse_ok hn p _ (.inr rfl)
  have s := starts_ok hn (inv p)
  simp [f_finishes, q_fn, b_finishes, e, s]
end K12
namespace K12
open PySem J
open GA (P one inv St Fi Add Wt dl C)
variable {n : Nat}
theorem asB (l : List Int) (f : Int → Bool) : asBools (l.map fun x => PyData.bool (f x)) = some (l.map f) := by
  induction l with
  | nil => rfl
  | cons x l ih => simp [asBools, ih]
def wtb (a b : P n) : Bool := (sts b).all fun x => decide (x ∈ sts (inv a))
theorem wtb_iff {a b : P n} : wtb a b = true ↔ Wt a b := by
  unfold wtb
  rw [List.all_eq_true]
  constructor
  · intro h i hi
    have := h ((i : Int) + 1) (sts_mem.mpr ⟨by omega, by rw [show ((i : Int) + 1 - 1).toNat = i by omega]; exact hi⟩)
    rw [decide_eq_true_eq, sts_mem, show ((i : Int) + 1 - 1).toNat = i by omega] at this
    exact this.2
  · intro h x hx
    obtain ⟨h0, h1⟩ := sts_mem.mp hx
    exact decide_eq_true (sts_mem.mpr ⟨h0, h _ h1⟩)
theorem sts_len (p : P n) : (sts p).length ≤ n := by
  unfold sts
  have := List.length_filter_le (fun i => decide (gt (toL p) (i - 1) > gt (toL p) i)) (lab (n - 1))
  rw [lab_len] at this
  omega
theorem weighted_ok (hn : n < 1000) (a b : P n) : f_weighted [pd a, pd b] = some (.fz (.bool (wtb a b)), []) := by
  have e1 := finishes_ok hn a
  have e2 := starts_ok hn b
  have l1 := sts_len b
  have hc := lc_li (g := gNm 3) (t := tYes) (a := l_weighted_1) (er := [3]) (env := [.fz (pd a), .fz (pd b), .fz (.list (li (sts (inv a)))), .no]) (f := fun x => .bool (decide (x ∈ sts (inv a)))) (l := sts b) fun x hx => by
    simp (disch := first | rfl | omega) [turnL, l_weighted_1]
  have ab := asB (sts b) fun x => decide (x ∈ sts (inv a))
  have hl : (sts b).length ≤ limit := by unfold limit; omega
  unfold wtb
  rw [show ((sts b).all fun x => decide (x ∈ sts (inv a))) = ((sts b).map fun x => decide (x ∈ sts (inv a))).all id by rw [List.all_map]; rfl]
  simp (disch := omega) [f_weighted, q_fn, b_weighted, e1, e2, hc, ab, hl]
theorem triv_ok (hn : n < 1000) (p : P n) : f_is_trivial_perm [pd p] = some (.fz (.bool (decide (toL p = toL (one : P n)))), []) := by
  have e := identity_ok (n := n) hn
  simp (disch := omega) [f_is_trivial_perm, q_fn, b_is_trivial_perm, e]
theorem turn_ok (hn : n < 1000) (h2 : 1 < n) (p : P n) : f_is_half_turn [pd p] = some (.fz (.bool (decide (toL p = toL (dl : P n)))), []) := by
  have e := half_ok (n := n) hn
  have h3 : (1 : Int) < n := by omega
  simp (disch := omega) [f_is_half_turn, q_fn, b_is_half_turn, e, h3]
theorem rest_ok (hn : n < 1000) (p q : P n) : f__rest_behind [pd p, pd q] = some (.fz (pd (inv p * q)), []) := by
  have e := inverse_ok hn p _ (.inr rfl)
  have e2 := compose_ok hn (inv p) q
  simp (disch := omega) [f__rest_behind, q_fn, b__rest_behind, e, e2]
theorem rc_ok (hn : n < 1000) (p : P n) : f_right_complement [pd p] = some (.fz (pd (C p)), []) := by
  have e := half_ok (n := n) hn
  have e2 := rest_ok hn p dl
  have c : inv p * dl = C p := rfl
  rw [c] at e2
  simp (disch := omega) [f_right_complement, q_fn, b_right_complement, e, e2]
theorem twist_ok (hn : n < 1000) (p : P n) : f_twist [pd p] = some (.fz (pd (GA.tau p)), []) := by
  have hl := toL_len p
  have hc := lc_rng (g := gNm 2) (t := tYes) (a := l_twist_1) (er := [2]) (env := [.fz (pd p), .fz (.int n), .no]) (f := fun k => .int ((n : Int) + 1 - gt (toL p) (n - k))) n 1 fun k k0 k1 => by
    simp (disch := (try simp only [toL_len]); omega) [turnL, l_twist_1]
  have e : ((List.range n).map fun (i : Nat) => PyData.int ((n : Int) + 1 - gt (toL p) (n - (1 + (i : Int))))) = li (toL (GA.tau p)) := by
    unfold li
    rw [show toL (GA.tau p) = (List.range n).map fun k => (((GA.tau p).f k : Nat) : Int) + 1 from rfl, List.map_map]
    apply List.map_congr_left
    intro k hk
    have hk' := List.mem_range.mp hk
    rw [toL_gt p (by omega) (by omega)]
    have z : (GA.tau p).f k = GA.dlf n (p.f (GA.dlf n k)) := rfl
    have z1 : GA.dlf n k = n - 1 - k := if_pos hk'
    have z2 := p.lt (x := n - 1 - k) (by omega)
    have z3 : GA.dlf n (p.f (n - 1 - k)) = n - 1 - p.f (n - 1 - k) := if_pos z2
    show PyData.int _ = PyData.int ((((GA.tau p).f k : Nat) : Int) + 1)
    rw [z, z1, z3, show ((n : Int) - (1 + (k : Int))).toNat = n - 1 - k by omega]
    congr 1
    omega
  rw [e] at hc
  simp (disch := omega) [f_twist, q_fn, b_twist, hc, lim hn]
theorem twisted_ok (hn : n < 1000) (p : P n) (k : Nat) (hk : k < 100000) : f__twisted [pd p, .int k] = some (.fz (pd (GA.tw k p)), []) := by
  have e := twist_ok hn p
  have m : (k : Int).fmod 2 = ((k % 2 : Nat) : Int) := by rw [Int.fmod_eq_emod_of_nonneg _ (by omega)]; rfl
  unfold GA.tw
  by_cases c : k % 2 = 1
  · rw [if_pos c]
    simp (disch := omega) [f__twisted, q_fn, b__twisted, e, m, c]
  · rw [if_neg c]
    have c0 : k % 2 = 0 := by omega
    simp (disch := omega) [f__twisted, q_fn, b__twisted, m, c0]
/-- two neighbours of a list change places -/
def sw (l : List Int) (i : Int) : List Int := (l.set (i - 1).toNat (gt l i)).set i.toNat (gt l (i - 1))
theorem sw_s (p : P n) (i : Int) (h0 : 1 ≤ i) (h1 : i < n) (h : (i - 1).toNat + 1 < n) : sw (toL p) i = toL (GA.s (i - 1).toNat h * p) := by
  unfold sw
  refine toL_ext (by rw [List.length_set, List.length_set, toL_len]) fun k hk => ?_
  rw [set_gt _ (by rw [List.length_set, toL_len]; omega), set_gt _ (by rw [toL_len]; omega)]
  have z : (GA.s (i - 1).toNat h * p).f k = p.f (GA.swf (i - 1).toNat k) := rfl
  rw [z]
  by_cases c : k = i.toNat
  · rw [if_pos c, toL_gt p (by omega) (by omega), c, show i.toNat = (i - 1).toNat + 1 by omega, GA.swf2]
  · rw [if_neg c]
    by_cases d : k = (i - 1).toNat
    · rw [if_pos d, toL_gt p (by omega) (by omega), d, GA.swf1, show (i - 1).toNat + 1 = i.toNat by omega]
    · rw [if_neg d, toL_nat p hk, GA.swf3 d (by omega)]
end K12
namespace K12
open PySem J
open GA (P one inv St Fi Add Wt dl C le LM far)
variable {n : Nat}
/-! ### perm_of -/
/-- the letters of a row of places, and what they make of a list -/
inductive Ms : List Int → P n → Prop
  | nil : Ms [] one
  | snoc {w : List Int} {m : P n} {i : Int} (h : Ms w m) (h0 : 1 ≤ i) (h1 : i < n) (k : (i - 1).toNat + 1 < n) : Ms (w ++ [i]) (m * GA.s (i - 1).toNat k)
theorem perm_turn (a b : Sl) (l : List Int) (i : Int) (h0 : 1 ≤ i) (h1 : i < l.length) : turn (gNm 3) l_perm_of_1 [3, 4] (.int i) [a, b, .ow (li l), .no, .no] = some (.go [a, b, .ow (li (sw l i)), .no, .no]) := by
  have e : (i.natAbs : Int) = i := by omega
  unfold sw
  simp (disch := (try simp only [List.length_set]); omega) [turn, l_perm_of_1, e]
def mOf (w : List Int) : P n := w.foldl (fun m i => m * GA.sg n (i - 1).toNat) one
theorem mOf_snoc (w : List Int) (i : Int) (k : (i - 1).toNat + 1 < n) : (mOf (w ++ [i]) : P n) = mOf w * GA.s (i - 1).toNat k := by
  unfold mOf
  rw [List.foldl_append]
  show _ * GA.sg n (i - 1).toNat = _
  rw [GA.sg, dif_pos k]
theorem Ms.of {w : List Int} {m : P n} (h : Ms w m) : m = mOf w ∧ ∀ x ∈ w, 1 ≤ x ∧ x < n := by
  induction h with
  | nil => exact ⟨rfl, fun x z => nomatch z⟩
  | @snoc w m i h h0 h1 k ih =>
    refine ⟨by rw [mOf_snoc w i k, ih.1], fun x hx => ?_⟩
    rcases List.mem_append.mp hx with z | z
    · exact ih.2 x z
    · rw [List.mem_singleton.mp z]; exact ⟨h0, h1⟩
theorem perm_loop (a b : Sl) {w : List Int} {m : P n} (h : Ms w m) : runFor (gNm 3) l_perm_of_1 [3, 4] (li w) [a, b, .ow (li (toL (one : P n))), .no, .no] = some (.nx [a, b, .ow (li (toL (inv m))), .no, .no]) := by
  obtain ⟨rfl, hw⟩ := h.of
  obtain ⟨e, h1, h2⟩ := for_li (g := gNm 3) (body := l_perm_of_1) (er := [3, 4]) (fun pre env => env = [a, b, .ow (li (toL (inv (mOf pre : P n)))), .no, .no]) w [] [a, b, .ow (li (toL (one : P n))), .no, .no] rfl fun pre x post env hp he => by
    subst he
    rw [List.nil_append] at hp
    obtain ⟨h0, h1⟩ := hw x (by rw [hp]; simp)
    have k : (x - 1).toNat + 1 < n := by omega
    have t := perm_turn a b (toL (inv (mOf pre : P n))) x h0 (by rw [toL_len]; exact h1)
    rw [sw_s _ x h0 h1 k] at t
    exact ⟨_, t, by rw [mOf_snoc pre x k]; rfl⟩
  rw [List.nil_append] at h2
  rw [h1, h2]
theorem perm_of_ok (hn : n < 100) {w : List Int} {m : P n} (h : Ms w m) : f_perm_of [.int n, .list (li w)] = some (.fz (pd m), []) := by
  have lp := perm_loop (.fz (.int n)) (.bw (li w)) h
  have e := inverse_ok (by omega) (inv m) _ (.inl rfl)
  rw [GA.inv_inv] at e
  simp (disch := omega) [f_perm_of, q_fn, b_perm_of, rng_one, lim (show n < 1000 by omega), lp, e]
/-! ### the greatest common divisor -/
theorem le_step {m v : P n} {i : Nat} (h : i + 1 < n) (hl : le m v) (hs : St (inv m * v) i) : le (m * GA.s i h) v := by
  have := (GA.le_mul_left (GA.add_of_le hl) (GA.s_le (h := h).mpr hs)).2
  rwa [GA.canc'] at this
theorem far_le (p : P n) : far p ≤ n * (n * n) := Nat.sub_le _ _
theorem st_gt (p : P n) (i : Int) (h0 : 1 ≤ i) (h1 : i < n) : (gt (toL p) i < gt (toL p) (i - 1)) ↔ St p (i - 1).toNat := by
  rw [toL_gt p (by omega) (by omega), toL_gt p (by omega) (by omega)]
  show _ ↔ p.f ((i - 1).toNat + 1) < p.f (i - 1).toNat
  rw [show (i - 1).toNat + 1 = i.toNat by omega]
  omega
def cdE (u w m : P n) (ws : List Int) (i : Int) : J.Env := [.fz (pd u), .fz (pd w), .ow (li (toL (inv m * u))), .ow (li (toL (inv m * w))), .ow (li ws), .fz (.int i)]
theorem cd_up (u w m : P n) (ws : List Int) (i : Int) (h0 : 1 ≤ i) (h1 : i < n) (hc : ¬ (St (inv m * u) (i - 1).toNat ∧ St (inv m * w) (i - 1).toNat)) :
    turnW t__common_divisor_1 l__common_divisor_1 [] (cdE u w m ws i) = some (.go (cdE u w m ws (i + 1))) := by
  rw [← st_gt _ i h0 h1, ← st_gt _ i h0 h1] at hc
  unfold cdE
  by_cases c : gt (toL (inv m * u)) i < gt (toL (inv m * u)) (i - 1)
  · have c2 : ¬ gt (toL (inv m * w)) i < gt (toL (inv m * w)) (i - 1) := fun z => hc ⟨c, z⟩
    simp (disch := (try simp only [toL_len]); omega) [turnW, t__common_divisor_1, l__common_divisor_1, h1, c, c2]
  · simp (disch := (try simp only [toL_len]); omega) [turnW, t__common_divisor_1, l__common_divisor_1, h1, c]
theorem cd_end (u w m : P n) (ws : List Int) (i : Int) (h1 : ¬ i < n) : turnW t__common_divisor_1 l__common_divisor_1 [] (cdE u w m ws i) = some (.end (.nx (cdE u w m ws i))) := by
  unfold cdE
  simp (disch := (try simp only [toL_len]); omega) [turnW, t__common_divisor_1, l__common_divisor_1, h1]
theorem cd_dn (u w m : P n) (ws : List Int) (i : Int) (h0 : 1 ≤ i) (h1 : i < n) (hw : ws.length < 10000000) (k : (i - 1).toNat + 1 < n) (hc : St (inv m * u) (i - 1).toNat ∧ St (inv m * w) (i - 1).toNat) :
    turnW t__common_divisor_1 l__common_divisor_1 [] (cdE u w m ws i) = some (.go (cdE u w (m * GA.s (i - 1).toNat k) (ws ++ [i]) (if 1 < i then i - 1 else i))) := by
  have e : ∀ v : P n, toL (inv (m * GA.s (i - 1).toNat k) * v) = sw (toL (inv m * v)) i := fun v => (sw_s (inv m * v) i h0 h1 k).symm
  rw [← st_gt _ i h0 h1, ← st_gt _ i h0 h1] at hc
  unfold cdE
  rw [e, e]
  unfold sw
  have hl : ws.length < limit := by unfold limit; omega
  have z : li (ws ++ [i]) = li ws ++ [.int i] := by rw [← li_app]; rfl
  rw [z]
  by_cases d : 1 < i
  · rw [if_pos d]
    simp (disch := (try simp only [List.length_set, toL_len]); omega) [turnW, t__common_divisor_1, l__common_divisor_1, h1, hc.1, hc.2, d, hl]
  · rw [if_neg d]
    simp (disch := (try simp only [List.length_set, toL_len]); omega) [turnW, t__common_divisor_1, l__common_divisor_1, h1, hc.1, hc.2, d, hl]
theorem cd_loop (u w : P n) (hn : n < 100) : ∀ (N fuel : Nat) (m : P n) (ws : List Int) (i : Int), 2 * far (inv m * u) + (n - i.toNat) ≤ N → N < fuel → Ms ws m → le m u → le m w → 1 ≤ i → i ≤ n →
    ws.length + far (inv m * u) ≤ 1000000 → (∀ j, j + 1 < i.toNat → ¬ (St (inv m * u) j ∧ St (inv m * w) j)) →
    ∃ m' ws' i', runWhile t__common_divisor_1 l__common_divisor_1 [] fuel (cdE u w m ws i) = some (.nx (cdE u w m' ws' i')) ∧ Ms ws' m' ∧ LM m' u w
  | N, 0, m, ws, i, hN, hf, _, _, _, _, _, _, _ => by omega
  | N, fuel + 1, m, ws, i, hN, hf, hm, hu, hw, h0, h1, hb, hno => by
    by_cases c : i < n
    · have k : (i - 1).toNat + 1 < n := by omega
      by_cases d : St (inv m * u) (i - 1).toNat ∧ St (inv m * w) (i - 1).toNat
      · have fl := GA.far_lt d.1
        have fe : far (inv (m * GA.s (i - 1).toNat k) * u) < far (inv m * u) := fl
        have same : ∀ (v : P n) (j : Nat), j + 1 < (i - 1).toNat → (St (inv (m * GA.s (i - 1).toNat k) * v) j ↔ St (inv m * v) j) := fun v j hj => by
          show (inv m * v).f (GA.swf (i - 1).toNat (j + 1)) < (inv m * v).f (GA.swf (i - 1).toNat j) ↔ _
          rw [GA.swf3 (by omega) (by omega), GA.swf3 (by omega) (by omega)]
          exact Iff.rfl
        rw [while_go (cd_dn u w m ws i h0 c (by omega) k d)]
        refine cd_loop u w hn (N - 1) fuel _ _ _ ?_ (by omega) (hm.snoc h0 c k) (le_step k hu d.1) (le_step k hw d.2) (by split <;> omega) (by split <;> omega) (by rw [List.length_append, List.length_singleton]; omega) fun j hj => ?_
        · split <;> omega
        · rw [same u j (by split at hj <;> omega), same w j (by split at hj <;> omega)]
          exact hno j (by split at hj <;> omega)
      · rw [while_go (cd_up u w m ws i h0 c d)]
        refine cd_loop u w hn (N - 1) fuel m ws (i + 1) (by omega) (by omega) hm hu hw (by omega) (by omega) hb fun j hj => ?_
        by_cases z : j = (i - 1).toNat
        · subst z; exact d
        · exact hno j (by omega)
    · refine ⟨m, ws, i, while_end (cd_end u w m ws i c), hm, hu, hw, fun j hj => ?_⟩
      have := hj.1.lt
      exact hno j (by omega) hj
theorem cd_ok (hn : n < 100) (h1 : 1 ≤ n) (u w : P n) : f__common_divisor [pd u, pd w] = some (.fz (pd (GA.meet u w)), []) := by
  have fl := far_le u
  have nn : n * (n * n) ≤ 100 * (100 * 100) := Nat.mul_le_mul (by omega) (Nat.mul_le_mul (by omega) (by omega))
  obtain ⟨m, ws, i, e, hm, hL⟩ := cd_loop u w hn (2 * far (inv one * u) + (n - (1 : Int).toNat)) w__common_divisor_1 one [] 1 (Nat.le_refl _) (by
      have : far (inv one * u) = far u := rfl
      unfold w__common_divisor_1; omega) .nil (fun i j h => absurd h.2 (by simp; have := h.1; omega)) (fun i j h => absurd h.2 (by simp; have := h.1; omega)) (by omega) (by omega) (by
      have : far (inv one * u) = far u := rfl
      rw [List.length_nil]; omega) (fun j hj => by omega)
  have p := perm_of_ok hn hm
  rw [GA.meet_is hL]
  have a1 : toL (inv one * u) = toL u := rfl
  have a2 : toL (inv one * w) = toL w := rfl
  unfold cdE at e
  rw [a1, a2, li_nil] at e
  have hl := lim (show n < 1000 by omega)
  simp (disch := omega) [f__common_divisor, q_fn, b__common_divisor, e, p, hl]
theorem meet_ok (hn : n < 100) (h1 : 1 ≤ n) (u w : P n) : f_meet_of [.tuple [pd u, pd w]] = some (.fz (pd (GA.meet u w)), []) := by
  have e := cd_ok hn h1 u w
  have t : ∀ a, turn (gNm 2) l_meet_of_1 [2] (pd w) [a, .fz (pd u), .no] = some (.go [a, .fz (pd (GA.meet u w)), .no]) := fun a => by
    simp [turn, l_meet_of_1, e]
  have c : cutD [pd u, pd w] (some 1) none = [pd w] := rfl
  have lp : ∀ a, runFor (gNm 2) l_meet_of_1 [2] [pd w] [a, .fz (pd u), .no] = some (.nx [a, .fz (pd (GA.meet u w)), .no]) := fun a => by rw [for_go (t a)]; rfl
  have d : ¬ (sIx 2 0 (some 1) = 0 ∧ sIx 2 2 none = 2) := by decide
  simp (disch := omega) [f_meet_of, q_fn, b_meet_of, c, lp, d]
theorem slide_ok (hn : n < 100) (h1 : 1 ≤ n) (a b : P n) : f_slide_pair [pd a, pd b] = some (.fz (.tuple [pd (GA.hd a b), pd (GA.rs a b)]), []) := by
  have hn' : n < 1000 := by omega
  have e := weighted_ok hn' a b
  by_cases c : wtb a b = true
  · have w := wtb_iff.mp c
    rw [GA.hd_w1 w, GA.hd_w2 w]
    rw [c] at e
    simp (disch := omega) [f_slide_pair, q_fn, b_slide_pair, e]
  · have c' : wtb a b = false := by simpa using c
    rw [c'] at e
    have e1 := rc_ok hn' a
    have e2 := meet_ok hn h1 b (C a)
    have e3 := compose_ok hn' a (GA.meet b (C a))
    have e4 := rest_ok hn' (GA.meet b (C a)) b
    have z1 : a * GA.meet b (C a) = GA.hd a b := rfl
    have z2 : inv (GA.meet b (C a)) * b = GA.rs a b := rfl
    rw [z1] at e3
    rw [z2] at e4
    simp (disch := omega) [f_slide_pair, q_fn, b_slide_pair, e, e1, e2, e3, e4]
end K12
namespace K12
open PySem J
open GA (P one inv St Fi Add Wt dl C)
/-! ### draws -/
/-- a box, taken from at most m times -/
def Box (m : Int) (bs : List D) : Prop := ∃ a b c g : Int, bs = [.int a, .int b, .int c, .int g] ∧ 0 ≤ b ∧ b < 1000000007 ∧ 0 ≤ c ∧ c ≤ m
theorem Box.up {m k : Int} {bs : List D} (h : Box m bs) (e : m ≤ k) : Box k bs := by
  obtain ⟨a, b, c, g, rfl, h1, h2, h3, h4⟩ := h
  exact ⟨a, b, c, g, rfl, h1, h2, h3, by omega⟩
theorem fmod_nn (a : Int) {m : Int} (h : 0 < m) : 0 ≤ a.fmod m := Int.fmod_nonneg_of_pos a h
theorem fmod_lt (a : Int) {m : Int} (h : 0 < m) : a.fmod m < m := Int.fmod_lt_of_pos a h
theorem fdiv_bd {x : Int} (h0 : 0 ≤ x) (m : Int) (h1 : 0 < m) : 0 ≤ x.fdiv m ∧ x.fdiv m ≤ x := by
  rw [Int.fdiv_eq_ediv_of_nonneg _ (by omega)]
  exact ⟨Int.ediv_nonneg h0 (by omega), Int.ediv_le_self _ h0⟩
theorem cell_ok (ns : List Int) (k : Int) (h0 : 0 ≤ k) (h1 : k < 1000) : ∃ v, f__law_cell [.list (li ns), .int k] = some (.fz (.int v), []) := by
  by_cases c : k < ns.length
  · simp (disch := omega) [f__law_cell, q_fn, b__law_cell, c]
  · have b0 := fmod_nn (cutD ns none (some 1)).sum (m := 1000003) (by decide)
    have b1 := fmod_lt (cutD ns none (some 1)).sum (m := 1000003) (by decide)
    simp (disch := omega) [f__law_cell, q_fn, b__law_cell, c]
theorem box_ok (ns : List Int) (k : Int) (h0 : 0 ≤ k) (h1 : k < 1000) : ∃ bs, f__law_box [.list (li ns), .int k] = some (.ow bs, []) ∧ Box 0 bs := by
  obtain ⟨v, e⟩ := cell_ok ns k h0 h1
  by_cases c : 1000000000000000000 ≤ (v.natAbs : Int)
  · simp (disch := omega) [f__law_box, q_fn, b__law_box, e, c]
    exact ⟨_, _, _, _, rfl, fmod_nn _ (by decide), fmod_lt _ (by decide), by omega, by omega⟩
  · simp (disch := omega) [f__law_box, q_fn, b__law_box, e, c]
    exact ⟨_, _, _, _, rfl, fmod_nn _ (by decide), fmod_lt _ (by decide), by omega, by omega⟩
theorem ix3 (x y z w : D) : ixD (.list [x, y, z, w]) (.int 3) = some (.fz w) := rfl
theorem take_ok {m : Int} (bs : List D) (k : Int) (hb : Box m bs) (hm : m < 1000000) (h0 : 0 < k) (h1 : k < 1073741824) : ∃ v bs', f__law_take [.list bs, .int k] = some (.fz (.int v), [bs']) ∧ Box (m + 1) bs' ∧ 0 ≤ v ∧ v < k := by
  obtain ⟨a, b, c, g, rfl, hb0, hb1, hc0, hc1⟩ := hb
  have e1 : (k ≠ 0) := by omega
  have u0 := fmod_nn (b * 48271 + (c + 1) * 69621 + 12345) (m := 2147483647) (by decide)
  have u1 := fmod_lt (b * 48271 + (c + 1) * 69621 + 12345) (m := 2147483647) (by decide)
  have f0 := fdiv_bd u0 65536 (by decide)
  generalize hN : (b * 48271 + (c + 1) * 69621 + 12345).fmod 2147483647 = N at u0 u1 f0
  have w0 := fmod_nn (N * 16807 + N.fdiv 65536 * (c + 1)) (m := 2147483629) (by decide)
  have w1 := fmod_lt (N * 16807 + N.fdiv 65536 * (c + 1)) (m := 2147483629) (by decide)
  have x : ∀ a g : Int, ¬ (g = 1 ∧ 0 < a) → ∃ v bs', f__law_take [.list [.int a, .int b, .int c, .int g], .int k] = some (.fz (.int v), [bs']) ∧ Box (m + 1) bs' ∧ 0 ≤ v ∧ v < k := fun a g hh => by
    by_cases hg : g = 1
    · have ha : ¬ 0 < a := fun z => hh ⟨hg, z⟩
      simp (disch := omega) [f__law_take, q_fn, b__law_take, ixN, ix3, ha, hg, hN]
      exact ⟨_, _, ⟨rfl, rfl⟩, ⟨_, _, _, _, rfl, hb0, hb1, by omega, by omega⟩, fmod_nn _ h0, fmod_lt _ h0⟩
    · simp (disch := omega) [f__law_take, q_fn, b__law_take, ixN, ix3, hg, hN]
      exact ⟨_, _, ⟨rfl, rfl⟩, ⟨_, _, _, _, rfl, hb0, hb1, by omega, by omega⟩, fmod_nn _ h0, fmod_lt _ h0⟩
  by_cases hg : g = 1 ∧ 0 < a
  · obtain ⟨rfl, ha⟩ := hg
    simp (disch := omega) [f__law_take, q_fn, b__law_take, ixN, ix3, ha]
    exact ⟨_, _, ⟨rfl, rfl⟩, ⟨_, _, _, _, rfl, hb0, hb1, by omega, by omega⟩, fmod_nn _ h0, fmod_lt _ h0⟩
  · exact x a g hg
theorem strands_ok {m : Int} (bs : List D) (hb : Box m bs) (hm : m < 1000000) : ∃ (n : Nat) (bs' : List D), f__law_strands [.list bs] = some (.fz (.int n), [bs']) ∧ Box (m + 1) bs' ∧ 1 ≤ n ∧ n ≤ 8 := by
  obtain ⟨v, bs', e, hb', v0, v1⟩ := take_ok bs 17 hb hm (by decide) (by decide)
  have e2 := ixL (l := [3, 4, 3, 2, 4, 3, 5, 3, 4, 1, 4, 3, 5, 6, 3, 8, 7]) v0 (by simpa using v1)
  have hm := mem_gt.mpr ⟨v, v0, (by simpa using v1 : v < (([3, 4, 3, 2, 4, 3, 5, 3, 4, 1, 4, 3, 5, 6, 3, 8, 7] : List Int).length : Int)), rfl⟩
  have hb : ∀ x ∈ ([3, 4, 3, 2, 4, 3, 5, 3, 4, 1, 4, 3, 5, 6, 3, 8, 7] : List Int), 1 ≤ x ∧ x ≤ 8 := by decide
  have hx := hb _ hm
  generalize gt [3, 4, 3, 2, 4, 3, 5, 3, 4, 1, 4, 3, 5, 6, 3, 8, 7] v = x at *
  have el : li [3, 4, 3, 2, 4, 3, 5, 3, 4, 1, 4, 3, 5, 6, 3, 8, 7] = [.int 3, .int 4, .int 3, .int 2, .int 4, .int 3, .int 5, .int 3, .int 4, .int 1, .int 4, .int 3, .int 5, .int 6, .int 3, .int 8, .int 7] := rfl
  rw [el] at e2
  refine ⟨x.toNat, bs', ?_, hb', by omega, by omega⟩
  rw [show ((x.toNat : Nat) : Int) = x by omega]
  simp (disch := omega) [f__law_strands, q_fn, b__law_strands, e, e2]
end K12
namespace K12
open PySem J
open GA (P one inv St Fi Add Wt dl C W Wm cn blk rpt flat fl)
variable {n : Nat}
def lab0 (m : Nat) : List Int := (List.range m).map fun k => ((k : Nat) : Int)
theorem lab0_li (m : Nat) : rngD 0 m = li (lab0 m) := by
  unfold rngD li lab0
  rw [List.map_map]
  apply List.map_congr_left
  intro k _
  simp
theorem lab0_len (m : Nat) : (lab0 m).length = m := by unfold lab0; rw [List.length_map, List.length_range]
theorem lab0_mem {m : Nat} {x : Int} : x ∈ lab0 m ↔ 0 ≤ x ∧ x < m := by
  unfold lab0
  rw [List.mem_map]
  constructor
  · rintro ⟨k, hk, rfl⟩
    have := List.mem_range.mp hk
    omega
  · intro h
    exact ⟨x.toNat, List.mem_range.mpr (by omega), by omega⟩
theorem cn_filter (p : P n) (m : Nat) (hm : m < n) : ((lab0 m).filter fun x => decide (gt (toL p) m < gt (toL p) x)).length = cn p.f m := by
  unfold lab0 cn
  rw [List.filter_map, List.length_map]
  congr 1
  apply List.filter_congr
  intro k hk
  have hk' := List.mem_range.mp hk
  show decide (gt (toL p) m < gt (toL p) (k : Int)) = _
  rw [toL_nat p hm, toL_nat p (by omega)]
  simp
theorem blk_li (m c : Nat) : ((List.range c).map fun (i : Nat) => PyData.int ((m : Int) - (0 + (i : Int)))) = li (blk m c) := by
  unfold blk li
  rw [List.map_map]
  apply List.map_congr_left
  intro k _
  simp
theorem blk_rngM (m c : Nat) : rngM m c = li (blk m c) := by
  unfold blk li rngM
  rw [List.map_map]
  rfl
theorem Wm_len (f : Nat → Nat) : ∀ m, (Wm f m).length ≤ m * m
  | 0 => by simp [GA.Wm]
  | m + 1 => by
    show (Wm f m ++ blk m (cn f m)).length ≤ _
    have h1 := Wm_len f m
    have h2 := GA.cn_le f m
    have h3 : (blk m (cn f m)).length = cn f m := by unfold GA.blk; rw [List.length_map, List.length_range]
    rw [List.length_append, h3, Nat.succ_mul, Nat.mul_succ]
    omega
theorem W_len (p : P n) : (W p).length ≤ n * n := Wm_len p.f n
theorem law_stair_ok (hn : n < 100) (p : P n) (u : D) (hu : Wd (toL p) u) : f__law_staircase [u] = some (.ow (li (W p)), []) := by
  have main : ∀ a : Sl, (a = .bw (li (toL p)) ∨ a = .fz (pd p)) → ∃ e, runFor (gNm 2) l__law_staircase_1 [2, 3, 4] (rngD 1 (n - 1)) [a, .ow (li []), .no, .no, .no] = some (.nx e) ∧ e = [a, .ow (li (W p)), .no, .no, .no] := fun a ha => by
    obtain ⟨e, h1, h2, h3⟩ := for_rng (g := gNm 2) (body := l__law_staircase_1) (er := [2, 3, 4]) (fun (k : Int) env => 1 ≤ k ∧ env = [a, .ow (li (Wm p.f k.toNat)), .no, .no, .no]) (n - 1) 1 [a, .ow (li []), .no, .no, .no] ⟨by omega, by
        show _ = [a, .ow (li (Wm p.f 0 ++ blk 0 (cn p.f 0))), .no, .no, .no]
        rfl⟩ fun k env k0 k1 ⟨_, he⟩ => by
      subst he
      have hkn : k.toNat < n := by omega
      have wl := Wm_len p.f k.toNat
      have nn : k.toNat * k.toNat ≤ 100 * 100 := Nat.mul_le_mul (by omega) (by omega)
      have cl := GA.cn_le p.f k.toNat
      have cf := cn_filter p k.toNat hkn
      rw [show ((k.toNat : Nat) : Int) = k by omega] at cf
      have h2 := lc_rng (g := gNm 4) (t := tYes) (a := l__law_staircase_3) (er := [4]) (env := [a, .ow (li (Wm p.f k.toNat)), .fz (.int k), .fz (.int (cn p.f k.toNat)), .no]) (f := fun x => .int (k - x)) (cn p.f k.toNat) 0 fun x _ _ => by
        simp (disch := omega) [turnL, l__law_staircase_3]
      have bl := blk_li k.toNat (cn p.f k.toNat)
      rw [show ((k.toNat : Nat) : Int) = k by omega] at bl
      rw [bl] at h2
      have blen : (blk k.toNat (cn p.f k.toNat)).length = cn p.f k.toNat := by unfold GA.blk; rw [List.length_map, List.length_range]
      refine ⟨[a, .ow (li (Wm p.f (k + 1).toNat)), .no, .no, .no], ?_, by omega, rfl⟩
      have ew : Wm p.f (k + 1).toNat = Wm p.f k.toNat ++ blk k.toNat (cn p.f k.toNat) := by rw [show (k + 1).toNat = k.toNat + 1 by omega]; rfl
      rw [ew]
      have lm : k.toNat ≤ limit := by unfold limit; omega
      have lc : cn p.f k.toNat ≤ limit := by unfold limit; omega
      rcases ha with rfl | rfl
      · have h1 := lc_if (g := gNm 4) (t := t__law_staircase_2) (a := l__law_staircase_2) (er := [4]) (env := [.bw (li (toL p)), .ow (li (Wm p.f k.toNat)), .fz (.int k), .no, .no]) (Pr := fun x => decide (gt (toL p) k < gt (toL p) x)) (f := .int) (l := lab0 k.toNat) fun x hx => by
          have := lab0_mem.mp hx
          by_cases c : gt (toL p) k < gt (toL p) x
          · simp (disch := (try simp only [toL_len]); omega) [turnL, t__law_staircase_2, l__law_staircase_2, c]
          · simp (disch := (try simp only [toL_len]); omega) [turnL, t__law_staircase_2, l__law_staircase_2, c]
        rw [← lab0_li] at h1
        generalize (lab0 k.toNat).filter _ = fz at *
        have fe : (fz.map PyData.int) = li fz := rfl
        rw [fe] at h1
        simp (disch := omega) [turn, l__law_staircase_1, h1, h2, cf, lm, lc]
      · have h1 := lc_if (g := gNm 4) (t := t__law_staircase_2) (a := l__law_staircase_2) (er := [4]) (env := [.fz (pd p), .ow (li (Wm p.f k.toNat)), .fz (.int k), .no, .no]) (Pr := fun x => decide (gt (toL p) k < gt (toL p) x)) (f := .int) (l := lab0 k.toNat) fun x hx => by
          have := lab0_mem.mp hx
          by_cases c : gt (toL p) k < gt (toL p) x
          · simp (disch := (try simp only [toL_len]); omega) [turnL, t__law_staircase_2, l__law_staircase_2, c]
          · simp (disch := (try simp only [toL_len]); omega) [turnL, t__law_staircase_2, l__law_staircase_2, c]
        rw [← lab0_li] at h1
        generalize (lab0 k.toNat).filter _ = fz at *
        have fe : (fz.map PyData.int) = li fz := rfl
        rw [fe] at h1
        simp (disch := omega) [turn, l__law_staircase_1, h1, h2, cf, lm, lc]
    refine ⟨e, h1, ?_⟩
    rw [h3]
    by_cases z : n = 0
    · subst z; rfl
    · rw [show (1 + ((n - 1 : Nat) : Int)).toNat = n by omega]; rfl
  have e0 : (n - 1 : Nat) = n - 1 := rfl
  have l1 : n ≤ limit + 1 := by unfold limit; omega
  rcases hu with rfl | rfl
  · obtain ⟨e, h, rfl⟩ := main _ (.inl rfl)
    rw [li_nil] at h
    simp (disch := omega) [f__law_staircase, q_fn, b__law_staircase, h, l1]
  · obtain ⟨e, h, rfl⟩ := main _ (.inr rfl)
    rw [li_nil] at h
    simp (disch := omega) [f__law_staircase, q_fn, b__law_staircase, h, l1]
end K12
namespace K12
open PySem J
open GA (P one inv St Fi Add Wt dl C WtL NoE lamF Pu)
variable {n : Nat}
abbrev pds (R : List (P n)) : List D := R.map pd
theorem ixAt {ds : List D} {d : D} {j : Nat} {i : Int} (h : ds[j]? = some d) (hi : i = j) : ixD (.list ds) (.int i) = some (.fz d) := by
  have hl := (List.getElem?_eq_some_iff.mp h).1
  subst hi
  rw [ixD_1, ixN_nn (by omega) (by omega)]
  simp only [Int.toNat_natCast]
  rw [h]
theorem ix_last (ds : List D) (d : D) : ixD (.list (ds ++ [d])) (.int (-1)) = some (.fz d) := by
  have e : ixN (ds ++ [d]).length (-1) = some ds.length := by
    unfold ixN
    rw [if_neg (by omega), if_pos (by rw [List.length_append, List.length_singleton]; omega), List.length_append, List.length_singleton]
    congr 1
    omega
  rw [ixD_1, e]
  simp
abbrev form (pw : Int) (R : List (P n)) : D := .tuple [.int pw, .tuple (pds R)]
end K12
namespace K12
open PySem J
open GA (P one inv St Fi Add Wt dl C W Wm cn blk rpt flat fl iw Dw Dv)
variable {n : Nat}
theorem rpt_rep (k : Nat) (w : List Int) : (List.replicate k w).flatten = rpt k w := by
  induction k with
  | zero => rfl
  | succ k ih => rw [List.replicate_succ, List.flatten_cons, ih]; rfl
theorem rpt_len (k : Nat) (w : List Int) : (rpt k w).length = k * w.length := by rw [← rpt_rep]; exact rep_len w k
theorem iw_len (w : List Int) : (iw w).length = w.length := by simp [GA.iw]
/-- a power of the half turn -/
def hp (n : Nat) (pw : Int) : List Int := if 0 ≤ pw then rpt pw.toNat (Dw n) else rpt (-pw).toNat (Dv n)
end K12
namespace K12
open PySem J
open GA (P one inv St Fi Add Wt dl C W Wm cn blk rpt flat fl iw Dw Dv)
variable {n : Nat}
theorem flat_len (R : List (P n)) : (flat R).length ≤ R.length * (n * n) := by
  induction R with
  | nil => simp [GA.flat]
  | cons p R ih =>
    rw [GA.flat_cons, List.length_append, List.length_cons, Nat.succ_mul]
    have := W_len p
    omega
theorem lfl_loop (hn : n < 100) (a b c d e : Sl) : ∀ (R : List (P n)) (w : List Int), w.length + R.length * (n * n) < 16000000 → runFor (gNm 4) l__law_form_letters_3 [4] (pds R) [a, b, c, .ow (li w), .no, d, e] = some (.nx [a, b, c, .ow (li (w ++ flat R)), .no, d, e])
  | [], w, _ => by
    have : flat ([] : List (P n)) = [] := rfl
    rw [this, List.append_nil]; rfl
  | p :: R, w, h => by
    rw [List.length_cons, Nat.succ_mul] at h
    have wl := W_len p
    have s := law_stair_ok hn p _ (.inr rfl)
    have t : turn (gNm 4) l__law_form_letters_3 [4] (pd p) [a, b, c, .ow (li w), .no, d, e] = some (.go [a, b, c, .ow (li (w ++ W p)), .no, d, e]) := by
      simp (disch := omega) [turn, l__law_form_letters_3, s]
    show runFor (gNm 4) l__law_form_letters_3 [4] (pd p :: pds R) _ = _
    rw [for_go t, lfl_loop hn a b c d e R (w ++ W p) (by rw [List.length_append]; omega), GA.flat_cons, List.append_assoc]
theorem form_letters_ok (hn : n < 100) (pw : Int) (hp : pw.natAbs < 1000) (R : List (P n)) (hR : R.length < 100) : f__law_form_letters [.int n, form pw R] = some (.ow (li (fl pw R)), []) := by
  show f__law_form_letters [.int n, .tuple [.int pw, .tuple (pds R)]] = _
  have nn : n * n ≤ 100 * 100 := Nat.mul_le_mul (by omega) (by omega)
  have hc := lc_rng (g := gNm 5) (t := tYes) (a := l__law_form_letters_1) (er := [5]) (env := [.fz (.int n), .fz (PyData.tuple [.int pw, .tuple (pds R)]), .no, .no, .no, .no, .no]) (f := fun k => .int ((n : Int) - k)) n 0 fun k _ _ => by
    generalize pds R = ds
    simp (disch := omega) [turnL, l__law_form_letters_1]
  have e1 : ((List.range n).map fun (i : Nat) => PyData.int ((n : Int) - (0 + (i : Int)))) = li (toL (dl : P n)) := by
    rw [← rngM_dl]
    unfold rngM
    apply List.map_congr_left
    intro k _
    simp
  rw [e1] at hc
  have s := law_stair_ok hn (dl : P n) _ (.inl rfl)
  have dlen : (Dw n).length ≤ n * n := W_len (dl : P n)
  have Dl : (W (dl : P n)).length ≤ 10000 := Nat.le_trans dlen (by omega)
  have hm : ∀ k : Nat, k < 1000 → (W (dl : P n)).length * k ≤ 16000000 := fun k hk => Nat.le_trans (Nat.mul_le_mul Dl (Nat.le_of_lt hk)) (by decide)
  have lm := lim (show n < 1000 by omega)
  have rl : R.length * (n * n) ≤ 100 * 10000 := Nat.mul_le_mul (by omega) (by omega)
  have ixf0 : ixD (PyData.tuple [.int pw, .tuple (pds R)]) (.int 0) = some (.fz (.int pw)) := rfl
  have ixf1 : ixD (PyData.tuple [.int pw, .tuple (pds R)]) (.int 1) = some (.fz (.tuple (pds R))) := rfl
  unfold GA.fl
  by_cases c : 0 ≤ pw
  · rw [if_pos c]
    have mx : max 0 pw = pw := by omega
    have b := hm pw.toNat (by omega)
    have rb := rpt_len pw.toNat (W (dl : P n))
    have lp := lfl_loop hn (.fz (.int n)) (.fz (PyData.tuple [.int pw, .tuple (pds R)])) (.fz (.list (li (W (dl : P n))))) .no .no R (rpt pw.toNat (W (dl : P n))) (by rw [rb, Nat.mul_comm]; have := hm pw.toNat (by omega); have h2 : (W (dl : P n)).length * pw.toNat ≤ 10000 * 1000 := Nat.mul_le_mul Dl (by omega); omega)
    have c' : ¬ pw < 0 := by omega
    generalize pds R = ds at *
    have e2 := rpt_rep pw.toNat (W (dl : P n))
    simp (disch := first | exact Nat.le_trans b (by decide) | omega) [f__law_form_letters, q_fn, b__law_form_letters, hc, lm, s, ixf0, ixf1, mx, c', e2, lp]
  · rw [if_neg c]
    have mx : max 0 pw = 0 := by omega
    have c' : pw < 0 := by omega
    have b := hm (-pw).toNat (by omega)
    have il := iw_len (W (dl : P n))
    have rb := rpt_len (-pw).toNat (iw (W (dl : P n)))
    have lp := lfl_loop hn (.fz (.int n)) (.fz (PyData.tuple [.int pw, .tuple (pds R)])) (.fz (.list (li (W (dl : P n))))) .no .no R (rpt (-pw).toNat (iw (W (dl : P n)))) (by rw [rb, il, Nat.mul_comm]; have h2 : (W (dl : P n)).length * (-pw).toNat ≤ 10000 * 1000 := Nat.mul_le_mul Dl (by omega); omega)
    have h3 := lc_li (g := gNm 6) (t := tYes) (a := l__law_form_letters_2) (er := [6]) (env := [.fz (.int n), .fz (PyData.tuple [.int pw, .tuple (pds R)]), .fz (.list (li (W (dl : P n)))), .ow (li []), .no, .no, .no]) (f := fun x => .int (-x)) (l := (W (dl : P n)).reverse) fun x _ => by
      generalize pds R = ds
      simp (disch := omega) [turnL, l__law_form_letters_2]
    have e3 : ((W (dl : P n)).reverse.map fun x => PyData.int (-x)) = li (iw (W (dl : P n))) := li_map
    rw [e3, li_nil] at h3
    have b2 : (iw (W (dl : P n))).length * (-pw).toNat ≤ 16777216 := by rw [il]; omega
    have l2 : (W (dl : P n)).length ≤ limit := by unfold limit; omega
    have e2 := rpt_rep (-pw).toNat (iw (W (dl : P n)))
    have m0 : mulD (.list (li (W (dl : P n)))) (.int 0) = some (.ow []) := by
      rw [mulL (by decide) (by decide) (by simp)]
      rfl
    generalize pds R = ds at *
    simp (disch := first | exact b2 | omega) [f__law_form_letters, q_fn, b__law_form_letters, hc, lm, s, ixf0, ixf1, mx, c', h3, l2, e2, lp, m0]
open Classical in
theorem pd_inj {p q : P n} (h : pd p = pd q) : p = q := by
  injection h with h
  exact toL_inj (li_inj h)
end K12
namespace K12
open PySem J
open GA (P one inv St Fi Add Wt dl C)
variable {n : Nat}
theorem lab_succ (m : Nat) : lab (m + 1) = lab m ++ [((m : Nat) : Int) + 1] := by
  unfold lab
  rw [List.range_succ, List.map_append]
  rfl
theorem lab_nodup : ∀ m, (lab m).Nodup
  | 0 => by simp [lab]
  | m + 1 => by
    rw [lab_succ, List.nodup_append]
    refine ⟨lab_nodup m, by simp, fun a ha b hb => ?_⟩
    have := lab_mem.mp ha
    rw [List.mem_singleton.mp hb]
    omega
/-- a list with all of 1 .. n is a row of them -/
theorem perm_all : ∀ (m : Nat) (l : List Int), l.length = m → (∀ x : Int, 1 ≤ x → x ≤ m → x ∈ l) → l.Perm (lab m)
  | 0, l, h, _ => by rw [List.length_eq_zero_iff.mp h]; exact .refl _
  | m + 1, l, h, hx => by
    have hm := hx ((m : Int) + 1) (by omega) (by omega)
    have p := List.perm_cons_erase hm
    have ih := perm_all m (l.erase ((m : Int) + 1)) (by rw [List.length_erase_of_mem hm, h]; rfl) fun x h0 h1 => (List.mem_erase_of_ne (by omega)).mpr (hx x h0 (by omega))
    rw [lab_succ]
    exact p.trans ((ih.cons _).trans (List.perm_append_singleton _ _).symm)
theorem pig : ∀ (m : Nat) (l : List Int), l.Nodup → (∀ x ∈ l, 1 ≤ x ∧ x ≤ m) → l.length ≤ m ∧ (l.length = m → ∀ x : Int, 1 ≤ x → x ≤ m → x ∈ l)
  | 0, l, _, hr => by
    cases l with
    | nil => exact ⟨Nat.le_refl _, fun _ x h0 h1 => by omega⟩
    | cons x l => have := hr x (List.mem_cons_self ..); omega
  | m + 1, l, nd, hr => by
    by_cases c : ((m : Int) + 1) ∈ l
    · have le := List.length_erase_of_mem c
      have pos : 0 < l.length := List.length_pos_of_mem c
      obtain ⟨a, b⟩ := pig m (l.erase ((m : Int) + 1)) (nd.erase _) fun x hx => by
        have := (nd.mem_erase_iff).mp hx
        have := hr x this.2
        omega
      refine ⟨by omega, fun e x h0 h1 => ?_⟩
      by_cases z : x = (m : Int) + 1
      · rw [z]; exact c
      · exact List.mem_of_mem_erase (b (by omega) x h0 (by omega))
    · obtain ⟨a, b⟩ := pig m l nd fun x hx => by
        have := hr x hx
        have : x ≠ (m : Int) + 1 := fun z => c (z ▸ hx)
        omega
      exact ⟨by omega, fun e => by omega⟩
theorem of_perm {l : List Int} (h : l.Perm (lab n)) : ∃ p : P n, l = toL p := by
  have hl : l.length = n := by rw [h.length_eq, lab_len]
  have nd : l.Nodup := h.nodup_iff.mpr (lab_nodup n)
  have mem : ∀ x : Int, x ∈ l ↔ 1 ≤ x ∧ x ≤ n := fun x => by rw [h.mem_iff, lab_mem]
  have at' : ∀ k : Nat, k < n → gt l k ∈ l ∧ l[k]? = some (gt l k) := fun k hk => by
    have e := gt_of (l := l) (i := k) (by omega)
    exact ⟨List.mem_of_getElem? e, e⟩
  have ix : ∀ y : Nat, y < n → ∃ k : Nat, k < n ∧ gt l k = (y : Int) + 1 := fun y hy => by
    have := (mem ((y : Int) + 1)).mpr ⟨by omega, by omega⟩
    obtain ⟨k, hk, e⟩ := List.getElem_of_mem this
    refine ⟨k, by omega, ?_⟩
    rw [gt_nat, List.getD_eq_getElem?_getD, List.getElem?_eq_getElem hk, e]
    rfl
  have inj : ∀ j k : Nat, j < n → k < n → gt l j = gt l k → j = k := fun j k hj hk e => by
    have a := (at' j hj).2
    have b := (at' k hk).2
    obtain ⟨h1, e1⟩ := List.getElem?_eq_some_iff.mp a
    obtain ⟨h2, e2⟩ := List.getElem?_eq_some_iff.mp b
    exact (List.getElem_inj nd).mp (by rw [e1, e2, e])
  let f : Nat → Nat := fun k => if k < n then (gt l k - 1).toNat else k
  have fl : ∀ k : Nat, k < n → f k < n ∧ ((f k : Nat) : Int) + 1 = gt l k := fun k hk => by
    have := (mem _).mp (at' k hk).1
    have e : f k = (gt l k - 1).toNat := if_pos hk
    omega
  have ex : ∀ y : Nat, ∃ k : Nat, f k = y := fun y => by
    by_cases c : y < n
    · obtain ⟨k, hk, e⟩ := ix y c
      have := (fl k hk).2
      exact ⟨k, by omega⟩
    · exact ⟨y, if_neg c⟩
  have fi : ∀ j k : Nat, f j = f k → j = k := fun j k e => by
    by_cases a : j < n
    · by_cases b : k < n
      · exact inj j k a b (by rw [← (fl j a).2, ← (fl k b).2, e])
      · have := (fl j a).1
        have e2 : f k = k := if_neg b
        omega
    · by_cases b : k < n
      · have := (fl k b).1
        have e2 : f j = j := if_neg a
        omega
      · have e1 : f j = j := if_neg a
        have e2 : f k = k := if_neg b
        omega
  let p : P n := ⟨f, fun y => Classical.choose (ex y), fun y => Classical.choose_spec (ex y), fun k => fi _ _ (Classical.choose_spec (ex (f k))), fun x h => if_neg (by omega)⟩
  refine ⟨p, toL_ext hl fun k hk => ?_⟩
  exact (fl k hk).2.symm
theorem toL_perm (p : P n) : (toL p).Perm (lab n) := by
  apply perm_all n _ (toL_len p)
  intro x h0 h1
  refine mem_gt.mpr ⟨((p.g (x - 1).toNat : Nat) : Int), by omega, ?_, ?_⟩
  · have := p.glt (x := (x - 1).toNat) (by omega)
    rw [toL_len]
    omega
  · rw [toL_nat p (p.glt (by omega)), p.fg]
    omega
end K12
namespace K12
open PySem J
open GA (P one inv St Fi Add Wt dl C)
variable {n : Nat}
def bo (s : List Bool) : List D := s.map PyData.bool
def Good (n : Nat) (l : List Int) : Prop := l.Nodup ∧ ∀ x ∈ l, 1 ≤ x ∧ x ≤ n
theorem Good.left {a b : List Int} (h : Good n (a ++ b)) : Good n a := ⟨(List.nodup_append.mp h.1).1, fun x hx => h.2 x (List.mem_append_left _ hx)⟩
theorem good_perm {l : List Int} (hl : l.length = n) : Good n l ↔ ∃ p : P n, l = toL p := by
  constructor
  · intro h
    exact of_perm (perm_all n l hl ((pig n l h.1 h.2).2 hl))
  · rintro ⟨p, rfl⟩
    exact ⟨(toL_perm p).nodup_iff.mpr (lab_nodup n), fun x hx => toL_mem hx⟩
end K12
namespace K12
open PySem J
open GA (P one inv St Fi Add Wt dl C)
variable {n : Nat}
theorem isint (i : Int) : f__law_is_integer [.int i] = some (.fz (.bool true), []) := by
  simp [f__law_is_integer, q_fn, b__law_is_integer]
theorem nodup_count {x : Int} : ∀ {l : List Int}, l.Nodup → x ∈ l → l.count x = 1
  | [], _, h => nomatch h
  | y :: l, nd, h => by
    rw [List.nodup_cons] at nd
    rcases List.mem_cons.mp h with rfl | h
    · rw [List.count_cons_self, List.count_eq_zero.mpr nd.1]
    · have : y ≠ x := fun z => nd.1 (z ▸ h)
      rw [List.count_cons_of_ne this]
      exact nodup_count nd.2 h
theorem law_perm_ok (hn : n < 1000) (l : List Int) (hl : l.length < 10000) : ∃ b, f__law_perm_holds [.int n, .tuple (li l)] = some (.fz (.bool b), []) ∧ (b = true ↔ ∃ p : P n, l = toL p) := by
  by_cases c : l.length = n
  · have lm := lim hn
    obtain ⟨e1, h1, h2, h3⟩ := for_rng (g := gNm 2) (body := l__law_perm_holds_1) (er := [2]) (fun (k : Int) env => 0 ≤ k ∧ env = [.fz (.int n), .fz (.tuple (li l)), .no]) n 0 [.fz (.int n), .fz (.tuple (li l)), .no] ⟨by omega, rfl⟩ fun k env k0 k1 ⟨_, he⟩ => by
      subst he
      have i := isint (gt l k)
      exact ⟨_, by simp (disch := omega) [turn, l__law_perm_holds_1, i], by omega, rfl⟩
    subst h3
    rcases for_rngR (g := gNm 2) (body := l__law_perm_holds_2) (er := [2]) (fun (k : Int) env => 0 ≤ k ∧ env = [.fz (.int n), .fz (.tuple (li l)), .no] ∧ ∀ j : Int, 0 ≤ j → j < k → l.count (j + 1) = 1) (fun f => (∃ e, f = .rt (.fz (.bool false)) e ∧ fin [.bw, .bw] e = some []) ∧ ¬ ∀ j : Int, 0 ≤ j → j < n → l.count (j + 1) = 1) n 0 [.fz (.int n), .fz (.tuple (li l)), .no] ⟨by omega, rfl, fun j a b => by omega⟩ (fun k env k0 k1 ⟨_, he, hj⟩ => by
        subst he
        by_cases z : l.count (k + 1) = 1
        · refine .inl ⟨[.fz (.int n), .fz (.tuple (li l)), .no], by simp (disch := omega) [turn, l__law_perm_holds_2, z], by omega, rfl, fun j a b => ?_⟩
          by_cases q : j = k
          · rw [q]; exact z
          · exact hj j a (by omega)
        · have zi : ¬ ((l.count (k + 1) : Nat) : Int) = 1 := by omega
          refine .inr ⟨.rt (.fz (.bool false)) [.fz (.int n), .fz (.tuple (li l)), .fz (.int k)], by simp (disch := omega) [turn, l__law_perm_holds_2, zi], ⟨_, rfl, rfl⟩, fun h => z (h k k0 (by omega))⟩) with ⟨e2, g1, g2, g3, g4⟩ | ⟨fl, g1, ⟨e, rfl, hf⟩, g3⟩
    · subst g3
      refine ⟨true, by simp (disch := omega) [f__law_perm_holds, q_fn, b__law_perm_holds, c, lm, h1, g1], fun _ => ?_, fun _ => rfl⟩
      refine of_perm (perm_all n l c fun x h0 h1 => ?_)
      have := g4 (x - 1) (by omega) (by omega)
      rw [show x - 1 + 1 = x by omega] at this
      exact List.count_pos_iff.mp (by omega)
    · refine ⟨false, by simp (disch := omega) [f__law_perm_holds, q_fn, b__law_perm_holds, c, lm, h1, g1, hf], fun z => (nomatch z), fun ⟨p, hp⟩ => absurd (fun j j0 j1 => ?_) g3⟩
      subst hp
      have nd := (toL_perm p).nodup_iff.mpr (lab_nodup n)
      have hm : (j + 1) ∈ toL p := (toL_perm p).mem_iff.mpr (lab_mem.mpr ⟨by omega, by omega⟩)
      exact nodup_count nd hm
  · have c' : ¬ ((l.length : Int) = n) := by omega
    exact ⟨false, by simp (disch := omega) [f__law_perm_holds, q_fn, b__law_perm_holds, c, c'], ⟨fun z => (nomatch z), fun ⟨p, z⟩ => absurd (by rw [z, toL_len]) c⟩⟩
theorem sts_law (p : P n) : ((lab0 (n - 1)).filter fun k => decide (gt (toL p) (k + 1) < gt (toL p) k)).map (fun k => k + 1) = sts p := by
  unfold sts lab0 lab
  rw [List.filter_map, List.filter_map, List.map_map]
  have : ((fun i => decide (gt (toL p) (i - 1) > gt (toL p) i)) ∘ fun k : Nat => ((k : Nat) : Int) + 1) = ((fun k => decide (gt (toL p) (k + 1) < gt (toL p) k)) ∘ fun k : Nat => ((k : Nat) : Int)) := by
    funext k
    show decide (gt (toL p) ((k : Int) + 1 - 1) > gt (toL p) ((k : Int) + 1)) = decide _
    rw [show (k : Int) + 1 - 1 = k by omega]
  rw [this]
  rfl
theorem law_starts_ok (hn : n < 1000) (h1 : 1 ≤ n) (p : P n) : f__law_starts [pd p] = some (.ow (li (sts p)), []) := by
  have e : rngD 0 (n - 1) = li (lab0 (n - 1)) := lab0_li _
  have hc := lc_if (g := gNm 1) (t := t__law_starts_1) (a := l__law_starts_1) (er := [1]) (env := [.fz (pd p), .no]) (Pr := fun k => decide (gt (toL p) (k + 1) < gt (toL p) k)) (f := fun k => .int (k + 1)) (l := lab0 (n - 1)) fun x hx => by
    have := lab0_mem.mp hx
    by_cases c : gt (toL p) (x + 1) < gt (toL p) x
    · simp (disch := (try simp only [toL_len]); omega) [turnL, t__law_starts_1, l__law_starts_1, c]
    · simp (disch := (try simp only [toL_len]); omega) [turnL, t__law_starts_1, l__law_starts_1, c]
  have s := sts_law p
  rw [← e, li_map, s] at hc
  have l1 : ((n : Int) - 1).toNat = n - 1 := by omega
  have l2 : n - 1 ≤ limit := by unfold limit; omega
  have l3 : n ≤ limit + 1 := by unfold limit; omega
  simp (disch := omega) [f__law_starts, q_fn, b__law_starts, hc, l1, l2, l3]
theorem law_inverse_ok (hn : n < 1000) (p : P n) : f__law_inverse [pd p] = some (.fz (pd (inv p)), []) := by
  have rp := rep_len [0] n
  rw [List.length_singleton, Nat.mul_one] at rp
  have re : (List.replicate n [(0 : Int)]).flatten = List.replicate n 0 := by simp
  obtain ⟨e, h, _, q, rfl, ht⟩ := for_rng (g := gNm 2) (body := l__law_inverse_1) (er := [2]) (fun (j : Int) env => 0 ≤ j ∧ ∃ q, env = [.fz (pd p), .ow (li q), .no] ∧ Told p q j.toNat) n 0 [.fz (pd p), .ow (li (List.replicate n 0)), .no] ⟨by omega, _, rfl, by rw [List.length_replicate], fun k hk => by omega⟩ fun k env k0 k1 ⟨_, q, he, ht⟩ => by
    subst he
    have ql := ht.1
    have g := toL_gt p k0 (by omega)
    have pl := p.lt (x := k.toNat) (by omega)
    have st := told_step (j := k.toNat) (by omega) ht
    rw [show ((k.toNat : Nat) : Int) = k by omega, show k.toNat + 1 = (k + 1).toNat by omega] at st
    refine ⟨[.fz (pd p), .ow (li (q.set (p.f k.toNat) (k + 1))), .no], ?_, by omega, _, rfl, st⟩
    simp (disch := (try simp only [toL_len]); omega) [turn, l__law_inverse_1, g]
  rw [show (0 + (n : Int)).toNat = n by omega] at ht
  have := told_inv ht
  subst this
  have z0 : [PyData.int 0] = li [0] := rfl
  have lm := lim hn
  simp (disch := (try simp only [List.length_singleton]); omega) [f__law_inverse, q_fn, b__law_inverse, z0, h, lm, re]
end K12
namespace K12
open PySem J
open GA (P one inv St Fi Add Wt dl C WtL)
variable {n : Nat}
theorem ixAtT {ds : List D} {d : D} {j : Nat} {i : Int} (h : ds[j]? = some d) (hi : i = j) : ixD (.tuple ds) (.int i) = some (.fz d) := by
  have hl := (List.getElem?_eq_some_iff.mp h).1
  subst hi
  rw [ixD_2, ixN_nn (by omega) (by omega)]
  simp only [Int.toNat_natCast]
  rw [h]
/-- what may stand in the place of a factor -/
def Gd (R : List (P n)) : Prop := ∀ p ∈ R, p ≠ one ∧ p ≠ dl
theorem ne_lt {p : P n} (h : p ≠ one) : 1 < n := by
  rcases Nat.lt_or_ge 1 n with z | z
  · exact z
  · exfalso
    apply h
    apply P.ext
    intro x
    rcases Nat.lt_or_ge x n with y | y
    · have := p.lt y
      show p.f x = x
      omega
    · exact p.on x y
theorem cons_pds {d : D} {fs : List D} {R : List (P n)} (h : d :: fs = pds R) : ∃ p R', d = pd p ∧ fs = pds R' ∧ R = p :: R' := by
  cases R with
  | nil => cases h
  | cons p R => exact ⟨p, R, (List.cons.inj h).1, (List.cons.inj h).2, rfl⟩
theorem wtl_iff : ∀ R : List (P n), WtL R ↔ ∀ (k : Nat) (a b : P n), R[k]? = some a → R[k + 1]? = some b → Wt a b
  | [] => ⟨fun _ k a b z => by simp at z, fun _ => trivial⟩
  | [x] => ⟨fun _ k a b z1 z2 => by simp at z2, fun _ => trivial⟩
  | x :: y :: R => by
    have ih := wtl_iff (y :: R)
    constructor
    · rintro ⟨h1, h2⟩ k a b z1 z2
      cases k with
      | zero => simp at z1 z2; subst z1 z2; exact h1
      | succ k => exact ih.mp h2 k a b (by simpa using z1) (by simpa using z2)
    · intro h
      exact ⟨h 0 x y rfl rfl, ih.mpr fun k a b z1 z2 => h (k + 1) a b (by simpa using z1) (by simpa using z2)⟩
end K12
namespace K12
open PySem J
open GA (P one inv St Fi Add Wt dl C WtL)
variable {n : Nat}
theorem let_loop (a b c d : Sl) (ha : ∃ x, a = .fz x) (hb : ∃ x, b = .fz x) (A : List Int) : ∀ B : List Int,
    ((∀ x ∈ B, x ∈ A) ∧ runFor (gNm 5) l__law_form_holds_2 [5] (li B) [a, b, .fz (.list (li A)), c, d, .no] = some (.nx [a, b, .fz (.list (li A)), c, d, .no])) ∨
    (¬ (∀ x ∈ B, x ∈ A) ∧ ∃ e, runFor (gNm 5) l__law_form_holds_2 [5] (li B) [a, b, .fz (.list (li A)), c, d, .no] = some (.rt (.fz (.bool false)) e) ∧ fin [.bw, .bw] e = some [])
  | [] => .inl ⟨fun x z => absurd z List.not_mem_nil, rfl⟩
  | x :: B => by
    obtain ⟨xa, rfl⟩ := ha
    obtain ⟨xb, rfl⟩ := hb
    by_cases z : x ∈ A
    · have t : turn (gNm 5) l__law_form_holds_2 [5] (.int x) [.fz xa, .fz xb, .fz (.list (li A)), c, d, .no] = some (.go [.fz xa, .fz xb, .fz (.list (li A)), c, d, .no]) := by
        simp (disch := first | rfl | omega) [turn, l__law_form_holds_2, z]
      rw [li_cons, for_go t]
      rcases let_loop (.fz xa) (.fz xb) c d ⟨_, rfl⟩ ⟨_, rfl⟩ A B with ⟨g, r⟩ | ⟨g, r⟩
      · exact .inl ⟨fun y hy => by rcases List.mem_cons.mp hy with rfl | hy; exact z; exact g y hy, r⟩
      · exact .inr ⟨fun h => g fun y hy => h y (List.mem_cons_of_mem _ hy), r⟩
    · have t : turn (gNm 5) l__law_form_holds_2 [5] (.int x) [.fz xa, .fz xb, .fz (.list (li A)), c, d, .no] = some (.end (.rt (.fz (.bool false)) [.fz xa, .fz xb, .fz (.list (li A)), c, d, .fz (.int x)])) := by
        simp (disch := first | rfl | omega) [turn, l__law_form_holds_2, z]
      rw [li_cons]
      exact .inr ⟨fun h => z (h x (List.mem_cons_self ..)), _, for_end t, rfl⟩
theorem sts_zero {p : P n} : (sts p).length = 0 ↔ p = one := by
  constructor
  · intro h
    refine GA.mono_one fun i hi => ?_
    have : ((i : Int) + 1) ∈ sts p := sts_mem.mpr ⟨by omega, by rw [show ((i : Int) + 1 - 1).toNat = i by omega]; exact hi⟩
    rw [List.length_eq_zero_iff.mp h] at this
    cases this
  · rintro rfl
    apply List.length_eq_zero_iff.mpr
    apply List.eq_nil_iff_forall_not_mem.mpr
    intro x hx
    have h := (sts_mem.mp hx).2
    have h' : (x - 1).toNat + 1 < (x - 1).toNat := h
    omega
theorem sts_full {p : P n} : (sts p).length = n - 1 ↔ p = dl ∨ n = 0 := by
  have ll := lab_len (n - 1)
  constructor
  · intro h
    have all : ∀ x ∈ lab (n - 1), (decide (gt (toL p) (x - 1) > gt (toL p) x)) = true := by
      apply List.length_filter_eq_length_iff.mp
      rw [ll]
      exact h
    refine .inl (GA.all_st fun i hi => ?_)
    have m := lab_mem.mpr (show 1 ≤ (i : Int) + 1 ∧ (i : Int) + 1 ≤ ((n - 1 : Nat) : Int) by omega)
    have : ((i : Int) + 1) ∈ sts p := List.mem_filter.mpr ⟨m, all _ m⟩
    have := (sts_mem.mp this).2
    rwa [show ((i : Int) + 1 - 1).toNat = i by omega] at this
  · rintro (rfl | rfl)
    · have : sts (dl : P n) = lab (n - 1) := by
        unfold sts
        apply List.filter_eq_self.mpr
        intro x hx
        have hx' := lab_mem.mp hx
        apply decide_eq_true
        apply (st_gt dl x (by omega) (by omega)).mpr
        show GA.dlf n ((x - 1).toNat + 1) < GA.dlf n (x - 1).toNat
        exact (GA.dlf_lt (by omega) (by omega)).mpr (by omega)
      rw [this, ll]
    · rfl
def Ch (A : List Int) : List (P n) → Prop
  | [] => True
  | p :: R => (∀ x ∈ sts p, x ∈ A) ∧ Ch (sts (inv p)) R
theorem ch_wtl : ∀ (R : List (P n)) (a : P n), Ch (sts (inv a)) R ↔ WtL (a :: R)
  | [], a => ⟨fun _ => trivial, fun _ => trivial⟩
  | b :: R, a => by
    have ih := ch_wtl R b
    have w : (∀ x ∈ sts b, x ∈ sts (inv a)) ↔ Wt a b := by
      rw [← wtb_iff]
      unfold wtb
      rw [List.all_eq_true]
      exact ⟨fun h x hx => decide_eq_true (h x hx), fun h x hx => of_decide_eq_true (h x hx)⟩
    show (_ ∧ _) ↔ (_ ∧ _)
    rw [ih, w]
theorem ch_all (R : List (P n)) : Ch (lab (n - 1)) R ↔ WtL R := by
  cases R with
  | nil => exact ⟨fun _ => trivial, fun _ => trivial⟩
  | cons p R =>
    have e : (∀ x ∈ sts p, x ∈ lab (n - 1)) := fun x hx => (List.mem_filter.mp hx).1
    show (_ ∧ _) ↔ _
    rw [ch_wtl]
    exact ⟨fun h => h.2, fun h => ⟨e, h⟩⟩
end K12
namespace K12
open PySem J
open GA (P one inv St Fi Add Wt dl C WtL)
variable {n : Nat}
theorem lperm_true (hn : n < 1000) (p : P n) : f__law_perm_holds [.int n, pd p] = some (.fz (.bool true), []) := by
  obtain ⟨b, e, h⟩ := law_perm_ok hn (toL p) (by simp; omega)
  rw [h.mpr ⟨p, rfl⟩] at e
  exact e
theorem lform1 (hn : n < 1000) (h2 : 1 < n) (b : Sl) (hb : ∃ x, b = .fz x) : ∀ (R : List (P n)) (A : List Int), Gd R → Ch A R →
    ∃ A', runFor (gNm 3) l__law_form_holds_1 [3, 4, 5] (pds R) [.fz (.int n), b, .fz (.list (li A)), .no, .no, .no] = some (.nx [.fz (.int n), b, .fz (.list (li A')), .no, .no, .no])
  | [], A, _, _ => ⟨A, rfl⟩
  | p :: R, A, g, w => by
    obtain ⟨x, rfl⟩ := hb
    have gp := g p (List.mem_cons_self ..)
    have e1 := lperm_true hn p
    have s1 := law_starts_ok hn (by omega) p
    have i1 := law_inverse_ok hn p
    have s2 := law_starts_ok hn (by omega) (inv p)
    have z1 := sts_zero (p := p)
    have z2 := sts_full (p := p)
    have c0 : ¬ (sts p).length = 0 := fun q => gp.1 (z1.mp q)
    have c0i : ¬ ((sts p).length : Int) = 0 := by omega
    have c1 : ¬ ((sts p).length : Int) = (n : Int) - 1 := fun q => by
      rcases z2.mp (by omega) with h | h
      · exact gp.2 h
      · omega
    rcases let_loop (.fz (.int n)) (.fz x) (.fz (pd p)) (.fz (.list (li (sts p)))) ⟨_, rfl⟩ ⟨_, rfl⟩ A (sts p) with ⟨_, r⟩ | ⟨h, _⟩
    · have ft : turn (gNm 3) l__law_form_holds_1 [3, 4, 5] (pd p) [.fz (.int n), .fz x, .fz (.list (li A)), .no, .no, .no] = some (.go [.fz (.int n), .fz x, .fz (.list (li (sts (inv p)))), .no, .no, .no]) := by
        simp (disch := omega) [turn, l__law_form_holds_1, e1, s1, c0, c0i, c1, r, i1, s2]
      obtain ⟨A', r2⟩ := lform1 hn h2 (.fz x) ⟨x, rfl⟩ R (sts (inv p)) (fun q hq => g q (List.mem_cons_of_mem _ hq)) w.2
      refine ⟨A', ?_⟩
      show runFor (gNm 3) l__law_form_holds_1 [3, 4, 5] (pd p :: pds R) _ = _
      rw [for_go ft, r2]
    · exact absurd w.1 h
theorem law_form_true (hn : n < 1000) (h1 : 1 ≤ n) (pw : Int) (hp : pw.natAbs < 2 ^ 200) (hz : n = 1 → pw = 0) (R : List (P n)) (g : Gd R) (w : WtL R) : f__law_form_holds [.int n, form pw R] = some (.fz (.bool true), []) := by
  have i := isint pw
  show f__law_form_holds [.int n, .tuple [.int pw, .tuple (pds R)]] = _
  by_cases q : n = 1
  · subst q
    have z := hz rfl
    subst z
    have : R = [] := by
      cases R with
      | nil => rfl
      | cons p R => have := ne_lt (g p (List.mem_cons_self ..)).1; omega
    subst this
    simp (disch := omega) [f__law_form_holds, q_fn, b__law_form_holds, i, pds]
  · have qi : ¬ (n : Int) = 1 := by omega
    have l0 := lab_li (n - 1)
    have l2 : (lab (n - 1)).length = n - 1 := lab_len _
    have l1 : n ≤ limit + 1 := by unfold limit; omega
    obtain ⟨A', r⟩ := lform1 hn (by omega) (.fz (.tuple [.int pw, .tuple (pds R)])) ⟨_, rfl⟩ R (lab (n - 1)) g ((ch_all R).mpr w)
    generalize pds R = ds at *
    simp (disch := omega) [f__law_form_holds, q_fn, b__law_form_holds, i, q, qi, l0, l2, l1, r]
end K12
namespace K12
open PySem J
open GA (P one inv St Fi Add Wt dl C WtL)
variable {n : Nat}
theorem li_erase (l : List Int) (i : Nat) : (li l).eraseIdx i = li (l.eraseIdx i) := by
  unfold li
  induction l generalizing i with
  | nil => rfl
  | cons x l ih =>
    cases i with
    | zero => rfl
    | succ i => simp only [List.map_cons, List.eraseIdx_cons_succ]; rw [ih]
theorem pop_fact (a b c d e f : Sl) (l : List Int) (k : Int) (h0 : 0 ≤ k) (h1 : k < l.length) (h2 : k < 1000000) : ePopA 5 (eVar 7) [a, b, c, d, e, .ow (li l), f, .fz (.int k)] = some (.fz (.int (gt l k)), [a, b, c, d, e, .ow (li (l.eraseIdx k.toNat)), f, .fz (.int k)]) := by
  rw [q_popA (es := li l) rfl]
  have e1 : eVar 7 [a, b, c, d, e, .ow (li l), f, .fz (.int k)] = some (.fz (.int k), [a, b, c, d, e, .ow (li l), f, .fz (.int k)]) := rfl
  rw [e1, popA_go (ds := li l) (d := .int (gt l k)) rfl h0 (by omega) (by rw [li_get, gt_of' h0 h1]; rfl), li_erase]
  rfl
theorem erase_perm : ∀ (l : List Int) (i : Nat) (h : i < l.length), (l[i]'h :: l.eraseIdx i).Perm l
  | x :: l, 0, _ => .refl _
  | x :: l, i + 1, h => by
    have h' : i < l.length := by simpa using h
    have ih := erase_perm l i h'
    show (l[i] :: x :: l.eraseIdx i).Perm (x :: l)
    exact (List.Perm.swap _ _ _).trans (ih.cons x)
theorem perm_erase (l : List Int) (k : Int) (h0 : 0 ≤ k) (h1 : k < l.length) : (gt l k :: l.eraseIdx k.toNat).Perm l := by
  have e := gt_of' h0 h1
  obtain ⟨h, e2⟩ := List.getElem?_eq_some_iff.mp e
  rw [← e2]
  exact erase_perm l _ h
theorem lperm_turn (a b c : Sl) (l r : List Int) (N k : Int) (hN : 0 ≤ N) (hN2 : N < 1073741824) (hl : 1 ≤ l.length) (hl2 : l.length < 1000) (hr : r.length < 1000) : ∃ (at' : Int) (N' : Int), 0 ≤ at' ∧ at' < l.length ∧ 0 ≤ N' ∧ N' < 1073741824 ∧
    turn (gNm 3) l__law_perm_2 [3, 7] (.int k) [a, b, c, .no, .fz (.int N), .ow (li l), .ow (li r), .no] = some (.go [a, b, c, .no, .fz (.int N'), .ow (li (l.eraseIdx at'.toNat)), .ow (li (r ++ [gt l at'])), .no]) := by
  have ln : (0 : Int) < (l.length : Int) := by omega
  have ln0 : ¬ ((l.length : Int) = 0) := by omega
  have l0 : ¬ (l.length = 0) := by omega
  have m0 := fmod_nn N ln
  have m1 := fmod_lt N ln
  have d := fdiv_bd hN (l.length : Int) ln
  refine ⟨N.fmod l.length, N.fdiv l.length, m0, m1, d.1, by omega, ?_⟩
  have pf := fun a b c d e f => pop_fact a b c d e f l (N.fmod l.length) m0 m1 (by omega)
  have nz : l ≠ [] := fun z => by rw [z] at hl; simp at hl
  have e0 : 0 ≤ N := hN
  simp (disch := omega) [turn, l__law_perm_2, nz, l0, ln0, pf]
theorem lperm_loop (a b c : Sl) : ∀ (j : Nat) (k : Int) (l r : List Int) (N : Int), l.length = j → r.length + j < 1000 → 0 ≤ N → N < 1073741824 → ∃ (r' : List Int) (e : J.Env), runFor (gNm 3) l__law_perm_2 [3, 7] (rngD k j) [a, b, c, .no, .fz (.int N), .ow (li l), .ow (li r), .no] = some (.nx e) ∧ (r' ).Perm (r ++ l) ∧ ∃ N' l', e = [a, b, c, .no, .fz (.int N'), .ow (li l'), .ow (li r'), .no]
  | 0, k, l, r, N, hl, _, _, _ => by
    have : l = [] := List.length_eq_zero_iff.mp hl
    subst this
    exact ⟨r, _, rfl, by rw [List.append_nil], N, [], rfl⟩
  | j + 1, k, l, r, N, hl, hr, h0, h1 => by
    obtain ⟨at', N', a0, a1, b0, b1, t⟩ := lperm_turn a b c l r N k h0 h1 (by omega) (by omega) (by omega)
    have pe := perm_erase l at' a0 a1
    obtain ⟨r', e, q1, q2, q3⟩ := lperm_loop a b c j (k + 1) (l.eraseIdx at'.toNat) (r ++ [gt l at']) N' (by have := pe.length_eq; rw [List.length_cons] at this; omega) (by rw [List.length_append, List.length_singleton]; omega) b0 b1
    refine ⟨r', e, ?_, ?_, q3⟩
    · have er : rngD k (j + 1) = .int k :: rngD (k + 1) j := by
        unfold rngD
        rw [List.range_succ_eq_map, List.map_cons, List.map_map]
        congr 1
        · simp
        · apply List.map_congr_left
          intro i _
          simp
          omega
      rw [er, for_go t]
      exact q1
    · refine q2.trans ?_
      rw [List.append_assoc]
      exact List.Perm.append_left r pe
theorem many_loop (a b : Sl) (hn : n ≤ 8) : ∃ m : Int, 1 ≤ m ∧ m ≤ 2097152 ∧ runFor (gNm 3) l__law_perm_1 [3] (rngD 2 (n - 1)) [a, b, .fz (.int 1), .no, .no, .no, .no, .no] = some (.nx [a, b, .fz (.int m), .no, .no, .no, .no, .no]) := by
  obtain ⟨e, h1, h2, m, h3, h4, rfl⟩ := for_rng (g := gNm 3) (body := l__law_perm_1) (er := [3]) (fun (k : Int) env => 2 ≤ k ∧ ∃ m : Int, 1 ≤ m ∧ m ≤ ((8 ^ (k - 2).toNat : Nat) : Int) ∧ env = [a, b, .fz (.int m), .no, .no, .no, .no, .no]) (n - 1) 2 [a, b, .fz (.int 1), .no, .no, .no, .no, .no] ⟨by omega, 1, by omega, by decide, rfl⟩ fun k env k0 k1 ⟨_, m, m0, m1, he⟩ => by
    subst he
    have up : 8 ^ (k - 2).toNat ≤ 8 ^ 7 := Nat.pow_le_pow_right (by decide) (by omega)
    have up' : 8 ^ 7 = 2097152 := by decide
    have nn : m * k ≤ ((8 ^ (k - 2).toNat : Nat) : Int) * 8 := Int.mul_le_mul m1 (by omega) (by omega) (by omega)
    have np : 1 * 1 ≤ m * k := Int.mul_le_mul m0 (by omega) (by omega) (by omega)
    refine ⟨[a, b, .fz (.int (m * k)), .no, .no, .no, .no, .no], by simp (disch := omega) [turn, l__law_perm_1], by omega, m * k, by omega, ?_, rfl⟩
    rw [show (k + 1 - 2).toNat = (k - 2).toNat + 1 by omega, Nat.pow_succ]
    omega
  refine ⟨m, h3, ?_, h1⟩
  have up : 8 ^ (2 + ((n - 1 : Nat) : Int) - 2).toNat ≤ 8 ^ 7 := Nat.pow_le_pow_right (by decide) (by omega)
  have up' : 8 ^ 7 = 2097152 := by decide
  omega
theorem rperm_ok {m : Int} (bs : List D) (hb : Box m bs) (hm : m < 1000000) (hn : n ≤ 8) (h1 : 1 ≤ n) : ∃ (p : P n) (bs' : List D), f__law_perm [.list bs, .int n] = some (.fz (pd p), [bs']) ∧ Box (m + 1) bs' := by
  obtain ⟨M, M0, M1, lp1⟩ := many_loop (n := n) (.ow bs) (.fz (.int n)) hn
  obtain ⟨v, bs', e, hb', v0, v1⟩ := take_ok bs M hb hm (by omega) (by omega)
  obtain ⟨r, env, lp2, pr, N', l', rfl⟩ := lperm_loop (.ow bs') (.fz (.int n)) (.fz (.int M)) n 0 (lab n) [] v (lab_len n) (by rw [List.length_nil]; omega) v0 (by omega)
  rw [List.nil_append] at pr
  obtain ⟨p, rfl⟩ := of_perm pr
  have r1 := lab_li n
  have l1 := lab_len n
  have lm := lim (show n < 1000 by omega)
  have e1 : ((n : Int) + 1 - 2).toNat = n - 1 := by omega
  rw [li_nil] at lp2
  refine ⟨p, bs', ?_, hb'⟩
  simp (disch := omega) [f__law_perm, q_fn, b__law_perm, lp1, e, r1, l1, lm, lp2, e1]
end K12
namespace K12
open PySem J
open GA (P one inv St Fi Add Wt dl C WtL)
variable {n : Nat}
theorem gt_app (a b : List Int) (k : Nat) : gt (a ++ b) k = if k < a.length then gt a k else gt b ((k - a.length : Nat) : Int) := by
  rw [gt_nat, gt_nat, gt_nat, List.getD_eq_getElem?_getD, List.getD_eq_getElem?_getD, List.getD_eq_getElem?_getD]
  by_cases c : k < a.length
  · rw [if_pos c, List.getElem?_append_left c]
  · rw [if_neg c, List.getElem?_append_right (by omega)]
/-- falls only at places of A -/
def Ds (A E : List Int) : Prop := ∀ i : Nat, 1 ≤ i → i < E.length → gt E i < gt E ((i - 1 : Nat) : Int) → (i : Int) ∈ A
theorem ds_app {A E S : List Int} (hE : Ds A E) (hS : S.Pairwise (· ≤ ·)) (hb : E = [] ∨ (E.length : Int) ∈ A) : Ds A (E ++ S) := by
  intro i i0 i1 h
  rw [List.length_append] at i1
  rw [gt_app, gt_app] at h
  by_cases c : i < E.length
  · rw [if_pos c, if_pos (by omega)] at h
    exact hE i i0 c h
  · rw [if_neg c] at h
    by_cases d : i - 1 < E.length
    · have e : i = E.length := by omega
      rcases hb with rfl | hb
      · simp at d
      · rw [e]; exact hb
    · rw [if_neg d] at h
      exfalso
      have g1 := gt_of (l := S) (i := i - E.length) (by omega)
      have g2 := gt_of (l := S) (i := i - 1 - E.length) (by omega)
      obtain ⟨h1, e1⟩ := List.getElem?_eq_some_iff.mp g1
      obtain ⟨h2, e2⟩ := List.getElem?_eq_some_iff.mp g2
      have := List.pairwise_iff_getElem.mp hS (i - 1 - E.length) (i - E.length) h2 h1 (by omega)
      rw [e1, e2] at this
      omega
theorem ds_nil (A : List Int) : Ds A [] := fun i _ h => by simp at h
theorem fac_turn (a b c d : Sl) (A E Q : List Int) (p : P n) (k : Int) (hb : ∃ x, b = .fz x) (k0 : 0 ≤ k) (k1 : k < n) (hn : n < 1000) (hl : E.length + Q.length < 10000) :
    turn (gNm 6) l__law_factor_1 [6] (.int k) [a, b, .bw (li A), .fz (pd p), .fz (.list (li E)), .ow (li Q), .no, c, d] =
      if 0 < k ∧ k ∈ A then some (.go [a, b, .bw (li A), .fz (pd p), .fz (.list (li (E ++ srt Q))), .ow (li [gt (toL p) k]), .no, c, d]) else some (.go [a, b, .bw (li A), .fz (pd p), .fz (.list (li E)), .ow (li (Q ++ [gt (toL p) k])), .no, c, d]) := by
  have sl := srt_len Q
  by_cases z : 0 < k
  · by_cases y : k ∈ A
    · rw [if_pos ⟨z, y⟩]
      simp (disch := first | rfl | (try simp only [toL_len]); omega) [turn, l__law_factor_1, z, y]
    · rw [if_neg (fun q => y q.2)]
      simp (disch := first | rfl | (try simp only [toL_len]); omega) [turn, l__law_factor_1, z, y]
  · rw [if_neg (fun q => z q.1)]
    simp (disch := first | rfl | (try simp only [toL_len]); omega) [turn, l__law_factor_1, z]
theorem take_snoc (l : List Int) (k : Int) (h0 : 0 ≤ k) (h1 : k < l.length) : l.take (k + 1).toNat = l.take k.toNat ++ [gt l k] := by
  rw [show (k + 1).toNat = k.toNat + 1 by omega, List.take_succ, gt_of' h0 h1]
  rfl
theorem fac_loop (a b c d : Sl) (hb : ∃ x, b = .fz x) (A : List Int) (p : P n) (hn : n < 1000) : ∃ (E Q : List Int), runFor (gNm 6) l__law_factor_1 [6] (rngD 0 n) [a, b, .bw (li A), .fz (pd p), .fz (.list (li [])), .ow (li []), .no, c, d] = some (.nx [a, b, .bw (li A), .fz (pd p), .fz (.list (li E)), .ow (li Q), .no, c, d]) ∧
    (E ++ Q).Perm (toL p) ∧ Ds A E ∧ (E = [] ∨ (E.length : Int) ∈ A) := by
  obtain ⟨e, h1, h2, E, Q, he, hp, hl, hd, hA⟩ := for_rng (g := gNm 6) (body := l__law_factor_1) (er := [6]) (fun (k : Int) env => 0 ≤ k ∧ ∃ E Q : List Int, env = [a, b, .bw (li A), .fz (pd p), .fz (.list (li E)), .ow (li Q), .no, c, d] ∧
      (E ++ Q).Perm ((toL p).take k.toNat) ∧ E.length + Q.length = k.toNat ∧ Ds A E ∧ (E = [] ∨ (E.length : Int) ∈ A)) n 0 [a, b, .bw (li A), .fz (pd p), .fz (.list (li [])), .ow (li []), .no, c, d] ⟨by omega, [], [], rfl, by simp, rfl, ds_nil A, .inl rfl⟩ fun k env k0 k1 ⟨_, E, Q, he, hp, hl, hd, hA⟩ => by
    subst he
    have t := fac_turn a b c d A E Q p k hb k0 (by omega) hn (by omega)
    have sl := srt_len Q
    have ts := take_snoc (toL p) k k0 (by rw [toL_len]; omega)
    by_cases z : 0 < k ∧ k ∈ A
    · rw [if_pos z] at t
      refine ⟨_, t, by omega, E ++ srt Q, [gt (toL p) k], rfl, ?_, ?_, ds_app hd (srt_le Q) hA, .inr ?_⟩
      · rw [ts]
        exact (((srt_perm Q).append_left E).trans hp).append_right _
      · rw [List.length_append, List.length_singleton]; omega
      · rw [List.length_append, sl, hl, show ((k.toNat : Nat) : Int) = k by omega]
        exact z.2
    · rw [if_neg z] at t
      refine ⟨_, t, by omega, E, Q ++ [gt (toL p) k], rfl, ?_, ?_, hd, hA⟩
      · rw [ts, ← List.append_assoc]
        exact hp.append_right _
      · rw [List.length_append, List.length_singleton]; omega
  subst he
  refine ⟨E, Q, h1, ?_, hd, hA⟩
  rw [show (0 + (n : Int)).toNat = n by omega, List.take_of_length_le (by rw [toL_len]; omega)] at hp
  exact hp
theorem law_starts_list (hn : n < 1000) (h1 : 1 ≤ n) (p : P n) : f__law_starts [.list (li (toL p))] = some (.ow (li (sts p)), []) := by
  have e : rngD 0 (n - 1) = li (lab0 (n - 1)) := lab0_li _
  have hc := lc_if (g := gNm 1) (t := t__law_starts_1) (a := l__law_starts_1) (er := [1]) (env := [.bw (li (toL p)), .no]) (Pr := fun k => decide (gt (toL p) (k + 1) < gt (toL p) k)) (f := fun k => .int (k + 1)) (l := lab0 (n - 1)) fun x hx => by
    have := lab0_mem.mp hx
    by_cases c : gt (toL p) (x + 1) < gt (toL p) x
    · simp (disch := (try simp only [toL_len]); omega) [turnL, t__law_starts_1, l__law_starts_1, c]
    · simp (disch := (try simp only [toL_len]); omega) [turnL, t__law_starts_1, l__law_starts_1, c]
  have s := sts_law p
  rw [← e, li_map, s] at hc
  have l1 : ((n : Int) - 1).toNat = n - 1 := by omega
  have l2 : n - 1 ≤ limit := by unfold limit; omega
  have l3 : n ≤ limit + 1 := by unfold limit; omega
  simp (disch := omega) [f__law_starts, q_fn, b__law_starts, hc, l1, l2, l3]
theorem ds_sts {A : List Int} {p : P n} (h : Ds A (toL p)) : ∀ x ∈ sts p, x ∈ A := fun x hx => by
  obtain ⟨x0, hs⟩ := sts_mem.mp hx
  have l := hs.lt
  have := (st_gt p x x0 (by omega)).mpr hs
  have z := h x.toNat (by omega) (by rw [toL_len]; omega) (by
    rw [show ((x.toNat : Nat) : Int) = x by omega, show ((x.toNat - 1 : Nat) : Int) = x - 1 by omega]
    exact this)
  rwa [show ((x.toNat : Nat) : Int) = x by omega] at z
theorem sw_cut (l : List Int) (i : Int) (h0 : 1 ≤ i) (h1 : i < l.length) : l.take (i - 1).toNat ++ ([gt l i, gt l (i - 1)] ++ l.drop (i + 1).toNat) = sw l i := by
  apply ext_gt (n := l.length)
  · simp
    omega
  · unfold sw; simp
  · intro k hk
    unfold sw
    rw [set_gt _ (by rw [List.length_set]; omega), set_gt _ (by omega), gt_app, gt_app]
    have lt : (l.take (i - 1).toNat).length = (i - 1).toNat := by rw [List.length_take]; omega
    rw [lt]
    by_cases c : k < (i - 1).toNat
    · rw [if_pos c, if_neg (by omega), if_neg (by omega), gt_nat, gt_nat, List.getD_eq_getElem?_getD, List.getD_eq_getElem?_getD, List.getElem?_take_of_lt c]
    · rw [if_neg c]
      by_cases d : k = (i - 1).toNat
      · rw [if_pos (by simp; omega), if_neg (by omega), if_pos d, d, Nat.sub_self]
        rfl
      · by_cases e : k = i.toNat
        · rw [if_pos (by simp; omega), if_pos e, show k - (i - 1).toNat = 1 by omega]
          rfl
        · rw [if_neg (by simp; omega), if_neg e, if_neg d]
          rw [gt_nat, gt_nat, List.getD_eq_getElem?_getD, List.getD_eq_getElem?_getD, List.getElem?_drop]
          congr 2
          simp
          omega
end K12
namespace K12
open PySem J
open GA (P one inv St Fi Add Wt dl C WtL)
variable {n : Nat}
theorem sg_ne (i : Nat) (h : i + 1 < n) (h3 : 3 ≤ n) : (GA.s i h : P n) ≠ one ∧ (GA.s i h : P n) ≠ dl := by
  constructor
  · intro z
    have := congrArg (fun q : P n => q.f i) z
    simp only [GA.s_f, GA.one_f, GA.swf1] at this
    omega
  · intro z
    by_cases c : i = 0
    · subst c
      have := congrArg (fun q : P n => q.f 0) z
      simp only [GA.s_f, GA.swf1, GA.dl_f, GA.dlf, if_pos (show 0 < n by omega)] at this
      omega
    · have := congrArg (fun q : P n => q.f 0) z
      simp only [GA.s_f, GA.swf3 (show 0 ≠ i by omega) (show 0 ≠ i + 1 by omega), GA.dl_f, GA.dlf, if_pos (show 0 < n by omega)] at this
      omega
theorem sd_ne (h : 0 + 1 < n) (h3 : 3 ≤ n) : (GA.s 0 h * dl : P n) ≠ one ∧ (GA.s 0 h * dl : P n) ≠ dl := by
  have v : (GA.s 0 h * dl : P n).f 0 = n - 2 := by
    show GA.dlf n (GA.swf 0 0) = n - 2
    rw [GA.swf1, GA.dlf, if_pos (by omega)]
    omega
  constructor
  · intro z
    rw [z] at v
    simp at v
    omega
  · intro z
    rw [z, GA.dl_f, GA.dlf, if_pos (by omega)] at v
    omega
theorem sts_s (i : Nat) (h : i + 1 < n) : ∀ x ∈ sts (GA.s i h : P n), x = (i : Int) + 1 := fun x hx => by
  obtain ⟨x0, hs⟩ := sts_mem.mp hx
  have := (GA.st_s h).mp hs
  omega
theorem factor_ok {m : Int} (bs : List D) (hb : Box m bs) (hm : m < 900000) (hn : n ≤ 8) (h3 : 3 ≤ n) (A : List Int) (hA : ∀ x ∈ A, 1 ≤ x ∧ x < n) (hne : A ≠ []) (hAl : A.length < 1000) :
    ∃ (p : P n) (bs' : List D), f__law_factor [.list bs, .int n, .list (li A)] = some (.fz (pd p), [bs']) ∧ Box (m + 2) bs' ∧ p ≠ one ∧ p ≠ dl ∧ ∀ x ∈ sts p, x ∈ A := by
  have hn' : n < 1000 := by omega
  obtain ⟨p0, bs1, e1, hb1⟩ := rperm_ok (n := n) bs hb (by omega) hn (by omega)
  obtain ⟨E, Q, lp, hp, hd, hE⟩ := fac_loop (.ow bs1) (.fz (.int n)) .no .no ⟨_, rfl⟩ A p0 hn'
  have pT : (E ++ srt Q).Perm (toL p0) := ((srt_perm Q).append_left E).trans hp
  obtain ⟨p1, hT⟩ := of_perm (n := n) (pT.trans (toL_perm p0))
  have dT := ds_sts (hT ▸ ds_app hd (srt_le Q) hE)
  have s1 := law_starts_list hn' (by omega) p1
  have ln := congrArg List.length hT
  rw [List.length_append, srt_len, toL_len] at ln
  have sl := srt_len Q
  have ni : (n : Int) - 1 ≠ 0 := by omega
  have al0 : ¬ (A.length : Int) = 0 := fun z => hne (List.length_eq_zero_iff.mp (by omega))
  rw [li_nil] at lp
  by_cases c0 : (sts p1).length = 0
  · have c0i : ((sts p1).length : Int) = 0 := by omega
    have o1 := sts_zero.mp c0
    obtain ⟨v, bs2, e2, hb2, v0, v1⟩ := take_ok bs1 A.length hb1 (by omega) (by omega) (by omega)
    have hx : gt A v ∈ A := mem_gt.mpr ⟨v, v0, v1, rfl⟩
    obtain ⟨x0, x1⟩ := hA _ hx
    have ixv := ixL v0 v1
    generalize hxx : gt A v = x at *
    have k : (x - 1).toNat + 1 < n := by omega
    have cuts := sw_cut (toL p1) x x0 (by rw [toL_len]; omega)
    have swe := sw_s p1 x x0 x1 k
    rw [o1, GA.mul_one] at swe
    rw [← cut_to (toL p1) (by omega) (by rw [toL_len]; omega), ← cut_from (toL p1) (by omega) (by rw [toL_len]; omega), o1, swe] at cuts
    have sn := sg_ne (x - 1).toNat k h3
    have z2 : ∀ a b : Int, [PyData.int a, .int b] = li [a, b] := fun _ _ => rfl
    have c1 : ¬ (0 : Int) = (n : Int) - 1 := by omega
    refine ⟨GA.s (x - 1).toNat k, bs2, ?_, hb2.up (by omega), sn.1, sn.2, fun y hy => ?_⟩
    · subst o1
      generalize (GA.s (x - 1).toNat k : P n) = g at *
      have cl := cut_len (toL (one : P n)) none (some (x - 1))
      have cl2 := cut_len (toL (one : P n)) (some (x + 1)) none
      rw [toL_len] at cl cl2
      have cuts' : cutD (toL (one : P n)) none (some (x - 1)) ++ gt (toL (one : P n)) x :: gt (toL (one : P n)) (x - 1) :: cutD (toL (one : P n)) (some (x + 1)) none = toL g := cuts
      simp (disch := (try simp only [toL_len, List.length_append, List.length_cons, List.length_nil]); omega) [f__law_factor, q_fn, b__law_factor, e1, lp, hT, s1, c0, c0i, e2, ixv, z2, cuts', c1]
    · rw [sts_s _ k y hy, show (((x - 1).toNat : Nat) : Int) + 1 = x by omega]
      exact hx
  · have c0i : ¬ ((sts p1).length : Int) = 0 := by omega
    by_cases c1 : (sts p1).length = n - 1
    · have c1i : ((sts p1).length : Int) = (n : Int) - 1 := by omega
      have d1 : p1 = dl := by
        rcases sts_full.mp c1 with z | z
        · exact z
        · omega
      have k : ((1 : Int) - 1).toNat + 1 < n := by show 0 + 1 < n; omega
      have cuts := sw_cut (toL p1) 1 (by omega) (by rw [toL_len]; omega)
      have swe := sw_s p1 1 (by omega) (by omega) k
      rw [swe, d1] at cuts
      have sn := sd_ne (n := n) k h3
      have z2 : ∀ a b : Int, [PyData.int a, .int b] = li [a, b] := fun _ _ => rfl
      refine ⟨GA.s ((1 : Int) - 1).toNat k * dl, bs1, ?_, hb1.up (by omega), sn.1, sn.2, fun y hy => ?_⟩
      · rw [← cut_from (toL (dl : P n)) (by omega) (by rw [toL_len]; omega)] at cuts
        have nn1 : ¬ (n - 1 = 0) := by omega
        have cn1 : ((n - 1 : Nat) : Int) = (n : Int) - 1 := by omega
        have cl := cut_len (toL (dl : P n)) (some 2) none
        rw [toL_len] at cl
        subst d1
        generalize (GA.s ((1 : Int) - 1).toNat k * dl : P n) = g at *
        have cuts' : gt (toL (dl : P n)) 1 :: gt (toL (dl : P n)) 0 :: cutD (toL (dl : P n)) (some 2) none = toL g := cuts
        simp (disch := (try simp only [toL_len, List.length_append, List.length_cons, List.length_nil]); omega) [f__law_factor, q_fn, b__law_factor, e1, lp, hT, s1, c0, c0i, c1, c1i, z2, cuts', nn1, cn1, ni]
      · apply dT
        rw [d1]
        have hy' := (List.mem_filter.mp hy).1
        have full : (sts (dl : P n)).length = n - 1 := sts_full.mpr (.inl rfl)
        have all := List.length_filter_eq_length_iff.mp (show ((lab (n - 1)).filter fun i => decide (gt (toL (dl : P n)) (i - 1) > gt (toL dl) i)).length = (lab (n - 1)).length by rw [lab_len]; exact full)
        exact List.mem_filter.mpr ⟨hy', all y hy'⟩
    · have c1i : ¬ ((sts p1).length : Int) = (n : Int) - 1 := by omega
      refine ⟨p1, bs1, ?_, hb1.up (by omega), fun z => c0 (sts_zero.mpr z), fun z => c1 (sts_full.mpr (.inl z)), dT⟩
      simp (disch := (try simp only [toL_len]); omega) [f__law_factor, q_fn, b__law_factor, e1, lp, hT, s1, c0, c0i, c1, c1i]
end K12
namespace K12
open PySem J
open FW (red Red mv1 rows All Le Bd)
/-! ### images -/
/-- a row of words, as the law keeps it -/
def lw (R : List (List Int)) : List D := R.map fun l => .list (li l)
@[simp] theorem lw_len (R : List (List Int)) : (lw R).length = R.length := by simp [lw]
theorem lw_get {R : List (List Int)} {i : Nat} (h : i < R.length) : (lw R)[i]? = some (.list (li (R.getD i []))) := by
  unfold lw
  rw [List.getElem?_map, List.getD_eq_getElem?_getD, List.getElem?_eq_getElem h]
  rfl
theorem lw_ix {R : List (List Int)} {i : Int} (h0 : 0 ≤ i) (h1 : i < R.length) : ixD (.list (lw R)) (.int i) = some (.fz (.list (li (R.getD i.toNat [])))) :=
  ixAt (lw_get (by omega)) (by omega)
theorem lw_set (R : List (List Int)) (i : Nat) (l : List Int) : (lw R).set i (.list (li l)) = lw (R.set i l) := by
  unfold lw
  rw [List.map_set]
theorem li_take (l : List Int) (k : Nat) : (li l).take k = li (l.take k) := by unfold li; rw [List.map_take]
theorem li_drop (l : List Int) (k : Nat) : (li l).drop k = li (l.drop k) := by unfold li; rw [List.map_drop]
theorem free_ok (a b : List Int) (ha : Red a) (hb : Red b) (hl : (red (a ++ b)).length ≤ 16777216) (hla : a.length ≤ 16777216) (hlb : b.length ≤ 16777216) : f__law_free [.list (li a), .list (li b)] = some (.ow (li (red (a ++ b))), []) := by
  obtain ⟨m, hm⟩ : ∃ m : Nat, m = min a.length b.length := ⟨_, rfl⟩
  have mi : (if (b.length : Int) < (a.length : Int) then (b.length : Int) else (a.length : Int)) = (m : Int) := by
    split <;> omega
  have lim1 : (m : Int) < 4611686018427387904 := by omega
  have key : ∃ g : Nat, runFor (gNm 3) l__law_free_1 [3] (rngD 0 m) [.bw (li a), .bw (li b), .fz (.int 0), .no] = some (.nx [.bw (li a), .bw (li b), .fz (.int (g : Int)), .no]) ∧ g ≤ m ∧
      (∀ i, i < g → a.getD (a.length - 1 - i) 0 = -b.getD i 0) ∧ (g = a.length ∨ g = b.length ∨ a.getD (a.length - 1 - g) 0 ≠ -b.getD g 0) := by
    have go : ∀ (j k : Nat), k + j = m → (∀ i, i < k → a.getD (a.length - 1 - i) 0 = -b.getD i 0) → ∃ g : Nat, runFor (gNm 3) l__law_free_1 [3] (rngD (k : Int) j) [.bw (li a), .bw (li b), .fz (.int (k : Int)), .no] = some (.nx [.bw (li a), .bw (li b), .fz (.int (g : Int)), .no]) ∧ g ≤ m ∧
      (∀ i, i < g → a.getD (a.length - 1 - i) 0 = -b.getD i 0) ∧ (g = a.length ∨ g = b.length ∨ a.getD (a.length - 1 - g) 0 ≠ -b.getD g 0) := by
      intro j
      induction j with
      | zero =>
        intro k hk h
        exact ⟨k, rfl, by omega, h, by omega⟩
      | succ j ih =>
        intro k hk h
        have e1 : gt a ((a.length : Int) - 1 - (k : Int)) = a.getD (a.length - 1 - k) 0 := by
          unfold gt
          congr 1
          omega
        have e2 : gt b (k : Int) = b.getD k 0 := gt_nat b k
        have er : rngD (k : Int) (j + 1) = .int (k : Int) :: rngD ((k : Int) + 1) j := by
          unfold rngD
          rw [List.range_succ_eq_map]
          simp
          intro x _
          omega
        rw [er]
        generalize hX : a.getD (a.length - 1 - k) 0 = X at e1
        generalize hY : b.getD k 0 = Y at e2
        by_cases c : a.getD (a.length - 1 - k) 0 = -b.getD k 0
        · have t : turn (gNm 3) l__law_free_1 [3] (.int (k : Int)) [.bw (li a), .bw (li b), .fz (.int (k : Int)), .no] = some (.go [.bw (li a), .bw (li b), .fz (.int ((k + 1 : Nat) : Int)), .no]) := by
            rw [hX, hY] at c
            simp (disch := omega) [turn, l__law_free_1, e1, e2, c]
          rw [for_go t]
          obtain ⟨g, r, q⟩ := ih (k + 1) (by omega) fun i hi => by
            by_cases z : i = k
            · subst z; exact c
            · exact h i (by omega)
          refine ⟨g, ?_, q⟩
          rw [show (k : Int) + 1 = ((k + 1 : Nat) : Int) by omega]
          exact r
        · have t : turn (gNm 3) l__law_free_1 [3] (.int (k : Int)) [.bw (li a), .bw (li b), .fz (.int (k : Int)), .no] = some (.end (.nx [.bw (li a), .bw (li b), .fz (.int (k : Int)), .no])) := by
            rw [hX, hY] at c
            simp (disch := omega) [turn, l__law_free_1, e1, e2, c]
          exact ⟨k, for_end t, by omega, h, .inr (.inr c)⟩
    exact go m 0 (by omega) fun i hi => absurd hi (Nat.not_lt_zero _)
  obtain ⟨g, r, g1, g2, g3⟩ := key
  have fr := FW.free_red a b ha hb g (by omega) (by omega) g2 g3
  have c1 : cutD (li a) none (some ((a.length : Int) - (g : Int))) = li (a.take (a.length - g)) := by
    rw [cut_to _ (by omega) (by rw [li_len]; omega), li_take]
    congr 2
    omega
  have c2 : cutD (li b) (some (g : Int)) none = li (b.drop g) := by
    rw [cut_from _ (by omega) (by rw [li_len]; omega), li_drop, Int.toNat_natCast]
  have mn : minD (.int (a.length : Int)) (.int (b.length : Int)) = some (.fz (.int (m : Int))) := by rw [minD_1, mi]
  have ad : addD (.list (li (a.take (a.length - g)))) (.list (li (b.drop g))) = some (.ow (li (a.take (a.length - g) ++ b.drop g))) := by
    rw [addD_2, if_pos (by rw [← fr, List.length_append] at hl; unfold limit; rw [li_len, li_len]; exact hl), li_app]
  rw [← fr]
  simp (disch := omega) [f__law_free, q_fn, b__law_free, mn, r, c1, c2, ad]
theorem inv_lc (e : J.Env) (l : List Int) (m : M RV) (h : ∀ x : Int, turnL (gNm 7) tYes m [7] (.int x) e = some (some (.int (0 - x)), e)) : runLc (gNm 7) tYes m [7] (li l.reverse) e = some (li (FW.inv l), e) := by
  rw [lc_li (f := fun x => .int (0 - x)) fun x _ => h x]
  congr 2
  unfold FW.inv li
  rw [List.map_map]
  apply List.map_congr_left
  intro x _
  show PyData.int (0 - x) = PyData.int (-x)
  rw [Int.zero_sub]
theorem set2 (R : List (List Int)) (i : Nat) (u v : List Int) (h : i + 1 < R.length) : (R.set i u).set (i + 1) v = R.take i ++ ([u, v] ++ R.drop (i + 2)) := by
  obtain ⟨p, a, b, q, e, pl, _, _, e1, e2⟩ := FW.split2 R i h
  rw [e1, e2]
  subst e
  rw [← pl]
  simp
theorem im_turn (a b : Sl) (R : List (List Int)) (x : Int) (h : x ≠ 0 ∧ x.natAbs < R.length) (hR : All Red R) {C : Nat} (hC : All (Le C) R) (hC' : All (Le C) (mv1 R x)) (h3 : C ≤ 8388608) :
    turn (gNm 3) l__law_images_2 [3, 4, 5, 6, 7] (.int x) [a, b, .ow (lw R), .no, .no, .no, .no, .no] = some (.go [a, b, .ow (lw (mv1 R x)), .no, .no, .no, .no, .no]) := by
  obtain ⟨k, hk⟩ : ∃ k : Nat, k = FW.ix x := ⟨_, rfl⟩
  have hk1 : k + 1 < R.length := by rw [hk]; exact FW.ix_ok h
  have hat : (x.natAbs : Int) - 1 = (k : Int) := by rw [hk]; unfold FW.ix; omega
  have g1 := lw_ix (R := R) (i := (k : Int)) (by omega) (by omega)
  have g2 := lw_ix (R := R) (i := (k : Int) + 1) (by omega) (by omega)
  rw [show ((k : Int)).toNat = k by omega] at g1
  rw [show ((k : Int) + 1).toNat = k + 1 by omega] at g2
  have mem : ∀ i, i < R.length → R.getD i [] ∈ R := fun i hi => by
    rw [List.getD_eq_getElem?_getD, List.getElem?_eq_getElem hi]; exact List.getElem_mem hi
  have ra := hR _ (mem k (by omega))
  have rb := hR _ (mem (k + 1) hk1)
  have la := hC _ (mem k (by omega))
  have lb := hC _ (mem (k + 1) hk1)
  have ra' : Red (FW.inv (R.getD k [])) := by
    have := FW.rd_rev (FW.red_rd' ra)
    refine FW.rd_red ?_
    exact FW.rd_neg this
  have rb' : Red (FW.inv (R.getD (k + 1) [])) := by
    have := FW.rd_rev (FW.red_rd' rb)
    refine FW.rd_red ?_
    exact FW.rd_neg this
  have em : mv1 R x = R.take k ++ (FW.stepR (R.getD k []) (R.getD (k + 1) []) x ++ R.drop (k + 2)) := by rw [hk]; rfl
  have sl : ∀ (k : Nat) (l : List Int), (lw R).set k (.list (li l)) = lw (R.set k l) := lw_set R
  unfold FW.Le at la lb
  generalize R.getD k [] = A at *
  generalize R.getD (k + 1) [] = B at *
  have le1 := (FW.red_len (A ++ B)).1
  have le2 := (FW.red_len (FW.inv B ++ A)).1
  rw [List.length_append] at le1 le2
  rw [FW.inv_len] at le2
  have f1 := free_ok A B ra rb (by omega) (by omega) (by omega)
  have f3 := free_ok (FW.inv B) A rb' ra (by omega) (by rw [FW.inv_len]; omega) (by omega)
  have q1 : red (red (A ++ B) ++ FW.inv A) = red (A ++ B ++ FW.inv A) := FW.Eqv.red ((FW.eqv_red _).app (FW.Eqv.refl _))
  have q2 : red (red (FW.inv B ++ A) ++ B) = red (FW.inv B ++ A ++ B) := FW.Eqv.red ((FW.eqv_red _).app (FW.Eqv.refl _))
  have big : ∀ U ∈ FW.stepR A B x, U.length ≤ 8388608 := fun U hU => by
    have := hC' U (by rw [em]; exact List.mem_append_right _ (List.mem_append_left _ hU))
    unfold FW.Le at this
    omega
  have i1 := fun e h => inv_lc e A l__law_images_3 h
  have i2 := fun e h => inv_lc e B l__law_images_4 h
  have limA : A.length ≤ limit := by unfold limit; omega
  have limB : B.length ≤ limit := by unfold limit; omega
  have hL : ((k : Int) + 1) < ((lw R).length : Int) := by rw [lw_len]; omega
  have hs := set2 R k
  by_cases c : 0 < x
  · have e1 : FW.stepR A B x = [red (A ++ B ++ FW.inv A), A] := if_pos c
    have f2 := free_ok (red (A ++ B)) (FW.inv A) (FW.red_is _) ra' (by rw [q1]; have := big _ (by rw [e1]; exact List.mem_cons_self ..); omega) (by omega) (by rw [FW.inv_len]; omega)
    rw [q1] at f2
    rw [e1] at em
    have e2 := hs (red (A ++ B ++ FW.inv A)) A hk1
    rw [← em] at e2
    have s1 := lw_set R k (red (A ++ B ++ FW.inv A))
    have s2 := lw_set (R.set k (red (A ++ B ++ FW.inv A))) (k + 1) A
    rw [e2] at s2
    have i1' := i1 [a, b, .ow (lw R), .fz (.int x), .fz (.int (k : Int)), .fz (.list (li A)), .fz (.list (li B)), .no] fun z => by
      generalize lw R = ds
      simp (disch := omega) [turnL, l__law_images_3]
    generalize red (A ++ B ++ FW.inv A) = U at *
    generalize lw (mv1 R x) = ds3 at *
    have lR := lw_len R
    have lR2 := lw_len (R.set k U)
    rw [List.length_set] at lR2
    generalize lw (R.set k U) = ds2 at *
    generalize lw R = ds at *
    have n1 : ixN ds.length (k : Int) = some k := by rw [ixN_nn (by omega) (by omega)]; rw [Int.toNat_natCast]
    have n2 : ixN ds2.length ((k : Int) + 1) = some (k + 1) := by rw [ixN_nn (by omega) (by omega)]; congr 1
    simp (disch := omega) [turn, l__law_images_2, hat, limA, g1, g2, c, f1, f2, i1', s1, s2, n1, n2]
  · have e1 : FW.stepR A B x = [B, red (FW.inv B ++ A ++ B)] := if_neg c
    have f4 := free_ok (red (FW.inv B ++ A)) B (FW.red_is _) rb (by rw [q2]; have := big _ (by rw [e1]; exact List.mem_cons_of_mem _ (List.mem_cons_self ..)); omega) (by omega) (by omega)
    rw [q2] at f4
    rw [e1] at em
    have e2 := hs B (red (FW.inv B ++ A ++ B)) hk1
    rw [← em] at e2
    have s1 := lw_set R k B
    have s2 := lw_set (R.set k B) (k + 1) (red (FW.inv B ++ A ++ B))
    rw [e2] at s2
    have i2' := fun (r : List D) => i2 [a, b, .ow r, .fz (.int x), .fz (.int (k : Int)), .fz (.list (li A)), .fz (.list (li B)), .no] fun z => by
      simp (disch := omega) [turnL, l__law_images_4]
    generalize red (FW.inv B ++ A ++ B) = U at *
    generalize lw (mv1 R x) = ds3 at *
    have lR := lw_len R
    have lR2 := lw_len (R.set k B)
    rw [List.length_set] at lR2
    generalize lw (R.set k B) = ds2 at *
    generalize lw R = ds at *
    have n1 : ixN ds.length (k : Int) = some k := by rw [ixN_nn (by omega) (by omega)]; rw [Int.toNat_natCast]
    have n2 : ixN ds2.length ((k : Int) + 1) = some (k + 1) := by rw [ixN_nn (by omega) (by omega)]; congr 1
    simp (disch := omega) [turn, l__law_images_2, hat, limB, g1, g2, c, f3, f4, i2', s1, s2, n1, n2]
theorem im_loop (a b : Sl) (n : Nat) {C : Nat} (h3 : C ≤ 8388608) : ∀ (w u : List Int), FW.Fits n (u ++ w) → (∀ p q, u ++ w = p ++ q → Bd n p C) →
    runFor (gNm 3) l__law_images_2 [3, 4, 5, 6, 7] (li w) [a, b, .ow (lw (rows u (FW.start n))), .no, .no, .no, .no, .no] = some (.nx [a, b, .ow (lw (rows (u ++ w) (FW.start n))), .no, .no, .no, .no, .no])
  | [], u, _, _ => by rw [List.append_nil]; rfl
  | x :: w, u, hf, hb => by
    have fu : FW.Fits n u := hf.left
    have fu' : FW.Fits (FW.start n).length u := by rw [FW.start_len]; exact fu
    have hx := hf x (by simp)
    have hl : (rows u (FW.start n)).length = n := by rw [FW.rows_len u _ fu', FW.start_len]
    have fux : FW.Fits n (u ++ [x]) := fun y hy => hf y (by
      rcases List.mem_append.mp hy with z | z
      · exact List.mem_append_left _ z
      · cases List.mem_singleton.mp z; simp)
    have hnx : All (Le C) (mv1 (rows u (FW.start n)) x) := by
      have := (hb (u ++ [x]) w (by simp)).is fux
      rw [FW.rows_app] at this
      exact this
    have t := im_turn a b (rows u (FW.start n)) x (by rw [hl]; exact hx) (FW.red_rows u fu' (FW.start_red n)) ((hb u (x :: w) rfl).is fu) hnx h3
    have e : mv1 (rows u (FW.start n)) x = rows (u ++ [x]) (FW.start n) := by rw [FW.rows_app]; rfl
    rw [e] at t
    show runFor (gNm 3) l__law_images_2 [3, 4, 5, 6, 7] (.int x :: li w) _ = _
    have ap : u ++ x :: w = u ++ [x] ++ w := by simp
    rw [for_go t, ap]
    exact im_loop a b n h3 w (u ++ [x]) (by rw [← ap]; exact hf) (by rw [← ap]; exact hb)
theorem images_ok {n : Nat} (hn : n < 1000) {C : Nat} (h3 : C ≤ 8388608) (w : List Int) (hf : FW.Fits n w) (hb : ∀ p q, w = p ++ q → Bd n p C) : f__law_images [.int n, .list (li w)] = some (.ow (lw (rows w (FW.start n))), []) := by
  have lp := im_loop (.fz (.int n)) (.bw (li w)) n h3 w [] (by simpa using hf) (by simpa using hb)
  have hc := lc_rng (g := gNm 7) (t := tYes) (a := l__law_images_1) (er := [7]) (env := [.fz (.int n), .bw (li w), .no, .no, .no, .no, .no, .no]) (f := fun k => .list (li [k])) n 1 fun k _ _ => by
    simp (disch := omega) [turnL, l__law_images_1, li]
  have e : ((List.range n).map fun (i : Nat) => PyData.list (li [1 + (i : Int)])) = lw (rows [] (FW.start n)) := by
    show _ = lw (FW.start n)
    unfold lw FW.start
    rw [List.map_map]
    apply List.map_congr_left
    intro k _
    show PyData.list (li [1 + (k : Int)]) = .list (li [(k : Int) + 1])
    rw [Int.add_comm]
  rw [e] at hc
  rw [List.nil_append] at lp
  have lm : n ≤ limit := by unfold limit; omega
  generalize lw (rows [] (FW.start n)) = ds0 at *
  generalize lw (rows w (FW.start n)) = ds1 at *
  simp (disch := omega) [f__law_images, q_fn, b__law_images, hc, lm, lp]
end K12
namespace K12
open PySem J
open GA (P one inv St Fi Add Wt dl C WtL hs tw)
variable {n : Nat}
/-! ### the transducer -/
theorem front_ok (hn : n < 100) (h1 : 1 ≤ n) (a b : P n) : f_front_step [pd a, pd b] = some (.fz (.tuple [pd (GA.hd a b), pd (GA.rs a b)]), []) := by
  have s := slide_ok hn h1 a b
  simp (disch := omega) [f_front_step, q_fn, b_front_step, s]
theorem twistedI (hn : n < 1000) (p : P n) (pw : Int) : f__twisted [pd p, .int pw] = some (.fz (pd (tw pw.natAbs p)), []) := by
  have t := twist_ok hn p
  have fm : pw.fmod 2 = pw % 2 := Int.fmod_eq_emod_of_nonneg _ (by decide)
  by_cases c : pw.fmod 2 = 1
  · have e : tw pw.natAbs p = GA.tau p := if_pos (by omega)
    rw [e]
    simp (disch := omega) [f__twisted, q_fn, b__twisted, c, t]
  · have e : tw pw.natAbs p = p := if_neg (by omega)
    rw [e]
    simp (disch := omega) [f__twisted, q_fn, b__twisted, c]
theorem dl_ne_one (h : 1 < n) : (dl : P n) ≠ one := GA.dl_ne h
theorem tr_turn (hn : n < 1000) (h2 : 1 < n) (a b d : Sl) (ds : List D) (k : Nat) (p : P n) (g1 : ds[k]? = some (pd p)) :
    turnW t__trimmed_1 l__trimmed_1 [] [a, b, .bw ds, .fz (.int (k : Int)), d] = if toL p = toL (dl : P n) then some (.go [a, b, .bw ds, .fz (.int ((k : Int) + 1)), d]) else some (.end (.nx [a, b, .bw ds, .fz (.int (k : Int)), d])) := by
  have i1 := ixAt (i := (k : Int)) g1 rfl
  have t := turn_ok hn h2 p
  have hl : k < ds.length := (List.getElem?_eq_some_iff.mp g1).1
  by_cases c : toL p = toL (dl : P n)
  · rw [if_pos c]
    simp (disch := omega) [turnW, t__trimmed_1, l__trimmed_1, i1, t, hl, c]
  · rw [if_neg c]
    simp (disch := omega) [turnW, t__trimmed_1, l__trimmed_1, i1, t, hl, c]
theorem tr_end (a b d : Sl) (ds : List D) : turnW t__trimmed_1 l__trimmed_1 [] [a, b, .bw ds, .fz (.int (ds.length : Int)), d] = some (.end (.nx [a, b, .bw ds, .fz (.int (ds.length : Int)), d])) := by
  simp (disch := omega) [turnW, t__trimmed_1, l__trimmed_1]
/-- the leading half turns are counted -/
theorem tr_loop (hn : n < 1000) (h2 : 1 < n) (a b d : Sl) (X : List (P n)) (hX : X.head? ≠ some dl) : ∀ (c : Nat) (A : List (P n)) (fuel : Nat), c < fuel →
    runWhile t__trimmed_1 l__trimmed_1 [] fuel [a, b, .bw (pds (A ++ (List.replicate c dl ++ X))), .fz (.int (A.length : Int)), d] = some (.nx [a, b, .bw (pds (A ++ (List.replicate c dl ++ X))), .fz (.int ((A.length + c : Nat) : Int)), d])
  | c, A, 0, hf => by omega
  | 0, A, fuel + 1, hf => by
    rw [List.replicate_zero, List.nil_append, Nat.add_zero]
    cases X with
    | nil =>
      have t := tr_end a b d (pds (A ++ []))
      have e : A.length = (pds (A ++ [])).length := by simp [pds]
      rw [← e] at t
      exact while_end t
    | cons p X =>
      have g1 : (pds (A ++ p :: X))[A.length]? = some (pd p) := by rw [List.getElem?_map, List.getElem?_append_right (by omega), Nat.sub_self]; rfl
      have t := tr_turn hn h2 a b d _ _ p g1
      rw [if_neg fun z => hX (by rw [toL_inj z]; rfl)] at t
      exact while_end t
  | c + 1, A, fuel + 1, hf => by
    have ea : A ++ (List.replicate (c + 1) dl ++ X) = A ++ [dl] ++ (List.replicate c dl ++ X) := by rw [List.replicate_succ]; simp
    have g1 : (pds (A ++ (List.replicate (c + 1) dl ++ X)))[A.length]? = some (pd (dl : P n)) := by rw [List.getElem?_map, List.getElem?_append_right (by omega), Nat.sub_self]; rfl
    have t := tr_turn hn h2 a b d _ _ dl g1
    rw [if_pos rfl] at t
    rw [while_go t]
    have ih := tr_loop hn h2 a b d X hX c (A ++ [dl]) fuel (by omega)
    rw [← ea, List.length_append, List.length_singleton] at ih
    rw [show (A.length : Int) + 1 = ((A.length + 1 : Nat) : Int) by omega, ih, show A.length + 1 + c = A.length + (c + 1) by omega]
theorem tr2_go (hn : n < 1000) (a b : Sl) (ds : List D) (k e : Nat) (g1 : ds[e]? = some (pd (one : P n))) (hk : k ≤ e) :
    turnW t__trimmed_2 l__trimmed_2 [] [a, b, .bw ds, .fz (.int (k : Int)), .fz (.int ((e : Int) + 1))] = some (.go [a, b, .bw ds, .fz (.int (k : Int)), .fz (.int (e : Int))]) := by
  have i1 := ixAt (i := (e : Int)) g1 rfl
  have t := triv_ok hn (one : P n)
  have k1 : (k : Int) < (e : Int) + 1 := by omega
  simp (disch := omega) [turnW, t__trimmed_2, l__trimmed_2, i1, t, k1]
theorem tr2_stop (hn : n < 1000) (a b : Sl) (ds : List D) (k e : Nat) (p : P n) (g1 : ds[e]? = some (pd p)) (hp : p ≠ one) (hk : k ≤ e) :
    turnW t__trimmed_2 l__trimmed_2 [] [a, b, .bw ds, .fz (.int (k : Int)), .fz (.int ((e : Int) + 1))] = some (.end (.nx [a, b, .bw ds, .fz (.int (k : Int)), .fz (.int ((e : Int) + 1))])) := by
  have i1 := ixAt (i := (e : Int)) g1 rfl
  have t := triv_ok hn p
  have c : ¬ toL p = toL (one : P n) := fun z => hp (toL_inj z)
  have k1 : (k : Int) < (e : Int) + 1 := by omega
  simp (disch := omega) [turnW, t__trimmed_2, l__trimmed_2, i1, t, c, k1]
theorem tr2_end (a b : Sl) (ds : List D) (k : Int) : turnW t__trimmed_2 l__trimmed_2 [] [a, b, .bw ds, .fz (.int k), .fz (.int k)] = some (.end (.nx [a, b, .bw ds, .fz (.int k), .fz (.int k)])) := by
  simp (disch := omega) [turnW, t__trimmed_2, l__trimmed_2]
/-- the identities at the end are left out -/
theorem tr2_loop (hn : n < 1000) (a b : Sl) (A R B : List (P n)) (hR : R.getLast? ≠ some one) : ∀ (t fuel : Nat) (B : List (P n)), t < fuel →
    runWhile t__trimmed_2 l__trimmed_2 [] fuel [a, b, .bw (pds (A ++ (R ++ (List.replicate t one ++ B)))), .fz (.int (A.length : Int)), .fz (.int ((A.length + R.length + t : Nat) : Int))] = some (.nx [a, b, .bw (pds (A ++ (R ++ (List.replicate t one ++ B)))), .fz (.int (A.length : Int)), .fz (.int ((A.length + R.length : Nat) : Int))])
  | t, 0, B, hf => by omega
  | 0, fuel + 1, B, hf => by
    rw [List.replicate_zero, List.nil_append, Nat.add_zero]
    by_cases z : R = []
    · subst z
      rw [List.length_nil, Nat.add_zero]
      exact while_end (tr2_end _ _ _ _)
    · obtain ⟨R', x, rfl⟩ : ∃ u' x, R = u' ++ [x] := ⟨_, _, (List.dropLast_concat_getLast z).symm⟩
      have hx : x ≠ one := fun q => hR (by rw [q]; simp)
      have g1 : (pds (A ++ (R' ++ [x] ++ B)))[A.length + R'.length]? = some (pd x) := by
        rw [List.getElem?_map, List.getElem?_append_right (by omega), List.append_assoc, List.getElem?_append_right (by omega)]
        rw [show A.length + R'.length - A.length - R'.length = 0 by omega]
        rfl
      have t := tr2_stop hn a b _ A.length _ x g1 hx (by omega)
      rw [List.length_append, List.length_singleton, show ((A.length + (R'.length + 1) : Nat) : Int) = ((A.length + R'.length : Nat) : Int) + 1 by omega]
      exact while_end t
  | t + 1, fuel + 1, B, hf => by
    have e1 : List.replicate (t + 1) (one : P n) ++ B = List.replicate t one ++ (one :: B) := by rw [List.replicate_succ', List.append_assoc]; rfl
    rw [e1]
    have g1 : (pds (A ++ (R ++ (List.replicate t one ++ one :: B))))[A.length + R.length + t]? = some (pd (one : P n)) := by
      rw [List.getElem?_map, List.getElem?_append_right (by omega), List.getElem?_append_right (by omega), List.getElem?_append_right (by rw [List.length_replicate]; omega)]
      rw [List.length_replicate, show A.length + R.length + t - A.length - R.length - t = 0 by omega]
      rfl
    have tt := tr2_go hn a b _ A.length _ g1 (by omega)
    rw [show ((A.length + R.length + (t + 1) : Nat) : Int) = ((A.length + R.length + t : Nat) : Int) + 1 by omega, while_go tt]
    exact tr2_loop hn a b A R B hR t fuel (one :: B) (by omega)
theorem trim_ok (hn : n < 1000) (h2 : 1 < n) (pw : Int) (hpw : pw.natAbs < 100000) (c t : Nat) (R : List (P n)) (hl : c + R.length + t < 100000) (hg : Gd R) :
    f__trimmed [.int n, .int pw, .list (pds (List.replicate c dl ++ (R ++ List.replicate t one)))] = some (.fz (form (pw + c) R), []) := by
  have hX : (R ++ List.replicate t one).head? ≠ some dl := by
    cases R with
    | nil =>
      cases t with
      | zero => simp
      | succ t => intro z; rw [List.replicate_succ] at z; exact dl_ne_one h2 (Option.some.inj z).symm
    | cons p R => intro z; exact (hg p (List.mem_cons_self ..)).2 (Option.some.inj z)
  have hY : R.getLast? ≠ some one := fun z => (hg one (List.mem_of_getLast? z)).1 rfl
  have w1 := tr_loop hn h2 (.fz (.int n)) (.fz (.int pw)) .no (R ++ List.replicate t one) hX c [] w__trimmed_1 (by unfold w__trimmed_1; omega)
  have w2 := tr2_loop hn (.fz (.int n)) (.fz (.int pw)) (List.replicate c dl) R [] hY t w__trimmed_2 [] (by unfold w__trimmed_2; omega)
  rw [List.append_nil, List.length_replicate] at w2
  rw [List.nil_append, List.length_nil, Nat.zero_add] at w1
  have lp : (pds (List.replicate c dl ++ (R ++ List.replicate t one))).length = c + R.length + t := by simp [pds]; omega
  have cut : cutD (pds (List.replicate c dl ++ (R ++ List.replicate t one))) (some (c : Int)) (some ((c + R.length : Nat) : Int)) = pds R := by
    rw [cut_nn _ (by omega) (by omega) (by rw [lp]; omega), show ((c : Int)).toNat = c by omega, show (((c + R.length : Nat) : Int) - (c : Int)).toNat = R.length by omega]
    simp [pds]
  have n1 : ¬ ((n : Int) = 1) := by omega
  have c1 : ¬ (n = 1) := by omega
  show _ = some (Rt.fz (.tuple [.int (pw + c), .tuple (pds R)]), [])
  generalize pds (List.replicate c dl ++ (R ++ List.replicate t one)) = ds at *
  generalize pds R = ds2 at *
  rw [← lp] at w2
  have n3 : ((0 : Nat) : Int) = 0 := rfl
  rw [n3] at w1
  have lpi : ds.length < 100000 := by omega
  generalize hz : ((c + R.length : Nat) : Int) = z at *
  simp (disch := omega) [f__trimmed, q_fn, b__trimmed, w1, w2, cut, n1, c1]
theorem trim_one (pw : Int) (ds : List D) : f__trimmed [.int 1, .int pw, .list ds] = some (.fz (.tuple [.int 0, .tuple []]), []) := by
  simp (disch := omega) [f__trimmed, q_fn, b__trimmed]
theorem pf_loop (hn : n < 100) (h1 : 1 ≤ n) (a b c d e : Sl) : ∀ (R : List (P n)) (p : P n) (A : List (P n)), A.length + R.length < 100000 →
    ∃ (B : List (P n)) (q : P n), hs p R = B ++ [q] ∧ runFor (gNm 7) l_put_in_front_1 [7, 8] (pds R) [a, b, c, d, e, .fz (pd p), .ow (pds A), .no, .no] = some (.nx [a, b, c, d, e, .fz (pd q), .ow (pds (A ++ B)), .no, .no])
  | [], p, A, _ => ⟨[], p, rfl, by rw [List.append_nil]; rfl⟩
  | f :: R, p, A, hl => by
    have s := front_ok hn h1 p f
    have hA : (pds A).length < limit := by rw [List.length_map]; unfold limit; rw [List.length_cons] at hl; omega
    have t : turn (gNm 7) l_put_in_front_1 [7, 8] (pd f) [a, b, c, d, e, .fz (pd p), .ow (pds A), .no, .no] = some (.go [a, b, c, d, e, .fz (pd (GA.rs p f)), .ow (pds (A ++ [GA.hd p f])), .no, .no]) := by
      have ep : pds (A ++ [GA.hd p f]) = pds A ++ [pd (GA.hd p f)] := by simp [pds]
      rw [ep]
      generalize pds A = ds at *
      simp (disch := omega) [turn, l_put_in_front_1, s, kApp3_1, hA]
    obtain ⟨B, q, e1, r⟩ := pf_loop hn h1 a b c d e R (GA.rs p f) (A ++ [GA.hd p f]) (by rw [List.length_append, List.length_singleton]; rw [List.length_cons] at hl; omega)
    refine ⟨GA.hd p f :: B, q, by rw [GA.hs_cons, e1]; rfl, ?_⟩
    show runFor (gNm 7) l_put_in_front_1 [7, 8] (pd f :: pds R) _ = _
    rw [for_go t, r, List.append_assoc]
    rfl
theorem put_ok (hn : n < 100) (h1 : 1 ≤ n) (p : P n) (pw : Int) (R : List (P n)) (hl : R.length < 90000) (d : D) (ht : f__trimmed [.int n, .int pw, .list (pds (hs (tw pw.natAbs p) R))] = some (.fz d, [])) : f_put_in_front [.int n, pd p, form pw R] = some (.fz d, []) := by
  have tw := twistedI (show n < 1000 by omega) p pw
  obtain ⟨B, q, e1, r⟩ := pf_loop hn h1 (.fz (.int n)) (.fz (pd p)) (.fz (form pw R)) (.fz (.int pw)) (.fz (.tuple (pds R))) R (GA.tw pw.natAbs p) [] (by simp; omega)
  rw [e1] at ht
  have hB : B.length < 90001 := by
    have := congrArg List.length e1
    rw [GA.hs_len, List.length_append, List.length_singleton] at this
    omega
  have ep : pds (B ++ [q]) = pds B ++ [pd q] := by simp [pds]
  rw [ep] at ht
  rw [List.nil_append] at r
  have hA : (pds B).length < limit := by rw [List.length_map]; unfold limit; omega
  show f_put_in_front [.int n, pd p, .tuple [.int pw, .tuple (pds R)]] = _
  have e0 : pds ([] : List (P n)) = [] := rfl
  rw [e0] at r
  generalize pds B = ds at *
  have r' : runFor (gNm 7) l_put_in_front_1 [7, 8] (pds R) [.fz (.int n), .fz (pd p), .fz (.tuple [.int pw, .tuple (pds R)]), .fz (.int pw), .fz (.tuple (pds R)), .fz (pd (GA.tw pw.natAbs p)), .ow [], .no, .no] = _ := r
  clear r
  generalize pds R = ds2 at *
  simp (disch := omega) [f_put_in_front, q_fn, b_put_in_front, tw, r', kApp3_1, hA, ht]
end K12
namespace K12
open PySem J
open GA (P one inv St Fi Add Wt dl C WtL hs tw le I)
variable {n : Nat}
/-! ### the law's look at a step -/
def Told2 (p r : P n) (q : List Int) (j : Nat) : Prop := q.length = n ∧ ∀ k : Nat, k < j → gt q (p.f k : Nat) = ((r.f k : Nat) : Int) + 1
theorem told2_step {p r : P n} {q : List Int} {j : Nat} (hj : j < n) (h : Told2 p r q j) : Told2 p r (q.set (p.f j) (((r.f j : Nat) : Int) + 1)) (j + 1) := by
  refine ⟨by rw [List.length_set]; exact h.1, fun k hk => ?_⟩
  rw [set_gt _ (by rw [h.1]; exact p.lt hj)]
  by_cases c : k = j
  · subst c; rw [if_pos rfl]
  · rw [if_neg (fun z => c (p.inj z))]; exact h.2 k (by omega)
theorem told2_is {p r : P n} {q : List Int} (h : Told2 p r q n) : q = toL (inv p * r) := toL_ext h.1 fun k hk => by
  have := h.2 (p.g k) (p.glt hk)
  rw [p.fg] at this
  exact this
theorem law_rest_ok (hn : n < 1000) (p r : P n) : f__law_rest [pd p, pd r] = some (.fz (pd (inv p * r)), []) := by
  have rp := rep_len [0] n
  rw [List.length_singleton, Nat.mul_one] at rp
  have re : (List.replicate n [(0 : Int)]).flatten = List.replicate n 0 := by simp
  obtain ⟨e, h, _, q, rfl, ht⟩ := for_rng (g := gNm 3) (body := l__law_rest_1) (er := [3]) (fun (j : Int) env => 0 ≤ j ∧ ∃ q, env = [.fz (pd p), .fz (pd r), .ow (li q), .no] ∧ Told2 p r q j.toNat) n 0 [.fz (pd p), .fz (pd r), .ow (li (List.replicate n 0)), .no] ⟨by omega, _, rfl, by rw [List.length_replicate], fun k hk => by omega⟩ fun k env k0 k1 ⟨_, q, he, ht⟩ => by
    subst he
    have ql := ht.1
    have g := toL_gt p k0 (by omega)
    have g2 := toL_gt r k0 (by omega)
    have pl := p.lt (x := k.toNat) (by omega)
    have st := told2_step (j := k.toNat) (by omega) ht
    rw [show k.toNat + 1 = (k + 1).toNat by omega] at st
    refine ⟨[.fz (pd p), .fz (pd r), .ow (li (q.set (p.f k.toNat) (((r.f k.toNat : Nat) : Int) + 1))), .no], ?_, by omega, _, rfl, st⟩
    simp (disch := (try simp only [toL_len]); omega) [turn, l__law_rest_1, g, g2]
  rw [show (0 + (n : Int)).toNat = n by omega] at ht
  have := told2_is ht
  subst this
  have z0 : [PyData.int 0] = li [0] := rfl
  have lm := lim hn
  simp (disch := (try simp only [List.length_singleton]); omega) [f__law_rest, q_fn, b__law_rest, z0, h, lm, re]
theorem law_div_ok (hn : n < 1000) (p r : P n) (hl : le p r) : f__law_divides [pd p, pd r] = some (.fz (.bool true), []) := by
  have inner : ∀ k : Nat, k < n → runFor (gNm 3) l__law_divides_2 [3] (rngD 0 k) [.fz (pd p), .fz (pd r), .fz (.int k), .no] = some (.nx [.fz (pd p), .fz (pd r), .fz (.int k), .no]) := fun k hk => by
    obtain ⟨e, h, _, he⟩ := for_rng (g := gNm 3) (body := l__law_divides_2) (er := [3]) (fun (j : Int) env => 0 ≤ j ∧ env = [.fz (pd p), .fz (pd r), .fz (.int k), .no]) k 0 [.fz (pd p), .fz (pd r), .fz (.int k), .no] ⟨by omega, rfl⟩ fun j env j0 j1 ⟨_, he⟩ => by
      subst he
      have g1 := toL_gt p j0 (by omega)
      have g2 := toL_nat p hk
      have g3 := toL_gt r j0 (by omega)
      have g4 := toL_nat r hk
      refine ⟨[.fz (pd p), .fz (pd r), .fz (.int k), .no], ?_, by omega, rfl⟩
      have no : p.f k < p.f j.toNat → ¬ r.f j.toNat < r.f k := fun z w => by
        have := (hl j.toNat k ⟨by omega, z⟩).2
        omega
      by_cases c : p.f k < p.f j.toNat
      · have no' := no c
        simp (disch := (try simp only [toL_len]); omega) [turn, l__law_divides_2, g1, g2, g3, g4, c, no']
      · simp (disch := (try simp only [toL_len]); omega) [turn, l__law_divides_2, g1, g2, g3, g4, c]
    rw [he] at h
    exact h
  obtain ⟨e, h, _, he⟩ := for_rng (g := gNm 2) (body := l__law_divides_1) (er := [2, 3]) (fun (j : Int) env => 0 ≤ j ∧ env = [.fz (pd p), .fz (pd r), .no, .no]) n 0 [.fz (pd p), .fz (pd r), .no, .no] ⟨by omega, rfl⟩ fun k env k0 k1 ⟨_, he⟩ => by
    subst he
    have i := inner k.toNat (by omega)
    rw [show ((k.toNat : Nat) : Int) = k by omega] at i
    refine ⟨_, ?_, by omega, rfl⟩
    simp (disch := omega) [turn, l__law_divides_1, i]
  subst he
  have lm := lim hn
  simp (disch := omega) [f__law_divides, q_fn, b__law_divides, h, lm]
theorem fin_loop (a b c d e f g : Sl) (A : List Int) : ∀ B : List Int, (∀ x ∈ B, x ∈ A) → runFor (gNm 8) l__law_step_holds_1 [8] (li B) [a, b, c, d, e, f, g, .fz (.list (li A)), .no] = some (.nx [a, b, c, d, e, f, g, .fz (.list (li A)), .no])
  | [], _ => rfl
  | x :: B, h => by
    have hx := h x (List.mem_cons_self ..)
    have t : turn (gNm 8) l__law_step_holds_1 [8] (.int x) [a, b, c, d, e, f, g, .fz (.list (li A)), .no] = some (.go [a, b, c, d, e, f, g, .fz (.list (li A)), .no]) := by
      simp (disch := omega) [turn, l__law_step_holds_1, hx]
    show runFor (gNm 8) l__law_step_holds_1 [8] (.int x :: li B) _ = _
    rw [for_go t]
    exact fin_loop a b c d e f g A B fun y hy => h y (List.mem_cons_of_mem _ hy)
theorem step_ok (hn : n < 1000) (h1 : 1 ≤ n) (a b : P n) : f__law_step_holds [.int n, pd a, pd b, .tuple [pd (GA.hd a b), pd (GA.rs a b)]] = some (.fz (.bool true), []) := by
  have p1 := lperm_true hn (GA.hd a b)
  have p2 := lperm_true hn (GA.rs a b)
  have d1 := law_div_ok hn a (GA.hd a b) (GA.le_of_add (GA.add_mt a b))
  have r1 := law_rest_ok hn a (GA.hd a b)
  have e1 : inv a * GA.hd a b = GA.mt a b := GA.canc a _
  rw [e1] at r1
  have d2 := law_div_ok hn (GA.mt a b) b (GA.mt_LM a b).l
  have r2 := law_rest_ok hn (GA.mt a b) b
  have iv := law_inverse_ok hn (GA.hd a b)
  have s1 := law_starts_ok hn h1 (inv (GA.hd a b))
  have s2 := law_starts_ok hn h1 (GA.rs a b)
  have hw := GA.wt_hd a b
  have lp := fun c1 c2 c3 c4 c5 c6 c7 => fin_loop c1 c2 c3 c4 c5 c6 c7 (sts (inv (GA.hd a b))) (sts (GA.rs a b)) fun x hx => by
    obtain ⟨x1, x2⟩ := sts_mem.mp hx
    exact sts_mem.mpr ⟨x1, hw _ x2⟩
  have r2' : f__law_rest [pd (GA.mt a b), pd b] = some (.fz (pd (GA.rs a b)), []) := r2
  simp (disch := omega) [f__law_step_holds, q_fn, b__law_step_holds, p1, p2, d1, r1, d2, r2', iv, s1, s2, lp, beqD]
theorem lh_loop (hn : n < 100) (h1 : 1 ≤ n) (b c : Sl) : ∀ (R : List (P n)) (p : P n) (A : List (P n)), A.length + R.length < 100000 →
    ∃ (B : List (P n)) (q : P n), hs p R = B ++ [q] ∧ runFor (gNm 5) l__law_heads_2 [5, 6] (pds R) [.fz (.int n), b, c, .fz (pd p), .ow (pds A), .no, .no, .no] = some (.nx [.fz (.int n), b, c, .fz (pd q), .ow (pds (A ++ B)), .no, .no, .no])
  | [], p, A, _ => ⟨[], p, rfl, by rw [List.append_nil]; rfl⟩
  | f :: R, p, A, hl => by
    have s := front_ok hn h1 p f
    have so := step_ok (show n < 1000 by omega) h1 p f
    have hA : (pds A).length < limit := by rw [List.length_map]; unfold limit; rw [List.length_cons] at hl; omega
    have t : turn (gNm 5) l__law_heads_2 [5, 6] (pd f) [.fz (.int n), b, c, .fz (pd p), .ow (pds A), .no, .no, .no] = some (.go [.fz (.int n), b, c, .fz (pd (GA.rs p f)), .ow (pds (A ++ [GA.hd p f])), .no, .no, .no]) := by
      have ep : pds (A ++ [GA.hd p f]) = pds A ++ [pd (GA.hd p f)] := by simp [pds]
      rw [ep]
      have i0 : ixD (PyData.tuple [pd (GA.hd p f), pd (GA.rs p f)]) (.int 0) = some (.fz (pd (GA.hd p f))) := rfl
      have i1 : ixD (PyData.tuple [pd (GA.hd p f), pd (GA.rs p f)]) (.int 1) = some (.fz (pd (GA.rs p f))) := rfl
      generalize pds A = ds at *
      simp (disch := omega) [turn, l__law_heads_2, s, so, kApp3_1, hA, i0, i1]
    obtain ⟨B, q, e1, r⟩ := lh_loop hn h1 b c R (GA.rs p f) (A ++ [GA.hd p f]) (by rw [List.length_append, List.length_singleton]; rw [List.length_cons] at hl; omega)
    refine ⟨GA.hd p f :: B, q, by rw [GA.hs_cons, e1]; rfl, ?_⟩
    show runFor (gNm 5) l__law_heads_2 [5, 6] (pd f :: pds R) _ = _
    rw [for_go t, r, List.append_assoc]
    rfl
theorem tau_list (p : P n) : ((toL p).reverse.map fun x => (n : Int) + 1 - x) = toL (GA.tau p) := by
  refine toL_ext (by simp) fun k hk => ?_
  have e1 := map_gt (toL p).reverse (fun x => (n : Int) + 1 - x) (k := k) (by simp; exact hk)
  rw [e1]
  have e2 : gt (toL p).reverse (k : Int) = gt (toL p) ((n - 1 - k : Nat) : Int) := by
    rw [gt_nat, gt_nat, List.getD_eq_getElem?_getD, List.getD_eq_getElem?_getD, List.getElem?_reverse (by simp; exact hk), toL_len]
  rw [e2, toL_nat p (by omega)]
  show (n : Int) + 1 - (((p.f (n - 1 - k) : Nat) : Int) + 1) = ((GA.dlf n (p.f (GA.dlf n k)) : Nat) : Int) + 1
  have l := p.lt (x := n - 1 - k) (by omega)
  have d : GA.dlf n k = n - 1 - k := if_pos hk
  rw [d]
  have d2 : GA.dlf n (p.f (n - 1 - k)) = n - 1 - p.f (n - 1 - k) := if_pos l
  rw [d2]
  omega
theorem heads_ok (hn : n < 100) (h1 : 1 ≤ n) (p : P n) (pw : Int) (R : List (P n)) (hl : R.length < 90000) : f__law_heads [.int n, pd p, form pw R] = some (.ow (pds (hs (tw pw.natAbs p) R)), []) := by
  obtain ⟨B, q, e1, r⟩ := lh_loop hn h1 (.fz (pd p)) (.fz (form pw R)) R (GA.tw pw.natAbs p) [] (by simp; omega)
  rw [e1]
  have hB : B.length < 90001 := by
    have := congrArg List.length e1
    rw [GA.hs_len, List.length_append, List.length_singleton] at this
    omega
  have ep : pds (B ++ [q]) = pds B ++ [pd q] := by simp [pds]
  rw [ep]
  rw [List.nil_append] at r
  have hA : (pds B).length < limit := by rw [List.length_map]; unfold limit; omega
  show f__law_heads [.int n, pd p, .tuple [.int pw, .tuple (pds R)]] = _
  have e0 : pds ([] : List (P n)) = [] := rfl
  rw [e0] at r
  have fm : pw.fmod 2 = pw % 2 := Int.fmod_eq_emod_of_nonneg _ (by decide)
  have i0 : ixD (PyData.tuple [.int pw, .tuple (pds R)]) (.int 0) = some (.fz (.int pw)) := rfl
  have i1 : ixD (PyData.tuple [.int pw, .tuple (pds R)]) (.int 1) = some (.fz (.tuple (pds R))) := rfl
  have r' : runFor (gNm 5) l__law_heads_2 [5, 6] (pds R) [.fz (.int n), .fz (pd p), .fz (.tuple [.int pw, .tuple (pds R)]), .fz (pd (GA.tw pw.natAbs p)), .ow [], .no, .no, .no] = _ := r
  clear r
  generalize pds B = ds at *
  generalize pds R = ds2 at *
  by_cases c : pw.fmod 2 = 1
  · have e : tw pw.natAbs p = GA.tau p := if_pos (by omega)
    rw [e] at r'
    have hc' := lc_li (g := gNm 7) (t := tYes) (a := l__law_heads_1) (er := [7]) (env := [.fz (.int n), .fz (pd p), .fz (.tuple [.int pw, .tuple ds2]), .fz (pd p), .no, .no, .no, .no]) (f := fun x => .int ((n : Int) + 1 - x)) (l := (toL p).reverse) fun x _ => by
      simp (disch := omega) [turnL, l__law_heads_1]
    have em : ((toL p).reverse.map fun x => PyData.int ((n : Int) + 1 - x)) = li (toL (GA.tau p)) := by
      rw [← tau_list]
      unfold li
      rw [List.map_map]
      rfl
    rw [em] at hc'
    have lm := lim (show n < 1000 by omega)
    simp (disch := omega) [f__law_heads, q_fn, b__law_heads, i0, i1, c, hc', lm, r', kApp3_1, hA]
  · have e : tw pw.natAbs p = p := if_neg (by omega)
    rw [e] at r'
    simp (disch := omega) [f__law_heads, q_fn, b__law_heads, i0, i1, c, r', kApp3_1, hA]
end K12
namespace K12
open PySem J
open GA (P one inv St Fi Add Wt dl C WtL hs tw)
variable {n : Nat}
/-! ### heads and forms -/
theorem fh1 (hn : n < 1000) (h1 : 1 ≤ n) (b c : Sl) (X : List (P n)) (hX : X.head? ≠ some dl ∨ n = 1) : ∀ (k : Nat) (m : Int), (n = 1 → k = 0) →
    runFor (gNm 4) l__law_form_of_heads_1 [4] (pds (List.replicate k dl ++ X)) [.fz (.int n), b, c, .fz (.int m), .no, .no, .no, .no] = some (.nx [.fz (.int n), b, c, .fz (.int (m + k)), .no, .no, .no, .no])
  | 0, m, _ => by
    rw [List.replicate_zero, List.nil_append]
    have e : m + ((0 : Nat) : Int) = m := by omega
    rw [e]
    cases X with
    | nil => rfl
    | cons p X =>
      have st := law_starts_ok hn h1 p
      have t : turn (gNm 4) l__law_form_of_heads_1 [4] (pd p) [.fz (.int n), b, c, .fz (.int m), .no, .no, .no, .no] = some (.end (.nx [.fz (.int n), b, c, .fz (.int m), .no, .no, .no, .no])) := by
        by_cases z : n = 1
        · subst z
          simp (disch := omega) [turn, l__law_form_of_heads_1]
        · have zi : ¬ (n : Int) = 1 := by omega
          have nd : ¬ ((sts p).length : Int) = (n : Int) - 1 := fun q => by
            rcases sts_full.mp (show (sts p).length = n - 1 by omega) with w | w
            · rcases hX with h | h
              · exact h (by rw [w]; rfl)
              · exact z h
            · omega
          simp (disch := omega) [turn, l__law_form_of_heads_1, z, zi, st, nd]
      exact for_end t
  | k + 1, m, hz => by
    have z : ¬ n = 1 := fun q => by have := hz q; omega
    have zi : ¬ (n : Int) = 1 := by omega
    have st := law_starts_ok hn h1 (dl : P n)
    have nd : ((sts (dl : P n)).length : Int) = (n : Int) - 1 := by
      have := sts_full.mpr (.inl rfl : (dl : P n) = dl ∨ n = 0)
      omega
    have t : turn (gNm 4) l__law_form_of_heads_1 [4] (pd (dl : P n)) [.fz (.int n), b, c, .fz (.int m), .no, .no, .no, .no] = some (.go [.fz (.int n), b, c, .fz (.int (m + 1)), .no, .no, .no, .no]) := by
      simp (disch := omega) [turn, l__law_form_of_heads_1, z, zi, st, nd]
    show runFor (gNm 4) l__law_form_of_heads_1 [4] (pd dl :: pds (List.replicate k dl ++ X)) _ = _
    rw [for_go t, fh1 hn h1 b c X hX k (m + 1) (fun q => absurd q z)]
    have e : m + 1 + (k : Int) = m + ((k + 1 : Nat) : Int) := by omega
    rw [e]
theorem fh2 (hn : n < 1000) (h1 : 1 ≤ n) (a b c d : Sl) (R : List (P n)) (hR : R.getLast? ≠ some one) : ∀ (t : Nat) (B : List (P n)) (k j : Nat), k = B.length → j = t + R.length →
    runFor (gNm 7) l__law_form_of_heads_2 [7] (rngD (k : Int) j) [a, b, c, d, .no, .fz (.list (pds (R ++ (List.replicate t one ++ B)))), .fz (.int ((R.length + t : Nat) : Int)), .no] = some (.nx [a, b, c, d, .no, .fz (.list (pds (R ++ (List.replicate t one ++ B)))), .fz (.int ((R.length : Nat) : Int)), .no])
  | 0, B, k, j, hk, hj => by
    rw [List.replicate_zero, List.nil_append, Nat.add_zero]
    by_cases z : R = []
    · subst z
      have : j = 0 := by simpa using hj
      subst this
      rfl
    · obtain ⟨R', x, rfl⟩ : ∃ u' x, R = u' ++ [x] := ⟨_, _, (List.dropLast_concat_getLast z).symm⟩
      have hx : x ≠ one := fun q => hR (by rw [q]; simp)
      obtain ⟨j', rfl⟩ : ∃ j', j = j' + 1 := ⟨R'.length, by simpa using hj⟩
      have st := law_starts_ok hn h1 x
      have nz : ¬ (sts x).length = 0 := fun q => hx (sts_zero.mp q)
      have nzi : ¬ ((sts x).length : Int) = 0 := by omega
      have lp : (pds (R' ++ [x] ++ B)).length = R'.length + 1 + k := by simp [pds]; omega
      have g1 : ixD (.list (pds (R' ++ [x] ++ B))) (.int (((pds (R' ++ [x] ++ B)).length : Int) - 1 - (k : Int))) = some (.fz (pd x)) := by
        refine ixAt (j := R'.length) ?_ (by rw [lp]; omega)
        rw [List.getElem?_map, List.append_assoc, List.getElem?_append_right (by omega), Nat.sub_self]
        rfl
      generalize pds (R' ++ [x] ++ B) = ds at *
      have t : turn (gNm 7) l__law_form_of_heads_2 [7] (.int (k : Int)) [a, b, c, d, .no, .fz (.list ds), .fz (.int ((R' ++ [x]).length : Int)), .no] = some (.end (.nx [a, b, c, d, .no, .fz (.list ds), .fz (.int ((R' ++ [x]).length : Int)), .no])) := by
        generalize (R' ++ [x]).length = q
        simp (disch := omega) [turn, l__law_form_of_heads_2, g1, st, nz, nzi]
      have er : rngD (k : Int) (j' + 1) = .int (k : Int) :: rngD ((k : Int) + 1) j' := by
        unfold rngD
        rw [List.range_succ_eq_map]
        simp
        intro x _
        omega
      rw [er]
      exact for_end t
  | t + 1, B, k, j, hk, hj => by
    have e1 : List.replicate (t + 1) (one : P n) ++ B = List.replicate t one ++ (one :: B) := by rw [List.replicate_succ', List.append_assoc]; rfl
    rw [e1]
    obtain ⟨j', rfl⟩ : ∃ j', j = j' + 1 := ⟨t + R.length, by omega⟩
    have st := law_starts_ok hn h1 (one : P n)
    have nz : (sts (one : P n)).length = 0 := sts_zero.mpr rfl
    have lp : (pds (R ++ (List.replicate t one ++ one :: B))).length = R.length + t + 1 + k := by simp [pds]; omega
    have g1 : ixD (.list (pds (R ++ (List.replicate t one ++ one :: B)))) (.int (((pds (R ++ (List.replicate t one ++ one :: B))).length : Int) - 1 - (k : Int))) = some (.fz (pd (one : P n))) := by
      refine ixAt (j := R.length + t) ?_ (by rw [lp]; omega)
      rw [List.getElem?_map, List.getElem?_append_right (by omega), List.getElem?_append_right (by rw [List.length_replicate]; omega), List.length_replicate, show R.length + t - R.length - t = 0 by omega]
      rfl
    have ih := fh2 hn h1 a b c d R hR t (one :: B) (k + 1) j' (by rw [List.length_cons]; omega) (by omega)
    generalize pds (R ++ (List.replicate t one ++ one :: B)) = ds at *
    have tt : turn (gNm 7) l__law_form_of_heads_2 [7] (.int (k : Int)) [a, b, c, d, .no, .fz (.list ds), .fz (.int ((R.length + (t + 1) : Nat) : Int)), .no] = some (.go [a, b, c, d, .no, .fz (.list ds), .fz (.int ((R.length + t : Nat) : Int)), .no]) := by
      have eq : ((R.length + t : Nat) : Int) = ((R.length + (t + 1) : Nat) : Int) - 1 := by omega
      rw [eq]
      generalize ((R.length + (t + 1) : Nat) : Int) = q
      simp (disch := omega) [turn, l__law_form_of_heads_2, g1, st, nz]
    have er : rngD (k : Int) (j' + 1) = .int (k : Int) :: rngD ((k + 1 : Nat) : Int) j' := by
      unfold rngD
      rw [List.range_succ_eq_map]
      simp
      intro x _
      omega
    rw [er, for_go tt]
    exact ih
theorem last_good {R : List (P n)} (hg : Gd R) : R.getLast? ≠ some one := fun z => (hg one (List.mem_of_getLast? z)).1 rfl
theorem head_good {R : List (P n)} {t : Nat} (h1 : 1 ≤ n) (hg : Gd R) : (R ++ List.replicate t one).head? ≠ some dl ∨ n = 1 := by
  by_cases z : n = 1
  · exact .inr z
  · left
    cases R with
    | nil =>
      cases t with
      | zero => simp
      | succ t => intro z; rw [List.replicate_succ] at z; exact dl_ne_one (by omega) (Option.some.inj z).symm
    | cons p R => intro z; exact (hg p (List.mem_cons_self ..)).2 (Option.some.inj z)
theorem foh_ok (hn : n < 1000) (h1 : 1 ≤ n) (pw : Int) (c t : Nat) (hc : n = 1 → c = 0) (R : List (P n)) (hg : Gd R) (hl : c + R.length + t < 100000) :
    f__law_form_of_heads [.int n, .int pw, .list (pds (List.replicate c dl ++ (R ++ List.replicate t one)))] = some (.fz (form (pw + c) R), []) := by
  have l1 := fh1 hn h1 (.fz (.int pw)) (.bw (pds (List.replicate c dl ++ (R ++ List.replicate t one)))) (R ++ List.replicate t one) (head_good h1 hg) c 0 hc
  have l2 := fh2 hn h1 (.fz (.int n)) (.fz (.int pw)) (.bw (pds (List.replicate c dl ++ (R ++ List.replicate t one)))) (.fz (.int (c : Int))) R (last_good hg) t [] 0 (t + R.length) rfl rfl
  rw [List.append_nil] at l2
  rw [Int.zero_add] at l1
  have lp : (pds (List.replicate c dl ++ (R ++ List.replicate t one))).length = c + R.length + t := by simp [pds]; omega
  have lx : (pds (R ++ List.replicate t one)).length = R.length + t := by simp [pds]
  have cut : cutD (pds (List.replicate c dl ++ (R ++ List.replicate t one))) (some (c : Int)) none = pds (R ++ List.replicate t one) := by
    rw [cut_from _ (by omega) (by rw [lp]; omega), show ((c : Int)).toNat = c by omega]
    simp [pds]
  have cut2 : cutD (pds (R ++ List.replicate t one)) none (some ((R.length : Nat) : Int)) = pds R := by
    rw [cut_to _ (by omega) (by rw [lx]; omega), Int.toNat_natCast]
    simp [pds]
  show _ = some (Rt.fz (.tuple [.int (pw + c), .tuple (pds R)]), [])
  generalize pds (List.replicate c dl ++ (R ++ List.replicate t one)) = ds at *
  generalize pds (R ++ List.replicate t one) = dx at *
  rw [show ((0 : Nat) : Int) = 0 from rfl, show t + R.length = dx.length by omega, show R.length + t = dx.length by omega] at l2
  have dlen : (pds R).length < 100000 := by simp [pds]; omega
  generalize pds R = ds2 at *
  generalize hz : ((R.length : Nat) : Int) = z at *
  have lmx : dx.length < 100000 := by omega
  simp (disch := omega) [f__law_form_of_heads, q_fn, b__law_form_of_heads, l1, cut, l2, cut2]
theorem rep1 (p : P n) (k : Int) (hk : k.natAbs < 100000) : mulD (.list [pd p]) (.int k) = some (.ow (pds (List.replicate k.toNat p))) := by
  rw [mulD_2, if_pos ⟨by unfold limit; simp; omega, by unfold big; omega, by unfold big; omega⟩]
  congr 2
  simp [pds]
theorem hof_ok (hn : n < 1000) (h1 : 1 ≤ n) (pw : Int) (hp : pw.natAbs < 10000) (c t : Nat) (R : List (P n)) (hl : c + R.length + t < 10000) :
    f__law_heads_of_form [.int n, .int pw, form (pw + c) R, .int ((c + R.length + t : Nat) : Int)] = some (.ow (pds (List.replicate c dl ++ (R ++ List.replicate t one))), []) := by
  have lm := lim hn
  have h1' := lc_rng (g := gNm 7) (t := tYes) (a := l__law_heads_of_form_1) (er := [7]) (env := [.fz (.int n), .fz (.int pw), .fz (.tuple [.int (pw + c), .tuple (pds R)]), .fz (.int ((c + R.length + t : Nat) : Int)), .no, .no, .no, .no]) (f := fun k => .int ((n : Int) - k)) n 0 fun k _ _ => by
    generalize pds R = ds
    simp (disch := omega) [turnL, l__law_heads_of_form_1]
  have e1 : ((List.range n).map fun (i : Nat) => PyData.int ((n : Int) - (0 + (i : Int)))) = li (toL (dl : P n)) := by
    rw [← rngM_dl]
    unfold rngM
    apply List.map_congr_left
    intro k _
    simp
  rw [e1] at h1'
  have h2' := lc_rng (g := gNm 7) (t := tYes) (a := l__law_heads_of_form_2) (er := [7]) (env := [.fz (.int n), .fz (.int pw), .fz (.tuple [.int (pw + c), .tuple (pds R)]), .fz (.int ((c + R.length + t : Nat) : Int)), .fz (pd (dl : P n)), .no, .no, .no]) (f := fun k => .int (k + 1)) n 0 fun k _ _ => by
    generalize pds R = ds
    simp (disch := omega) [turnL, l__law_heads_of_form_2]
  have e2 : ((List.range n).map fun (i : Nat) => PyData.int (0 + (i : Int) + 1)) = li (toL (one : P n)) := by
    rw [← rng_one]
    unfold rngD
    apply List.map_congr_left
    intro k _
    show PyData.int (0 + (k : Int) + 1) = PyData.int (1 + (k : Int))
    congr 1
    omega
  rw [e2] at h2'
  have r1 := rep1 (dl : P n) c (by omega)
  rw [Int.toNat_natCast] at r1
  have r2 := rep1 (one : P n) t (by omega)
  rw [Int.toNat_natCast] at r2
  have a1 : addD (.list (pds (List.replicate c (dl : P n)))) (.list (pds R)) = some (.ow (pds (List.replicate c dl ++ R))) := by
    rw [addD_2, if_pos (by unfold limit; simp [pds]; omega)]
    simp [pds]
  have a2 : addD (.list (pds (List.replicate c (dl : P n) ++ R))) (.list (pds (List.replicate t (one : P n)))) = some (.ow (pds (List.replicate c dl ++ (R ++ List.replicate t one)))) := by
    rw [addD_2, if_pos (by unfold limit; simp [pds]; omega)]
    simp [pds]
  have lr : (pds (List.replicate c (dl : P n) ++ R)).length = c + R.length := by simp [pds]
  have mx : max 0 (pw + (c : Int) - pw) = (c : Int) := by omega
  have sb : ((c + R.length + t : Nat) : Int) - ((pds (List.replicate c (dl : P n) ++ R)).length : Int) = (t : Int) := by rw [lr]; omega
  have f0 : ixD (form (pw + c) R) (.int 0) = some (.fz (.int (pw + c))) := rfl
  have f1 : ixD (form (pw + c) R) (.int 1) = some (.fz (.tuple (pds R))) := rfl
  show f__law_heads_of_form [.int n, .int pw, .tuple [.int (pw + c), .tuple (pds R)], .int ((c + R.length + t : Nat) : Int)] = _
  have f0' : ixD (PyData.tuple [.int (pw + c), .tuple (pds R)]) (.int 0) = some (.fz (.int (pw + c))) := rfl
  have f1' : ixD (PyData.tuple [.int (pw + c), .tuple (pds R)]) (.int 1) = some (.fz (.tuple (pds R))) := rfl
  clear f0 f1
  generalize pds (List.replicate c (dl : P n) ++ (R ++ List.replicate t (one : P n))) = d1 at *
  generalize pds (List.replicate c (dl : P n) ++ R) = d2 at *
  generalize pds (List.replicate c (dl : P n)) = d3 at *
  generalize pds (List.replicate t (one : P n)) = d4 at *
  generalize pds R = d5 at *
  generalize ((c + R.length + t : Nat) : Int) = q at *
  simp (disch := omega) [f__law_heads_of_form, q_fn, b__law_heads_of_form, h1', lm, h2', f0', f1', mx, r1, a1, sb, r2, a2]
end K12
namespace K12
open PySem J
open GA (P one inv St Fi Add Wt dl C WtL NF fl flat W rpt Dw Dv iw)
variable {n : Nat}
theorem fl_len (pw : Int) (hp : pw.natAbs ≤ 500) (R : List (P n)) (hR : R.length ≤ 90) (hn : n ≤ 8) : (fl pw R).length < 40000 := by
  have a := flat_len R
  have nn : n * n ≤ 8 * 8 := Nat.mul_le_mul hn hn
  have rl : R.length * (n * n) ≤ 90 * 64 := Nat.mul_le_mul hR (by omega)
  have d : (W (dl : P n)).length ≤ 64 := Nat.le_trans (W_len (dl : P n)) (by omega)
  unfold GA.fl
  rw [List.length_append]
  by_cases c : 0 ≤ pw
  · rw [if_pos c]
    have e : (rpt pw.toNat (Dw n)).length = pw.toNat * (W (dl : P n)).length := rpt_len _ _
    have : pw.toNat * (W (dl : P n)).length ≤ 500 * 64 := Nat.mul_le_mul (by omega) d
    omega
  · rw [if_neg c, rpt_len, iw_len]
    have : (-pw).toNat * (W (dl : P n)).length ≤ 500 * 64 := Nat.mul_le_mul (by omega) d
    omega
theorem beq_pds (A B : List (P n)) (h : A = B) : beqDs (pds A) (pds B) = true := by
  subst h
  induction A with
  | nil => rfl
  | cons p A ih =>
    show (beqD (pd p) (pd p) && beqDs (pds A) (pds A)) = true
    rw [ih]
    simp
theorem shp_pds (k : Nat) (A : List (P n)) : (pds A).all (shp (k + 1)) = true := by
  rw [List.all_eq_true]
  intro d hd
  obtain ⟨p, _, rfl⟩ := List.mem_map.mp hd
  show shp (k + 1) (.tuple (li (toL p))) = true
  rw [shp_tuple]
  exact shp_ints k _
end K12
namespace K12
open PySem J
open GA (P one inv St Fi Add Wt dl C WtL hs tw W Br fl Dw ssum sgn)
open FW (rows)
variable {n : Nat}
/-! ### the letters of a form and of the product -/
theorem cnt_ssum : ∀ w : List Int, (((w.filter fun x => decide (0 < x)).length : Nat) : Int) - (((w.filter fun x => decide (x < 0)).length : Nat) : Int) = ssum w
  | [] => rfl
  | x :: w => by
    have ih := cnt_ssum w
    have e : ssum (x :: w) = sgn x + ssum w := rfl
    rw [e, ← ih]
    unfold GA.sgn
    by_cases c : 0 < x
    · have c2 : ¬ x < 0 := by omega
      simp only [List.filter_cons, c, c2, decide_true, decide_false, if_true, List.length_cons, Bool.false_eq_true, if_false]
      omega
    · by_cases d : x < 0
      · simp only [List.filter_cons, c, d, decide_true, decide_false, if_true, List.length_cons, Bool.false_eq_true, if_false]
        omega
      · simp only [List.filter_cons, c, d, decide_false, Bool.false_eq_true, if_false]
        omega
theorem sum_ok (w : List Int) (hl : w.length < 16000000) : f__law_sign_sum [.list (li w)] = some (.fz (.int (ssum w)), []) := by
  have h1 := lc_if (g := gNm 1) (t := t__law_sign_sum_1) (a := l__law_sign_sum_1) (er := [1]) (env := [.bw (li w), .no]) (Pr := fun x => decide (0 < x)) (f := fun x => .int x) (l := w) fun x _ => by
    by_cases c : 0 < x
    · simp (disch := omega) [turnL, t__law_sign_sum_1, l__law_sign_sum_1, c]
    · simp (disch := omega) [turnL, t__law_sign_sum_1, l__law_sign_sum_1, c]
  have h2 := lc_if (g := gNm 1) (t := t__law_sign_sum_2) (a := l__law_sign_sum_2) (er := [1]) (env := [.bw (li w), .no]) (Pr := fun x => decide (x < 0)) (f := fun x => .int x) (l := w) fun x _ => by
    by_cases c : x < 0
    · simp (disch := omega) [turnL, t__law_sign_sum_2, l__law_sign_sum_2, c]
    · simp (disch := omega) [turnL, t__law_sign_sum_2, l__law_sign_sum_2, c]
  have lm : w.length ≤ limit := by unfold limit; omega
  rw [← cnt_ssum w]
  simp (disch := omega) [f__law_sign_sum, q_fn, b__law_sign_sum, h1, h2, lm]
theorem front_holds_ok (hn : n < 1000) (h1 : 1 ≤ n) (pw : Int) (hp : pw.natAbs < 10000) (c t : Nat) (hc : n = 1 → c = 0) (hz : n = 1 → pw = 0) (R R0 : List (P n)) (hg : Gd R) (hw : WtL R) (hl : c + R.length + t < 10000) (h0 : c + R.length + t ≠ 0) :
    f__law_front_holds [.int n, form pw R0, form (pw + c) R, .list (pds (List.replicate c dl ++ (R ++ List.replicate t one)))] = some (.fz (.bool true), []) := by
  have a := law_form_true (n := n) hn h1 (pw + c) (Nat.lt_of_le_of_lt (show (pw + (c : Int)).natAbs ≤ 20000 by omega) (by decide)) (fun z => by rw [hc z, hz z]; rfl) R hg hw
  have b := foh_ok hn h1 pw c t hc R hg (by omega)
  have d := hof_ok hn h1 pw hp c t R hl
  have be := beq_pds R R rfl
  have sh := fun k => shp_pds k R
  have lp : (pds (List.replicate c (dl : P n) ++ (R ++ List.replicate t (one : P n)))).length = c + R.length + t := by simp [pds]; omega
  have be2 := beq_pds (List.replicate c (dl : P n) ++ (R ++ List.replicate t (one : P n))) _ rfl
  have sh2 := fun k => shp_pds k (List.replicate c (dl : P n) ++ (R ++ List.replicate t (one : P n)))
  have ne : beqDs (pds (List.replicate c (dl : P n) ++ (R ++ List.replicate t (one : P n)))) [] = false := by
    cases q : pds (List.replicate c (dl : P n) ++ (R ++ List.replicate t (one : P n))) with
    | nil => rw [q] at lp; simp at lp; omega
    | cons x l => rfl
  have i0 : ixD (PyData.tuple [.int pw, .tuple (pds R0)]) (.int 0) = some (.fz (.int pw)) := rfl
  show f__law_front_holds [.int n, .tuple [.int pw, .tuple (pds R0)], .tuple [.int (pw + c), .tuple (pds R)], .list (pds (List.replicate c dl ++ (R ++ List.replicate t one)))] = _
  have a' : f__law_form_holds [.int n, .tuple [.int (pw + c), .tuple (pds R)]] = some (.fz (.bool true), []) := a
  have b' : f__law_form_of_heads [.int n, .int pw, .list (pds (List.replicate c (dl : P n) ++ (R ++ List.replicate t (one : P n))))] = some (.fz (.tuple [.int (pw + c), .tuple (pds R)]), []) := b
  have d' : f__law_heads_of_form [.int n, .int pw, .tuple [.int (pw + c), .tuple (pds R)], .int ((c + R.length + t : Nat) : Int)] = some (.ow (pds (List.replicate c (dl : P n) ++ (R ++ List.replicate t (one : P n)))), []) := d
  clear a b d
  rw [← lp] at d'
  generalize pds (List.replicate c (dl : P n) ++ (R ++ List.replicate t (one : P n))) = ds at *
  generalize pds R = d2 at *
  generalize pds R0 = d3 at *
  simp (disch := omega) [f__law_front_holds, q_fn, b__law_front_holds, a', b', d', be, sh, be2, sh2, ne, beqD, beqDs, i0]
theorem lw_beq : ∀ R : List (List Int), beqDs (lw R) (lw R) = true
  | [] => rfl
  | l :: R => by
    have ih := lw_beq R
    show (beqD (.list (li l)) (.list (li l)) && beqDs (lw R) (lw R)) = true
    rw [ih]
    simp
theorem lw_shp (k : Nat) (R : List (List Int)) : (lw R).all (shp (k + 1)) = true := by
  rw [List.all_eq_true]
  intro d hd
  obtain ⟨l, _, rfl⟩ := List.mem_map.mp hd
  show shp (k + 1) (.list (li l)) = true
  rw [shp_list]
  exact shp_ints k _
theorem num5 (h3 : 3 ≤ n) (h8 : n ≤ 8) : (4 * n - 3) * (FW.kN n ^ 5 * FW.F n) ≤ 6200000 * 6200000 := by
  have : n = 3 ∨ n = 4 ∨ n = 5 ∨ n = 6 ∨ n = 7 ∨ n = 8 := by omega
  rcases this with rfl | rfl | rfl | rfl | rfl | rfl <;> decide
theorem letters_ok (hn : n ≤ 8) (h1 : 1 ≤ n) (p : P n) (pw : Int) (hp : pw.natAbs ≤ 410) (R : List (P n)) (hR : R.length ≤ 80) (c t : Nat) (R' : List (P n)) (hg : Gd R') (e : hs (tw pw.natAbs p) R = List.replicate c dl ++ (R' ++ List.replicate t one)) :
    (n = 1 → c = 0 ∧ pw = 0) → f__law_letters_hold [.int n, pd p, form pw R, form (pw + c) R'] = some (.fz (.bool true), []) := by
  intro hz
  have hl := congrArg List.length e
  rw [GA.hs_len, List.length_append, List.length_append, List.length_replicate, List.length_replicate] at hl
  have br := GA.front_word p pw R e
  have s := law_stair_ok (show n < 100 by omega) p (pd p) (.inr rfl)
  have f1 := form_letters_ok (show n < 100 by omega) pw (by omega) R (by omega)
  have f2 := form_letters_ok (show n < 100 by omega) (pw + c) (by omega) R' (by omega)
  have l1 := fl_len pw (by omega) R (by omega) hn
  have l2 := fl_len (pw + c) (by omega) R' (by omega) hn
  have wl := W_len p
  have nn : n * n ≤ 8 * 8 := Nat.mul_le_mul hn hn
  have ss := br.ssum
  have ll : (W p ++ fl pw R).length < 50000 := by rw [List.length_append]; omega
  have s1 := sum_ok (W p ++ fl pw R) (by omega)
  have s2 := sum_ok (fl (pw + c) R') (by omega)
  have ad : addD (.list (li (W p))) (.list (li (fl pw R))) = some (.ow (li (W p ++ fl pw R))) := by
    rw [addD_2, if_pos (by unfold limit; rw [li_len, li_len]; omega), li_app]
  rw [← ss] at s2
  have small : n ≤ 2 → R' = [] ∧ ssum (W p ++ fl pw R) = pw + c := fun h2 => by
    have re : R' = [] := by
      cases R' with
      | nil => rfl
      | cons q R' =>
        exfalso
        have gq := hg q (List.mem_cons_self ..)
        have n2 := ne_lt gq.1
        have : n = 2 := by omega
        subst this
        by_cases z : St q 0
        · exact gq.2 (GA.all_st fun i hi => by have : i = 0 := by omega
                                               subst this; exact z)
        · exact gq.1 (GA.mono_one fun i hi => by
            have := hi.lt
            have : i = 0 := by omega
            subst this
            exact z hi)
    refine ⟨re, ?_⟩
    rw [ss, re, GA.ssum_fl]
    by_cases z : n = 1
    · obtain ⟨z1, z2⟩ := hz z
      subst z1 z2
      rw [show ssum (GA.flat ([] : List (P n))) = 0 from rfl]
      simp
    · have : n = 2 := by omega
      subst this
      have d : (Dw 2).length = 1 := by decide
      rw [d, show ssum (GA.flat ([] : List (P 2))) = 0 from rfl]
      simp
  show f__law_letters_hold [.int n, pd p, .tuple [.int pw, .tuple (pds R)], .tuple [.int (pw + c), .tuple (pds R')]] = _
  have f1' : f__law_form_letters [.int n, .tuple [.int pw, .tuple (pds R)]] = some (.ow (li (fl pw R)), []) := f1
  have f2' : f__law_form_letters [.int n, .tuple [.int (pw + c), .tuple (pds R')]] = some (.ow (li (fl (pw + c) R')), []) := f2
  clear f1 f2
  have i1 : ixD (PyData.tuple [.int pw, .tuple (pds R)]) (.int 1) = some (.fz (.tuple (pds R))) := rfl
  have lp : (pds R).length = R.length := by simp [pds]
  by_cases h2 : n ≤ 2
  · obtain ⟨re, se⟩ := small h2
    subst re
    rw [se] at s1 s2
    have be : pds ([] : List (P n)) = [] := rfl
    rw [be] at f2' ⊢
    generalize pds R = ds at *
    generalize hA : W p ++ fl pw R = A at *
    generalize W p = B at *
    generalize fl pw R = C at *
    generalize fl (pw + c) [] = E at *
    have h2i : (n : Int) ≤ 2 := by omega
    simp (disch := omega) [f__law_letters_hold, q_fn, b__law_letters_hold, s, f1', ad, f2', s1, s2, h2, h2i, beqD, beqDs]
  · have h2i : ¬ (n : Int) ≤ 2 := by omega
    by_cases c6 : R.length ≤ 6
    · obtain ⟨e0, k0, hK⟩ := FW.num (n := n) (by omega) hn
      have nb : ∀ m, m ≤ 5 → (4 * n - 3) * (FW.kN n ^ m * FW.F n) ≤ 6200000 * 6200000 := fun m hm => FW.hB_up k0 hm (num5 (by omega) hn)
      have n2 : (2 * n - 1) * (2 * n - 1) ≤ 6200000 := Nat.le_trans (Nat.mul_le_mul (show 2 * n - 1 ≤ 15 by omega) (show 2 * n - 1 ≤ 15 by omega)) (by decide)
      have m0 : ∀ k : Nat, k ≤ 1000 → 6200000 + n * k ≤ 8388608 := fun k hk => by
        have := Nat.mul_le_mul hn hk
        omega
      have m1 := images_ok (n := n) (show n < 1000 by omega) (m0 (pw.natAbs + R.length + 1) (by omega)) (W p ++ fl pw R) (GA.Fits.app (GA.W_fits p) (GA.fl_fits pw R)) fun u v h => FW.front_l2 p pw R e0 hK k0 h1 (nb _ (by omega)) n2 u v h
      have m2 := images_ok (n := n) (show n < 1000 by omega) (m0 ((pw + c).natAbs + R'.length + 1) (by omega)) (fl (pw + c) R') (GA.fl_fits _ R') fun u v h => FW.form_l2 (pw + c) R' e0 hK k0 h1 (nb _ (by omega)) n2 u v h
      have er : rows (W p ++ fl pw R) (FW.start n) = rows (fl (pw + c) R') (FW.start n) := by
        have := FW.br_rows br (FW.start n) (FW.start_len n) (FW.start_red n)
        rw [FW.rowsT_is _ (FW.start_len n) (GA.Fits.app (GA.W_fits p) (GA.fl_fits pw R)), FW.rowsT_is _ (FW.start_len n) (GA.fl_fits _ R')] at this
        exact this
      rw [er] at m1
      have b1 := lw_beq (rows (fl (pw + c) R') (FW.start n))
      have b2 := fun k => lw_shp k (rows (fl (pw + c) R') (FW.start n))
      have c6' : ¬ (6 : Int) < (R.length : Int) := by omega
      have c6'' : ¬ 6 < R.length := by omega
      rw [← lp] at c6' c6''
      clear e0 k0 hK nb n2 m0 small wl nn l1 l2 hl
      generalize pds R = ds at *
      generalize pds R' = ds2 at *
      generalize lw (rows (fl (pw + c) R') (FW.start n)) = im at *
      generalize hA : W p ++ fl pw R = A at *
      generalize W p = B at *
      generalize fl pw R = C at *
      generalize fl (pw + c) R' = E at *
      simp (disch := omega) [f__law_letters_hold, q_fn, b__law_letters_hold, s, f1', ad, f2', s1, s2, h2, h2i, i1, c6', c6'', m1, m2, b1, b2, beqD]
    · have c6' : (6 : Int) < (R.length : Int) := by omega
      have c6'' : 6 < R.length := by omega
      rw [← lp] at c6' c6''
      generalize pds R = ds at *
      generalize pds R' = ds2 at *
      generalize hA : W p ++ fl pw R = A at *
      generalize W p = B at *
      generalize fl pw R = C at *
      generalize fl (pw + c) R' = E at *
      simp (disch := omega) [f__law_letters_hold, q_fn, b__law_letters_hold, s, f1', ad, f2', s1, s2, h2, h2i, i1, c6', c6'']
end K12
namespace K12
open PySem J
open GA (P one inv St Fi Add Wt dl C WtL hs tw)
variable {n : Nat}
/-! ### draws of rows -/
theorem rngD_cons (k : Int) (j : Nat) : rngD k (j + 1) = .int k :: rngD (k + 1) j := by
  unfold rngD
  rw [List.range_succ_eq_map]
  simp
  intro x _
  omega
theorem tab_ok (l : List Int) (i : Int) (a b : Int) (h : ∀ x ∈ l, a ≤ x ∧ x ≤ b) (h0 : 0 ≤ i) (h1 : i < l.length) : a ≤ gt l i ∧ gt l i ≤ b := h _ (mem_gt.mpr ⟨i, h0, h1, rfl⟩)
theorem most_ok {m : Int} (bs : List D) (hb : Box m bs) (hm : m < 900000) (hn : n ≤ 8) : ∃ (mo : Int) (bs' : List D), f__law_most [.list bs, .int n] = some (.fz (.int mo), [bs']) ∧ Box (m + 1) bs' ∧ 0 ≤ mo ∧ mo ≤ 40 ∧ (n ≤ 2 → mo = 0) := by
  obtain ⟨v, bs1, e1, hb1, v0, v1⟩ := take_ok bs 8 hb (by omega) (by omega) (by omega)
  by_cases c : v = 5
  · have e2 := ixL (l := [0, 0, 0, 40, 20, 10, 4, 3, 3]) (i := (n : Int)) (by omega) (by simp; omega)
    have el : li [0, 0, 0, 40, 20, 10, 4, 3, 3] = [.int 0, .int 0, .int 0, .int 40, .int 20, .int 10, .int 4, .int 3, .int 3] := rfl
    rw [el] at e2
    have tb := tab_ok [0, 0, 0, 40, 20, 10, 4, 3, 3] (n : Int) 0 40 (by decide) (by omega) (by simp; omega)
    refine ⟨gt [0, 0, 0, 40, 20, 10, 4, 3, 3] (n : Int), bs1, ?_, hb1, tb.1, tb.2, fun z => ?_⟩
    · generalize gt [0, 0, 0, 40, 20, 10, 4, 3, 3] (n : Int) = g at *
      simp (disch := omega) [f__law_most, q_fn, b__law_most, e1, c, e2]
    · have : n = 0 ∨ n = 1 ∨ n = 2 := by omega
      rcases this with rfl | rfl | rfl <;> rfl
  · have e2 := ixL (l := [0, 0, 0, 6, 5, 3, 2, 2, 2]) (i := (n : Int)) (by omega) (by simp; omega)
    have el : li [0, 0, 0, 6, 5, 3, 2, 2, 2] = [.int 0, .int 0, .int 0, .int 6, .int 5, .int 3, .int 2, .int 2, .int 2] := rfl
    rw [el] at e2
    have tb := tab_ok [0, 0, 0, 6, 5, 3, 2, 2, 2] (n : Int) 0 40 (by decide) (by omega) (by simp; omega)
    refine ⟨gt [0, 0, 0, 6, 5, 3, 2, 2, 2] (n : Int), bs1, ?_, hb1, tb.1, tb.2, fun z => ?_⟩
    · generalize gt [0, 0, 0, 6, 5, 3, 2, 2, 2] (n : Int) = g at *
      simp (disch := omega) [f__law_most, q_fn, b__law_most, e1, c, e2]
    · have : n = 0 ∨ n = 1 ∨ n = 2 := by omega
      rcases this with rfl | rfl | rfl <;> rfl
theorem power_ok {m : Int} (bs : List D) (hb : Box m bs) (hm : m < 900000) (hn : n ≤ 8) (h1 : 1 ≤ n) : ∃ (pw : Int) (bs' : List D), f__law_power [.list bs, .int n] = some (.fz (.int pw), [bs']) ∧ Box (m + 2) bs' ∧ pw.natAbs ≤ 400 ∧ (n = 1 → pw = 0) := by
  by_cases z : n = 1
  · subst z
    exact ⟨0, bs, by simp (disch := omega) [f__law_power, q_fn, b__law_power], hb.up (by omega), by decide, fun _ => rfl⟩
  have zi : ¬ (n : Int) = 1 := by omega
  have a2 := ixL (l := [0, 0, 60, 3, 3, 3, 2, 2, 2]) (i := (n : Int)) (by omega) (by simp; omega)
  have el : li [0, 0, 60, 3, 3, 3, 2, 2, 2] = [.int 0, .int 0, .int 60, .int 3, .int 3, .int 3, .int 2, .int 2, .int 2] := rfl
  rw [el] at a2
  have ta := tab_ok [0, 0, 60, 3, 3, 3, 2, 2, 2] (n : Int) 0 400 (by decide) (by omega) (by simp; omega)
  have b2 := ixL (l := [0, 0, 400, 30, 15, 8, 4, 3, 3]) (i := (n : Int)) (by omega) (by simp; omega)
  have el2 : li [0, 0, 400, 30, 15, 8, 4, 3, 3] = [.int 0, .int 0, .int 400, .int 30, .int 15, .int 8, .int 4, .int 3, .int 3] := rfl
  rw [el2] at b2
  have tb := tab_ok [0, 0, 400, 30, 15, 8, 4, 3, 3] (n : Int) 0 400 (by decide) (by omega) (by simp; omega)
  generalize gt [0, 0, 60, 3, 3, 3, 2, 2, 2] (n : Int) = g at *
  generalize gt [0, 0, 400, 30, 15, 8, 4, 3, 3] (n : Int) = g2 at *
  obtain ⟨v, bs1, e1, hb1, v0, v1⟩ := take_ok bs 8 hb (by omega) (by omega) (by omega)
  by_cases c : v = 5
  · obtain ⟨w, bs2, e2, hb2, w0, w1⟩ := take_ok bs1 (2 * g2 + 1) hb1 (by omega) (by omega) (by omega)
    refine ⟨w - g2, bs2, ?_, hb2.up (by omega), by omega, fun q => absurd q z⟩
    simp (disch := omega) [f__law_power, q_fn, b__law_power, zi, z, a2, e1, c, b2, e2]
  · obtain ⟨w, bs2, e2, hb2, w0, w1⟩ := take_ok bs1 (2 * g + 1) hb1 (by omega) (by omega) (by omega)
    refine ⟨w - g, bs2, ?_, hb2.up (by omega), by omega, fun q => absurd q z⟩
    simp (disch := omega) [f__law_power, q_fn, b__law_power, zi, z, a2, e1, c, e2]
theorem row_loop (hn : n ≤ 8) (h3 : 3 ≤ n) (x2 : Sl) : ∀ (j : Nat) (k : Int) (m : Int) (bs : List D) (A : List Int) (sa : Sl) (R : List (P n)), Box m bs → m + 2 * (j : Int) < 800000 → R.length + j < 1000 → (∀ x ∈ A, 1 ≤ x ∧ x < n) → A ≠ [] → A.length < 1000 → (sa = .bw (li A) ∨ sa = .fz (.list (li A))) →
    ∃ (R' R2 : List (P n)) (bs' : List D) (sa' : Sl), R2 = R ++ R' ∧ runFor (gNm 5) l__law_row_1 [5, 6] (rngD k j) [.ow bs, .fz (.int n), x2, sa, .ow (pds R), .no, .no] = some (.nx [.ow bs', .fz (.int n), x2, sa', .ow (pds R2), .no, .no]) ∧
      R'.length = j ∧ Gd R' ∧ Ch A R' ∧ Box (m + 2 * (j : Int)) bs' := by
  intro j
  induction j with
  | zero =>
    intro k m bs A sa R hb _ _ _ _ _ _
    have e0 : rngD k 0 = [] := by unfold rngD; simp
    have h0 := for_nil (g := gNm 5) (body := l__law_row_1) (er := [5, 6]) (env := [.ow bs, .fz (.int n), x2, sa, .ow (pds R), .no, .no])
    rw [← e0] at h0
    exact ⟨[], R, bs, sa, (List.append_nil R).symm, h0, rfl, fun p z => absurd z List.not_mem_nil, trivial, hb.up (by omega)⟩
  | succ j ih =>
    intro k m bs A sa R hb hm hR hA hne hl hsa
    obtain ⟨p, bs1, e1, hb1, g1, g2, g3⟩ := factor_ok (n := n) bs hb (by omega) hn h3 A hA hne hl
    have iv := law_inverse_ok (show n < 1000 by omega) p
    have st := law_starts_ok (show n < 1000 by omega) (by omega) (inv p)
    have lR : (pds R).length = R.length := by simp
    have hlm : (pds R).length < limit := by rw [lR]; unfold limit; omega
    have t : turn (gNm 5) l__law_row_1 [5, 6] (.int k) [.ow bs, .fz (.int n), x2, sa, .ow (pds R), .no, .no] = some (.go [.ow bs1, .fz (.int n), x2, .fz (.list (li (sts (inv p)))), .ow (pds (R ++ [p])), .no, .no]) := by
      have ep : pds (R ++ [p]) = pds R ++ [pd p] := by simp [pds]
      rw [ep]
      generalize pds R = ds at *
      rcases hsa with rfl | rfl <;> simp (disch := omega) [turn, l__law_row_1, e1, iv, st, hlm, kApp3_1]
    have ni : inv p ≠ one := fun z => g1 (by rw [← GA.inv_inv p, z]; rfl)
    obtain ⟨R', R2, bs', sa', q0, r, q1, q2, q3, q4⟩ := ih (k + 1) (m + 2) bs1 (sts (inv p)) (.fz (.list (li (sts (inv p))))) (R ++ [p]) hb1 (by omega) (by rw [List.length_append, List.length_singleton]; omega) (fun x hx => by
        have := sts_mem.mp hx
        have := this.2.lt
        omega) (fun z => ni (sts_zero.mp (by rw [z]; rfl))) (by have := sts_len (inv p); omega) (.inr rfl)
    refine ⟨p :: R', R2, bs', sa', by rw [q0, List.append_assoc]; rfl, ?_, by rw [List.length_cons, q1], fun q hq => ?_, ⟨g3, q3⟩, q4.up (by omega)⟩
    · rw [rngD_cons, for_go t]
      exact r
    · rcases List.mem_cons.mp hq with rfl | hq
      · exact ⟨g1, g2⟩
      · exact q2 q hq
theorem row_ok {m : Int} (bs : List D) (hb : Box m bs) (hm : m < 700000) (hn : n ≤ 8) (mo : Int) (h0 : 0 ≤ mo) (h1 : mo ≤ 40) (h2 : n ≤ 2 → mo = 0) (A : List Int) (hA : ∀ x ∈ A, 1 ≤ x ∧ x < n) (hne : 3 ≤ n → A ≠ []) (hl : A.length < 1000) :
    ∃ (R : List (P n)) (bs' : List D), f__law_row [.list bs, .int n, .int mo, .list (li A)] = some (.ow (pds R), [bs']) ∧ R.length ≤ 40 ∧ Gd R ∧ Ch A R ∧ Box (m + 81) bs' := by
  obtain ⟨v, bs1, e1, hb1, v0, v1⟩ := take_ok bs (mo + 1) hb (by omega) (by omega) (by omega)
  have key : ∃ (R : List (P n)) (bs' : List D) (sa' : Sl), runFor (gNm 5) l__law_row_1 [5, 6] (rngD 0 v.toNat) [.ow bs1, .fz (.int n), .fz (.int mo), .bw (li A), .ow [], .no, .no] = some (.nx [.ow bs', .fz (.int n), .fz (.int mo), sa', .ow (pds R), .no, .no]) ∧ R.length ≤ 40 ∧ Gd R ∧ Ch A R ∧ Box (m + 81) bs' := by
    by_cases z : n ≤ 2
    · have : v.toNat = 0 := by have := h2 z; omega
      rw [this]
      exact ⟨[], bs1, .bw (li A), rfl, by simp, fun p z => absurd z List.not_mem_nil, trivial, hb1.up (by omega)⟩
    · obtain ⟨R, R2, bs', sa', q0, r, q1, q2, q3, q4⟩ := row_loop hn (by omega) (.fz (.int mo)) v.toNat 0 (m + 1) bs1 A (.bw (li A)) [] hb1 (by omega) (by rw [List.length_nil]; omega) hA (hne (by omega)) hl (.inl rfl)
      rw [List.nil_append] at q0
      subst q0
      exact ⟨R2, bs', sa', r, by omega, q2, q3, q4.up (by omega)⟩
  obtain ⟨R, bs', sa', r, q1, q2, q3, q4⟩ := key
  refine ⟨R, bs', ?_, q1, q2, q3, q4⟩
  generalize pds R = ds at *
  simp (disch := omega) [f__law_row, q_fn, b__law_row, e1, r]
end K12
namespace K12
open PySem J
open GA (P one inv St Fi Add Wt dl C WtL hs tw)
variable {n : Nat}
theorem hs_take (c : P n) (A : List (P n)) (B B' : List (P n)) : (hs c (A ++ B)).take A.length = (hs c (A ++ B')).take A.length := by
  induction A generalizing c with
  | nil => rfl
  | cons a A ih =>
    rw [List.cons_append, List.cons_append, GA.hs_cons, GA.hs_cons, List.length_cons, List.take_succ_cons, List.take_succ_cons, ih]
theorem ch_take : ∀ (k : Nat) (A : List Int) (R : List (P n)), Ch A R → Ch A (R.take k)
  | 0, _, _, _ => trivial
  | k + 1, A, [], _ => trivial
  | k + 1, A, p :: R, h => ⟨h.1, ch_take k _ R h.2⟩
theorem ch_app : ∀ (R1 R2 : List (P n)) (A : List Int) (p : P n), Ch A (R1 ++ [p]) → Ch (sts (inv p)) R2 → Ch A (R1 ++ [p] ++ R2)
  | [], R2, A, p, h, k => ⟨h.1, k⟩
  | q :: R1, R2, A, p, h, k => ⟨h.1, ch_app R1 R2 _ p h.2 k⟩
/-- one of the two forms: all that the law asks of it -/
theorem side (hn : n ≤ 8) (h1 : 1 ≤ n) (p : P n) (pw : Int) (hp : pw.natAbs ≤ 410) (hz : n = 1 → pw = 0) (R : List (P n)) (hR : R.length ≤ 80) (hg : Gd R) (hw : WtL R) :
    ∃ d : D, f_put_in_front [.int n, pd p, form pw R] = some (.fz d, []) ∧ f__law_heads [.int n, pd p, form pw R] = some (.ow (pds (hs (tw pw.natAbs p) R)), []) ∧
      f__law_front_holds [.int n, form pw R, d, .list (pds (hs (tw pw.natAbs p) R))] = some (.fz (.bool true), []) ∧ f__law_letters_hold [.int n, pd p, form pw R, d] = some (.fz (.bool true), []) ∧
      f__law_heads_of_form [.int n, .int pw, d, .int ((pds (hs (tw pw.natAbs p) R)).length : Nat)] = some (.ow (pds (hs (tw pw.natAbs p) R)), []) ∧ eqD d d = some (.fz (.bool true)) := by
  have hh := heads_ok (n := n) (by omega) h1 p pw R (by omega)
  have key : ∃ (c : Nat) (R' : List (P n)) (t : Nat), hs (tw pw.natAbs p) R = List.replicate c dl ++ (R' ++ List.replicate t one) ∧ WtL R' ∧ Gd R' ∧ (n = 1 → c = 0) ∧ f__trimmed [.int n, .int pw, .list (pds (hs (tw pw.natAbs p) R))] = some (.fz (form (pw + c) R'), []) := by
    by_cases z : n = 1
    · subst z
      have e1 : R = [] := by
        cases R with
        | nil => rfl
        | cons q R => have := ne_lt (hg q (List.mem_cons_self ..)).1; omega
      subst e1
      have e2 : tw pw.natAbs p = one := by
        refine GA.mono_one fun i hi => ?_
        have := hi.lt
        omega
      rw [e2, hz rfl]
      exact ⟨0, [], 1, rfl, trivial, fun q hq => absurd hq List.not_mem_nil, fun _ => rfl, trim_one 0 _⟩
    · obtain ⟨c, R', t, e, w, g⟩ := GA.split (show 1 < n by omega) (GA.hs_wt (tw pw.natAbs p) hw)
      have hl := congrArg List.length e
      rw [GA.hs_len, List.length_append, List.length_append, List.length_replicate, List.length_replicate] at hl
      refine ⟨c, R', t, e, w, g, fun q => absurd q z, ?_⟩
      rw [e]
      exact trim_ok (n := n) (by omega) (by omega) pw (by omega) c t R' (by omega) g
  obtain ⟨c, R', t, e, w, g, c0, tr⟩ := key
  have hl := congrArg List.length e
  rw [GA.hs_len, List.length_append, List.length_append, List.length_replicate, List.length_replicate] at hl
  refine ⟨form (pw + c) R', put_ok (n := n) (by omega) h1 p pw R (by omega) _ tr, hh, ?_, letters_ok hn h1 p pw hp R hR c t R' g e (fun z => ⟨c0 z, hz z⟩), ?_, ?_⟩
  · rw [e]
    exact front_holds_ok (n := n) (by omega) h1 pw (by omega) c t c0 hz R' R g w (by omega) (by omega)
  · have := hof_ok (n := n) (by omega) h1 pw (by omega) c t R' (by omega)
    rw [← e] at this
    have l2 : (pds (hs (tw pw.natAbs p) R)).length = c + R'.length + t := by rw [e]; simp [pds]; omega
    rw [l2]
    exact this
  · have be := beq_pds R' R' rfl
    have sh := fun k => shp_pds k R'
    show eqD (.tuple [.int (pw + c), .tuple (pds R')]) (.tuple [.int (pw + c), .tuple (pds R')]) = _
    generalize pds R' = ds at *
    simp [be, sh, beqD, beqDs]
theorem law_true (ns : List Int) (hns : ns.length ≤ 63) : f_law [.list (ns.map PyData.int)] = some (.fz (.bool true), []) := by
  show f_law [.list (li ns)] = _
  obtain ⟨b0, x0, B0⟩ := box_ok ns 0 (by omega) (by omega)
  obtain ⟨b1, x1, B1⟩ := box_ok ns 1 (by omega) (by omega)
  obtain ⟨b2, x2, B2⟩ := box_ok ns 2 (by omega) (by omega)
  obtain ⟨n, c0, y0, C0, n1, n8⟩ := strands_ok b0 B0 (by omega)
  obtain ⟨p, c1, y1, C1⟩ := rperm_ok (n := n) c0 C0 (by omega) n8 n1
  obtain ⟨pw, c2, y2, C2, hp, hz⟩ := power_ok (n := n) c1 C1 (by omega) n8 n1
  obtain ⟨mo, d1, z1, D1, mo0, mo1, mo2⟩ := most_ok (n := n) b1 B1 (by omega) n8
  have lab1 := lab_len (n - 1)
  have lbl : (lab (n - 1)).length ≤ limit := by rw [lab1]; unfold limit; omega
  have labne : 3 ≤ n → lab (n - 1) ≠ [] := fun h q => by rw [q] at lab1; simp at lab1; omega
  obtain ⟨R, d2, z2, hR, hg, hc, D2⟩ := row_ok (n := n) d1 D1 (by omega) n8 mo mo0 mo1 mo2 (lab (n - 1)) (fun x hx => by have := lab_mem.mp hx; omega) labne (by rw [lab1]; omega)
  have hw := (ch_all R).mp hc
  obtain ⟨d, s1, s2, s3, s4, _, s6⟩ := side n8 n1 p pw (by omega) hz R (by omega) hg hw
  obtain ⟨k, c3, y3, C3, k0, k1⟩ := take_ok c2 ((R.length : Int) + 1) C2 (by omega) (by omega) (by omega)
  -- the second power
  have key2 : ∃ (pw2 : Int) (e1 : List D), pw2.natAbs ≤ 406 ∧ (n = 1 → pw2 = 0) ∧ pw2.natAbs % 2 = pw.natAbs % 2 ∧ Box 1 e1 ∧
      (n = 1 → e1 = b2 ∧ pw2 = pw) ∧ (1 < n → ∃ t : Int, f__law_take [.list b2, .int 7] = some (.fz (.int t), [e1]) ∧ pw2 = pw + 2 * (t - 3) ∧ mulD (.int 2) (.int (t - 3)) = some (.fz (.int (2 * (t - 3))))) := by
    by_cases z : n = 1
    · exact ⟨pw, b2, by omega, hz, rfl, B2.up (by omega), fun _ => ⟨rfl, rfl⟩, fun q => by omega⟩
    · obtain ⟨t, e1, u1, E1, t0, t1⟩ := take_ok b2 7 B2 (by omega) (by omega) (by omega)
      exact ⟨pw + 2 * (t - 3), e1, by omega, fun q => absurd q z, by omega, E1.up (by omega), fun q => absurd q z, fun _ => ⟨t, u1, rfl, by rw [mulD_1, if_pos]; unfold mB; omega⟩⟩
  obtain ⟨pw2, e1, hp2, hz2, par, E1, cas1, cas2⟩ := key2
  -- the second row
  have keyA : ∃ A : List Int, (∀ x ∈ A, 1 ≤ x ∧ x < n) ∧ (3 ≤ n → A ≠ []) ∧ A.length < 1000 ∧ (∀ R2 : List (P n), Ch A R2 → Ch (lab (n - 1)) (R.take k.toNat ++ R2)) ∧
      (k = 0 → A = lab (n - 1)) ∧ (0 < k → ∃ q : P n, ixD (.list (pds R)) (.int (k - 1)) = some (.fz (pd q)) ∧ A = sts (inv q)) := by
    by_cases z : k = 0
    · refine ⟨lab (n - 1), (fun x hx => by have := lab_mem.mp hx; omega), labne, by rw [lab1]; omega, fun R2 h => ?_, fun _ => rfl, fun q => by omega⟩
      rw [z]
      exact h
    · have kl : k.toNat - 1 < R.length := by omega
      obtain ⟨q, hq⟩ : ∃ q, q = R[k.toNat - 1]'kl := ⟨_, rfl⟩
      have gq := hg q (by rw [hq]; exact List.getElem_mem kl)
      have ni : inv q ≠ one := fun z => gq.1 (by rw [← GA.inv_inv q, z]; rfl)
      have tk : R.take k.toNat = R.take (k.toNat - 1) ++ [q] := by
        have e : k.toNat = (k.toNat - 1) + 1 := by omega
        conv => lhs; rw [e]
        rw [hq, List.take_succ_eq_append_getElem kl]
      refine ⟨sts (inv q), (fun x hx => by
        have := sts_mem.mp hx
        have := this.2.lt
        omega), fun _ w => ni (sts_zero.mp (by rw [w]; rfl)), (by have := sts_len (inv q); omega), fun R2 h => ?_, fun w => absurd w z, fun _ => ⟨q, ?_, rfl⟩⟩
      · have := ch_take k.toNat _ R hc
        rw [tk] at this ⊢
        exact ch_app _ _ _ _ this h
      · refine ixAt (j := k.toNat - 1) ?_ (by omega)
        rw [List.getElem?_map, List.getElem?_eq_getElem kl, hq]
        rfl
  obtain ⟨A, a1, a2, a3, a4, a5, a6⟩ := keyA
  obtain ⟨mo', e2, u2, E2, mo0', mo1', mo2'⟩ := most_ok (n := n) e1 E1 (by omega) n8
  obtain ⟨R2, e3, u3, hR2, hg2, hc2, E3⟩ := row_ok (n := n) e2 E2 (by omega) n8 mo' mo0' mo1' mo2' A a1 a2 a3
  have hg3 : Gd (R.take k.toNat ++ R2) := fun q hq => by
    rcases List.mem_append.mp hq with h | h
    · exact hg q (List.mem_of_mem_take h)
    · exact hg2 q h
  have hw3 := (ch_all (R.take k.toNat ++ R2)).mp (a4 R2 hc2)
  have l3 : (R.take k.toNat ++ R2).length ≤ 80 := by rw [List.length_append, List.length_take]; omega
  obtain ⟨d', r1, r2, r3, r4, r5, _⟩ := side n8 n1 p pw2 (by omega) hz2 (R.take k.toNat ++ R2) l3 hg3 hw3
  -- the heads that are shared
  have tt : tw pw2.natAbs p = tw pw.natAbs p := by
    unfold GA.tw
    rw [par]
  have hk : (hs (tw pw2.natAbs p) (R.take k.toNat ++ R2)).take k.toNat = (hs (tw pw.natAbs p) R).take k.toNat := by
    have e : (R.take k.toNat).length = k.toNat := by rw [List.length_take]; omega
    have := hs_take (tw pw.natAbs p) (R.take k.toNat) R2 (R.drop k.toNat)
    rw [e, List.take_append_drop] at this
    rw [tt]
    exact this
  have len1 : (pds (hs (tw pw.natAbs p) R)).length = R.length + 1 := by rw [List.length_map, GA.hs_len]
  have len2 : (pds (hs (tw pw2.natAbs p) (R.take k.toNat ++ R2))).length = (R.take k.toNat ++ R2).length + 1 := by rw [List.length_map, GA.hs_len]
  have len3 : k.toNat ≤ (R.take k.toNat ++ R2).length := by rw [List.length_append, List.length_take]; omega
  have cut1 : cutD (pds (hs (tw pw.natAbs p) R)) none (some k) = pds ((hs (tw pw.natAbs p) R).take k.toNat) := by
    rw [cut_to _ k0 (by rw [len1]; omega)]
    simp [pds]
  have cut2 : cutD (pds (hs (tw pw2.natAbs p) (R.take k.toNat ++ R2))) none (some k) = pds ((hs (tw pw.natAbs p) R).take k.toNat) := by
    rw [cut_to _ k0 (by rw [len2]; omega), ← hk]
    simp [pds]
  have cut3 : cutD (pds R) none (some k) = pds (R.take k.toNat) := by
    rw [cut_to _ k0 (by rw [List.length_map]; omega)]
    simp [pds]
  have ad : addD (.list (pds (R.take k.toNat))) (.list (pds R2)) = some (.ow (pds (R.take k.toNat ++ R2))) := by
    rw [addD_2, if_pos (by unfold limit; rw [List.length_map, List.length_map, List.length_take]; omega)]
    simp [pds]
  have be := beq_pds ((hs (tw pw.natAbs p) R).take k.toNat) _ rfl
  have sh := fun j => shp_pds j ((hs (tw pw.natAbs p) R).take k.toNat)
  have l0 := lab_li (n - 1)
  have ll : n ≤ limit + 1 := by unfold limit; omega
  have lR : (pds R).length = R.length := by simp
  have s1' : f_put_in_front [.int n, pd p, .tuple [.int pw, .tuple (pds R)]] = some (.fz d, []) := s1
  have s2' : f__law_heads [.int n, pd p, .tuple [.int pw, .tuple (pds R)]] = some (.ow (pds (hs (tw pw.natAbs p) R)), []) := s2
  have s3' : f__law_front_holds [.int n, .tuple [.int pw, .tuple (pds R)], d, .list (pds (hs (tw pw.natAbs p) R))] = some (.fz (.bool true), []) := s3
  have s4' : f__law_letters_hold [.int n, pd p, .tuple [.int pw, .tuple (pds R)], d] = some (.fz (.bool true), []) := s4
  have r1' : f_put_in_front [.int n, pd p, .tuple [.int pw2, .tuple (pds (R.take k.toNat ++ R2))]] = some (.fz d', []) := r1
  have r2' : f__law_heads [.int n, pd p, .tuple [.int pw2, .tuple (pds (R.take k.toNat ++ R2))]] = some (.ow (pds (hs (tw pw2.natAbs p) (R.take k.toNat ++ R2))), []) := r2
  have r3' : f__law_front_holds [.int n, .tuple [.int pw2, .tuple (pds (R.take k.toNat ++ R2))], d', .list (pds (hs (tw pw2.natAbs p) (R.take k.toNat ++ R2)))] = some (.fz (.bool true), []) := r3
  have r4' : f__law_letters_hold [.int n, pd p, .tuple [.int pw2, .tuple (pds (R.take k.toNat ++ R2))], d'] = some (.fz (.bool true), []) := r4
  clear s1 s2 s3 s4 r1 r2 r3 r4 a4 hc hc2 hw hw3 hg hg2 hg3 hk
  rw [← lR] at y3
  have law1 : ∀ q : P n, f__law_inverse [pd q] = some (.fz (pd (inv q)), []) := fun q => law_inverse_ok (by omega) q
  have law2 : ∀ q : P n, f__law_starts [pd q] = some (.ow (li (sts q)), []) := fun q => law_starts_ok (by omega) n1 q
  generalize pds (hs (tw pw.natAbs p) R) = h1 at *
  generalize pds (hs (tw pw2.natAbs p) (R.take k.toNat ++ R2)) = h2 at *
  generalize pds ((hs (tw pw.natAbs p) R).take k.toNat) = h3 at *
  generalize pds (R.take k.toNat ++ R2) = r3 at *
  generalize pds (R.take k.toNat) = rk at *
  generalize pds R2 = rr2 at *
  generalize pds R = rr at *
  have s6' := s6
  unfold eqD at s6'
  have s7 : (shp (8 + 1 + 1) d = true ∧ shp (8 + 1 + 1) d = true) ∧ beqD d d = true := by
    split at s6'
    · rename_i hh
      refine ⟨hh, ?_⟩
      simpa using s6'
    · cases s6'
  obtain ⟨⟨sd, _⟩, bd⟩ := s7
  have l00 : n = 1 → rngD 1 0 = li (lab (n - 1)) := fun z => by subst z; rfl
  clear B0 B1 B2 C0 C1 C2 C3 D1 D2 E1 E2 E3 hp hp2 par len1 len2 len3 l3 mo0 mo1 mo2 mo0' mo1' mo2' labne a1 a2 a3 hR hR2 hz hz2 tt s6 s6' lR hns
  clear lab1
  generalize lab (n - 1) = LB at *
  by_cases z1' : n = 1 <;> by_cases z2' : k = 0
  · obtain ⟨q1, q2⟩ := cas1 z1'
    have l01 := l00 z1'
    have q3 := a5 z2'
    clear cas1 cas2 a5 a6 l00
    subst q1 q2 q3
    have nn : ¬ (1 : Int) < (n : Int) := by omega
    have nn2 : ¬ 1 < n := by omega
    have kk : ¬ 0 < k := by omega
    simp (disch := omega) [f_law, q_fn, b_law, x0, x1, x2, y0, y1, y2, z1, z2, l0, ll, lbl, s1', s2', s3', s4', y3, kk, l01, nn, nn2, u2, u3, cut1, cut2, cut3, ad, r1', r2', r3', r4', r5, be, sh, beqD, sd, bd]
  · obtain ⟨q1, q2⟩ := cas1 z1'
    have l01 := l00 z1'
    obtain ⟨q, q3, q4⟩ := a6 (by omega)
    clear cas1 cas2 a5 a6 l00
    subst q1 q2 q4
    have nn : ¬ (1 : Int) < (n : Int) := by omega
    have nn2 : ¬ 1 < n := by omega
    have kk : 0 < k := by omega
    simp (disch := omega) [f_law, q_fn, b_law, x0, x1, x2, y0, y1, y2, z1, z2, l0, ll, lbl, s1', s2', s3', s4', y3, kk, l01, q3, law1, law2, nn, nn2, u2, u3, cut1, cut2, cut3, ad, r1', r2', r3', r4', r5, be, sh, beqD, sd, bd]
  · obtain ⟨t, q1, q2, q5⟩ := cas2 (by omega)
    have q3 := a5 z2'
    clear cas1 cas2 a5 a6 l00
    subst q3
    have q2' := q2.symm
    clear q2
    have nn : (1 : Int) < (n : Int) := by omega
    have nn2 : 1 < n := by omega
    have kk : ¬ 0 < k := by omega
    simp (disch := omega) [f_law, q_fn, b_law, x0, x1, x2, y0, y1, y2, z1, z2, l0, ll, lbl, s1', s2', s3', s4', y3, kk, q1, q2', q5, nn, nn2, u2, u3, cut1, cut2, cut3, ad, r1', r2', r3', r4', r5, be, sh, beqD, sd, bd]
  · obtain ⟨t, q1, q2, q5⟩ := cas2 (by omega)
    obtain ⟨q, q3, q4⟩ := a6 (by omega)
    clear cas1 cas2 a5 a6 l00
    subst q4
    have q2' := q2.symm
    clear q2
    have nn : (1 : Int) < (n : Int) := by omega
    have nn2 : 1 < n := by omega
    have kk : 0 < k := by omega
    simp (disch := omega) [f_law, q_fn, b_law, x0, x1, x2, y0, y1, y2, z1, z2, l0, ll, lbl, s1', s2', s3', s4', y3, kk, q1, q2', q5, q3, law1, law2, nn, nn2, u2, u3, cut1, cut2, cut3, ad, r1', r2', r3', r4', r5, be, sh, beqD, sd, bd]
end K12
/-! JS: the readings of JP are kept by the hand layer's rules. -/
namespace J
open PySem L2
abbrev Fr := PySem.W.Frag
/-! ### data in a heap -/
/-- a tuple without an own dict -/
def Tz (F : Hp) (a : Addr) (xs : List V) : Prop := ∃ o : Obj, F a = some (.frz o (.tup xs)) ∧ o.dict = none
theorem Tz.up {F F' : Hp} {a : Addr} {xs : List V} (h : Tz F a xs) (e : ∀ a o, F a = some o → F' a = some o) : Tz F' a xs := let ⟨o, h1, h2⟩ := h; ⟨o, e _ _ h1, h2⟩
theorem Tz.sq {K : Fr} {F : Hp} {a : Addr} {xs : List V} (h : Tz F a xs) : SqT K F a xs := let ⟨o, h1, _⟩ := h; .inl (.inr ⟨o, h1⟩)
mutual
inductive Rp (F : Hp) : V → D → Prop
  | non : Rp F .non .none
  | bl (b : Bool) : Rp F (.bl b) (.bool b)
  | int (i : Int) : Rp F (.int i) (.int i)
  | str (x : Str) : Rp F (.str x) (.str x)
  | lst {a : Addr} {xs : List V} {ds : List D} : F a = some (.lst xs) → RpA F xs ds → Rp F (.ref a) (.list ds)
  | tup {a : Addr} {xs : List V} {ds : List D} : Tz F a xs → RpA F xs ds → Rp F (.ref a) (.tuple ds)
inductive RpA (F : Hp) : List V → List D → Prop
  | nil : RpA F [] []
  | cons {v : V} {vs : List V} {d : D} {ds : List D} : Rp F v d → RpA F vs ds → RpA F (v :: vs) (d :: ds)
end
mutual
theorem Rp.mono {F F' : Hp} (e : Same F F') : ∀ (d : D) (v : V), Rp F v d → Rp F' v d
  | .none, _, h => by cases h; exact .non
  | .bool b, _, h => by cases h; exact .bl b
  | .int i, _, h => by cases h; exact .int i
  | .str x, _, h => by cases h; exact .str x
  | .list ds, _, h => by
    cases h with
    | lst h1 h2 => exact .lst (e _ _ h1) (RpA.mono e ds _ h2)
  | .tuple ds, _, h => by
    cases h with
    | tup h1 h2 => exact .tup (h1.up e) (RpA.mono e ds _ h2)
  | .dict _, _, h => by cases h
theorem RpA.mono {F F' : Hp} (e : Same F F') : ∀ (ds : List D) (vs : List V), RpA F vs ds → RpA F' vs ds
  | [], _, h => by cases h; exact .nil
  | d :: ds, _, h => by
    cases h with
    | cons h1 h2 => exact .cons (Rp.mono e d _ h1) (RpA.mono e ds _ h2)
end
theorem Rp.up {F F' : Hp} {d : D} {v : V} (h : Rp F v d) (e : Same F F') : Rp F' v d := Rp.mono e d v h
theorem RpA.up {F F' : Hp} {d : List D} {v : List V} (h : RpA F v d) (e : Same F F') : RpA F' v d := RpA.mono e d v h
mutual
theorem Rp.dp {K : Fr} {F : Hp} : ∀ (d : D) (v : V), Rp F v d → Dp K F v d
  | .none, _, h => by cases h; exact .non
  | .bool b, _, h => by cases h; exact .bl b
  | .int i, _, h => by cases h; exact .int i
  | .str x, _, h => by cases h; exact .str x
  | .list ds, _, h => by
    cases h with
    | lst h1 h2 => exact .lst (SqL.of h1) (RpA.dp ds _ h2)
  | .tuple ds, _, h => by
    cases h with
    | tup h1 h2 => exact .tup h1.sq (RpA.dp ds _ h2)
  | .dict _, _, h => by cases h
theorem RpA.dp {K : Fr} {F : Hp} : ∀ (ds : List D) (vs : List V), RpA F vs ds → DpAll K F vs ds
  | [], _, h => by cases h; exact .nil
  | d :: ds, _, h => by
    cases h with
    | cons h1 h2 => exact .cons (Rp.dp d _ h1) (RpA.dp ds _ h2)
end
section
variable {F : Hp} {vs ws : List V} {ds es : List D}
theorem RpA.length : ∀ {vs : List V} {ds : List D}, RpA F vs ds → vs.length = ds.length
  | _, _, .nil => rfl
  | _, _, .cons _ t => by simp [RpA.length t]
theorem RpA.append : ∀ {vs ws : List V} {ds es : List D}, RpA F vs ds → RpA F ws es → RpA F (vs ++ ws) (ds ++ es)
  | _, _, _, _, .nil, h => h
  | _, _, _, _, .cons a t, h => .cons a (RpA.append t h)
theorem RpA.getd : ∀ {vs : List V} {ds : List D} {i : Nat} {d : D}, RpA F vs ds → ds[i]? = some d → ∃ v, vs[i]? = some v ∧ Rp F v d
  | _, _, _, _, .nil, h => by simp at h
  | _, _, 0, _, .cons a t, h => by simp at h; subst h; exact ⟨_, rfl, a⟩
  | _, _, i + 1, _, .cons a t, h => by
    obtain ⟨v, h1, h2⟩ := RpA.getd (i := i) t (by simpa using h)
    exact ⟨v, by simpa using h1, h2⟩
theorem RpA.getv : ∀ {vs : List V} {ds : List D} {i : Nat} {v : V}, RpA F vs ds → vs[i]? = some v → ∃ d, ds[i]? = some d ∧ Rp F v d
  | _, _, _, _, .nil, h => by simp at h
  | _, _, 0, _, .cons a t, h => by simp at h; subst h; exact ⟨_, rfl, a⟩
  | _, _, i + 1, _, .cons a t, h => by
    obtain ⟨v, h1, h2⟩ := RpA.getv (i := i) t (by simpa using h)
    exact ⟨v, by simpa using h1, h2⟩
theorem RpA.set : ∀ {vs : List V} {ds : List D} (i : Nat) {v : V} {d : D}, Rp F v d → RpA F vs ds → RpA F (vs.set i v) (ds.set i d)
  | _, _, _, _, _, _, .nil => .nil
  | _, _, 0, _, _, r, .cons a t => .cons r t
  | _, _, i + 1, _, _, r, .cons a t => .cons a (RpA.set i r t)
theorem RpA.take : ∀ {vs : List V} {ds : List D} (n : Nat), RpA F vs ds → RpA F (vs.take n) (ds.take n)
  | _, _, 0, _ => .nil
  | _, _, _ + 1, .nil => .nil
  | _, _, n + 1, .cons a t => .cons a (RpA.take n t)
theorem RpA.drop : ∀ {vs : List V} {ds : List D} (n : Nat), RpA F vs ds → RpA F (vs.drop n) (ds.drop n)
  | _, _, 0, r => r
  | _, _, _ + 1, .nil => .nil
  | _, _, n + 1, .cons _ t => RpA.drop n t
theorem RpA.dropLast (h : RpA F vs ds) : RpA F vs.dropLast ds.dropLast := by
  rw [List.dropLast_eq_take, List.dropLast_eq_take, h.length]
  exact h.take _
theorem RpA.reverse : ∀ {vs : List V} {ds : List D}, RpA F vs ds → RpA F vs.reverse ds.reverse
  | _, _, .nil => .nil
  | _, _, .cons a t => by
    rw [List.reverse_cons, List.reverse_cons]
    exact (RpA.reverse t).append (.cons a .nil)
theorem RpA.rep (h : RpA F vs ds) : ∀ k : Nat, RpA F (List.replicate k vs).flatten (List.replicate k ds).flatten
  | 0 => .nil
  | k + 1 => by
    rw [List.replicate_succ, List.replicate_succ, List.flatten_cons, List.flatten_cons]
    exact h.append (RpA.rep h k)
theorem RpA.last (h : RpA F vs ds) {d : D} (e : ds.getLast? = some d) : ∃ v, vs[vs.length - 1]? = some v ∧ Rp F v d := by
  rw [List.getLast?_eq_getElem?] at e
  rw [h.length]
  exact h.getd e
theorem RpA.isEmpty : RpA F vs ds → vs.isEmpty = ds.isEmpty
  | .nil => rfl
  | .cons _ _ => rfl
theorem RpA.ofInts : ∀ ns : List Int, RpA F (ns.map V.int) (ns.map PyData.int)
  | [] => .nil
  | n :: ns => .cons (.int n) (RpA.ofInts ns)
theorem RpA.ints : ∀ {ns : List Int} {vs : List V}, RpA F vs (ns.map PyData.int) → vs = ns.map V.int
  | [], _, h => by cases h; rfl
  | n :: ns, _, h => by
    cases h with
    | cons h1 h2 => cases h1; rw [RpA.ints h2]; rfl
theorem RpA.bools : ∀ {ns : List Bool} {vs : List V}, RpA F vs (ns.map PyData.bool) → vs = ns.map V.bl
  | [], _, h => by cases h; rfl
  | n :: ns, _, h => by
    cases h with
    | cons h1 h2 => cases h1; rw [RpA.bools h2]; rfl
end
/-! ### the state -/
/-- what is fixed in a def's body: the heap at its entry, what was frozen there, the lists that it may change and their slots -/
structure FC where
  H0 : Hp
  F0 : Hp
  Mu : List Addr
  mp : List Nat
def NotOw (env : Env) (σ : St) (a : Addr) : Prop := ∀ (j : Nat) (ds : List D), env[j]? = some (.ow ds) → σ[j]? ≠ some (some (V.ref a))
def KP (K : Fr) (a : Addr) (xs : List V) : Prop := ∃ (o : Obj) (its : Array Value) (n : Nat), K.lookup a = some o ∧ o.cls = .type "list" ∧ o.dict = none ∧ o.data = .seq its n ∧ its.size ≤ sizeLine ∧ Vals xs its.toList
/-- the script, as it is handed on -/
def ScR (K : Fr) (H : Hp) (Mu : List Addr) (a : Addr) (xs : List V) : Prop := (Rd H a (.lst xs) ∧ a ∉ Mu) ∨ KP K a xs
structure Hd (K : Fr) (C : FC) (F : Hp) (env : Env) (σ : St) (H : Hp) : Prop where
  ex : Same F H
  len : env.length = σ.length
  fz : ∀ (i : Nat) (d : D), env[i]? = some (.fz d) → ∃ v, σ[i]? = some (some v) ∧ Rp F v d
  ow : ∀ (i : Nat) (ds : List D), env[i]? = some (.ow ds) → ∃ a vs, σ[i]? = some (some (V.ref a)) ∧ H a = some (.lst vs) ∧ F a = none ∧ RpA F vs ds ∧ (C.H0 a = none ∨ a ∈ C.Mu)
  bw : ∀ (i : Nat) (ds : List D), env[i]? = some (.bw ds) → ∃ a vs, σ[i]? = some (some (V.ref a)) ∧ C.H0 a = some (.lst vs) ∧ a ∉ C.Mu ∧ RpA F vs ds
  sc : ∀ (i : Nat) (ds : List D), env[i]? = some (.sc ds) → ∃ (a : Addr) (ns : List Int), σ[i]? = some (some (V.ref a)) ∧ ds = ns.map PyData.int ∧ ScR K C.H0 C.Mu a (ns.map V.int)
  inj : ∀ (i j : Nat) (ds es : List D) (a : Addr), env[i]? = some (.ow ds) → env[j]? = some (.ow es) → σ[i]? = some (some (V.ref a)) → σ[j]? = some (some (V.ref a)) → i = j
  keep : ∀ a o, C.H0 a = some o → a ∉ C.Mu → H a = some o
  old : ∀ a, H a = none → C.H0 a = none
  dom : ∀ a, F a ≠ none → C.F0 a ≠ none ∨ C.H0 a = none ∨ a ∈ C.Mu
  mps : ∀ (k i : Nat) (a : Addr), C.mp[k]? = some i → C.Mu[k]? = some a → σ[i]? = some (some (V.ref a))
structure Stp (F : Hp) (env : Env) (σ : St) (H : Hp) (F' : Hp) (env' : Env) (H' : Hp) : Prop where
  exF : Same F F'
  tmp : ∀ a o, F a = none → H a = some o → NotOw env σ a → F' a = none ∧ H' a = some o
  sub : ∀ (i : Nat) (ds : List D), env'[i]? = some (.ow ds) → ∃ es, env[i]? = some (.ow es)
  old : ∀ a, H' a = none → H a = none
theorem Stp.refl {F : Hp} {env : Env} {σ : St} {H : Hp} : Stp F env σ H F env H := ⟨Same.refl F, fun a o h1 h2 _ => ⟨h1, h2⟩, fun i ds h => ⟨ds, h⟩, fun _ h => h⟩
theorem NotOw.sub {env env' : Env} {σ : St} {a : Addr} (n : NotOw env σ a) (s : ∀ (i : Nat) (ds : List D), env'[i]? = some (.ow ds) → ∃ es, env[i]? = some (.ow es)) : NotOw env' σ a := fun j ds h => by
  obtain ⟨es, h'⟩ := s j ds h
  exact n j es h'
theorem Stp.trans {F : Hp} {env : Env} {σ : St} {H F1 : Hp} {env1 : Env} {H1 F2 : Hp} {env2 : Env} {H2 : Hp} (a : Stp F env σ H F1 env1 H1) (b : Stp F1 env1 σ H1 F2 env2 H2) : Stp F env σ H F2 env2 H2 :=
  ⟨a.exF.trans b.exF, fun x o h1 h2 n => by
    obtain ⟨q1, q2⟩ := a.tmp x o h1 h2 n
    exact b.tmp x o q1 q2 (n.sub a.sub), fun i ds h => by
    obtain ⟨es, h1⟩ := b.sub i ds h
    exact a.sub i es h1, fun x h => a.old x (b.old x h)⟩
/-- a result's value -/
def RVR (Hs F : Hp) (env : Env) (σ : St) (H : Hp) : RV → V → Prop
  | .fz d, v => Rp F v d
  | .sl i, v => σ[i]? = some (some v)
  | .tm ds, v => ∃ a vs, v = V.ref a ∧ H a = some (.lst vs) ∧ F a = none ∧ RpA F vs ds ∧ Hs a = none ∧ NotOw env σ a
theorem RVR.step {Hs F : Hp} {env : Env} {σ : St} {H F1 : Hp} {env1 : Env} {H1 : Hp} (s : Stp F env σ H F1 env1 H1) : ∀ {r : RV} {v : V}, RVR Hs F env σ H r v → RVR Hs F1 env1 σ H1 r v
  | .fz d, v, h => Rp.up (show Rp F v d from h) s.exF
  | .sl i, v, h => h
  | .tm ds, v, h => by
    obtain ⟨a, vs, e, h1, h2, h3, h4, h5⟩ := h
    obtain ⟨q1, q2⟩ := s.tmp a _ h2 h1 h5
    exact ⟨a, vs, e, q2, q1, h3.up s.exF, h4, h5.sub s.sub⟩
/-- an expression's reading: what it computes, and a state that holds -/
def tJ (K : Fr) (C : FC) (f : M RV) : TE := fun σ H Q => ∃ F env r env', Hd K C F env σ H ∧ f env = some (r, env') ∧
  ∀ F' H' v, Stp F env σ H F' env' H' → Hd K C F' env' σ H' → RVR H F' env' σ H' r v → Q v H'
def ttJ (K : Fr) (C : FC) (f : M Bool) : TT := fun σ H Q => ∃ F env b env', Hd K C F env σ H ∧ f env = some (b, env') ∧
  ∀ F' H', Stp F env σ H F' env' H' → Hd K C F' env' σ H' → Q b H'
def taJ (K : Fr) (C : FC) (f : M (List D)) : TA := fun σ H Q => ∃ F env ds env', Hd K C F env σ H ∧ f env = some (ds, env') ∧
  ∀ F' H' vs, Stp F env σ H F' env' H' → Hd K C F' env' σ H' → RpA F' vs ds → Q vs H'
def toJ (K : Fr) (C : FC) (f : M (Option Int)) : TO := fun σ H Q => ∃ F env o env', Hd K C F env σ H ∧ f env = some (o, env') ∧
  ∀ F' H', Stp F env σ H F' env' H' → Hd K C F' env' σ H' → Q o H'
def RtR (C : FC) (F : Hp) (env : Env) (σ : St) (H : Hp) : Rt → V → Prop
  | .fz d, v => Rp F v d
  | .ow ds, v => ∃ a vs, v = V.ref a ∧ H a = some (.lst vs) ∧ F a = none ∧ RpA F vs ds ∧ (C.H0 a = none ∨ a ∈ C.Mu) ∧ NotOw env σ a
def PostJ (K : Fr) (C : FC) (F0 : Hp) (D' : Ends) : Fl → Prop
  | .nx e => ∀ F σ H, Same F0 F → Hd K C F e σ H → D'.nx σ H
  | .bk e => ∀ F σ H, Same F0 F → Hd K C F e σ H → D'.bk σ H
  | .ct e => ∀ F σ H, Same F0 F → Hd K C F e σ H → D'.ct σ H
  | .rt r e => ∀ F σ H v, Same F0 F → Hd K C F e σ H → RtR C F e σ H r v → D'.rt v H
theorem PostJ.up {K : Fr} {C : FC} {F0 F1 : Hp} {D' : Ends} (s : Same F0 F1) : ∀ {fl : Fl}, PostJ K C F0 D' fl → PostJ K C F1 D' fl
  | .nx _, q => fun F σ H s' => q F σ H (s.trans s')
  | .bk _, q => fun F σ H s' => q F σ H (s.trans s')
  | .ct _, q => fun F σ H s' => q F σ H (s.trans s')
  | .rt _ _, q => fun F σ H v s' => q F σ H v (s.trans s')
def sJ (K : Fr) (C : FC) (f : SM) : TS := fun D' σ H => ∃ F env fl, Hd K C F env σ H ∧ f env = some fl ∧ PostJ K C F D' fl
def JE (X : Cx) (C : FC) (e : Expr) (f : M RV) : Prop := PE X e (tJ X.K C f)
def JT (X : Cx) (C : FC) (e : Expr) (f : M Bool) : Prop := PT X e (ttJ X.K C f)
def JW (X : Cx) (C : FC) (e : Expr) (f : M Bool) : Prop := PW X e (ttJ X.K C f)
def JA (X : Cx) (C : FC) (n : Nat) (es : List Expr) (f : M (List D)) : Prop := PA X es (taJ X.K C f) ∧ ∀ env ds env', f env = some (ds, env') → ds.length = n
def JO (X : Cx) (C : FC) (e : Option Expr) (f : M (Option Int)) : Prop := PO X e (toJ X.K C f)
def JS (X : Cx) (C : FC) (st : Stmt) (f : SM) : Prop := PS X st (sJ X.K C f)
def JSs (X : Cx) (C : FC) (st : List Stmt) (f : SM) : Prop := PSs X st (sJ X.K C f)
section
variable {X : Cx} {e : Expr} {es : List Expr} {st : Stmt} {sts : List Stmt} {o : Option Expr}
theorem pe_weak {t u : TE} (h : PE X e t) (w : ∀ σ H Q, u σ H Q → t σ H Q) : PE X e u := ⟨fun pins s σ H Q I q => h.run pins s σ H Q I (w σ H Q q)⟩
theorem pt_weak {t u : TT} (h : PT X e t) (w : ∀ σ H Q, u σ H Q → t σ H Q) : PT X e u := ⟨fun pins s σ H Q I q => h.run pins s σ H Q I (w σ H Q q)⟩
theorem pw_weak {t u : TT} (h : PW X e t) (w : ∀ σ H Q, u σ H Q → t σ H Q) : PW X e u := ⟨fun wh pins s σ H Q I q => h.run wh pins s σ H Q I (w σ H Q q)⟩
theorem pa_weak {t u : TA} (h : PA X es t) (w : ∀ σ H Q, u σ H Q → t σ H Q) : PA X es u := ⟨fun pos pins s σ H Q I q => h.run pos pins s σ H Q I (w σ H Q q)⟩
theorem ps_weak {t u : TS} (h : PS X st t) (w : ∀ D' σ H, u D' σ H → t D' σ H) : PS X st u := ⟨fun pins s σ H D' I q => h.run pins s σ H D' I (w D' σ H q)⟩
theorem pss_weak {t u : TS} (h : PSs X sts t) (w : ∀ D' σ H, u D' σ H → t D' σ H) : PSs X sts u := ⟨fun pins s σ H D' I q => h.run pins s σ H D' I (w D' σ H q)⟩
end
/-! ### freezing, storing -/
section
variable {K : Fr} {C : FC} {F F' : Hp} {env env' : Env} {σ : St} {H H' : Hp}
theorem set_get {α : Type} {l : List α} {i j : Nat} {x y : α} (h : (l.set i x)[j]? = some y) : (i = j ∧ y = x ∧ i < l.length) ∨ (i ≠ j ∧ l[j]? = some y) := by
  by_cases e : i = j
  · subst e
    by_cases hl : i < l.length
    · rw [List.getElem?_set_self hl] at h
      exact .inl ⟨rfl, (Option.some.inj h).symm, hl⟩
    · rw [List.getElem?_eq_none (by rw [List.length_set]; omega)] at h
      cases h
  · rw [List.getElem?_set_ne e] at h
    exact .inr ⟨e, h⟩
theorem same_upd {a : Addr} {o : HO} (h : F a = none) : Same F (upd F a o) := fun b u q => by
  rw [upd_ne (ne_of_none q h)]
  exact q
theorem upd_none {a b : Addr} {o : HO} (h : upd F a o b = none) : b ≠ a ∧ F b = none := by
  by_cases e : b = a
  · subst e; rw [upd_same] at h; cases h
  · rw [upd_ne e] at h; exact ⟨e, h⟩
/-- a list that is not frozen is frozen -/
theorem Hd.freeze (h : Hd K C F env σ H) {a : Addr} {vs : List V} (ha : H a = some (.lst vs)) (hf : F a = none) (ho : C.H0 a = none ∨ a ∈ C.Mu) (hn : NotOw env σ a) : Hd K C (upd F a (.lst vs)) env σ H := by
  have s := same_upd (o := .lst vs) hf
  refine ⟨fun b u q => ?_, h.len, fun i d q => ?_, fun i ds q => ?_, fun i ds q => ?_, h.sc, h.inj, h.keep, h.old, fun b q => ?_, h.mps⟩
  · by_cases e : b = a
    · subst e; rw [upd_same] at q; cases q; exact ha
    · rw [upd_ne e] at q; exact h.ex b u q
  · obtain ⟨v, h1, h2⟩ := h.fz i d q
    exact ⟨v, h1, h2.up s⟩
  · obtain ⟨b, ws, h1, h2, h3, h4, h5⟩ := h.ow i ds q
    refine ⟨b, ws, h1, h2, ?_, h4.up s, h5⟩
    have e : b ≠ a := fun e => hn i ds q (by rw [← e]; exact h1)
    rw [upd_ne e]; exact h3
  · obtain ⟨b, ws, h1, h2, h3, h4⟩ := h.bw i ds q
    exact ⟨b, ws, h1, h2, h3, h4.up s⟩
  · by_cases e : b = a
    · subst e; exact .inr ho
    · rw [upd_ne e] at q; exact h.dom b q
/-- a slot is forgotten or told less -/
theorem Hd.put (h : Hd K C F env σ H) {i : Nat} {x : Sl} (hx : ∀ ds, x ≠ .ow ds)
    (hf : ∀ d, x = .fz d → ∃ v, σ[i]? = some (some v) ∧ Rp F v d)
    (hb : ∀ ds, x ≠ .bw ds) (hs : ∀ ds, x ≠ .sc ds) : Hd K C F (env.set i x) σ H := by
  refine ⟨h.ex, by rw [List.length_set]; exact h.len, fun j d q => ?_, fun j d q => ?_, fun j d q => ?_, fun j d q => ?_, fun j k ds es a q1 q2 => ?_, h.keep, h.old, h.dom, h.mps⟩
  · rcases set_get q with ⟨e, e2, _⟩ | ⟨_, q⟩
    · subst e; exact hf d e2.symm
    · exact h.fz j d q
  · rcases set_get q with ⟨e, e2, _⟩ | ⟨_, q⟩
    · exact absurd e2.symm (hx d)
    · exact h.ow j d q
  · rcases set_get q with ⟨e, e2, _⟩ | ⟨_, q⟩
    · exact absurd e2.symm (hb d)
    · exact h.bw j d q
  · rcases set_get q with ⟨e, e2, _⟩ | ⟨_, q⟩
    · exact absurd e2.symm (hs d)
    · exact h.sc j d q
  · rcases set_get q1 with ⟨_, e2, _⟩ | ⟨_, q1⟩
    · exact absurd e2.symm (hx ds)
    · rcases set_get q2 with ⟨_, e2, _⟩ | ⟨_, q2⟩
      · exact absurd e2.symm (hx es)
      · exact h.inj j k ds es a q1 q2
theorem sub_put {i : Nat} {x : Sl} (hx : ∀ ds, x ≠ .ow ds) : ∀ (j : Nat) (ds : List D), (env.set i x)[j]? = some (.ow ds) → ∃ es, env[j]? = some (.ow es) := fun j ds q => by
  rcases set_get q with ⟨_, e2, _⟩ | ⟨_, q⟩
  · exact absurd e2.symm (hx ds)
  · exact ⟨ds, q⟩
/-- a slot's own list is frozen -/
theorem Hd.frzSl (h : Hd K C F env σ H) {i : Nat} {ds : List D} (hi : env[i]? = some (.ow ds)) {v : V} (hv : σ[i]? = some (some v)) :
    ∃ F', Stp F env σ H F' (env.set i (.fz (.list ds))) H ∧ Hd K C F' (env.set i (.fz (.list ds))) σ H ∧ Rp F' v (.list ds) := by
  obtain ⟨a, vs, h1, h2, h3, h4, h5⟩ := h.ow i ds hi
  rw [hv] at h1
  cases h1
  have h' : Hd K C F (env.set i .no) σ H := h.put (fun _ z => nomatch z) (fun _ z => nomatch z) (fun _ z => nomatch z) fun _ z => nomatch z
  have n : NotOw (env.set i .no) σ a := fun j es q z => by
    rcases set_get q with ⟨_, e2, _⟩ | ⟨ne, q⟩
    · cases e2
    · exact ne (h.inj i j ds es a hi q hv z)
  have s := same_upd (o := .lst vs) h3
  have r : Rp (upd F a (.lst vs)) (V.ref a) (.list ds) := .lst upd_same (h4.up s)
  have h2' := (h'.freeze h2 h3 h5 n).put (i := i) (x := .fz (.list ds)) (fun _ z => nomatch z) (fun d z => by cases z; exact ⟨_, hv, r⟩) (fun _ z => nomatch z) fun _ z => nomatch z
  rw [List.set_set] at h2'
  refine ⟨upd F a (.lst vs), ⟨s, fun b o q1 q2 n => ⟨?_, q2⟩, sub_put (fun _ z => nomatch z), fun _ z => z⟩, h2', r⟩
  have e : b ≠ a := fun e => n i ds hi (by rw [e]; exact hv)
  rw [upd_ne e]; exact q1
/-- forgetting where a fresh list began -/
theorem RVR.back {Hs Hs' : Hp} (o : ∀ a, Hs' a = none → Hs a = none) : ∀ {r : RV} {v : V}, RVR Hs' F env σ H r v → RVR Hs F env σ H r v
  | .fz d, v, h => h
  | .sl i, v, h => h
  | .tm ds, v, h => by
    obtain ⟨a, vs, e, h1, h2, h3, h4, h5⟩ := h
    exact ⟨a, vs, e, h1, h2, h3, o a h4, h5⟩
theorem Hd.fzv {F0 Hs : Hp} {env0 : Env} (h : Hd K C F env σ H) (h0 : Hd K C F0 env0 σ Hs) (s : Stp F0 env0 σ Hs F env H) {r : RV} {v : V} (hr : RVR Hs F env σ H r v) {d : D} (hd : fzv env r = some (d, env')) :
    ∃ F', Stp F0 env0 σ Hs F' env' H ∧ Hd K C F' env' σ H ∧ Rp F' v d ∧ Same F F' := by
  cases r with
  | fz d' => simp at hd; obtain ⟨rfl, rfl⟩ := hd; exact ⟨F, s, h, hr, Same.refl F⟩
  | tm ds =>
    simp at hd; obtain ⟨rfl, rfl⟩ := hd
    obtain ⟨a, vs, rfl, h1, h2, h3, h4, h5⟩ := hr
    have sm := same_upd (o := .lst vs) h2
    have fr := h.freeze h1 h2 (.inl (h0.old a h4)) h5
    refine ⟨upd F a (.lst vs), ⟨s.exF.trans sm, fun b o q1 q2 n => ?_, s.sub, s.old⟩, fr, .lst upd_same (h3.up sm), sm⟩
    obtain ⟨p1, p2⟩ := s.tmp b o q1 q2 n
    have e : b ≠ a := ne_of_none q2 h4
    exact ⟨by rw [upd_ne e]; exact p1, p2⟩
  | sl i =>
    have hv : σ[i]? = some (some v) := hr
    simp only [J.fzv] at hd
    split at hd
    · rename_i d' q
      cases hd
      obtain ⟨w, h1, h2⟩ := h.fz i _ q
      rw [hv] at h1; cases h1
      exact ⟨F, s, h, h2, Same.refl F⟩
    · rename_i ds q
      cases hd
      obtain ⟨F', s', h', r'⟩ := h.frzSl q hv
      exact ⟨F', s.trans s', h', r', s'.exF⟩
    · cases hd
end
end J
/-! JZ: rules that lay a tuple and tell that it has no dict of its own; t.count(x). -/
namespace J
open PySem L2 PySem.Spec PyProof.Rows
section
variable {X : Cx} {pins : List (Addr × Obj)} {σ : L2.St} {H : Hp} {s : Shared} {Q : VK}
/-- what is asked of a tuple that is laid -/
def LaysT (H : Hp) (xs : List V) (Q : VK) : Prop := ∀ (p : Addr) (o : Obj), H p = none → o.dict = none → Q (.ref p) (upd H p (.frz o (.tup xs)))
theorem okZ {P : Program} {w : World} {H' : Hp} {h : Heap} {xs : List V} {its : List Value} (hz : xs.length ≤ sizeLine) (r : Vals xs its) :
    ObjOk P w H' (h.push { cls := .type "tuple", data := .seq its.toArray }) h.objs.size (.frz { cls := .type "tuple", data := .seq its.toArray } (.tup xs)) :=
  ⟨Heap.get?_push_size _ rfl, hz, its, r, IsTup.new _ _⟩
theorem layZ {xs : List V} {its : List Value} {t : Nat} (I : Inv X pins σ H s) (hz : xs.length ≤ sizeLine) (r : Vals xs its) (q : LaysT H xs Q) :
    EP X pins σ Q (.ref s.heap.objs.size) { s with heap := s.heap.push { cls := .type "tuple", data := .seq its.toArray }, toks := t } :=
  ⟨.ref s.heap.objs.size, _, I.laid (t' := t) (fun b u e => Heap.get?_push_of_some _ e) (Nat.le_refl _) (okZ hz r), rfl, q _ _ (I.hok.fresh (Nat.le_refl _)) rfl⟩
variable {es : List Expr} {e a : Expr} {t : TA} {ta : TE} {pos p : Pos}
def tTupZ (t : TA) : TE := fun σ H Q => t σ H fun xs H1 => xs.length ≤ sizeLine ∧ LaysT H1 xs Q
theorem pe_tupZ {x1} (h : PA X es t) : PE X (.Tuple es x1 pos) (tTupZ t) := by
  refine ⟨fun pins s σ H Q I hq => ?_⟩
  exact wpAny_Tuple_spliced (thn (h.run pos pins s σ H _ I hq) fun us s1 ⟨xs, H1, I1, r, z, q⟩ => ⟨by rw [← r.length]; exact z, layZ I1 z r q⟩)
def rSlZ (K : Fr) : V → Option Int → Option Int → Hp → VK → Prop := fun x lo hi H Q => ∃ a xs, x = .ref a ∧ SqT K H a xs ∧
  ¬ (HT.sIx xs.length 0 lo = 0 ∧ HT.sIx xs.length xs.length hi = xs.length) ∧ LaysT H (cutV xs lo hi) Q
theorem sl_tupZ : SlR X (rSlZ X.K) := by
  intro pins s σ H x v vl vu lo hi sl Q I rx hs pl pu h
  obtain ⟨a, xs, rfl, hx, hw, q⟩ := h
  cases rx
  obtain ⟨its, r, ht, hz⟩ := I.tuple hx
  have hlen : its.toArray.size = xs.length := by rw [List.size_toArray]; exact r.length.symm
  refine ⟨"tuple", _, PyProof.Rows.slot_tuple_getitem.lookup, ht.typeIs, ?_⟩
  refine HT.getItem_tuple_cut ht hs pl pu (by rw [hlen]; exact hw) ?_ (by rw [hlen]; exact hz)
  rw [hlen]
  exact layZ I (Nat.le_trans (cutV_length xs lo hi) hz) ((r.drop (HT.sIx xs.length 0 lo)).take (HT.sIx xs.length xs.length hi - HT.sIx xs.length 0 lo)) q
theorem getItem_tuple_all {prog : Program} {w : World} {A : Around} {E : Value → Shared → Prop} {s : Shared} {t sl : Addr} {items : Array Value} {vl vu : Value} {lo hi : Option Int} {Q : Value → Shared → Prop} (ht : IsTup s.heap t items) (hs : s.heap.IsSliceOf sl vl vu .none) (pl : IsPart vl lo) (pu : IsPart vu hi)
    (hw : HT.sIx items.size 0 lo = 0 ∧ HT.sIx items.size items.size hi = items.size) (h : Q (.ref t) s) : wpAny (model prog w) A (getItem (.ref t) (.ref sl)) Q E s := by
  obtain ⟨os, hos, hcs, hds⟩ := id hs
  have hTs : s.TypeIs (.ref sl) "slice" := ⟨os, hos, hcs⟩
  unfold getItem
  try with_reducible refine wpAny_holding ?_
  first | refine wpAny_bind (wpAny_pure ?_) | skip
  refine wpAny_bind (wpAny_sequenceKey ht.typeIs (by decide) ?_)
  refine wpAny_bind (wpAny_callSpecial?_slot (name := Str.ofString "__getitem__") ht.typeIs PyProof.Rows.slot_tuple_getitem
    (wpAny_call_entry PyProof.Rows.slot_tuple_getitem ht.typeIs entry_tuple_getitem ?_ (args_tuple_getitem _ _)))
  show wpAny _ _ (Builtin.Tuple.tupleItemsOf (.ref t) >>= _) _ _ s
  refine wpAny_bind (tupleItemsOf_ ht ?_)
  refine wpAny_bind (wpAny_typeOf hTs ?_)
  rw [if_pos (by decide)]
  refine wpAny_bind (HT.sliceApplied_gen hs pl pu ?_)
  have hyes : (((HT.sIx items.size 0 lo : Nat) : Int) == 0 && (1 : Int) == 1 && (HT.sIx items.size items.size hi - HT.sIx items.size 0 lo) == items.size) = true := by
    rw [hw.1, hw.2]
    simp
  show wpAny _ _ (if (((HT.sIx items.size 0 lo : Nat) : Int) == 0 && (1 : Int) == 1 && (HT.sIx items.size items.size hi - HT.sIx items.size 0 lo) == items.size) = true then _ else _) _ _ s
  rw [if_pos hyes]
  refine wpAny_bind ?_
  unfold Builtin.Tuple.tupleIsExact
  refine wpAny_bind (wpAny_typeOf ht.typeIs (wpAny_pure ?_))
  rw [if_pos (by decide)]
  refine wpAny_bind (wpAny_rule ?_)
  first
    | exact wpAny_pure ⟨_, rfl, wpAny_pure h⟩
    | exact wpAny_bind (wpAny_pure (wpAny_pure ⟨_, rfl, wpAny_pure h⟩))
    | exact wpAny_bind (wpAny_pure (wpAny_pure (wpAny_pure ⟨_, rfl, wpAny_pure h⟩)))
    | exact wpAny_pure (wpAny_pure ⟨_, rfl, wpAny_pure h⟩)
def rSlW (K : Fr) : V → Option Int → Option Int → Hp → VK → Prop := fun x lo hi H Q => ∃ a xs, x = .ref a ∧ SqT K H a xs ∧
  (HT.sIx xs.length 0 lo = 0 ∧ HT.sIx xs.length xs.length hi = xs.length) ∧ Q (.ref a) H
theorem sl_tupW : SlR X (rSlW X.K) := by
  intro pins s σ H x v vl vu lo hi sl Q I rx hs pl pu h
  obtain ⟨a, xs, rfl, hx, hw, q⟩ := h
  cases rx
  obtain ⟨its, r, ht, hz⟩ := I.tuple hx
  have hlen : its.toArray.size = xs.length := by rw [List.size_toArray]; exact r.length.symm
  refine ⟨"tuple", _, PyProof.Rows.slot_tuple_getitem.lookup, ht.typeIs, ?_⟩
  exact getItem_tuple_all ht hs pl pu (by rw [hlen]; exact hw) ⟨.ref a, H, I, rfl, q⟩
def rCatZ (K : Fr) : R2 := fun x y H Q => ∃ a b xs ys, x = .ref a ∧ y = .ref b ∧ SqT K H a xs ∧ SqT K H b ys ∧ xs ≠ [] ∧ xs.length + ys.length ≤ sizeLine ∧
  (ys = [] → Q (.ref a) H) ∧ (ys ≠ [] → LaysT H (xs ++ ys) Q)
theorem op_catZ : OpR X (binaryOp .Add) (rCatZ X.K) := by
  intro pins s σ H x y v u Q I rx ry h
  obtain ⟨a, b, xs, ys, rfl, rfl, ha, hb, hx, hz, q1, q2⟩ := h
  cases rx
  cases ry
  obtain ⟨its, r1, p1, _⟩ := I.tuple ha
  obtain ⟨its2, r2, p2, _⟩ := I.tuple hb
  exact HT.cat_tup p1 p2 (fun z => hx (r1.nil_iff.mp z)) (fun z => ⟨.ref a, H, I, rfl, q1 (r2.nil_iff.mp z)⟩) (fun z => layZ (t := s.toks) I (by rw [List.length_append]; exact hz) (r1.append r2) (q2 fun w => z (r2.nil_iff.mpr w))) (by rw [← r1.length, ← r2.length]; exact hz)
theorem call_tupleZ : CallR X (.type "tuple") (fun xs H Q => ∃ p ys, xs = [.ref p] ∧ ((SqL X.K H p ys ∧ LaysT H ys Q) ∨ (SqT X.K H p ys ∧ Q (.ref p) H))) := by
  intro pins s σ H xs us Q I r h
  obtain ⟨p, ys, rfl, h⟩ := h
  obtain ⟨u, rfl, rx⟩ := vals1 r
  cases rx
  rcases h with ⟨hq, q⟩ | ⟨hq, q⟩
  · obtain ⟨its, r', pl, hz⟩ := I.list hq
    have hlen := r'.length
    refine call_tuple_list pl.isList (fun h' kp => ?_) (by rw [List.size_toArray, ← hlen]; exact hz)
    exact layZ (s := { s with heap := h' }) (t := s.toks) (I.kept (t' := s.toks) kp) hz r' q
  · obtain ⟨its, r', pl, hz⟩ := I.tuple hq
    exact call_tuple_same pl ⟨.ref p, H, I, rfl, q⟩
/-! tuple(range(..)) -/
def cV (i c : Int) (n : Nat) : List V := (List.range n).map fun (k : Nat) => V.int (i + (k : Int) * c)
def PRgC (X : Cx) (e : Expr) (t : L2.St → Hp → (Int → Int → Nat → Hp → Prop) → Prop) : Prop :=
  ∀ (pins : List (Addr × Obj)) (s : Shared) (σ : L2.St) (H : Hp) (Q : Int → Int → Nat → Hp → Prop), Inv X pins σ H s → t σ H Q →
    wpAny (model X.prog X.w) X.A (eval e X.env) (fun x s' => ∃ (r : Addr) (i j c : Int) (n : Nat) (u v w : Tok) (H' : Hp), x = .ref r ∧ IsRange s'.heap r i j c u v w ∧ Builtin.Range.small i j c = true ∧ Builtin.Range.rangeSize i j c = n ∧ Inv X pins σ H' s' ∧ Q i c n H') X.xe s
theorem prgc_of {te : L2.St → Hp → (Int → Int → Hp → Prop) → Prop} (h : PRg X e te) : PRgC X e (fun σ H R => te σ H fun i j H1 => (-(2 ^ 62) ≤ i ∧ i < 2 ^ 62 ∧ -(2 ^ 62) ≤ j ∧ j < 2 ^ 62) ∧ R i 1 (j - i).toNat H1) := by
  intro pins s σ H Q I q
  refine thn (h pins s σ H _ I q) fun x s1 ⟨r, i, j, u, v, w, H1, ex, hr, I1, ⟨b1, b2, b3, b4⟩, q1⟩ => ?_
  exact ⟨r, i, j, 1, _, u, v, w, H1, ex, hr, small_one b1 b2 b3 b4, rangeSize_nat i j, I1, q1⟩
def tRg3 (t : TA) : L2.St → Hp → (Int → Int → Nat → Hp → Prop) → Prop := fun σ H R => t σ H fun vs H1 => ∃ (i j c : Int) (n : Nat), vs = [.int i, .int j, .int c] ∧ RgC i j c n ∧ R i c n H1
theorem prgc_3 {a b c : Expr} {t : TA} (hg : Gl X "range") (hm : X.mg "range" = none) (ha : PA X [a, b, c] t)
    (hs : starEach [a, b, c] X.env = (false, eval a X.env) :: starEach [b, c] X.env := by rfl) (hpl : (backTo pos (starEach [b, c] X.env)).any (·.1) = false := by rfl) : PRgC X (.Call (.Name "range" p) [a, b, c] [] pos) (tRg3 t) := by
  intro pins s σ H Q I h
  refine Call_ (ld_blt I hg hm boot_range (PyProof.Rows.callWith_type1 (thn (ha.run pos pins s σ H _ I h) fun us s1 ⟨vs, H1, I1, r1, q1⟩ => ?_) hs hpl))
  obtain ⟨i, j, k, n, e, ⟨c0, c1, c2, c3⟩, q⟩ := q1
  subst e
  cases r1 with
  | cons r rr =>
    cases rr with
    | cons r' rr =>
      cases rr with
      | cons r'' rr =>
        cases rr
        obtain ⟨t, rfl⟩ := r
        obtain ⟨t', rfl⟩ := r'
        obtain ⟨t'', rfl⟩ := r''
        refine call_range_3 c0 ?_ (.inl (PyProof.noPylong_small c1))
        exact ⟨_, i, j, k, n, _, _, _, H1, rfl, IsRange.new .., c2, c3, I1.kept (t' := s1.toks) fun b o e => Heap.get?_push_of_some _ e, q⟩
variable {te : L2.St → Hp → (Int → Int → Nat → Hp → Prop) → Prop}
def tTupRgC (te : L2.St → Hp → (Int → Int → Nat → Hp → Prop) → Prop) : TE := fun σ H Q => te σ H fun i c n H1 => n ≤ 2 ^ 24 ∧ LaysT H1 (cV i c n) Q
theorem pe_tupRgC (hc : X.calm = true) (hg : Gl X "tuple") (hm : X.mg "tuple" = none) (he : PRgC X e te) (na : starEach [e] X.env = (false, eval e X.env) :: starEach [] X.env := by rfl) : PE X (.Call (.Name "tuple" p) [e] [] pos) (tTupRgC te) := by
  refine ⟨fun pins s σ H Q I h => ?_⟩
  refine Call_ (ld_blt I hg hm boot_tuple (PyProof.Rows.callWith_type1 (args_cons (thn (he pins s σ H _ I h) fun x s1 ⟨r, i, j, c, n, u, v, w, H1, ex, hr, hsm, hn, I1, hz, q⟩ => args_nil ?_) na) na))
  subst ex
  refine call_tuple_range (I1.ok.hd hc) hr hsm hn hz fun h' tk acc hk hi => ?_
  have l : (cV i c n).length = n := by unfold cV; rw [List.length_map, List.length_range]
  have v : Vals (cV i c n) acc.toList := by
    refine vals_of_at (by rw [l, Array.length_toList]; exact hi.1.symm) fun k x u hx hu => ?_
    have hk : k < n := by
      have z := (List.getElem?_eq_some_iff.mp hx).1
      rw [l] at z
      exact z
    unfold cV at hx
    rw [List.getElem?_map, List.getElem?_range hk] at hx
    cases hx
    obtain ⟨t, rfl⟩ := hi.2 k u (by rw [← hu, Array.getElem?_toList])
    exact ⟨t, rfl⟩
  have z := layZ (X := X) (pins := pins) (σ := σ) (H := H1) (Q := Q) (s := { s1 with heap := h', toks := tk }) (t := tk) (I1.kept hk) (by rw [l, sizeLine_eq]; omega) v q
  rw [Array.toArray_toList] at z
  exact z
/-! t.count(x) -/
theorem cnt_eqU {x : V} : ∀ {xs : List V} {us : List Value}, Vals xs us → xs.all flatV = true → us.countP (eqU x) = xs.countP fun y => eqV y x
  | _, _, .nil, _ => rfl
  | y :: xs, u :: us, .cons r t, f => by
    rw [List.all_cons, Bool.and_eq_true] at f
    rw [List.countP_cons, List.countP_cons, eqU_of r f.1, cnt_eqU t f.2]
theorem slotT_count : Slot "tuple" "count" "tuple.count" := PySem.F.slot_tuple_count
def rCnt (H0 : Hp) : V → List V → Hp → VK → Prop := fun x vs H Q => ∃ a xs y, x = .ref a ∧ vs = [y] ∧ Tz H a xs ∧ xs.all flatV = true ∧ flatV y = true ∧ Q (.int ((xs.countP fun z => eqV z y : Nat) : Int)) H
theorem mt_count : MtR X "tuple.count" (rCnt H) := by
  intro pins s σ H x vs v us Q I rx rv h
  obtain ⟨a, xs, y, rfl, rfl, ⟨ob, hH, hd⟩, fx, fy, q⟩ := h
  cases rx
  obtain ⟨u, rfl, ru⟩ := rv.one
  obtain ⟨e, _, its, r, ⟨o2, e2, c2, n, d2⟩⟩ := (show ObjOk X.prog X.w H s.heap a (.frz ob (.tup xs)) from I.hok a _ hH)
  rw [e] at e2
  cases e2
  obtain ⟨cls, dd, data, sl⟩ := ob
  simp only at c2 d2 hd
  subst c2 d2 hd
  refine call_meets PySem.F.slot_tuple_count ⟨_, e, rfl⟩ PySem.F.entry_tuple_count (PySem.F.args_tuple_count_2 _ _) (SeqAt.tuple_countAt a its.toArray n none sl u (eqU y)) ⟨e, fun z hz => mem_eqAt ru fy r fx z (by simpa using hz), ?_⟩
  have z : its.toArray.toList.countP (eqU y) = xs.countP fun z => eqV z y := by rw [List.toList_toArray]; exact cnt_eqU r fx
  rw [z]
  exact ⟨.int _, H, I.kept (t' := s.toks + 1) (fun b o e => e), ⟨_, rfl⟩, q⟩
/-! o.m(..) of a tuple -/
def tBMT (r : V → List V → Hp → VK → Prop) (to : TE) (t : TA) : TE := fun σ H Q => to σ H fun x H1 => (∃ a xs, x = .ref a ∧ Tz H1 a xs) ∧ t σ H1 fun xs H2 => r x xs H2 Q
theorem pe_bmT {o : Expr} {to : TE} {name : Str} {apos cpos : Pos} {id : String} {r : V → List V → Hp → VK → Prop} (slot : Slot "tuple" name id) (hty : typeOf (.builtin id) = pure (.type "method_descriptor")) (hm : MtR X id r) (ho : PE X o to) (ha : PA X (e :: es) t)
    (hbase : attributeBase o name X.env (eval o X.env) = eval o X.env := by rfl)
    (hfew : ((backTo cpos (starEach (e :: es) X.env)).all (fun x => !x.1) && (backToKw cpos (keywordEach [] X.env)).all (fun x => x.1.isSome)
      && decide ((e :: es).length + ([] : List Keyword).length + (if ([] : List Keyword).isEmpty then 0 else 1) < 30)) = true := by rfl)
    (hline : (apos.endLine == cpos.line) = true := by rfl) (hs : starEach (e :: es) X.env = (false, eval e X.env) :: starEach es X.env := by rfl) (hplain : (backTo cpos (starEach es X.env)).any (·.1) = false := by rfl) :
    PE X (.Call (.Attribute o name apos) (e :: es) [] cpos) (tBMT r to t) := by
  refine ⟨fun pins s σ H Q I h => ?_⟩
  refine wpAny_Call_method_late hbase hfew hline rfl (thn (ho.run pins s σ H _ I h) fun v s1 ⟨x, H1, I1, r1, ⟨a, xs, ex, ob, hH, hd⟩, q1⟩ => ?_)
  subst ex
  cases r1
  obtain ⟨e1, _, its, _, ⟨o2, e2, c2, _⟩⟩ := (show ObjOk X.prog X.w H1 s1.heap a (.frz ob (.tup xs)) from I1.hok a _ hH)
  rw [e1] at e2
  cases e2
  refine ⟨"tuple", id, PySem.F.plainAttrs_tuple, slot, hty, ⟨ob, e1, c2⟩, fun b z => by cases z; exact ⟨ob, e1, hd⟩, ?_⟩
  have hA := ha.run cpos pins s1 σ H1 _ I1 q1
  rw [hs] at hA ⊢
  refine Calls.callWith_builtin (by show (false || (backTo cpos (starEach es X.env)).any (·.1)) = false; rw [hplain] <;> rfl) (Calls.evalArgs_plain ?_)
  exact thn hA fun us s2 ⟨vs, H2, I2, r2, q2⟩ => hm pins s2 σ H2 (.ref a) vs (.ref a) us Q I2 rfl r2 q2
/-! enumerate over a list -/
def IteZ (K : Fr) (a : Addr) : L2.It where
  go := fun i H => ∃ xs x, SqL K H a xs ∧ xs[i]? = some x
  yld := fun i H v H' => ∃ (T : Addr) (o : Obj) (x : V), v = V.ref T ∧ H T = none ∧ o.dict = none ∧ H' = upd H T (.frz o (.tup [.int (i : Nat), x])) ∧ ∀ xs, SqL K H a xs → xs[i]? = some x
  stop := fun i H => ∃ xs : List V, SqL K H a xs ∧ xs.length ≤ i
theorem pairZ {P : Program} {w : World} {H' : Hp} {h : Heap} {a : Addr} {i : Int} {x : V} {t : Tok} {u : Value} (ru : RelV x u) (e : h.get? a = some { cls := .type "tuple", data := .seq #[.int i t, u] }) :
    ObjOk P w H' h a (.frz { cls := .type "tuple", data := .seq #[.int i t, u] } (.tup [.int i, x])) :=
  ⟨e, (by show 2 ≤ sizeLine; decide), [.int i t, u], .cons ⟨_, rfl⟩ (.cons ru .nil), ⟨_, e, rfl, _, rfl⟩⟩
theorem turn_enZ {P : Program} {w : World} {K : Fr} {elts : List Expr} {kk : Nat} {tpos : Pos} (a e it : Addr) :
    Turn P w K (.Tuple elts kk tpos) (IteZ K a) [e, it] e (fun i h => (∃ old, IsEnum h e it ((i : Nat) : Int) old) ∧ h.IsListIter it a i ∧ e ≠ it) where
  mem := by simp
  obj := fun i h st b hb => by
    obtain ⟨⟨old, h1⟩, ⟨o, h2, _, h3⟩, _⟩ := st
    rcases List.mem_cons.mp hb with rfl | hb
    · exact ⟨_, h1, fun v q => nomatch q⟩
    · rw [List.mem_singleton.mp hb]
      exact ⟨o, h2, fun v q => by rw [h3] at q; cases q⟩
  keep := fun i h h' ⟨⟨old, h1⟩, h2, n⟩ k => ⟨⟨old, k e (by simp) _ h1⟩, h2.at fun o q => k it (by simp) o q, n⟩
  item := by
    intro X hP hw hK hc i pins s σ H E I hf st hg
    subst hP hw hK
    obtain ⟨⟨old, h1⟩, h2, n⟩ := st
    obtain ⟨xs, x, hq, hx⟩ := hg
    obtain ⟨its, rv, p, _⟩ := I.list hq
    obtain ⟨u, hu, ru⟩ := rv.get hx
    have le : e < s.heap.objs.size := Heap.lt_size h1
    have li : it < s.heap.objs.size := by obtain ⟨_, q, _⟩ := h2; exact Heap.lt_size q
    refine wpAny_pyNext_enum_item h1 h2 p.isList (x := u) (by simpa using hu) n fun h' ho hst hT hsz hk => ?_
    refine ⟨_, rfl, wpAny_letOwnedTupleGo_enum (s := { s with heap := h', toks := s.toks + 1 }) ho fun h'' he' sb => ?_⟩
    have hT2 : h''.get? s.heap.objs.size = some { cls := .type "tuple", data := .seq #[.int i s.toks, u] } := (sb.2 _ (Nat.ne_of_gt le)).trans hT
    have I1 : Inv X pins σ (upd H s.heap.objs.size (.frz { cls := .type "tuple", data := .seq #[.int (i : Nat) s.toks, u] } (.tup [.int (i : Nat), x]))) { s with heap := h'', toks := s.toks + 1 } := by
      refine I.turnedNew (ch := [e, it]) (fun b ob hb q => ?_) hf (Nat.le_refl _) (pairZ (i := (i : Nat)) ru hT2)
      have ne : b ≠ e := fun z => hb (by simp [z])
      have ni : b ≠ it := fun z => hb (by simp [z])
      exact (sb.2 b ne).trans (hk b ob ne ni q)
    refine ⟨.ref s.heap.objs.size, _, I1, rfl, ⟨_, _, x, rfl, I.hok.fresh (Nat.le_refl _), rfl, rfl, fun ys hy => by rw [I.list_inj hy hq]; exact hx⟩, ⟨⟨u, ?_⟩, hst.at fun o q => (sb.2 it (Ne.symm n)).trans q, n⟩, fun b hb => ?_⟩
    · rw [Int.natCast_succ]
      exact he'
    · have lb : b < s.heap.objs.size := by
        rcases List.mem_cons.mp hb with rfl | hb
        · exact le
        · rw [List.mem_singleton.mp hb]; exact li
      rw [upd_ne (Nat.ne_of_lt lb)]
      exact (hf b hb).1
  done := by
    intro X hP hw hK hc i pins s σ H E I hf st hg
    subst hP hw hK
    obtain ⟨⟨old, h1⟩, h2, n⟩ := st
    obtain ⟨xs, hq, hx⟩ := hg
    obtain ⟨its, rv, p, _⟩ := I.list hq
    obtain ⟨f0, f1, f2, f3, f4, f5⟩ := hf it (by simp)
    have hl := rv.length
    exact wpAny_pyNext_enum_end (I.ok.hd hc) h1 h2 p.isList (by rw [List.getElem?_toArray, List.getElem?_eq_none (by omega)]) fun h' eb => ⟨rfl, I.turned (t' := s.toks) (fun b o hb q => eb b o hb q) f0 f1 f3 f4 f5⟩
  self := fun A i s Q E st h => by
    obtain ⟨⟨_, h1⟩, _⟩ := st
    exact wpAny_pyIter_enum h1 h
def iEnZ (K : Fr) (ta : TA) : TI := fun σ H R => ta σ H fun vs H1 => ∃ a xs, vs = [.ref a] ∧ SqL K H1 a xs ∧ R (IteZ K a) H1
theorem pi_enZ {e : Expr} {ta : TA} {p pos tpos : Pos} {elts : List Expr} {kk : Nat} (hg : Gl X "enumerate") (hm : X.mg "enumerate" = none) (ha : PA X [e] ta) (hs : starEach [e] X.env = [(false, eval e X.env)] := by rfl) :
    PI X (.Tuple elts kk tpos) (.Call (.Name "enumerate" p) [e] [] pos) (iEnZ X.K ta) := by
  refine ⟨fun pins s σ H R I h => Call_ (ld_blt I hg hm boot_enumerate (PyProof.Rows.callWith_type1 (thn (ha.run pos pins s σ H _ I h) fun us s1 ⟨vs, H1, I1, r1, a, xs, ex, hq, q⟩ => ?_) hs rfl))⟩
  subst ex
  cases r1 with
  | cons r rr =>
    cases rr
    cases r
    obtain ⟨its, rv, p', _⟩ := I1.list hq
    refine call_enumerate_list p'.isList fun h' he hit hsz hk => wpAny_pyIter_enum he ?_
    have I2 : Inv X pins σ H1 { s1 with heap := h' } := I1.kept (t' := s1.toks) hk
    refine ⟨s1.heap.objs.size + 1, [s1.heap.objs.size + 1, s1.heap.objs.size], _, _, H1, rfl, I2, turn_enZ a (s1.heap.objs.size + 1) s1.heap.objs.size, ⟨⟨.none, he⟩, hit, Nat.succ_ne_self _⟩, fun b hb => ?_, q⟩
    have le : s1.heap.objs.size ≤ b := by
      rcases List.mem_cons.mp hb with rfl | hb
      · exact Nat.le_add_right _ _
      · rw [List.mem_singleton.mp hb]; exact Nat.le_refl _
    exact I1.fpOk le (I1.hok.fresh le)
end
end J
namespace J
open PySem L2
/-- the heaps behind an operation: as they were, or with a new tuple -/
def Ext (F H F' H' : Hp) : Prop := (F' = F ∧ H' = H) ∨ ∃ p o xs, H p = none ∧ o.dict = none ∧ F' = upd F p (.frz o (.tup xs)) ∧ H' = upd H p (.frz o (.tup xs))
def POp (F H : Hp) : Rt → VK → Prop
  | .fz d, Q => ∀ v F' H', Ext F H F' H' → Rp F' v d → Q v H'
  | .ow ds, Q => ∀ p vs, H p = none → RpA F vs ds → Q (.ref p) (upd H p (.lst vs))
def VwD (F H : Hp) (v : V) : D → Prop
  | .list ds => ∃ a vs, v = V.ref a ∧ H a = some (.lst vs) ∧ RpA F vs ds
  | d => Rp F v d
section
variable {K : Fr} {C : FC} {F F' : Hp} {env env' : Env} {σ : St} {H H' : Hp}
theorem VwD.of (s : Same F H) {v : V} : ∀ {d : D}, Rp F v d → VwD F H v d
  | .list ds, h => by
    cases h with
    | lst h1 h2 => exact ⟨_, _, rfl, s _ _ h1, h2⟩
  | .none, h => h
  | .bool _, h => h
  | .int _, h => h
  | .str _, h => h
  | .tuple _, h => h
  | .dict _, h => h
theorem VwD.dp (s : Same F H) {v : V} : ∀ {d : D}, VwD F H v d → Dp K H v d
  | .list ds, h => by
    obtain ⟨a, vs, rfl, h1, h2⟩ := h
    exact .lst (SqL.of h1) (RpA.dp ds _ (h2.up s))
  | .none, h => Rp.dp _ _ (Rp.up (show Rp F v _ from h) s)
  | .bool _, h => Rp.dp _ _ (Rp.up (show Rp F v _ from h) s)
  | .int _, h => Rp.dp _ _ (Rp.up (show Rp F v _ from h) s)
  | .str _, h => Rp.dp _ _ (Rp.up (show Rp F v _ from h) s)
  | .tuple _, h => Rp.dp _ _ (Rp.up (show Rp F v _ from h) s)
  | .dict _, h => Rp.dp _ _ (Rp.up (show Rp F v _ from h) s)
theorem Hd.vw {Hs : Hp} (h : Hd K C F env σ H) {r : RV} {v : V} (hr : RVR Hs F env σ H r v) {d : D} (hd : dr env r = some d) : VwD F H v d := by
  cases r with
  | fz d' => simp at hd; subst hd; exact VwD.of h.ex hr
  | tm ds =>
    simp at hd; subst hd
    obtain ⟨a, vs, e, h1, h2, h3, _⟩ := hr
    exact ⟨a, vs, e, h1, h3⟩
  | sl i =>
    have hv : σ[i]? = some (some v) := hr
    simp only [dr] at hd
    split at hd
    · rename_i d' q
      cases hd
      obtain ⟨w, h1, h2⟩ := h.fz i _ q
      rw [hv] at h1; cases h1
      exact VwD.of h.ex h2
    · rename_i ds q
      cases hd
      obtain ⟨a, vs, h1, h2, _, h4, _⟩ := h.ow i _ q
      rw [hv] at h1; cases h1
      exact ⟨a, vs, rfl, h2, h4⟩
    · rename_i ds q
      cases hd
      obtain ⟨a, vs, h1, h2, h3, h4⟩ := h.bw i _ q
      rw [hv] at h1; cases h1
      exact ⟨a, vs, rfl, h.keep _ _ h2 h3, h4⟩
    · cases hd
theorem Same.none {F H : Hp} (s : Same F H) {p : Addr} (h : H p = none) : F p = none := by
  cases e : F p with
  | none => rfl
  | some o => rw [s p o e] at h; cases h
/-- a new object beside -/
theorem Hd.new (h : Hd K C F env σ H) {p : Addr} {o : HO} (hp : H p = none) : Hd K C F env σ (upd H p o) := by
  refine ⟨fun a u q => ?_, h.len, h.fz, fun i ds q => ?_, h.bw, h.sc, h.inj, fun a u q n => ?_, fun a q => h.old a (upd_none q).2, h.dom, h.mps⟩
  · have := h.ex a u q
    rw [upd_ne (ne_of_none this hp)]; exact this
  · obtain ⟨a, vs, h1, h2, h3⟩ := h.ow i ds q
    exact ⟨a, vs, h1, by rw [upd_ne (ne_of_none h2 hp)]; exact h2, h3⟩
  · have := h.keep a u q n
    rw [upd_ne (ne_of_none this hp)]; exact this
theorem Stp.new {p : Addr} {o : HO} (hp : H p = none) : Stp F env σ H F env (upd H p o) :=
  ⟨Same.refl F, fun a u q1 q2 _ => ⟨q1, by rw [upd_ne (ne_of_none q2 hp)]; exact q2⟩, fun i ds q => ⟨ds, q⟩, fun a q => (upd_none q).2⟩
/-- a new object, frozen at once -/
theorem Hd.newF (h : Hd K C F env σ H) {p : Addr} {o : HO} (hp : H p = none) : Hd K C (upd F p o) env σ (upd H p o) := by
  have hf := Same.none h.ex hp
  have s := same_upd (o := o) hf
  refine ⟨fun a u q => ?_, h.len, fun i d q => ?_, fun i ds q => ?_, fun i ds q => ?_, h.sc, h.inj, fun a u q n => ?_, fun a q => h.old a (upd_none q).2, fun a q => ?_, h.mps⟩
  · by_cases e : a = p
    · subst e; rw [upd_same] at q ⊢; exact q
    · rw [upd_ne e] at q ⊢; exact h.ex a u q
  · obtain ⟨v, h1, h2⟩ := h.fz i d q
    exact ⟨v, h1, h2.up s⟩
  · obtain ⟨a, vs, h1, h2, h3, h4, h5⟩ := h.ow i ds q
    have e := ne_of_none h2 hp
    exact ⟨a, vs, h1, by rw [upd_ne e]; exact h2, by rw [upd_ne e]; exact h3, h4.up s, h5⟩
  · obtain ⟨a, vs, h1, h2, h3, h4⟩ := h.bw i ds q
    exact ⟨a, vs, h1, h2, h3, h4.up s⟩
  · have := h.keep a u q n
    rw [upd_ne (ne_of_none this hp)]; exact this
  · by_cases e : a = p
    · subst e; exact .inr (.inl (h.old _ hp))
    · rw [upd_ne e] at q; exact h.dom a q
theorem Stp.newF (ex : Same F H) {p : Addr} {o : HO} (hp : H p = none) : Stp F env σ H (upd F p o) env (upd H p o) :=
  ⟨same_upd (Same.none ex hp), fun a u q1 q2 _ => by
    have e := ne_of_none q2 hp
    exact ⟨by rw [upd_ne e]; exact q1, by rw [upd_ne e]; exact q2⟩, fun i ds q => ⟨ds, q⟩, fun a q => (upd_none q).2⟩
theorem Ext.hd (h : Hd K C F env σ H) (e : Ext F H F' H') : Hd K C F' env σ H' ∧ Stp F env σ H F' env H' := by
  rcases e with ⟨rfl, rfl⟩ | ⟨p, o, xs, hp, _, rfl, rfl⟩
  · exact ⟨h, Stp.refl⟩
  · exact ⟨h.newF hp, Stp.newF h.ex hp⟩
theorem Hd.tmNew (h : Hd K C F env σ H) {Hs F0 : Hp} {env0 : Env} (s : Stp F0 env0 σ Hs F env H) {p : Addr} {vs : List V} {ds : List D} (hp : H p = none) (r : RpA F vs ds) : RVR Hs F env σ (upd H p (.lst vs)) (.tm ds) (V.ref p) :=
  ⟨p, vs, rfl, upd_same, Same.none h.ex hp, r, s.old p hp, fun j es q z => by
    obtain ⟨a, ws, h1, h2, _⟩ := h.ow j es q
    rw [z] at h1; cases h1
    rw [h2] at hp; cases hp⟩
theorem POp.end {F0 Hs : Hp} {env0 : Env} {rt : Rt} {Q : VK} (h : Hd K C F env σ H) (s : Stp F0 env0 σ Hs F env H)
    (q : ∀ F' H' v, Stp F0 env0 σ Hs F' env H' → Hd K C F' env σ H' → RVR Hs F' env σ H' (toRV rt) v → Q v H') : POp F H rt Q := by
  cases rt with
  | fz d =>
    intro v F' H' e r
    obtain ⟨h', s'⟩ := e.hd h
    exact q F' H' v (s.trans s') h' r
  | ow ds =>
    intro p vs hp r
    exact q F _ _ (s.trans (Stp.new hp)) (h.new hp) (h.tmNew s hp r)
end
def S1 (r : List V → Hp → VK → Prop) (g : D → Option Rt) : Prop := ∀ F H x d rt Q, Same F H → VwD F H x d → g d = some rt → POp F H rt Q → r [x] H Q
def SU (r : V → Hp → VK → Prop) (g : D → Option Rt) : Prop := ∀ F H x d rt Q, Same F H → VwD F H x d → g d = some rt → POp F H rt Q → r x H Q
def S2 (r : R2) (g : D → D → Option Rt) : Prop := ∀ F H x y d e rt Q, Same F H → VwD F H x d → VwD F H y e → g d e = some rt → POp F H rt Q → r x y H Q
def S12 (r : List V → Hp → VK → Prop) (g : D → D → Option Rt) : Prop := ∀ F H x y d e rt Q, Same F H → VwD F H x d → VwD F H y e → g d e = some rt → POp F H rt Q → r [x, y] H Q
/-! ### readings of parts -/
section
variable {X : Cx} {C : FC} {a b c e : Expr} {es : List Expr} {pos : Pos} {fa fb fc : M RV} {ft fu : M Bool} {fl : M (List D)}
theorem tJ.go {K : Fr} {F : Hp} {env : Env} {σ : St} {H : Hp} {f : M RV} {r : RV} {env' : Env} {Q : VK} (h : Hd K C F env σ H) (e : f env = some (r, env'))
    (q : ∀ F' H' v, Stp F env σ H F' env' H' → Hd K C F' env' σ H' → RVR H F' env' σ H' r v → Q v H') : tJ K C f σ H Q := ⟨F, env, r, env', h, e, q⟩
theorem ttJ.go {K : Fr} {F : Hp} {env : Env} {σ : St} {H : Hp} {f : M Bool} {b : Bool} {env' : Env} {Q : Bool → Hp → Prop} (h : Hd K C F env σ H) (e : f env = some (b, env'))
    (q : ∀ F' H', Stp F env σ H F' env' H' → Hd K C F' env' σ H' → Q b H') : ttJ K C f σ H Q := ⟨F, env, b, env', h, e, q⟩
theorem taJ.go {K : Fr} {F : Hp} {env : Env} {σ : St} {H : Hp} {f : M (List D)} {ds : List D} {env' : Env} {Q : List V → Hp → Prop} (h : Hd K C F env σ H) (e : f env = some (ds, env'))
    (q : ∀ F' H' vs, Stp F env σ H F' env' H' → Hd K C F' env' σ H' → RpA F' vs ds → Q vs H') : taJ K C f σ H Q := ⟨F, env, ds, env', h, e, q⟩
theorem je_var {i : Nat} {x : Str} (h : PE X (.Name x pos) (tVar i)) : JE X C (.Name x pos) (eVar i) := by
  refine pe_weak h fun σ H Q ⟨F, env, r, env', hd, he, q⟩ => ?_
  simp only [eVar] at he
  split at he
  · rename_i d p
    cases he
    obtain ⟨v, h1, h2⟩ := hd.fz i d p
    exact ⟨v, h1, q F H v Stp.refl hd h2⟩
  · rename_i ds p
    cases he
    obtain ⟨a, vs, h1, _⟩ := hd.ow i ds p
    exact ⟨_, h1, q F H _ Stp.refl hd h1⟩
  · rename_i ds p
    cases he
    obtain ⟨a, vs, h1, _⟩ := hd.bw i ds p
    exact ⟨_, h1, q F H _ Stp.refl hd h1⟩
  · cases he
theorem je_c {v : V} {d : D} (h : PE X e (tC v)) (r : ∀ F, Rp F v d) : JE X C e (eC d) := by
  refine pe_weak h fun σ H Q ⟨F, env, rv, env', hd, he, q⟩ => ?_
  simp only [eC] at he
  cases he
  exact q F H v Stp.refl hd (r F)
theorem je_int {i j pos} : JE X C (.Constant (.int i) j pos) (eC (.int i)) := je_c pe_int fun _ => .int i
theorem je_bl {b j pos} : JE X C (.Constant (.bool b) j pos) (eC (.bool b)) := je_c pe_bl fun _ => .bl b
theorem je_non {j pos} : JE X C (.Constant .none j pos) (eC .none) := je_c pe_non fun _ => .non
theorem je_str {x j pos} : JE X C (.Constant (.str x) j pos) (eC (.str x)) := je_c pe_str fun _ => .str x
/-- two parts, then an operation on their data -/
theorem op2_run {K : Fr} {g : D → D → Option Rt} {r : R2} (S : S2 r g) {σ : St} {H : Hp} {Q : VK} (h : tJ K C (eOp2 g fa fb) σ H Q) : tOp r (tJ K C fa) (tJ K C fb) σ H Q := by
  obtain ⟨F, env, rv, env', hd, he, q⟩ := h
  simp only [eOp2] at he
  split at he
  · cases he
  rename_i x e1 ha
  split at he
  · cases he
  rename_i y e2 hb
  split at he
  · rename_i d e hdx hdy
    split at he
    · cases he
    rename_i rt hg
    cases he
    refine tJ.go hd ha fun F1 H1 v s1 h1 r1 => tJ.go h1 hb fun F2 H2 w s2 h2 r2 => ?_
    exact S F2 H2 v w d e rt Q h2.ex (h2.vw (r1.step s2) hdx) (h2.vw r2 hdy) hg (POp.end h2 (s1.trans s2) q)
  · cases he
theorem je_op {op : Operator} {r : R2} {g : D → D → Option Rt} (ho : OpR X (binaryOp op) r) (S : S2 r g) (ha : JE X C a fa) (hb : JE X C b fb) : JE X C (.BinOp a op b pos) (eOp2 g fa fb) :=
  pe_weak (pe_op ho ha hb) fun σ H Q h => op2_run S h
theorem je_cmp {op : CmpOp} {r : R2} {g : D → D → Option Rt} (ho : OpR X (compareOp op) r) (S : S2 r g) (ha : JE X C a fa) (hb : JE X C b fb) (hm : behindInMarks op b = false) : JE X C (.Compare a [op] [b] pos) (eOp2 g fa fb) :=
  pe_weak (pe_cmpR ho ha hb hm) fun σ H Q h => op2_run S h
theorem tval_run {K : Fr} {t : TE} {f : M RV} (w : ∀ σ H Q, tJ K C f σ H Q → t σ H Q) {σ : St} {H : Hp} {Q : Bool → Hp → Prop} (h : ttJ K C (tVal f) σ H Q) : t σ H fun x H' => ∃ k, x = V.bl k ∧ Q k H' := by
  obtain ⟨F, env, b, env', hd, he, q⟩ := h
  simp only [tVal] at he
  split at he
  · rename_i b' e1 hf
    cases he
    refine w σ H _ (tJ.go hd hf fun F1 H1 v s1 h1 r1 => ?_)
    have r1' : Rp F1 v (.bool b) := r1
    cases r1'
    exact ⟨b, rfl, q F1 H1 s1 h1⟩
  · cases he
theorem jt_cmp {op : CmpOp} {r : R2} {g : D → D → Option Rt} (ho : OpR X (compareOp op) r) (S : S2 r g) (ha : JE X C a fa) (hb : JE X C b fb) (hm : behindInMarks op b = false) : JT X C (.Compare a [op] [b] pos) (tVal (eOp2 g fa fb)) :=
  pt_weak (pt_cmpR ho ha hb hm) fun σ H Q h => tval_run (t := tOp r (tJ X.K C fa) (tJ X.K C fb)) (fun σ H Q h => op2_run S h) h
theorem jt_val (h : JE X C e fa) (he : ∀ whole, isTrue e X.env whole = (do let v ← whole; standAt e.pos; holding [v] (truthy v)) := by intro _; rfl) : JT X C e (tVal fa) :=
  pt_weak (pt_val h he) fun σ H Q h => tval_run (fun _ _ _ z => z) h
theorem un_run {K : Fr} {g : D → Option Rt} {r : V → Hp → VK → Prop} (S : SU r g) {σ : St} {H : Hp} {Q : VK} (h : tJ K C (eOp1 g fa) σ H Q) : tJ K C fa σ H fun x H1 => r x H1 Q := by
  obtain ⟨F, env, rv, env', hd, he, q⟩ := h
  simp only [eOp1] at he
  split at he
  · cases he
  rename_i x e1 ha
  split at he
  · cases he
  rename_i d hdx
  split at he
  · cases he
  rename_i rt hg
  cases he
  exact tJ.go hd ha fun F1 H1 v s1 h1 r1 => S F1 H1 v d rt Q h1.ex (h1.vw r1 hdx) hg (POp.end h1 s1 q)
theorem je_un {op : UnaryOp} {r : V → Hp → VK → Prop} {g : D → Option Rt} (ho : UnR X (unaryOp op) r) (S : SU r g) (ha : JE X C a fa) : JE X C (.UnaryOp op a pos) (eOp1 g fa) :=
  pe_weak (pe_un ho ha) fun σ H Q h => un_run S h
theorem je_and {rest : List Expr} (ha : JE X C a fa) (hb : JE X C (.BoolOp .And (b :: rest) pos) fb) : JE X C (.BoolOp .And (a :: b :: rest) pos) (eAnd fa fb) := by
  refine pe_weak (pe_and ha hb) fun σ H Q ⟨F, env, rv, env', hd, he, q⟩ => ?_
  simp only [eAnd] at he
  split at he
  · rename_i e1 h1
    refine tJ.go hd h1 fun F1 H1 v s1 h1 r1 => ?_
    have r1' : Rp F1 v (.bool true) := r1
    cases r1'
    refine ⟨true, rfl, ?_⟩
    rw [if_pos rfl]
    exact tJ.go h1 he fun F2 H2 w s2 h2 r2 => q F2 H2 w (s1.trans s2) h2 (r2.back s1.old)
  · rename_i e1 h1
    cases he
    refine tJ.go hd h1 fun F1 H1 v s1 h1 r1 => ?_
    have r1' : Rp F1 v (.bool false) := r1
    cases r1'
    refine ⟨false, rfl, ?_⟩
    rw [if_neg Bool.false_ne_true]
    exact q F1 H1 _ s1 h1 (.bl false)
  · cases he
theorem je_or {rest : List Expr} (ha : JE X C a fa) (hb : JE X C (.BoolOp .Or (b :: rest) pos) fb) : JE X C (.BoolOp .Or (a :: b :: rest) pos) (eOr fa fb) := by
  refine pe_weak (pe_or ha hb) fun σ H Q ⟨F, env, rv, env', hd, he, q⟩ => ?_
  simp only [eOr] at he
  split at he
  · rename_i e1 h1
    cases he
    refine tJ.go hd h1 fun F1 H1 v s1 h1 r1 => ?_
    have r1' : Rp F1 v (.bool true) := r1
    cases r1'
    refine ⟨true, rfl, ?_⟩
    rw [if_pos rfl]
    exact q F1 H1 _ s1 h1 (.bl true)
  · rename_i e1 h1
    refine tJ.go hd h1 fun F1 H1 v s1 h1 r1 => ?_
    have r1' : Rp F1 v (.bool false) := r1
    cases r1'
    refine ⟨false, rfl, ?_⟩
    rw [if_neg Bool.false_ne_true]
    exact tJ.go h1 he fun F2 H2 w s2 h2 r2 => q F2 H2 w (s1.trans s2) h2 (r2.back s1.old)
  · cases he
theorem je_one {op} (ha : JE X C a fa) : JE X C (.BoolOp op [a] pos) fa := pe_one ha
theorem je_not (ha : JE X C a fa) : JE X C (.UnaryOp .Not a pos) (eNot fa) := by
  refine pe_weak (pe_not ha) fun σ H Q ⟨F, env, rv, env', hd, he, q⟩ => ?_
  simp only [eNot] at he
  split at he
  · rename_i b e1 h1
    cases he
    refine tJ.go hd h1 fun F1 H1 v s1 h1 r1 => ?_
    have r1' : Rp F1 v (.bool b) := r1
    cases r1'
    exact ⟨b, rfl, q F1 H1 _ s1 h1 (.bl _)⟩
  · cases he
theorem je_if (hc : JT X C c ft) (ha : JE X C a fa) (hb : JE X C b fb) : JE X C (.IfExp c a b pos) (eIf ft fa fb) := by
  refine pe_weak (pe_ifExp hc ha hb) fun σ H Q ⟨F, env, rv, env', hd, he, q⟩ => ?_
  simp only [eIf] at he
  split at he
  · rename_i e1 h1
    refine ttJ.go hd h1 fun F1 H1 s1 h1 => ?_
    rw [if_pos rfl]
    exact tJ.go h1 he fun F2 H2 w s2 h2 r2 => q F2 H2 w (s1.trans s2) h2 (r2.back s1.old)
  · rename_i e1 h1
    refine ttJ.go hd h1 fun F1 H1 s1 h1 => ?_
    rw [if_neg Bool.false_ne_true]
    exact tJ.go h1 he fun F2 H2 w s2 h2 r2 => q F2 H2 w (s1.trans s2) h2 (r2.back s1.old)
  · cases he
theorem ja_nil : JA X C 0 [] aNil := ⟨pa_weak pa_nil fun σ H Q ⟨F, env, ds, env', hd, he, q⟩ => by
  simp only [aNil] at he
  cases he
  exact q F H [] Stp.refl hd .nil, fun env ds env' h => by simp only [aNil] at h; cases h; rfl⟩
theorem ja_cons {n : Nat} (ha : JE X C e fa) (hr : JA X C n es fl) (hs : starEach (e :: es) X.env = (false, eval e X.env) :: starEach es X.env := by rfl) : JA X C (n + 1) (e :: es) (aCons fa fl) := by
  refine ⟨pa_weak (pa_cons ha hr.1 hs) fun σ H Q ⟨F, env, ds, env', hd, he, q⟩ => ?_, fun env ds env' he => ?_⟩
  · simp only [aCons] at he
    split at he
    · cases he
    rename_i x e1 h1
    split at he
    · cases he
    rename_i d e2 h2
    split at he
    · cases he
    rename_i ds' e3 h3
    cases he
    refine tJ.go hd h1 fun F1 H1 v s1 g1 r1 => ?_
    obtain ⟨F2, s2, g2, r2, _⟩ := g1.fzv hd s1 r1 h2
    refine taJ.go g2 h3 fun F3 H3 vs s3 g3 r3 => ?_
    exact q F3 H3 _ (s2.trans s3) g3 (.cons (r2.up s3.exF) r3)
  · simp only [aCons] at he
    split at he
    · cases he
    split at he
    · cases he
    split at he
    · cases he
    rename_i ds' e3 h3
    cases he
    rw [List.length_cons, hr.2 _ _ _ h3]
theorem je_tup {n : Nat} {x1} (h : JA X C n es fl) (hn : n ≤ 1000 := by decide) : JE X C (.Tuple es x1 pos) (eTup fl) := by
  refine pe_weak (pe_tupZ h.1) fun σ H Q ⟨F, env, rv, env', hd, he, q⟩ => ?_
  simp only [eTup] at he
  split at he
  · cases he
  rename_i ds e1 h1
  cases he
  refine taJ.go hd h1 fun F1 H1 vs s1 g1 r1 => ⟨?_, fun p o hp ho => ?_⟩
  · rw [r1.length, h.2 _ _ _ h1]; exact Nat.le_trans hn (by decide)
  · have hf := Same.none g1.ex hp
    exact q (upd F1 p (.frz o (.tup vs))) _ _ (s1.trans (Stp.newF g1.ex hp)) (g1.newF hp) (.tup ⟨o, upd_same, ho⟩ (r1.up (same_upd hf)))
theorem je_lst {n : Nat} (h : JA X C n es fl) (hn : n ≤ 1000 := by decide) : JE X C (.List es pos) (eLst fl) := by
  refine pe_weak (pe_lst h.1) fun σ H Q ⟨F, env, rv, env', hd, he, q⟩ => ?_
  simp only [eLst] at he
  split at he
  · cases he
  rename_i ds e1 h1
  cases he
  refine taJ.go hd h1 fun F1 H1 vs s1 g1 r1 => ⟨?_, fun p hp => ?_⟩
  · rw [r1.length, h.2 _ _ _ h1]; exact Nat.le_trans hn (by decide)
  · exact q F1 _ _ (s1.trans (Stp.new hp)) (g1.new hp) (g1.tmNew s1 hp r1)
/-! tests -/
theorem jw_and {rest : List Expr} (ha : JT X C a ft) (hb : JW X C (.BoolOp .And (b :: rest) pos) fu) : JW X C (.BoolOp .And (a :: b :: rest) pos) (tAnd ft fu) := by
  refine pw_weak (pw_and ha hb) fun σ H Q ⟨F, env, rv, env', hd, he, q⟩ => ?_
  simp only [J.tAnd] at he
  split at he
  · rename_i e1 h1
    refine ttJ.go hd h1 fun F1 H1 s1 h1 => ?_
    rw [if_pos rfl]
    exact ttJ.go h1 he fun F2 H2 s2 h2 => q F2 H2 (s1.trans s2) h2
  · rename_i e1 h1
    cases he
    refine ttJ.go hd h1 fun F1 H1 s1 h1 => ?_
    rw [if_neg Bool.false_ne_true]
    exact q F1 H1 s1 h1
  · cases he
theorem jw_or {rest : List Expr} (ha : JT X C a ft) (hb : JW X C (.BoolOp .Or (b :: rest) pos) fu) : JW X C (.BoolOp .Or (a :: b :: rest) pos) (tOr ft fu) := by
  refine pw_weak (pw_or ha hb) fun σ H Q ⟨F, env, rv, env', hd, he, q⟩ => ?_
  simp only [J.tOr] at he
  split at he
  · rename_i e1 h1
    cases he
    refine ttJ.go hd h1 fun F1 H1 s1 h1 => ?_
    rw [if_pos rfl]
    exact q F1 H1 s1 h1
  · rename_i e1 h1
    refine ttJ.go hd h1 fun F1 H1 s1 h1 => ?_
    rw [if_neg Bool.false_ne_true]
    exact ttJ.go h1 he fun F2 H2 s2 h2 => q F2 H2 (s1.trans s2) h2
  · cases he
theorem jw_and1 (ha : JT X C a ft) : JW X C (.BoolOp .And [a] pos) ft := pw_and1 ha
theorem jw_or1 (ha : JT X C a ft) : JW X C (.BoolOp .Or [a] pos) ft := pw_or1 ha
theorem jt_w (h : JW X C e ft) : JT X C e ft := PW.pt h
theorem jt_not (ha : JT X C a ft) : JT X C (.UnaryOp .Not a pos) (tNot ft) := by
  refine pt_weak (pt_not ha) fun σ H Q ⟨F, env, rv, env', hd, he, q⟩ => ?_
  simp only [J.tNot] at he
  split at he
  · rename_i b e1 h1
    cases he
    exact ttJ.go hd h1 fun F1 H1 s1 h1 => q F1 H1 s1 h1
  · cases he
theorem VwD.tru {K : Fr} {F H : Hp} (s : Same F H) {v : V} {d : D} {b : Bool} (h : VwD F H v d) (e : truD d = some b) : TruV K v H b := by
  cases d with
  | none => cases (show Rp F v _ from h); cases e; exact rfl
  | bool _ => cases (show Rp F v _ from h); cases e; exact rfl
  | int _ => cases (show Rp F v _ from h); cases e; exact rfl
  | str _ => cases e
  | list ds =>
    obtain ⟨a, vs, rfl, h1, h2⟩ := h
    cases e
    exact .inl ⟨vs, SqL.of h1, by rw [h2.isEmpty]⟩
  | tuple ds =>
    have h' : Rp F v (.tuple ds) := h
    cases e
    cases h' with
    | tup h1 h2 => exact .inr (.inl ⟨_, (h1.up s).sq, by rw [h2.isEmpty]⟩)
  | dict _ => cases e
theorem jt_tru (ha : JE X C a fa) (he : ∀ whole, isTrue a X.env whole = (do let v ← whole; standAt a.pos; holding [v] (truthy v)) := by intro _; rfl) : JT X C a (tTru fa) := by
  refine pt_weak (pt_truth ha he) fun σ H Q ⟨F, env, rv, env', hd, he, q⟩ => ?_
  simp only [tTru] at he
  split at he
  · cases he
  rename_i x e1 h1
  split at he
  · cases he
  rename_i d h2
  split at he
  · cases he
  rename_i b h3
  cases he
  exact tJ.go hd h1 fun F1 H1 v s1 g1 r1 => ⟨rv, (g1.vw r1 h2).tru g1.ex h3, q F1 H1 s1 g1⟩
/-! subscripts, slices -/
theorem je_ix {r : R2} {g : D → D → Option Rt} (hr : IxR X r) (S : S2 r g) (ha : JE X C a fa) (hb : JE X C b fb) (hs : PlainIx b) : JE X C (.Subscript a b pos) (eOp2 g fa fb) :=
  pe_weak (pe_ix hr ha hb hs) fun σ H Q h => op2_run S h
theorem jo_no : JO X C none oNo := by
  refine ⟨fun pins s σ H Q I h => po_none.run pins s σ H Q I ?_⟩
  obtain ⟨F, env, o, env', hd, he, q⟩ := h
  simp only [oNo] at he
  cases he
  exact q F H Stp.refl hd
theorem jo_so (h : JE X C e fa) : JO X C (some e) (oSo fa) := by
  refine ⟨fun pins s σ H Q I h' => (po_some h).run pins s σ H Q I ?_⟩
  obtain ⟨F, env, o, env', hd, he, q⟩ := h'
  simp only [oSo] at he
  split at he
  · rename_i i e1 h1
    cases he
    refine tJ.go hd h1 fun F1 H1 v s1 g1 r1 => ?_
    have r1' : Rp F1 v (.int i) := r1
    cases r1'
    exact ⟨i, rfl, q F1 H1 s1 g1⟩
  · cases he
def SS (r : V → Option Int → Option Int → Hp → VK → Prop) (g : D → Option Int → Option Int → Option Rt) : Prop := ∀ F H x lo hi d rt Q, Same F H → VwD F H x d → g d lo hi = some rt → POp F H rt Q → r x lo hi H Q
theorem je_sl {r : V → Option Int → Option Int → Hp → VK → Prop} {g : D → Option Int → Option Int → Option Rt} {lo hi : Option Expr} {p2 : Pos} {gl gh : M (Option Int)} (hr : SlR X r) (S : SS r g) (ha : JE X C a fa) (hl : JO X C lo gl) (hu : JO X C hi gh) :
    JE X C (.Subscript a (.Slice lo hi none p2) pos) (eSl g fa gl gh) := by
  refine pe_weak (pe_slice hr ha hl hu) fun σ H Q ⟨F, env, rv, env', hd, he, q⟩ => ?_
  simp only [eSl] at he
  split at he
  · cases he
  rename_i x e1 h1
  split at he
  · cases he
  rename_i l e2 h2
  split at he
  · cases he
  rename_i h e3 h3
  split at he
  · cases he
  rename_i d h4
  split at he
  · cases he
  rename_i rt h5
  cases he
  refine tJ.go hd h1 fun F1 H1 v s1 g1 r1 => ⟨F1, e1, l, e2, g1, h2, fun F2 H2 s2 g2 => ⟨F2, e2, h, env', g2, h3, fun F3 H3 s3 g3 => ?_⟩⟩
  exact S F3 H3 v l h d rt Q g3.ex (g3.vw ((r1.step s2).step s3) h4) h5 (POp.end g3 ((s1.trans s2).trans s3) q)
/-! built-ins of one and two arguments -/
variable {f : Value} {x : Str} {p : Pos}
theorem ta1 {K : Fr} {g : D → Option Rt} {r : List V → Hp → VK → Prop} (S : S1 r g) {σ : St} {H : Hp} {Q : VK} (h : tJ K C (eOp1 g fa) σ H Q) : tCons (tJ K C fa) tNil σ H fun vs H1 => r vs H1 Q :=
  un_run (r := fun x H1 Q => r [x] H1 Q) (fun F H x d rt Q s v e q => S F H x d rt Q s v e q) h
theorem je_b1 {id : String} {r : List V → Hp → VK → Prop} {g : D → Option Rt} (hc : CallR X (.builtin id) r) (S : S1 r g) (hg : Gl X x) (hm : X.mg x = none) (hv : bootBuiltins x = some (.builtin id)) (ha : JE X C a fa)
    (h1 : PE X (.Call (.Name x p) [a] [] pos) (tCB r (tCons (tJ X.K C fa) tNil))) : JE X C (.Call (.Name x p) [a] [] pos) (eOp1 g fa) := pe_weak h1 fun σ H Q h => ta1 S h
/-- the same, told by the rule of the call alone -/
theorem je_b {r : List V → Hp → VK → Prop} {g : D → Option Rt} (S : S1 r g) {ce : Expr} (h1 : PE X ce (tCB r (tCons (tJ X.K C fa) tNil))) : JE X C ce (eOp1 g fa) := pe_weak h1 fun σ H Q h => ta1 S h
theorem je_bb {r : List V → Hp → VK → Prop} {g : D → D → Option Rt} (S : S12 r g) {ce : Expr} (h1 : PE X ce (tCB r (tCons (tJ X.K C fa) (tCons (tJ X.K C fb) tNil)))) : JE X C ce (eOp2 g fa fb) :=
  pe_weak h1 fun σ H Q h => op2_run (r := fun x y H1 Q => r [x, y] H1 Q) (fun F H x y d e rt Q s v w e1 q => S F H x y d e rt Q s v w e1 q) h
end
end J
namespace J
open PySem L2
section
variable {K : Fr} {C : FC} {F F' : Hp} {env env' : Env} {σ : St} {H H' : Hp}
theorem set_get_lt {α : Type} {l : List α} {i j : Nat} {x : α} (h : i < l.length) : (l.set i x)[j]? = if i = j then some x else l[j]? := by
  by_cases e : i = j
  · subst e; rw [if_pos rfl, List.getElem?_set_self h]
  · rw [if_neg e, List.getElem?_set_ne e]
theorem Hd.lt (h : Hd K C F env σ H) {i : Nat} (hi : i < env.length) : i < σ.length := by rw [← h.len]; exact hi
/-- a slot is stored: frozen data -/
theorem Hd.asgF (h : Hd K C F env σ H) {i : Nat} {v : V} {d : D} (r : Rp F v d) (hm : i ∉ C.mp) : Hd K C F (env.set i (.fz d)) (σ.set i (some v)) H := by
  have get : ∀ {j : Nat}, i ≠ j → (σ.set i (some v))[j]? = σ[j]? := fun e => List.getElem?_set_ne e
  refine ⟨h.ex, by rw [List.length_set, List.length_set]; exact h.len, fun j d' q => ?_, fun j d' q => ?_, fun j d' q => ?_, fun j d' q => ?_, fun j k ds es a q1 q2 p1 p2 => ?_, h.keep, h.old, h.dom, fun k j a q1 q2 => ?_⟩
  · rcases set_get q with ⟨e, e2, hl⟩ | ⟨e, q⟩
    · subst e
      cases e2
      exact ⟨v, List.getElem?_set_self (h.lt hl), r⟩
    · rw [get e]; exact h.fz j d' q
  · rcases set_get q with ⟨_, e2, _⟩ | ⟨e, q⟩
    · cases e2
    · rw [get e]; exact h.ow j d' q
  · rcases set_get q with ⟨_, e2, _⟩ | ⟨e, q⟩
    · cases e2
    · rw [get e]; exact h.bw j d' q
  · rcases set_get q with ⟨_, e2, _⟩ | ⟨e, q⟩
    · cases e2
    · rw [get e]; exact h.sc j d' q
  · rcases set_get q1 with ⟨_, e2, _⟩ | ⟨e, q1⟩
    · cases e2
    · rcases set_get q2 with ⟨_, e2, _⟩ | ⟨e', q2⟩
      · cases e2
      · rw [get e] at p1
        rw [get e'] at p2
        exact h.inj j k ds es a q1 q2 p1 p2
  · have e : i ≠ j := fun e => hm (by rw [e]; exact List.mem_of_getElem? q1)
    rw [get e]; exact h.mps k j a q1 q2
/-- a slot is stored: a list of one's own -/
theorem Hd.asgO (h : Hd K C F env σ H) {i : Nat} {a : Addr} {vs : List V} {ds : List D} (h1 : H a = some (.lst vs)) (h2 : F a = none) (h3 : RpA F vs ds) (h4 : C.H0 a = none ∨ a ∈ C.Mu) (h5 : NotOw env σ a) (hm : i ∉ C.mp) :
    Hd K C F (env.set i (.ow ds)) (σ.set i (some (V.ref a))) H := by
  have get : ∀ {j : Nat}, i ≠ j → (σ.set i (some (V.ref a)))[j]? = σ[j]? := fun e => List.getElem?_set_ne e
  refine ⟨h.ex, by rw [List.length_set, List.length_set]; exact h.len, fun j d' q => ?_, fun j d' q => ?_, fun j d' q => ?_, fun j d' q => ?_, fun j k ds' es b q1 q2 p1 p2 => ?_, h.keep, h.old, h.dom, fun k j b q1 q2 => ?_⟩
  · rcases set_get q with ⟨_, e2, _⟩ | ⟨e, q⟩
    · cases e2
    · rw [get e]; exact h.fz j d' q
  · rcases set_get q with ⟨e, e2, hl⟩ | ⟨e, q⟩
    · subst e
      cases e2
      exact ⟨a, vs, List.getElem?_set_self (h.lt hl), h1, h2, h3, h4⟩
    · rw [get e]; exact h.ow j d' q
  · rcases set_get q with ⟨_, e2, _⟩ | ⟨e, q⟩
    · cases e2
    · rw [get e]; exact h.bw j d' q
  · rcases set_get q with ⟨_, e2, _⟩ | ⟨e, q⟩
    · cases e2
    · rw [get e]; exact h.sc j d' q
  · rcases set_get q1 with ⟨e, e2, hl⟩ | ⟨e, q1⟩
    · rcases set_get q2 with ⟨e', _, _⟩ | ⟨e', q2⟩
      · exact e.symm.trans e'
      · subst e
        rw [List.getElem?_set_self (h.lt hl)] at p1
        cases p1
        rw [get e'] at p2
        exact absurd p2 (h5 k es q2)
    · rcases set_get q2 with ⟨e', _, hl⟩ | ⟨e', q2⟩
      · subst e'
        rw [List.getElem?_set_self (h.lt hl)] at p2
        cases p2
        rw [get e] at p1
        exact absurd p1 (h5 j ds' q1)
      · rw [get e] at p1
        rw [get e'] at p2
        exact h.inj j k ds' es b q1 q2 p1 p2
  · have e : i ≠ j := fun e => hm (by rw [e]; exact List.mem_of_getElem? q1)
    rw [get e]; exact h.mps k j b q1 q2
/-- a list of one's own is changed -/
theorem Hd.write (h : Hd K C F env σ H) {i : Nat} {a : Addr} {vs' : List V} {ds ds' : List D} (hi : env[i]? = some (.ow ds)) (hv : σ[i]? = some (some (V.ref a))) (r : RpA F vs' ds') :
    Hd K C F (env.set i (.ow ds')) σ (upd H a (.lst vs')) ∧ Stp F env σ H F (env.set i (.ow ds')) (upd H a (.lst vs')) := by
  obtain ⟨b, ws, g1, g2, g3, g4, g5⟩ := h.ow i ds hi
  rw [hv] at g1; cases g1
  have back : ∀ (j : Nat) (es : List D), (env.set i (.ow ds'))[j]? = some (.ow es) → ∃ es', env[j]? = some (.ow es') := fun j es q => by
    rcases set_get q with ⟨e, _, _⟩ | ⟨_, q⟩
    · subst e; exact ⟨ds, hi⟩
    · exact ⟨es, q⟩
  refine ⟨⟨fun b u q => ?_, by rw [List.length_set]; exact h.len, fun j d' q => ?_, fun j d' q => ?_, fun j d' q => ?_, fun j d' q => ?_, fun j k ds' es b q1 q2 p1 p2 => ?_, fun b u q n => ?_, fun b q => h.old b (upd_none q).2, h.dom, h.mps⟩, Same.refl F, fun b u q1 q2 n => ⟨q1, ?_⟩, back, fun b q => (upd_none q).2⟩
  · rw [upd_ne (ne_of_none q g3)]; exact h.ex b u q
  · rcases set_get q with ⟨_, e2, _⟩ | ⟨_, q⟩
    · cases e2
    · exact h.fz j d' q
  · rcases set_get q with ⟨e, e2, _⟩ | ⟨e, q⟩
    · subst e
      cases e2
      exact ⟨a, vs', hv, upd_same, g3, r, g5⟩
    · obtain ⟨b, ws', p1, p2, p3⟩ := h.ow j d' q
      have ne : b ≠ a := fun z => e (h.inj i j ds d' a hi q hv (by rw [← z]; exact p1))
      exact ⟨b, ws', p1, by rw [upd_ne ne]; exact p2, p3⟩
  · rcases set_get q with ⟨_, e2, _⟩ | ⟨_, q⟩
    · cases e2
    · exact h.bw j d' q
  · rcases set_get q with ⟨_, e2, _⟩ | ⟨_, q⟩
    · cases e2
    · exact h.sc j d' q
  · obtain ⟨_, z1⟩ := back j ds' q1
    obtain ⟨_, z2⟩ := back k es q2
    exact h.inj j k _ _ b z1 z2 p1 p2
  · have ne : b ≠ a := by
      rintro rfl
      rcases g5 with z | z
      · rw [z] at q; cases q
      · exact n z
    rw [upd_ne ne]; exact h.keep b u q n
  · have ne : b ≠ a := fun z => n i ds hi (by rw [z]; exact hv)
    rw [upd_ne ne]; exact q2
theorem Hd.forget (h : Hd K C F env σ H) (i : Nat) : Hd K C F (env.set i .no) σ H :=
  h.put (fun _ z => nomatch z) (fun _ z => nomatch z) (fun _ z => nomatch z) fun _ z => nomatch z
theorem Hd.ers (h : Hd K C F env σ H) : ∀ (er : List Nat), Hd K C F (ers er env) σ H := fun er => by
  induction er generalizing env with
  | nil => exact h
  | cons i r ih => exact ih (h.forget i)
end
section
variable {X : Cx} {C : FC} {a b c e : Expr} {es : List Expr} {pos : Pos} {fa fb fc f : M RV} {ft fu : M Bool} {fl : M (List D)} {st : Stmt} {sts : List Stmt} {s1 s2 : SM}
theorem sJ.go {K : Fr} {F : Hp} {env : Env} {σ : St} {H : Hp} {f : SM} {fl : Fl} {D' : Ends} (h : Hd K C F env σ H) (e : f env = some fl) (q : PostJ K C F D' fl) : sJ K C f D' σ H := ⟨F, env, fl, h, e, q⟩
theorem jss_nil : JSs X C [] sNil := pss_weak pss_nil fun D' σ H ⟨F, env, fl, hd, he, q⟩ => by
  simp only [sNil] at he
  cases he
  exact q F σ H (Same.refl F) hd
theorem seq_run {K : Fr} {t u : SM} {D' : Ends} {σ : St} {H : Hp} (h : sJ K C (sSeq t u) D' σ H) : tSeq (sJ K C t) (sJ K C u) D' σ H := by
  obtain ⟨F, env, fl, hd, he, q⟩ := h
  simp only [sSeq] at he
  split at he
  · rename_i e1 h1
    exact sJ.go hd h1 fun F1 σ1 H1 sm g1 => sJ.go g1 he (q.up sm)
  · rename_i r hr
    refine sJ.go hd he ?_
    cases fl with
    | nx e1 => exact absurd he (hr e1)
    | bk e1 => exact q
    | ct e1 => exact q
    | rt r e1 => exact q
theorem jss_cons (h1 : JS X C st s1) (h2 : JSs X C sts s2) : JSs X C (st :: sts) (sSeq s1 s2) := pss_weak (pss_cons h1 h2) fun D' σ H h => seq_run h
theorem jss_one (h1 : JS X C st s1) : JSs X C [st] s1 := pss_one h1
theorem js_pass : JS X C (.Pass pos) sNil := ps_weak ps_pass fun D' σ H ⟨F, env, fl, hd, he, q⟩ => by
  simp only [sNil] at he
  cases he
  exact q F σ H (Same.refl F) hd
theorem js_break : JS X C (.Break pos) sBk := ps_weak ps_break fun D' σ H ⟨F, env, fl, hd, he, q⟩ => by
  simp only [sBk] at he
  cases he
  exact q F σ H (Same.refl F) hd
theorem js_cont : JS X C (.Continue pos) sCt := ps_weak ps_continue fun D' σ H ⟨F, env, fl, hd, he, q⟩ => by
  simp only [sCt] at he
  cases he
  exact q F σ H (Same.refl F) hd
/-- x = e; h by ps_set -/
theorem js_asg {i : Nat} {mp : List Nat} (hc : C.mp = mp) (hm : i ∉ mp) (h : PS X st (tAsg (tJ X.K C f) (gName i))) : JS X C st (sAsg i f) := by
  subst hc
  refine ps_weak h fun D' σ H ⟨F, env, fl, hd, he, q⟩ => ?_
  simp only [sAsg] at he
  split at he
  · cases he
  · rename_i d e1 h1
    cases he
    exact tJ.go hd h1 fun F1 H1 v s1 g1 r1 => q F1 _ H1 s1.exF (g1.asgF r1 hm)
  · rename_i ds e1 h1
    cases he
    refine tJ.go hd h1 fun F1 H1 v s1 g1 r1 => ?_
    obtain ⟨a, vs, rfl, p1, p2, p3, p4, p5⟩ := r1
    exact q F1 _ H1 s1.exF (g1.asgO p1 p2 p3 (.inl (hd.old a p4)) p5 hm)
  · rename_i j e1 h1
    split at he
    · cases he
    rename_i d e2 h2
    cases he
    refine tJ.go hd h1 fun F1 H1 v s1 g1 r1 => ?_
    obtain ⟨F2, s2, g2, r2, _⟩ := g1.fzv hd s1 r1 h2
    exact q F2 _ H1 s2.exF (g2.asgF r2 hm)
theorem js_drop (h : PS X st (tDrop (tJ X.K C f))) : JS X C st (sDrop f) := ps_weak h fun D' σ H ⟨F, env, fl, hd, he, q⟩ => by
  simp only [sDrop] at he
  split at he
  · cases he
  · rename_i r e1 h1
    cases he
    exact tJ.go hd h1 fun F1 H1 v s1 g1 r1 => q F1 _ H1 s1.exF g1
theorem js_if {bs cs : List Stmt} (hc : JT X C c ft) (ha : JSs X C bs s1) (hb : JSs X C cs s2) : JS X C (.If c bs cs pos) (sIf ft s1 s2) := by
  refine ps_weak (ps_if hc ha hb) fun D' σ H ⟨F, env, fl, hd, he, q⟩ => ?_
  simp only [sIf] at he
  split at he
  · rename_i e1 h1
    refine ttJ.go hd h1 fun F1 H1 s1 g1 => ?_
    rw [if_pos rfl]
    exact sJ.go g1 he (q.up s1.exF)
  · rename_i e1 h1
    refine ttJ.go hd h1 fun F1 H1 s1 g1 => ?_
    rw [if_neg Bool.false_ne_true]
    exact sJ.go g1 he (q.up s1.exF)
  · cases he
theorem js_ret (ha : JE X C a f) : JS X C (.Return (some a) pos) (sRet f) := by
  refine ps_weak (ps_ret ha) fun D' σ H ⟨F, env, fl, hd, he, q⟩ => ?_
  simp only [sRet] at he
  split at he
  · cases he
  · rename_i d e1 h1
    cases he
    exact tJ.go hd h1 fun F1 H1 v s1 g1 r1 => q F1 _ H1 v s1.exF g1 r1
  · rename_i ds e1 h1
    cases he
    refine tJ.go hd h1 fun F1 H1 v s1 g1 r1 => ?_
    obtain ⟨a, vs, rfl, p1, p2, p3, p4, p5⟩ := r1
    exact q F1 _ H1 _ s1.exF g1 ⟨a, vs, rfl, p1, p2, p3, .inl (hd.old a p4), p5⟩
  · rename_i i e1 h1
    split at he
    · rename_i d h2
      cases he
      refine tJ.go hd h1 fun F1 H1 v s1 g1 r1 => ?_
      obtain ⟨w, z1, z2⟩ := g1.fz i d h2
      have r1' : σ[i]? = some (some v) := r1
      rw [r1'] at z1; cases z1
      exact q F1 _ H1 v s1.exF g1 z2
    · rename_i ds h2
      cases he
      refine tJ.go hd h1 fun F1 H1 v s1 g1 r1 => ?_
      have r1' : σ[i]? = some (some v) := r1
      obtain ⟨a, vs, z1, z2, z3, z4, z5⟩ := g1.ow i ds h2
      rw [r1'] at z1; cases z1
      refine q F1 _ H1 _ s1.exF (g1.forget i) ⟨a, vs, rfl, z2, z3, z4, z5, fun j es p z => ?_⟩
      rcases set_get p with ⟨_, e2, _⟩ | ⟨ne, p⟩
      · cases e2
      · exact ne (g1.inj i j ds es a h2 p r1' z)
    · cases he
theorem js_retN : JS X C (.Return none pos) sRetN := ps_weak ps_retN fun D' σ H ⟨F, env, fl, hd, he, q⟩ => by
  simp only [sRetN] at he
  cases he
  exact q F σ H .non (Same.refl F) hd .non
/-- x.append(e) -/
theorem js_app {i : Nat} (h : PS X st (tDrop (tBM X.K "list" rAppend (tVar i) (tCons (tJ X.K C f) tNil)))) : JS X C st (sApp i f) := by
  refine ps_weak h fun D' σ H ⟨F, env, fl, hd, he, q⟩ => ?_
  simp only [sApp] at he
  split at he
  · rename_i ds0 h0
    split at he
    · cases he
    rename_i x e1 h1
    split at he
    · cases he
    rename_i d e2 h2
    split at he
    · rename_i ds h3
      split at he
      · rename_i hlen
        cases he
        obtain ⟨a, vs0, p1, p2, _⟩ := hd.ow i ds0 h0
        refine ⟨_, p1, .inl ⟨rfl, _, SqL.of p2⟩, tJ.go hd h1 fun F1 H1 v s1 g1 r1 => ?_⟩
        obtain ⟨F2, s2, g2, r2, _⟩ := g1.fzv hd s1 r1 h2
        obtain ⟨b, vs, q1, q2, q3, q4, q5⟩ := g2.ow i ds h3
        rw [p1] at q1; cases q1
        refine ⟨_, vs, v, rfl, rfl, q2, by rw [q4.length]; exact hlen, ?_⟩
        exact q F2 σ _ s2.exF (g2.write h3 p1 (q4.append (.cons r2 .nil))).1
      · cases he
    · cases he
  · cases he
/-- x.extend(e) -/
theorem js_ext {i : Nat} {r : V → List V → Hp → VK → Prop} (S : ∀ F H l y vs (ds : List D) d es (Q : VK), Same F H → VwD F H y d → seqD d = some es → H l = some (.lst vs) → vs.length = ds.length → ds.length + es.length ≤ limit → (∀ ws, RpA F ws es → Q .non (upd H l (.lst (vs ++ ws)))) → r (.ref l) [y] H Q)
    (h : PS X st (tDrop (tBM X.K "list" r (tVar i) (tCons (tJ X.K C f) tNil)))) : JS X C st (sExt i f) := by
  refine ps_weak h fun D' σ H ⟨F, env, fl, hd, he, q⟩ => ?_
  simp only [sExt] at he
  split at he
  · rename_i ds0 h0
    split at he
    · cases he
    rename_i x e1 h1
    split at he
    · cases he
    rename_i d h2
    split at he
    · cases he
    rename_i es h4
    split at he
    · rename_i ds h3
      split at he
      · rename_i hlen
        cases he
        obtain ⟨a, vs0, p1, p2, _⟩ := hd.ow i ds0 h0
        refine ⟨_, p1, .inl ⟨rfl, _, SqL.of p2⟩, tJ.go hd h1 fun F1 H1 v s1 g1 r1 => ?_⟩
        obtain ⟨b, vs, q1, q2, q3, q4, q5⟩ := g1.ow i ds h3
        rw [p1] at q1; cases q1
        refine S F1 H1 a v vs ds d es _ g1.ex (g1.vw r1 h2) h4 q2 q4.length hlen fun ws rw' => ?_
        exact q F1 σ _ s1.exF (g1.write h3 p1 (q4.append rw')).1
      · cases he
    · cases he
  · cases he
/-- x.pop() -/
theorem je_pop {i : Nat} (h : PE X e (tBM0 X.K "list" rPop (tVar i))) : JE X C e (ePop i) := by
  refine pe_weak h fun σ H Q ⟨F, env, rv, env', hd, he, q⟩ => ?_
  simp only [ePop] at he
  split at he
  · rename_i ds h3
    split at he
    · rename_i d h4
      cases he
      obtain ⟨a, vs, p1, p2, p3, p4, p5⟩ := hd.ow i ds h3
      obtain ⟨v, z1, z2⟩ := p4.last h4
      obtain ⟨w1, w2⟩ := hd.write h3 p1 p4.dropLast
      exact ⟨_, p1, .inl ⟨rfl, _, SqL.of p2⟩, _, vs, v, rfl, rfl, p2, z1, q F _ v w2 w1 z2⟩
    · cases he
  · cases he
/-- x[k] = e -/
theorem js_set {i : Nat} {fi : M RV} (h : PS X st (tAsg (tJ X.K C f) (gSub (tVar i) (tJ X.K C fi) rSetL))) : JS X C st (sSet i fi f) := by
  refine ps_weak h fun D' σ H ⟨F, env, fl, hd, he, q⟩ => ?_
  simp only [sSet] at he
  split at he
  · cases he
  rename_i x e1 h1
  split at he
  · cases he
  rename_i d e2 h2
  split at he
  · rename_i ds0 h0
    split at he
    · rename_i k e3 h3
      split at he
      · rename_i ds h4
        split at he
        · rename_i j h5
          cases he
          refine tJ.go hd h1 fun F1 H1 v s1 g1 r1 => ?_
          obtain ⟨F2, s2, g2, r2, _⟩ := g1.fzv hd s1 r1 h2
          obtain ⟨a, vs0, p1, p2, _⟩ := g2.ow i ds0 h0
          refine ⟨_, p1, tJ.go g2 h3 fun F3 H3 w s3 g3 r3 => ?_⟩
          have r3' : Rp F3 w (.int k) := r3
          cases r3'
          obtain ⟨b, vs, q1, q2, q3, q4, q5⟩ := g3.ow i ds h4
          rw [p1] at q1; cases q1
          refine ⟨_, vs, k, j, rfl, rfl, q2, by rw [q4.length]; exact h5, ?_⟩
          exact q F3 σ _ (s2.exF.trans s3.exF) (g3.write h4 p1 (RpA.set j (r2.up s3.exF) q4)).1
        · cases he
      · cases he
    · cases he
  · cases he
/-! ### targets -/
def tgJ (K : Fr) (C : FC) (sl : List Nat) (g : G) : TG := fun v σ H Q => ∃ F env d env', Hd K C F env σ H ∧ Rp F v d ∧ g d env = some env' ∧
  ∀ σ', σ'.length = σ.length → (∀ i, i ∉ sl → σ'[i]? = σ[i]?) → Hd K C F env' σ' H → Q σ' H
def tgsJ (K : Fr) (C : FC) (sl : List Nat) (g : GL) : TGs := fun vs σ H Q => ∃ F env ds env', Hd K C F env σ H ∧ RpA F vs ds ∧ g ds env = some env' ∧
  ∀ σ', σ'.length = σ.length → (∀ i, i ∉ sl → σ'[i]? = σ[i]?) → Hd K C F env' σ' H → Q σ' H
def NoNew (env env' : Env) : Prop := ∀ (i : Nat) (ds : List D), env'[i]? = some (.ow ds) → env[i]? = some (.ow ds)
def JG (X : Cx) (C : FC) (sl : List Nat) (tg : Expr) (g : G) : Prop := PG X tg (tgJ X.K C sl g) ∧ ∀ d env env', g d env = some env' → NoNew env env'
def JGs (X : Cx) (C : FC) (sl : List Nat) (n : Nat) (tg : List Expr) (g : GL) : Prop := PGs X tg (tgsJ X.K C sl g) ∧ ∀ ds env env', g ds env = some env' → ds.length = n ∧ NoNew env env'
theorem pg_weak {tg : Expr} {t u : TG} (h : PG X tg t) (w : ∀ v σ H Q, u v σ H Q → t v σ H Q) : PG X tg u := ⟨fun pins s σ H v x Q I r q => h.run pins s σ H v x Q I r (w v σ H Q q)⟩
theorem pgs_weak {tg : List Expr} {t u : TGs} (h : PGs X tg t) (w : ∀ v σ H Q, u v σ H Q → t v σ H Q) : PGs X tg u := ⟨fun pins s σ H v x Q I r q => h.run pins s σ H v x Q I r (w v σ H Q q)⟩
theorem jg_nm {i : Nat} {mp sl : List Nat} {tg : Expr} (hc : C.mp = mp) (hm : i ∉ mp) (hs : i ∈ sl) (h : PG X tg (gName i)) : JG X C sl tg (gNm i) := by
  subst hc
  refine ⟨pg_weak h fun v σ H Q ⟨F, env, d, env', hd, r, e, q⟩ => ?_, fun d env env' e => ?_⟩
  · simp only [gNm] at e
    cases e
    exact q _ (List.length_set ..) (fun j hj => List.getElem?_set_ne fun z => hj (by rw [← z]; exact hs)) (hd.asgF r hm)
  · simp only [gNm] at e
    cases e
    intro j es p
    rcases set_get p with ⟨_, e2, _⟩ | ⟨_, p⟩
    · cases e2
    · exact p
theorem jgs_nil {sl : List Nat} : JGs X C sl 0 [] glNil := by
  refine ⟨pgs_weak pgs_nil fun v σ H Q ⟨F, env, ds, env', hd, r, e, q⟩ => ?_, fun ds env env' e => ?_⟩
  · cases ds with
    | nil =>
      simp only [glNil] at e
      cases e
      cases r
      exact ⟨rfl, q _ rfl (fun _ _ => rfl) hd⟩
    | cons d ds => simp only [glNil] at e; cases e
  · cases ds with
    | nil =>
      simp only [glNil] at e
      cases e
      exact ⟨rfl, fun _ _ p => p⟩
    | cons d ds => simp only [glNil] at e; cases e
theorem jgs_cons {sl : List Nat} {n : Nat} {t : Expr} {ts : List Expr} {g : G} {gr : GL} (h1 : JG X C sl t g) (h2 : JGs X C sl n ts gr) (hs : (assignEach (t :: ts) X.env).map (·.2) = assign t X.env :: (assignEach ts X.env).map (·.2) := by rfl) : JGs X C sl (n + 1) (t :: ts) (glCons g gr) := by
  refine ⟨pgs_weak (pgs_cons h1.1 h2.1 hs) fun v σ H Q ⟨F, env, ds, env', hd, r, e, q⟩ => ?_, fun ds env env' e => ?_⟩
  · cases ds with
    | nil => simp only [glCons] at e; cases e
    | cons d ds =>
      simp only [glCons] at e
      split at e
      · rename_i e1 he1
        cases r with
        | cons r1 r2 =>
          refine ⟨_, _, rfl, F, env, d, e1, hd, r1, he1, fun σ1 l1 k1 g1 => ⟨F, e1, ds, env', g1, r2, e, fun σ2 l2 k2 g2 => ?_⟩⟩
          exact q σ2 (l2.trans l1) (fun i hi => (k2 i hi).trans (k1 i hi)) g2
      · cases e
  · cases ds with
    | nil => simp only [glCons] at e; cases e
    | cons d ds =>
      simp only [glCons] at e
      split at e
      · rename_i e1 he1
        obtain ⟨l, k⟩ := h2.2 _ _ _ e
        exact ⟨by rw [List.length_cons, l], fun i es p => h1.2 _ _ _ he1 i es (k i es p)⟩
      · cases e
theorem jg_tp {sl : List Nat} {n : Nat} {ts : List Expr} {g : GL} {k : Nat} (hcm : X.calm = true) (h : JGs X C sl n ts g) (hn : (assignEach ts X.env).length = n := by rfl) (hst : (assignEach ts X.env).findIdx? (·.1) = none := by rfl) : JG X C sl (.Tuple ts k pos) (gTp g) := by
  refine ⟨pg_weak (pg_tup hcm h.1 hn hst) fun v σ H Q ⟨F, env, d, env', hd, r, e, q⟩ => ?_, fun d env env' e => ?_⟩
  · cases d with
    | tuple ds =>
      simp only [gTp] at e
      cases r with
      | tup h1 h2 => exact ⟨_, _, rfl, (h1.up hd.ex).sq, by rw [h2.length]; exact (h.2 _ _ _ e).1, F, env, ds, env', hd, h2, e, q⟩
    | _ => simp only [gTp] at e; cases e
  · cases d with
    | tuple ds =>
      simp only [gTp] at e
      exact (h.2 _ _ _ e).2
    | _ => simp only [gTp] at e; cases e
/-- target = e; h by ps_asg -/
theorem js_unp {sl : List Nat} {g : G} (h : PS X st (tAsg (tJ X.K C f) (tgJ X.K C sl g))) : JS X C st (sUnp g f) := by
  refine ps_weak h fun D' σ H ⟨F, env, fl, hd, he, q⟩ => ?_
  simp only [sUnp] at he
  split at he
  · cases he
  rename_i x e1 h1
  split at he
  · cases he
  rename_i d e2 h2
  split at he
  · rename_i e3 h3
    cases he
    refine tJ.go hd h1 fun F1 H1 v s1 g1 r1 => ?_
    obtain ⟨F2, s2, g2, r2, _⟩ := g1.fzv hd s1 r1 h2
    exact ⟨F2, e2, d, e3, g2, r2, h3, fun σ' _ _ g' => q F2 σ' H1 s2.exF g'⟩
  · cases he
/-! ### while -/
theorem js_while {bs : List Stmt} {n : Nat} {er : List Nat} (hp : PassesOwn (model X.prog X.w) X.A X.env X.xe) (hc : JT X C c ft) (hb : JSs X C bs s1) : JS X C (.While c bs [] pos) (sWhile n er ft s1) := by
  refine ps_weak (ps_while hp hc hb) fun D' σ H ⟨F, env, fl, hd, he, q⟩ => ?_
  simp only [sWhile] at he
  refine ⟨fun m σ H => ∃ F1 env, Same F F1 ∧ Hd X.K C F1 env σ H ∧ runWhile ft s1 er m env = some fl, ⟨n, F, _, Same.refl F, hd.ers er, he⟩, ?_⟩
  rintro m σ1 H1 ⟨F1, env1, sm, g1, h1⟩
  cases m with
  | zero => simp only [runWhile] at h1; cases h1
  | succ m =>
    simp only [runWhile] at h1
    split at h1
    · cases h1
    · rename_i e1 h2
      cases h1
      refine ttJ.go g1 h2 fun F2 H2 s2 g2 => ?_
      rw [if_neg Bool.false_ne_true]
      exact q F2 _ _ (sm.trans s2.exF) g2
    · rename_i e1 h2
      refine ttJ.go g1 h2 fun F2 H2 s2 g2 => ?_
      rw [if_pos rfl]
      have sm2 := sm.trans s2.exF
      refine ⟨fun σ' H' => ∃ F1 env, Same F F1 ∧ Hd X.K C F1 env σ' H' ∧ runWhile ft s1 er m env = some fl, fun σ' H' z => ⟨m, Nat.lt_succ_self m, z⟩, ?_⟩
      split at h1
      · rename_i e2 h3
        exact sJ.go g2 h3 fun F3 σ3 H3 s3 g3 => ⟨F3, _, sm2.trans s3, g3.ers er, h1⟩
      · rename_i e2 h3
        exact sJ.go g2 h3 fun F3 σ3 H3 s3 g3 => ⟨F3, _, sm2.trans s3, g3.ers er, h1⟩
      · rename_i e2 h3
        cases h1
        exact sJ.go g2 h3 fun F3 σ3 H3 s3 g3 => q F3 σ3 H3 (sm2.trans s3) (g3.ers er)
      · rename_i r e2 h3
        cases h1
        exact sJ.go g2 h3 (q.up sm2)
      · cases h1
/-! ### what a loop walks -/
/-- the iterator J goes over the items ds in every state that keeps F0 -/
def Wk (K : Fr) (C : FC) (F0 : Hp) (J : L2.It) (ds : List D) : Prop := ∀ (F : Hp) (env : Env) (σ : St) (H : Hp), Same F0 F → Hd K C F env σ H →
  (∀ i, ds.length ≤ i → J.stop i H) ∧ ∀ (i : Nat) (d : D), ds[i]? = some d → J.go i H ∧ ∀ x H', J.yld i H x H' → ∃ F', Hd K C F' env σ H' ∧ Stp F env σ H F' env H' ∧ Rp F' x d
def tiJ (K : Fr) (C : FC) (it : M (List D)) : TI := fun σ H R => ∃ F env ds env', Hd K C F env σ H ∧ it env = some (ds, env') ∧
  ∀ F' H' J, Stp F env σ H F' env' H' → Hd K C F' env' σ H' → Wk K C F' J ds → R J H'
def JI (X : Cx) (C : FC) (tg iter : Expr) (it : M (List D)) : Prop := PI X tg iter (tiJ X.K C it)
theorem js_for {bs : List Stmt} {tg iter : Expr} {er sl : List Nat} {g : G} {it : M (List D)} (hp : PassesOwn (model X.prog X.w) X.A X.env X.xe) (hcm : X.calm = true) (hi : JI X C tg iter it) (hg : JG X C sl tg g) (hb : JSs X C bs s1)
    (hs : ∀ x, foldedSetIterable iter X.env x = pure x := by intro _; rfl) : JS X C (.For tg iter bs [] pos) (sFor er g it s1) := by
  refine ps_weak (ps_for hp hcm hi hg.1 hb hs) fun D' σ H ⟨F, env, fl, hd, he, q⟩ => ?_
  simp only [sFor] at he
  split at he
  · cases he
  rename_i ds e1 h1
  refine ⟨F, env, ds, e1, hd, h1, fun F1 H1 J s1' g1 wk => ?_⟩
  refine ⟨fun i m σ H => m = ds.length - i ∧ i ≤ ds.length ∧ ∃ F env, Same F1 F ∧ Hd X.K C F env σ H ∧ runFor g s1 er (ds.drop i) env = some fl, ⟨_, rfl, Nat.zero_le _, F1, _, Same.refl F1, g1.ers er, he⟩, ?_⟩
  rintro i m σ2 H2 ⟨rfl, hi', F2, env2, sm2, g2, h2⟩
  obtain ⟨w1, w2⟩ := wk F2 env2 σ2 H2 sm2 g2
  rcases Nat.lt_or_ge i ds.length with hlt | hge
  · refine .inr ?_
    have hd' : ds[i]? = some ds[i] := List.getElem?_eq_getElem hlt
    rw [List.drop_eq_getElem_cons hlt] at h2
    obtain ⟨w3, w4⟩ := w2 i _ hd'
    simp only [runFor] at h2
    split at h2
    · cases h2
    rename_i e2 h3
    refine ⟨w3, fun σ' H' => ∃ F env, Same F1 F ∧ Hd X.K C F env σ' H' ∧ runFor g s1 er (ds.drop (i + 1)) env = some fl, fun σ' H' z => ⟨ds.length - (i + 1), by omega, rfl, hlt, z⟩, fun x H' hy => ?_⟩
    obtain ⟨F3, g3, s3, r3⟩ := w4 x H' hy
    have sm3 : Same F1 F3 := sm2.trans s3.exF
    refine ⟨F3, env2, _, e2, g3, r3, h3, fun σ4 _ _ g4 => ?_⟩
    split at h2
    · rename_i e4 h4
      exact sJ.go g4 h4 fun F5 σ5 H5 s5 g5 => ⟨F5, _, sm3.trans s5, g5.ers er, h2⟩
    · rename_i e4 h4
      exact sJ.go g4 h4 fun F5 σ5 H5 s5 g5 => ⟨F5, _, sm3.trans s5, g5.ers er, h2⟩
    · rename_i e4 h4
      cases h2
      exact sJ.go g4 h4 fun F5 σ5 H5 s5 g5 => q F5 σ5 H5 ((s1'.exF.trans sm3).trans s5) (g5.ers er)
    · rename_i r e4 h4
      cases h2
      exact sJ.go g4 h4 (q.up (s1'.exF.trans sm3))
    · cases h2
  · refine .inl ⟨w1 i hge, ?_⟩
    rw [List.drop_eq_nil_of_le hge] at h2
    simp only [runFor] at h2
    cases h2
    exact q F2 _ _ (s1'.exF.trans sm2) g2
/-! ### the iterators -/
theorem pi_or {tg iter : Expr} {w1 w2 : TI} (h1 : PI X tg iter w1) (h2 : PI X tg iter w2) : PI X tg iter (fun σ H R => w1 σ H R ∨ w2 σ H R) :=
  ⟨fun pins s σ H R I h => h.elim (h1.run pins s σ H R I) (h2.run pins s σ H R I)⟩
theorem pi_weak {tg iter : Expr} {t u : TI} (h : PI X tg iter t) (w : ∀ σ H R, u σ H R → t σ H R) : PI X tg iter u := ⟨fun pins s σ H R I q => h.run pins s σ H R I (w σ H R q)⟩
theorem sqL_inj {K : Fr} {H : Hp} {a : Addr} {xs : List V} (h : H a = some (.lst xs)) : SqL K H a xs := SqL.of h
theorem wk_list {K : Fr} {F0 : Hp} {a : Addr} {vs : List V} {ds : List D} (h : ∀ F env σ H, Same F0 F → Hd K C F env σ H → H a = some (.lst vs)) (r : RpA F0 vs ds) : Wk K C F0 (Itl K a) ds := fun F env σ H s g => by
  have ha := h F env σ H s g
  refine ⟨fun i hi => ⟨vs, SqL.of ha, by rw [r.length]; exact hi⟩, fun i d hd => ?_⟩
  obtain ⟨v, h1, h2⟩ := r.getd hd
  refine ⟨⟨vs, v, SqL.of ha, h1⟩, fun x H' ⟨e, hy⟩ => ?_⟩
  subst e
  have e2 := hy vs (SqL.of ha)
  rw [h1] at e2; cases e2
  exact ⟨F, g, Stp.refl, h2.up s⟩
theorem wk_tup {K : Fr} {F0 : Hp} {a : Addr} {vs : List V} {ds : List D} (h : Tz F0 a vs) (r : RpA F0 vs ds) : Wk K C F0 (Itt K a) ds := fun F env σ H s g => by
  have ha := (h.up s).up g.ex
  refine ⟨fun i hi => ⟨vs, ha.sq, by rw [r.length]; exact hi⟩, fun i d hd => ?_⟩
  obtain ⟨v, h1, h2⟩ := r.getd hd
  refine ⟨⟨vs, v, ha.sq, h1⟩, fun x H' ⟨e, hy⟩ => ?_⟩
  subst e
  have e2 := hy vs ha.sq
  rw [h1] at e2; cases e2
  exact ⟨F, g, Stp.refl, h2.up s⟩
theorem wk_enum {K : Fr} {F0 : Hp} {a : Addr} {vs : List V} {ds : List D} (h : ∀ F env σ H, Same F0 F → Hd K C F env σ H → H a = some (.lst vs)) (r : RpA F0 vs ds) : Wk K C F0 (IteZ K a) (enum 0 ds) := fun F env σ H s g => by
  have ha := h F env σ H s g
  have len : ∀ (k : Nat) (ds : List D), (enum k ds).length = ds.length := fun k ds => by
    induction ds generalizing k with
    | nil => rfl
    | cons d ds ih => simp [enum, ih]
  have get : ∀ (k : Nat) (ds : List D) (i : Nat) (d : D), (enum k ds)[i]? = some d → ∃ e, ds[i]? = some e ∧ d = .tuple [.int ((k + i : Nat) : Int), e] := fun k ds => by
    induction ds generalizing k with
    | nil => intro i d z; simp [enum] at z
    | cons d ds ih =>
      intro i e z
      cases i with
      | zero => simp [enum] at z; exact ⟨d, rfl, z.symm⟩
      | succ i =>
        simp only [enum, List.getElem?_cons_succ] at z
        obtain ⟨e', h1, h2⟩ := ih (k + 1) i e z
        refine ⟨e', by simpa using h1, ?_⟩
        rw [h2, show k + 1 + i = k + (i + 1) by omega]
  refine ⟨fun i hi => ⟨vs, SqL.of ha, by rw [r.length, ← len 0 ds]; exact hi⟩, fun i d hd => ?_⟩
  obtain ⟨e, z1, z2⟩ := get 0 ds i d hd
  obtain ⟨v, h1, h2⟩ := r.getd z1
  refine ⟨⟨vs, v, SqL.of ha, h1⟩, fun x H' ⟨T, o, y, e1, e2, eo, e3, hy⟩ => ?_⟩
  have e4 := hy vs (SqL.of ha)
  rw [h1] at e4; cases e4
  subst e1 e3 z2
  have hf := Same.none g.ex e2
  refine ⟨_, g.newF e2, Stp.newF g.ex e2, .tup ⟨o, upd_same, eo⟩ (.cons ?_ (.cons ((h2.up s).up (same_upd hf)) .nil))⟩
  rw [Nat.zero_add]
  exact .int _
theorem rngD_get {lo : Int} {n i : Nat} {d : D} (h : (rngD lo n)[i]? = some d) : i < n ∧ d = .int (lo + (i : Nat)) := by
  unfold rngD at h
  rw [List.getElem?_map] at h
  rcases Nat.lt_or_ge i n with hi | hi
  · rw [List.getElem?_range hi] at h
    cases h
    exact ⟨hi, rfl⟩
  · rw [List.getElem?_eq_none (by rw [List.length_range]; exact hi)] at h
    cases h
theorem rngD_len (lo : Int) (n : Nat) : (rngD lo n).length = n := by unfold rngD; simp
theorem wk_range {K : Fr} {F0 : Hp} {lo : Int} {n : Nat} : Wk K C F0 (Itr lo n) (rngD lo n) := fun F env σ H s g => by
  refine ⟨fun i hi => by rw [rngD_len] at hi; exact hi, fun i d hd => ?_⟩
  obtain ⟨h1, rfl⟩ := rngD_get hd
  refine ⟨h1, fun x H' ⟨e, hy⟩ => ?_⟩
  subst e hy
  exact ⟨F, g, Stp.refl, .int _⟩
/-- over a list or a tuple -/
def LsK (K : Fr) (C : FC) (F0 : Hp) (a : Addr) (vs : List V) : Prop := ∀ F env σ H, Same F0 F → Hd K C F env σ H → H a = some (.lst vs)
theorem seq_it {K : Fr} {F : Hp} {env env' : Env} {σ : St} {H : Hp} {ds : List D} (hd : Hd K C F env σ H) (h : itSeq f env = some (ds, env')) :
    (∀ R : VK, (∀ F' H' a vs, Stp F env σ H F' env' H' → Hd K C F' env' σ H' → RpA F' vs ds → LsK K C F' a vs → R (V.ref a) H') → tJ K C f σ H R) ∨
    (∀ R : VK, (∀ F' H' a vs, Stp F env σ H F' env' H' → Hd K C F' env' σ H' → RpA F' vs ds → Tz F' a vs → R (V.ref a) H') → tJ K C f σ H R) := by
  simp only [itSeq] at h
  split at h
  · cases h
  rename_i x e1 h1
  split at h
  · rename_i ds' h2
    cases h
    refine .inl fun R q => tJ.go hd h1 fun F1 H1 v s1 g1 r1 => ?_
    cases x with
    | sl i =>
      simp only [bwOf] at h2
      split at h2
      · rename_i ds'' h3
        cases h2
        have r1' : σ[i]? = some (some v) := r1
        obtain ⟨a, vs, z1, z2, z3, z4⟩ := g1.bw i _ h3
        rw [r1'] at z1; cases z1
        exact q F1 H1 a vs s1 g1 z4 fun F2 env2 σ2 H2 s2 g2 => g2.keep _ _ z2 z3
      · cases h2
    | fz d => simp only [bwOf] at h2; cases h2
    | tm d => simp only [bwOf] at h2; cases h2
  · split at h
    · cases h
    rename_i d e2 h3
    split at h
    · rename_i ds' h4
      cases h
      cases d with
      | list es =>
        cases h4
        refine .inl fun R q => tJ.go hd h1 fun F1 H1 v s1 g1 r1 => ?_
        obtain ⟨F2, s2, g2, r2, _⟩ := g1.fzv hd s1 r1 h3
        cases r2 with
        | lst p1 p2 => exact q F2 H1 _ _ s2 g2 p2 fun F3 env3 σ3 H3 s3 g3 => g3.ex _ _ (s3 _ _ p1)
      | tuple es =>
        cases h4
        refine .inr fun R q => tJ.go hd h1 fun F1 H1 v s1 g1 r1 => ?_
        obtain ⟨F2, s2, g2, r2, _⟩ := g1.fzv hd s1 r1 h3
        cases r2 with
        | tup p1 p2 => exact q F2 H1 _ _ s2 g2 p2 p1
      | _ => cases h4
    · cases h
theorem ji_seq {tg iter : Expr} (h : JE X C iter f) : JI X C tg iter (itSeq f) := by
  refine pi_weak (pi_or (pi_list h) (pi_tup h)) fun σ H R ⟨F, env, ds, env', hd, he, q⟩ => ?_
  rcases seq_it hd he with w | w
  · exact .inl (w _ fun F1 H1 a vs s1 g1 r1 hl => ⟨a, rfl, ⟨vs, SqL.of (hl F1 _ _ H1 (Same.refl F1) g1)⟩, q F1 H1 _ s1 g1 (wk_list hl r1)⟩)
  · exact .inr (w _ fun F1 H1 a vs s1 g1 r1 hl => ⟨a, rfl, ⟨vs, (hl.up g1.ex).sq⟩, q F1 H1 _ s1 g1 (wk_tup hl r1)⟩)
theorem two62 : ((2 : Int) ^ 62) = big := by decide
theorem ji_r1 {tg iter : Expr} (h : PI X tg iter (iRng1 (tCons (tJ X.K C f) tNil))) : JI X C tg iter (itR1 f) := by
  refine pi_weak h fun σ H R ⟨F, env, ds, env', hd, he, q⟩ => ?_
  simp only [itR1] at he
  split at he
  · rename_i n e1 h1
    split at he
    · rename_i hb
      cases he
      refine tJ.go hd h1 fun F1 H1 v s1 g1 r1 => ?_
      have r1' : Rp F1 v (.int n) := r1
      cases r1'
      exact ⟨n, rfl, by rw [two62]; exact hb.1, by rw [two62]; exact hb.2, q F1 H1 _ s1 g1 wk_range⟩
    · cases he
  · cases he
theorem ji_r2 {tg iter : Expr} (h : PI X tg iter (iRng2 (tCons (tJ X.K C fa) (tCons (tJ X.K C fb) tNil)))) : JI X C tg iter (itR2 fa fb) := by
  refine pi_weak h fun σ H R ⟨F, env, ds, env', hd, he, q⟩ => ?_
  simp only [itR2] at he
  split at he
  · rename_i m e1 h1
    split at he
    · rename_i n e2 h2
      split at he
      · rename_i hb
        cases he
        refine tJ.go hd h1 fun F1 H1 v s1 g1 r1 => tJ.go g1 h2 fun F2 H2 w s2 g2 r2 => ?_
        have r1' : Rp F1 v (.int m) := r1
        have r2' : Rp F2 w (.int n) := r2
        cases r1'
        cases r2'
        exact ⟨m, n, rfl, by rw [two62]; exact ⟨hb.1.1, hb.1.2, hb.2.1, hb.2.2⟩, q F2 H2 _ (s1.trans s2) g2 wk_range⟩
      · cases he
    · cases he
  · cases he
/-- enumerate over a list, a tuple; h2 by an own rule -/
def iEnT (K : Fr) (Jt : Addr → L2.It) (ta : TA) : TI := fun σ H R => ta σ H fun vs H1 => ∃ a xs, vs = [V.ref a] ∧ SqT K H1 a xs ∧ R (Jt a) H1
theorem ji_en {tg iter : Expr} {Jt : Addr → L2.It} (h : PI X tg iter (iEnZ X.K (tCons (tJ X.K C f) tNil))) (h2 : PI X tg iter (iEnT X.K Jt (tCons (tJ X.K C f) tNil)))
    (wt : ∀ F0 a vs ds, Tz F0 a vs → RpA F0 vs ds → Wk X.K C F0 (Jt a) (enum 0 ds)) : JI X C tg iter (itEn (itSeq f)) := by
  refine pi_weak (pi_or h h2) fun σ H R ⟨F, env, ds, env', hd, he, q⟩ => ?_
  simp only [itEn] at he
  split at he
  · cases he
  rename_i ds' e1 h1
  cases he
  rcases seq_it hd h1 with w | w
  · exact .inl (w _ fun F1 H1 a vs s1 g1 r1 hl => ⟨a, vs, rfl, SqL.of (hl F1 _ _ H1 (Same.refl F1) g1), q F1 H1 _ s1 g1 (wk_enum hl r1)⟩)
  · exact .inr (w _ fun F1 H1 a vs s1 g1 r1 hl => ⟨a, vs, rfl, (hl.up g1.ex).sq, q F1 H1 _ s1 g1 (wt F1 a vs _ hl r1)⟩)
end
end J
namespace J
open PySem L2
/-! ### comprehensions -/
theorem wipe_out {σ : St} {i : Nat} : ∀ {vs : List Nat}, i ∉ vs → (wipe σ vs)[i]? = σ[i]?
  | [], _ => rfl
  | v :: vs, h => by
    rw [List.mem_cons, not_or] at h
    unfold wipe
    rw [List.getElem?_set_ne (fun e => h.1 e.symm), wipe_out h.2]
theorem wipe_in {σ : St} {i : Nat} : ∀ {vs : List Nat}, i ∈ vs → i < σ.length → (wipe σ vs)[i]? = some none
  | [], h, _ => absurd h (by simp)
  | v :: vs, h, hl => by
    unfold wipe
    by_cases e : v = i
    · subst e
      rw [List.getElem?_set_self (by rw [wipe_length]; exact hl)]
    · rw [List.getElem?_set_ne e]
      rcases List.mem_cons.mp h with z | z
      · exact absurd z.symm e
      · exact wipe_in z hl
theorem wipe_eq {σ σ' : St} {vs : List Nat} (hl : σ'.length = σ.length) (h : ∀ i, i ∉ vs → σ'[i]? = σ[i]?) : wipe σ' vs = wipe σ vs := by
  apply List.ext_getElem?
  intro i
  by_cases hi : i ∈ vs
  · rcases Nat.lt_or_ge i σ.length with z | z
    · rw [wipe_in hi (by rw [hl]; exact z), wipe_in hi z]
    · rw [List.getElem?_eq_none (by rw [wipe_length, hl]; exact z), List.getElem?_eq_none (by rw [wipe_length]; exact z)]
  · rw [wipe_out hi, wipe_out hi, h i hi]
theorem ers_in {i : Nat} : ∀ {er : List Nat} {env : Env}, (i ∈ er ∨ env[i]? = some .no ∨ env[i]? = none) → ((ers er env)[i]? = some .no ∨ (ers er env)[i]? = none)
  | [], env, h => by
    rcases h with h | h
    · exact absurd h (by simp)
    · exact h
  | j :: r, env, h => by
    show ((ers r (env.set j .no))[i]? = some .no ∨ (ers r (env.set j .no))[i]? = none)
    refine ers_in ?_
    by_cases e : j = i
    · subst e
      refine .inr ?_
      rcases Nat.lt_or_ge j env.length with z | z
      · exact .inl (List.getElem?_set_self z)
      · exact .inr (List.getElem?_eq_none (by rw [List.length_set]; exact z))
    · rw [List.getElem?_set_ne e]
      rcases h with h | h
      · rcases List.mem_cons.mp h with z | z
        · exact absurd z.symm e
        · exact .inl z
      · exact .inr h
theorem ers_ow {i : Nat} {ds : List D} : ∀ {er : List Nat} {env : Env}, (ers er env)[i]? = some (.ow ds) → env[i]? = some (.ow ds)
  | [], env, h => h
  | j :: r, env, h => by
    have h' := ers_ow (er := r) h
    rcases set_get h' with ⟨_, e2, _⟩ | ⟨_, p⟩
    · cases e2
    · exact p
/-- nothing is known in the slots vs -/
def Off (vs : List Nat) (env : Env) : Prop := ∀ i ∈ vs, env[i]? = some .no ∨ env[i]? = none
theorem off_ers {vs : List Nat} {env : Env} : Off vs (ers vs env) := fun i hi => ers_in (.inl hi)
section
variable {K : Fr} {C : FC} {F F' : Hp} {env env' : Env} {σ σ' : St} {H H' : Hp} {vs : List Nat}
theorem Hd.sig (h : Hd K C F env σ H) (hl : σ'.length = σ.length) (ho : Off vs env) (he : ∀ i, i ∉ vs → σ'[i]? = σ[i]?) (hm : ∀ i ∈ vs, i ∉ C.mp) : Hd K C F env σ' H := by
  have kn : ∀ {i : Nat} {x : Sl}, env[i]? = some x → x ≠ .no → σ'[i]? = σ[i]? := fun {i x} q n => he i fun z => by
    rcases ho i z with z | z
    · rw [q] at z; cases z; exact n rfl
    · rw [q] at z; cases z
  refine ⟨h.ex, h.len.trans hl.symm, fun i d q => ?_, fun i d q => ?_, fun i d q => ?_, fun i d q => ?_, fun i j ds es a q1 q2 p1 p2 => ?_, h.keep, h.old, h.dom, fun k i a q1 q2 => ?_⟩
  · rw [kn q (fun z => nomatch z)]; exact h.fz i d q
  · rw [kn q (fun z => nomatch z)]; exact h.ow i d q
  · rw [kn q (fun z => nomatch z)]; exact h.bw i d q
  · rw [kn q (fun z => nomatch z)]; exact h.sc i d q
  · rw [kn q1 (fun z => nomatch z)] at p1
    rw [kn q2 (fun z => nomatch z)] at p2
    exact h.inj i j ds es a q1 q2 p1 p2
  · rw [he i fun z => hm i z (List.mem_of_getElem? q1)]
    exact h.mps k i a q1 q2
theorem NotOw.sig {a : Addr} (h : NotOw env σ a) (he : ∀ (i : Nat) (ds : List D), env[i]? = some (.ow ds) → σ'[i]? = σ[i]?) : NotOw env σ' a := fun j ds q z => by
  rw [he j ds q] at z
  exact h j ds q z
theorem Stp.sig (h : Stp F env σ H F' env' H') (he : ∀ (i : Nat) (ds : List D), env[i]? = some (.ow ds) → σ'[i]? = σ[i]?) : Stp F env σ' H F' env' H' :=
  ⟨h.exF, fun a o q1 q2 n => h.tmp a o q1 q2 (n.sig fun i ds q => (he i ds q).symm), h.sub, h.old⟩
theorem Stp.less {env2 : Env} (h : Stp F env σ H F' env' H') (hs : ∀ (i : Nat) (ds : List D), env2[i]? = some (.ow ds) → ∃ es, env'[i]? = some (.ow es)) : Stp F env σ H F' env2 H' :=
  ⟨h.exF, h.tmp, fun i ds q => by
    obtain ⟨es, q'⟩ := hs i ds q
    exact h.sub i es q', h.old⟩
theorem Stp.more {env0 : Env} (h : Stp F env σ H F' env' H') (hs : NoNew env0 env) : Stp F env0 σ H F' env' H' :=
  ⟨h.exF, fun a o q1 q2 n => h.tmp a o q1 q2 fun j ds q => n j ds (hs j ds q), fun i ds q => by
    obtain ⟨es, q'⟩ := h.sub i ds q
    exact ⟨es, hs i es q'⟩, h.old⟩
end
section
variable {X : Cx} {C : FC} {f fe : M RV} {ft : M Bool} {e : Expr}
/-- the reading of a comprehension -/
theorem lc_run {K : Fr} {er : List Nat} {g : G} {it : M (List D)} {σ : St} {H : Hp} {Q : VK} {mp : List Nat} (hc : C.mp = mp) (hm : ∀ i ∈ er, i ∉ mp) (hn : ∀ d env env', g d env = some env' → NoNew env env')
    (h : tJ K C (eLc er g it ft fe) σ H Q) : tLc (tiJ K C it) (tgJ K C er g) (ttJ K C ft) (tJ K C fe) er σ H Q := by
  subst hc
  obtain ⟨F, env, rv, env', hd, he, q⟩ := h
  simp only [eLc] at he
  split at he
  · cases he
  rename_i ds e1 h1
  split at he
  · rename_i hlen
    split at he
    · cases he
    rename_i ys e2 h2
    cases he
    refine ⟨F, env, ds, e1, hd, h1, fun F1 H1 J s1 g1 wk dl hD => ?_⟩
    -- the state ahead of turn i
    refine ⟨fun i m H' => m = ds.length - i ∧ i ≤ ds.length ∧ ∃ F2 env2 acc dn rest, Same F1 F2 ∧ Hd K C F2 env2 σ H' ∧ Off er env2 ∧ Stp F env σ H F2 env2 H' ∧ H' dl = some (.lst acc) ∧ F2 dl = none ∧ RpA F2 acc dn ∧ NotOw env2 σ dl ∧
      runLc g ft fe er (ds.drop i) env2 = some (rest, env') ∧ ys = dn ++ rest ∧ acc.length ≤ i, ⟨_, rfl, Nat.zero_le _, F1, ers er e1, [], [], ys, Same.refl F1, (g1.ers er).new hD, off_ers, ?_, upd_same, Same.none g1.ex hD, .nil, ?_, h2, rfl, Nat.le_refl _⟩, ?_⟩
    · exact (s1.trans (Stp.new hD)).less fun i es z => ⟨es, ers_ow z⟩
    · intro j es z w
      obtain ⟨a, vs, p1, p2, _⟩ := (g1.ers er).ow j es z
      rw [w] at p1; cases p1
      rw [p2] at hD; cases hD
    · rintro i m H2 ⟨rfl, hi', F2, env2, acc, dn, rest, sm, g2, off, s2, hA, hF, rA, nO, h3, hy, hal⟩
      have offO : ∀ {env3 : Env}, NoNew env2 env3 → ∀ {σ3 : St}, (∀ i, i ∉ er → σ3[i]? = (wipe σ er)[i]?) → ∀ (i : Nat) (ds : List D), env3[i]? = some (.ow ds) → σ3[i]? = σ[i]? := fun {env3} nn {σ3} hs i ds z => by
        have hi : i ∉ er := fun w => by
          have z' := nn i ds z
          rcases off i w with p | p
          · rw [p] at z'; cases z'
          · rw [p] at z'; cases z'
        rw [hs i hi, wipe_out hi]
      obtain ⟨w1, w2⟩ := wk F2 env2 σ H2 sm g2
      rcases Nat.lt_or_ge i ds.length with hlt | hge
      · refine .inr ?_
        have hd' : ds[i]? = some ds[i] := List.getElem?_eq_getElem hlt
        rw [List.drop_eq_getElem_cons hlt] at h3
        obtain ⟨w3, w4⟩ := w2 i _ hd'
        simp only [runLc] at h3
        split at h3
        · cases h3
        rename_i e3 h4
        refine ⟨w3, fun H' => ∃ F2 env2 acc dn rest, Same F1 F2 ∧ Hd K C F2 env2 σ H' ∧ Off er env2 ∧ Stp F env σ H F2 env2 H' ∧ H' dl = some (.lst acc) ∧ F2 dl = none ∧ RpA F2 acc dn ∧ NotOw env2 σ dl ∧
          runLc g ft fe er (ds.drop (i + 1)) env2 = some (rest, env') ∧ ys = dn ++ rest ∧ acc.length ≤ i + 1, fun H' z => ⟨ds.length - (i + 1), by omega, rfl, hlt, z⟩, fun x H' hy' => ?_⟩
        obtain ⟨F3, g3, s3, r3⟩ := w4 x H' hy'
        obtain ⟨hF3, hA3⟩ := s3.tmp dl _ hF hA nO
        have sm3 := sm.trans s3.exF
        have g3w : Hd K C F3 env2 (wipe σ er) H' := g3.sig (wipe_length σ er) off (fun i hi => wipe_out hi) hm
        refine ⟨F3, env2, _, e3, g3w, r3, h4, fun σ4 l4 k4 g4 => ⟨(wipe_eq l4 k4).trans (wipe_eq (wipe_length σ er) fun i hi => wipe_out hi), ?_⟩⟩
        have nn := hn _ _ _ h4
        have o4 := offO nn k4
        have nO4 : NotOw e3 σ4 dl := fun j es z w => nO j es (nn j es z) (by rw [← o4 j es z]; exact w)
        split at h3
        · cases h3
        · -- left out
          rename_i e4 h5
          refine ttJ.go g4 h5 fun F5 H5 s5 g5 => ?_
          rw [if_neg Bool.false_ne_true]
          obtain ⟨hF5, hA5⟩ := s5.tmp dl _ hF3 hA3 nO4
          have s5' : Stp F3 env2 σ H' F5 e4 H5 := (s5.sig fun j es z => (o4 j es z).symm).more nn
          have g5w : Hd K C F5 (ers er e4) σ H5 := (g5.ers er).sig (by rw [l4, wipe_length]) off_ers (fun i hi => by rw [k4 i hi, wipe_out hi]) hm
          refine ⟨F5, ers er e4, acc, dn, rest, sm3.trans s5.exF, g5w, off_ers, ((s2.trans s3).trans s5').less fun j es z => ⟨es, ers_ow z⟩, hA5, hF5, (rA.up s3.exF).up s5.exF, ?_, h3, hy, Nat.le_succ_of_le hal⟩
          exact fun j es z w => by
            obtain ⟨es', z'⟩ := s5'.sub j es (ers_ow z)
            exact nO j es' z' w
        · rename_i e4 h5
          split at h3
          · cases h3
          rename_i x' e5 h6
          split at h3
          · cases h3
          rename_i y' e6 h7
          split at h3
          · cases h3
          rename_i ys' e7 h8
          cases h3
          refine ttJ.go g4 h5 fun F5 H5 s5 g5 => ?_
          rw [if_pos rfl]
          refine tJ.go g5 h6 fun F6 H6 v s6 g6 r6 => ?_
          obtain ⟨F7, s7, g7, r7, _⟩ := g6.fzv g5 s6 r6 h7
          obtain ⟨hF5, hA5⟩ := s5.tmp dl _ hF3 hA3 nO4
          have nO5 : NotOw e4 σ4 dl := nO4.sub s5.sub
          obtain ⟨hF7, hA7⟩ := s7.tmp dl _ hF5 hA5 nO5
          have s57 := s5.trans s7
          have s57' : Stp F3 env2 σ H' F7 e6 H6 := (s57.sig fun j es z => (o4 j es z).symm).more nn
          have hz : acc.length < sizeLine := by
            have : ds.length ≤ limit := hlen
            rw [sizeLine_eq]
            unfold limit at this
            omega
          refine ⟨acc, hA7, hz, ?_⟩
          have g7w : Hd K C F7 (ers er e6) σ H6 := (g7.ers er).sig (by rw [l4, wipe_length]) off_ers (fun i hi => by rw [k4 i hi, wipe_out hi]) hm
          have nO7 : NotOw (ers er e6) σ dl := fun j es z w => by
            obtain ⟨es', z'⟩ := s57'.sub j es (ers_ow z)
            exact nO j es' z' w
          -- the new list grows
          have hD0 : H dl = none := s1.old dl hD
          have g8 : Hd K C F7 (ers er e6) σ (upd H6 dl (.lst (acc ++ [v]))) := by
            refine ⟨fun b u z => ?_, g7w.len, g7w.fz, fun j es z => ?_, g7w.bw, g7w.sc, g7w.inj, fun b u z n => ?_, fun b z => g7w.old b (upd_none z).2, g7w.dom, g7w.mps⟩
            · rw [upd_ne (ne_of_none z hF7)]; exact g7w.ex b u z
            · obtain ⟨b, ws, p1, p2, p3⟩ := g7w.ow j es z
              have ne : b ≠ dl := fun w => nO7 j es z (by rw [← w]; exact p1)
              exact ⟨b, ws, p1, by rw [upd_ne ne]; exact p2, p3⟩
            · have ne : b ≠ dl := by
                rintro rfl
                rw [hd.old _ hD0] at z; cases z
              rw [upd_ne ne]; exact g7w.keep b u z n
          refine ⟨F7, ers er e6, acc ++ [v], dn ++ [y'], ys', (sm3.trans s5.exF).trans s7.exF, g8, off_ers, ?_, upd_same, hF7, ((((rA.up s3.exF).up s5.exF).up s7.exF)).append (.cons r7 .nil), nO7, h8, ?_, ?_⟩
          · have st := ((s2.trans s3).trans s57').less (env2 := ers er e6) fun j es z => ⟨es, ers_ow z⟩
            exact ⟨st.exF, fun b u z1 z2 n => by
              obtain ⟨p1, p2⟩ := st.tmp b u z1 z2 n
              have ne : b ≠ dl := ne_of_none z2 hD0
              exact ⟨p1, by rw [upd_ne ne]; exact p2⟩, st.sub, fun b z => st.old b (upd_none z).2⟩
          · rw [hy, List.append_assoc]; rfl
          · rw [List.length_append]; simp only [List.length_cons, List.length_nil]; omega
      · refine .inl ⟨w1 i hge, ?_⟩
        rw [List.drop_eq_nil_of_le hge] at h3
        simp only [runLc] at h3
        cases h3
        rw [List.append_nil] at hy
        subst hy
        exact q F2 H2 _ s2 g2 ⟨dl, acc, rfl, hA, hF, rA, s1.old dl hD, nO⟩
  · cases he
/-- [..]; h by pe_lc -/
theorem je_lc {er mp : List Nat} {g : G} {it : M (List D)} (hc : C.mp = mp) (hm : ∀ i ∈ er, i ∉ mp) (hn : ∀ d env env', g d env = some env' → NoNew env env')
    (h : PE X e (tLc (tiJ X.K C it) (tgJ X.K C er g) (ttJ X.K C ft) (tJ X.K C fe) er)) : JE X C e (eLc er g it ft fe) := pe_weak h fun σ H Q z => lc_run hc hm hn z
/-- y = [..]; h by ps_setLc -/
theorem js_lc {st : Stmt} {i : Nat} {er mp : List Nat} {g : G} {it : M (List D)} (hc : C.mp = mp) (hi : i ∉ mp) (hm : ∀ i ∈ er, i ∉ mp) (hn : ∀ d env env', g d env = some env' → NoNew env env')
    (h : PS X st (tAsg (tLc (tiJ X.K C it) (tgJ X.K C er g) (ttJ X.K C ft) (tJ X.K C fe) er) (gName i))) : JS X C st (sAsg i (eLc er g it ft fe)) :=
  js_asg hc hi (ps_weak h fun D' σ H z => lc_run hc hm hn z)
theorem nn_nm {i : Nat} : ∀ d env env', gNm i d env = some env' → NoNew env env' := fun d env env' e => by
  simp only [gNm] at e
  cases e
  intro j es p
  rcases set_get p with ⟨_, e2, _⟩ | ⟨_, p⟩
  · cases e2
  · exact p
theorem tyes_run {K : Fr} {σ : St} {H : Hp} {Q : Bool → Hp → Prop} (h : ttJ K C tYes σ H Q) : L2.tYes σ H Q := by
  obtain ⟨F, env, b, env', hd, he, q⟩ := h
  simp only [J.tYes] at he
  cases he
  exact q F H Stp.refl hd
theorem pts_weak {ifs : List Expr} {t u : TT} (h : PTs X ifs t) (w : ∀ σ H Q, u σ H Q → t σ H Q) : PTs X ifs u := ⟨fun pins s σ H Q I q => h.run pins s σ H Q I (w σ H Q q)⟩
theorem jts_nil : PTs X [] (ttJ X.K C tYes) := pts_weak pts_nil fun σ H Q z => tyes_run z
theorem jts_one {c : Expr} (h : JT X C c ft) : PTs X [c] (ttJ X.K C ft) := pts_one h
end
end J
namespace J
open PySem L2
/-! ### defs: what they promise -/
def mutA : List PK → List V → List Addr
  | .mt :: ks, .ref a :: vs => a :: mutA ks vs
  | _ :: ks, _ :: vs => mutA ks vs
  | _, _ => []
def mutI (k : Nat) : List PK → List Nat
  | .mt :: ks => k :: mutI (k + 1) ks
  | _ :: ks => mutI (k + 1) ks
  | [] => []
def ArgR (K : Fr) (F H : Hp) (Mu : List Addr) : PK → V → D → Prop
  | .fz, v, d => Rp F v d
  | .bw, v, d => (∃ a vs ds, v = V.ref a ∧ d = .list ds ∧ H a = some (.lst vs) ∧ a ∉ Mu ∧ RpA F vs ds) ∨ ((∀ ds, d ≠ .list ds) ∧ Rp F v d)
  | .mt, v, d => ∃ a vs ds, v = V.ref a ∧ d = .list ds ∧ H a = some (.lst vs) ∧ F a = none ∧ RpA F vs ds
  | .sc, v, d => ∃ (a : Addr) (ns : List Int), v = V.ref a ∧ d = .list (ns.map PyData.int) ∧ ScR K H Mu a (ns.map V.int)
inductive ArgsR (K : Fr) (F H : Hp) (Mu : List Addr) : List PK → List V → List D → Prop
  | nil : ArgsR K F H Mu [] [] []
  | cons {k : PK} {ks : List PK} {v : V} {vs : List V} {d : D} {ds : List D} : ArgR K F H Mu k v d → ArgsR K F H Mu ks vs ds → ArgsR K F H Mu (k :: ks) (v :: vs) (d :: ds)
inductive MutsR (F H : Hp) : List Addr → List (List D) → Prop
  | nil : MutsR F H [] []
  | cons {a : Addr} {as : List Addr} {vs : List V} {ds : List D} {q : List (List D)} : H a = some (.lst vs) → F a = none → RpA F vs ds → MutsR F H as q → MutsR F H (a :: as) (ds :: q)
def ResR (H F' H' : Hp) : Rt → V → Prop
  | .fz d, v => Rp F' v d
  | .ow ds, v => ∃ a vs, v = V.ref a ∧ H a = none ∧ F' a = none ∧ H' a = some (.lst vs) ∧ RpA F' vs ds
def spJ (K : Fr) (ks : List PK) (fn : FnS) : Sp := fun vs H Q _ => ∃ F ds r ms, Same F H ∧ ArgsR K F H (mutA ks vs) ks vs ds ∧ (mutA ks vs).Nodup ∧ fn ds = some (r, ms) ∧
  ∀ v F' H', Same F F' → Same F' H' → (∀ a o, H a = some o → a ∉ mutA ks vs → H' a = some o) → (∀ a, H' a = none → H a = none) → (∀ a, F' a ≠ none → F a ≠ none ∨ H a = none) →
    MutsR F' H' (mutA ks vs) ms → ResR H F' H' r v → Q v H'
theorem ArgsR.len {K : Fr} {F H : Hp} {Mu : List Addr} : ∀ {ks : List PK} {vs : List V} {ds : List D}, ArgsR K F H Mu ks vs ds → vs.length = ks.length ∧ ds.length = ks.length
  | _, _, _, .nil => ⟨rfl, rfl⟩
  | _, _, _, .cons _ t => ⟨by simp [(ArgsR.len t).1], by simp [(ArgsR.len t).2]⟩
/-! ### a def's entry -/
theorem mutI_get {k i : Nat} {j : Nat} : ∀ {ks : List PK}, (mutI k ks)[j]? = some i → k ≤ i ∧ ks[i - k]? = some .mt
  | [], h => by simp [mutI] at h
  | .mt :: ks, h => by
    cases j with
    | zero => simp [mutI] at h; subst h; simp
    | succ j =>
      have h' : (mutI (k + 1) ks)[j]? = some i := by simpa [mutI] using h
      obtain ⟨h1, h2⟩ := mutI_get h'
      refine ⟨by omega, ?_⟩
      rw [show i - k = (i - (k + 1)) + 1 by omega, List.getElem?_cons_succ]
      exact h2
  | .fz :: ks, h => by
    have h' : (mutI (k + 1) ks)[j]? = some i := by simpa [mutI] using h
    obtain ⟨h1, h2⟩ := mutI_get h'
    refine ⟨by omega, ?_⟩
    rw [show i - k = (i - (k + 1)) + 1 by omega, List.getElem?_cons_succ]
    exact h2
  | .bw :: ks, h => by
    have h' : (mutI (k + 1) ks)[j]? = some i := by simpa [mutI] using h
    obtain ⟨h1, h2⟩ := mutI_get h'
    refine ⟨by omega, ?_⟩
    rw [show i - k = (i - (k + 1)) + 1 by omega, List.getElem?_cons_succ]
    exact h2
  | .sc :: ks, h => by
    have h' : (mutI (k + 1) ks)[j]? = some i := by simpa [mutI] using h
    obtain ⟨h1, h2⟩ := mutI_get h'
    refine ⟨by omega, ?_⟩
    rw [show i - k = (i - (k + 1)) + 1 by omega, List.getElem?_cons_succ]
    exact h2
/-- one slot at the entry -/
def SlR (K : Fr) (F H : Hp) (Mu : List Addr) : Sl → V → Prop
  | .no, _ => True
  | .fz d, v => Rp F v d
  | .ow ds, v => ∃ a vs, v = V.ref a ∧ a ∈ Mu ∧ H a = some (.lst vs) ∧ F a = none ∧ RpA F vs ds
  | .bw ds, v => ∃ a vs, v = V.ref a ∧ H a = some (.lst vs) ∧ a ∉ Mu ∧ RpA F vs ds
  | .sc ds, v => ∃ (a : Addr) (ns : List Int), v = V.ref a ∧ ds = ns.map PyData.int ∧ ScR K H Mu a (ns.map V.int)
theorem ini_get {K : Fr} {F H : Hp} {Mu : List Addr} : ∀ {ks : List PK} {vs : List V} {ds : List D} {env : Env}, ArgsR K F H Mu ks vs ds → (∀ a, a ∈ mutA ks vs → a ∈ Mu) → ini ks ds = some env →
    env.length = vs.length ∧ ∀ (i : Nat) (s : Sl), env[i]? = some s → ∃ v, vs[i]? = some v ∧ SlR K F H Mu s v
  | _, _, _, _, .nil, _, h => by simp only [ini] at h; cases h; exact ⟨rfl, fun i s z => by simp at z⟩
  | k :: ks, v :: vs, d :: ds, env, .cons a t, hm, h => by
    have step : ∀ (s : Sl), SlR K F H Mu s v → (∀ a, a ∈ mutA ks vs → a ∈ Mu) → (ini ks ds).map (s :: ·) = some env → env.length = (v :: vs).length ∧ ∀ (i : Nat) (s : Sl), env[i]? = some s → ∃ w, (v :: vs)[i]? = some w ∧ SlR K F H Mu s w := fun s hs hm' e => by
      cases q : ini ks ds with
      | none => rw [q] at e; cases e
      | some e1 =>
        rw [q] at e
        cases e
        obtain ⟨h1, h2⟩ := ini_get t hm' q
        refine ⟨by simp [h1], fun i s' z => ?_⟩
        cases i with
        | zero => simp at z; subst z; exact ⟨v, rfl, hs⟩
        | succ i => simpa using h2 i s' (by simpa using z)
    cases k with
    | fz =>
      simp only [ini] at h
      exact step (.fz d) a (fun b hb => hm b (by simpa [mutA] using hb)) h
    | bw =>
      have hm' : ∀ b, b ∈ mutA ks vs → b ∈ Mu := fun b hb => hm b (by simpa [mutA] using hb)
      rcases a with ⟨b, ws, es, rfl, rfl, z1, z2, z3⟩ | ⟨z1, z2⟩
      · simp only [ini] at h
        exact step (.bw es) ⟨b, ws, rfl, z1, z2, z3⟩ hm' h
      · have e : ini (.bw :: ks) (d :: ds) = (ini ks ds).map (.fz d :: ·) := by
          cases d with
          | list es => exact absurd rfl (z1 es)
          | _ => rfl
        rw [e] at h
        exact step (.fz d) z2 hm' h
    | mt =>
      obtain ⟨b, ws, es, rfl, rfl, z1, z2, z3⟩ := a
      simp only [ini] at h
      refine step (.ow es) ⟨b, ws, rfl, hm b ?_, z1, z2, z3⟩ (fun c hc => hm c ?_) h
      · simp [mutA]
      · simp [mutA, hc]
    | sc =>
      obtain ⟨b, ns, rfl, rfl, z1⟩ := a
      simp only [ini] at h
      exact step (.sc (ns.map PyData.int)) ⟨b, ns, rfl, rfl, z1⟩ (fun c hc => hm c (by simpa [mutA] using hc)) h
theorem ini_kind : ∀ {ks : List PK} {ds : List D} {env : Env} {i : Nat} {es : List D}, ini ks ds = some env → env[i]? = some (.ow es) → ks[i]? = some .mt
  | [], [], env, i, es, h, z => by simp only [ini] at h; cases h; simp at z
  | [], _ :: _, env, i, es, h, z => by simp [ini] at h
  | _ :: _, [], env, i, es, h, z => by
    rename_i k ks
    cases k <;> simp [ini] at h
  | k :: ks, d :: ds, env, i, es, h, z => by
    have go : ∀ s : Sl, (∀ es, s = .ow es → k = .mt) → (ini ks ds).map (s :: ·) = some env → (k :: ks)[i]? = some .mt := fun s hs e => by
      cases q : ini ks ds with
      | none => rw [q] at e; cases e
      | some e1 =>
        rw [q] at e
        cases e
        cases i with
        | zero =>
          simp at z
          rw [hs es z]; rfl
        | succ i => simpa using ini_kind q (by simpa using z)
    cases k with
    | fz => simp only [ini] at h; exact go (.fz d) (fun _ w => by cases w) h
    | bw =>
      cases d with
      | list es' => simp only [ini] at h; exact go (.bw es') (fun _ w => by cases w) h
      | _ => simp only [ini] at h; exact go (.fz _) (fun _ w => by cases w) h
    | mt =>
      cases d with
      | list es' => simp only [ini] at h; exact go (.ow es') (fun _ _ => rfl) h
      | _ => simp [ini] at h
    | sc =>
      cases d with
      | list es' => simp only [ini] at h; exact go (.sc es') (fun _ w => by cases w) h
      | _ => simp [ini] at h
theorem mutA_get {k0 : Nat} : ∀ {ks : List PK} {vs : List V} {k i : Nat} {a : Addr}, (mutI k0 ks)[k]? = some i → (mutA ks vs)[k]? = some a → ks.length = vs.length → (∀ (i : Nat) v, ks[i]? = some .mt → vs[i]? = some v → ∃ a, v = V.ref a) → vs[i - k0]? = some (V.ref a)
  | [], _, k, i, a, h, _, _, _ => by simp [mutI] at h
  | _ :: _, [], k, i, a, _, h, hl, _ => by simp at hl
  | p :: ks, v :: vs, k, i, a, h1, h2, hl, hr => by
    have hl' : ks.length = vs.length := by simpa using hl
    have hr' : ∀ (i : Nat) v, ks[i]? = some .mt → vs[i]? = some v → ∃ a, v = V.ref a := fun i w z1 z2 => hr (i + 1) w (by simpa using z1) (by simpa using z2)
    have skip : (mutI (k0 + 1) ks)[k]? = some i → (mutA ks vs)[k]? = some a → (v :: vs)[i - k0]? = some (V.ref a) := fun z1 z2 => by
      have := mutI_get z1
      have q := mutA_get z1 z2 hl' hr'
      rw [show i - k0 = (i - (k0 + 1)) + 1 by omega, List.getElem?_cons_succ]
      exact q
    cases p with
    | fz => exact skip (by simpa [mutI] using h1) (by simpa [mutA] using h2)
    | bw => exact skip (by simpa [mutI] using h1) (by simpa [mutA] using h2)
    | sc => exact skip (by simpa [mutI] using h1) (by simpa [mutA] using h2)
    | mt =>
      obtain ⟨b, rfl⟩ := hr 0 v rfl rfl
      cases k with
      | zero =>
        simp [mutI] at h1
        simp [mutA] at h2
        subst h1 h2
        simp
      | succ k =>
        have z1 : (mutI (k0 + 1) ks)[k]? = some i := by simpa [mutI] using h1
        have z2 : (mutA ks vs)[k]? = some a := by simpa [mutA] using h2
        have := mutI_get z1
        have q := mutA_get z1 z2 hl' hr'
        rw [show i - k0 = (i - (k0 + 1)) + 1 by omega, List.getElem?_cons_succ]
        exact q
theorem ArgsR.mt {K : Fr} {F H : Hp} {Mu : List Addr} : ∀ {ks : List PK} {vs : List V} {ds : List D}, ArgsR K F H Mu ks vs ds → ∀ (i : Nat) v, ks[i]? = some .mt → vs[i]? = some v → ∃ a, v = V.ref a
  | _, _, _, .nil, i, v, h, _ => by simp at h
  | _, _, _, .cons a t, 0, v, h1, h2 => by
    simp at h1 h2
    subst h1 h2
    obtain ⟨b, _, _, e, _⟩ := a
    exact ⟨b, e⟩
  | _, _, _, .cons a t, i + 1, v, h1, h2 => ArgsR.mt t i v (by simpa using h1) (by simpa using h2)
/-- every slot of one's own at the entry is a changeable parameter; two of them differ -/
theorem mt_inj : ∀ {ks : List PK} {vs : List V} {i j : Nat} {a : Addr}, (mutA ks vs).Nodup → ks[i]? = some .mt → ks[j]? = some .mt → vs[i]? = some (V.ref a) → vs[j]? = some (V.ref a) → i = j
  | [], _, i, j, a, _, h, _, _, _ => by simp at h
  | _ :: _, [], i, j, a, _, _, _, h, _ => by simp at h
  | p :: ks, v :: vs, i, j, a, nd, h1, h2, h3, h4 => by
    have mem : ∀ {ks : List PK} {vs : List V} {i : Nat} {a : Addr}, ks[i]? = some .mt → vs[i]? = some (V.ref a) → a ∈ mutA ks vs := by
      intro ks
      induction ks with
      | nil => intro vs i a z; simp at z
      | cons p ks ih =>
        intro vs i a z1 z2
        cases vs with
        | nil => simp at z2
        | cons v vs =>
          cases i with
          | zero =>
            simp at z1 z2
            subst z1 z2
            simp [mutA]
          | succ i =>
            have w := ih (by simpa using z1) (by simpa using z2)
            cases p with
            | mt => cases v <;> simp [mutA, w]
            | _ => simpa [mutA] using w
    cases i with
    | zero =>
      cases j with
      | zero => rfl
      | succ j =>
        simp at h1 h3
        subst h1 h3
        simp only [mutA] at nd
        have w := mem (ks := ks) (vs := vs) (by simpa using h2) (by simpa using h4)
        exact absurd w (List.nodup_cons.mp nd).1
    | succ i =>
      cases j with
      | zero =>
        simp at h2 h4
        subst h2 h4
        simp only [mutA] at nd
        have w := mem (ks := ks) (vs := vs) (by simpa using h1) (by simpa using h3)
        exact absurd w (List.nodup_cons.mp nd).1
      | succ j =>
        have nd' : (mutA ks vs).Nodup := by
          cases p with
          | mt =>
            cases v with
            | ref b => simp only [mutA] at nd; exact (List.nodup_cons.mp nd).2
            | _ => simpa [mutA] using nd
          | _ => simpa [mutA] using nd
        exact congrArg Nat.succ (mt_inj (ks := ks) (vs := vs) (i := i) (j := j) (a := a) nd' (by simpa using h1) (by simpa using h2) (by simpa using h3) (by simpa using h4))
theorem hd_start {K : Fr} {F H : Hp} {ks : List PK} {vs : List V} {ds : List D} {env : Env} {N : List Str} {n : Nat} (sm : Same F H) (ar : ArgsR K F H (mutA ks vs) ks vs ds) (nd : (mutA ks vs).Nodup) (h : ini ks ds = some env) (hN : N.length = ks.length + n) :
    Hd K ⟨H, F, mutA ks vs, mutI 0 ks⟩ F (env ++ List.replicate n .no) (L2.start N vs) H := by
  obtain ⟨hl, hg⟩ := ini_get ar (fun _ z => z) h
  obtain ⟨l1, l2⟩ := ar.len
  have hpad : N.length - vs.length = n := by omega
  have get : ∀ {i : Nat} {s : Sl}, (env ++ List.replicate n Sl.no)[i]? = some s → s ≠ .no → ∃ v, (L2.start N vs)[i]? = some (some v) ∧ SlR K F H (mutA ks vs) s v ∧ env[i]? = some s ∧ vs[i]? = some v := fun {i s} q n0 => by
    rcases Nat.lt_or_ge i env.length with hi | hi
    · rw [List.getElem?_append_left hi] at q
      obtain ⟨v, h1, h2⟩ := hg i s q
      refine ⟨v, ?_, h2, q, h1⟩
      unfold L2.start
      rw [List.getElem?_append_left (by rw [List.length_map]; omega), List.getElem?_map, h1]
      rfl
    · rw [List.getElem?_append_right hi, List.getElem?_replicate] at q
      split at q
      · cases q; exact absurd rfl n0
      · cases q
  refine ⟨sm, ?_, fun i d q => ?_, fun i es q => ?_, fun i es q => ?_, fun i es q => ?_, fun i j es es' a q1 q2 p1 p2 => ?_, fun _ _ q _ => q, fun _ q => q, fun _ q => .inl q, fun k i a q1 q2 => ?_⟩
  · unfold L2.start
    rw [List.length_append, List.length_append, List.length_map, List.length_replicate, List.length_replicate, hpad, hl]
  · obtain ⟨v, h1, h2, _⟩ := get q (fun z => nomatch z)
    exact ⟨v, h1, h2⟩
  · obtain ⟨v, h1, ⟨a, ws, rfl, z1, z2, z3, z4⟩, _⟩ := get q (fun z => nomatch z)
    exact ⟨a, ws, h1, z2, z3, z4, .inr z1⟩
  · obtain ⟨v, h1, ⟨a, ws, rfl, z1, z2, z3⟩, _⟩ := get q (fun z => nomatch z)
    exact ⟨a, ws, h1, z1, z2, z3⟩
  · obtain ⟨v, h1, ⟨a, ns, rfl, z1, z2⟩, _⟩ := get q (fun z => nomatch z)
    exact ⟨a, ns, h1, z1, z2⟩
  · obtain ⟨v, _, _, e1, g1⟩ := get q1 (fun z => nomatch z)
    obtain ⟨v', _, _, e2, g2⟩ := get q2 (fun z => nomatch z)
    have st : ∀ {i : Nat} {v : V}, vs[i]? = some v → (L2.start N vs)[i]? = some (some v) := fun {i v} z => by
      have hi := (List.getElem?_eq_some_iff.mp z).1
      unfold L2.start
      rw [List.getElem?_append_left (by rw [List.length_map]; exact hi), List.getElem?_map, z]
      rfl
    rw [st g1] at p1
    rw [st g2] at p2
    cases p1
    cases p2
    exact mt_inj nd (ini_kind h e1) (ini_kind h e2) g1 g2
  · have q := mutA_get q1 q2 (by rw [l1]) ar.mt
    rw [Nat.sub_zero] at q
    have hi := (List.getElem?_eq_some_iff.mp q).1
    unfold L2.start
    rw [List.getElem?_append_left (by rw [List.length_map]; exact hi), List.getElem?_map, q]
    rfl
/-! ### a def's end -/
theorem fin_get {K : Fr} {C : FC} {F : Hp} {σ : St} {H : Hp} {k0 : Nat} : ∀ {ks : List PK} {env0 env : Env} {vs : List V} {ms : List (List D)}, Hd K C F env0 σ H → (∀ i s, env[i]? = some s → env0[k0 + i]? = some s) → fin ks env = some ms → ks.length = vs.length →
    (∀ (j i : Nat) (a : Addr), (mutI k0 ks)[j]? = some i → (mutA ks vs)[j]? = some a → σ[i]? = some (some (V.ref a))) → (∀ (i : Nat) v, ks[i]? = some .mt → vs[i]? = some v → ∃ a, v = V.ref a) → MutsR F H (mutA ks vs) ms
  | [], _, _, [], ms, _, _, h, _, _, _ => by simp only [fin] at h; cases h; exact .nil
  | [], _, _, _ :: _, _, _, _, _, hl, _, _ => by simp at hl
  | _ :: _, _, _, [], _, _, _, _, hl, _, _ => by simp at hl
  | p :: ks, env0, env, v :: vs, ms, hd, hs, h, hl, hm, hr => by
    have hl' : ks.length = vs.length := by simpa using hl
    have hr' : ∀ (i : Nat) v, ks[i]? = some .mt → vs[i]? = some v → ∃ a, v = V.ref a := fun i w z1 z2 => hr (i + 1) w (by simpa using z1) (by simpa using z2)
    cases env with
    | nil => cases p <;> simp [fin] at h
    | cons s env =>
      have hs' : ∀ i s, env[i]? = some s → env0[k0 + 1 + i]? = some s := fun i s z => by
        have := hs (i + 1) s (by simpa using z)
        rw [show k0 + 1 + i = k0 + (i + 1) by omega]
        exact this
      have skip : fin ks env = some ms → mutI k0 (p :: ks) = mutI (k0 + 1) ks → mutA (p :: ks) (v :: vs) = mutA ks vs → MutsR F H (mutA (p :: ks) (v :: vs)) ms := fun z e1 e2 => by
        rw [e2]
        rw [e1, e2] at hm
        exact fin_get hd hs' z hl' hm hr'
      cases p with
      | fz => exact skip (by simpa only [fin] using h) rfl (by cases v <;> rfl)
      | bw => exact skip (by simpa only [fin] using h) rfl (by cases v <;> rfl)
      | sc => exact skip (by simpa only [fin] using h) rfl (by cases v <;> rfl)
      | mt =>
        obtain ⟨b, rfl⟩ := hr 0 v rfl rfl
        cases s with
        | ow ds =>
          simp only [fin] at h
          cases q : fin ks env with
          | none => rw [q] at h; cases h
          | some q' =>
            rw [q] at h
            cases h
            have z := hs 0 _ rfl
            obtain ⟨a, ws, p1, p2, p3, p4, _⟩ := hd.ow _ _ z
            have p5 := hm 0 k0 b (by simp [mutI]) (by simp [mutA])
            rw [Nat.add_zero] at p1
            rw [p5] at p1
            cases p1
            simp only [mutA]
            refine .cons p2 p3 p4 (fin_get hd hs' q hl' (fun j i a z1 z2 => hm (j + 1) i a (by simpa [mutI] using z1) (by simpa [mutA] using z2)) hr')
        | _ => simp [fin] at h
section
variable {P : Program} {w : World} {K : Fr} {mg : Str → Option Value} {base : Heap}
theorem MutsR.fr {F H : Hp} : ∀ {as : List Addr} {q : List (List D)}, MutsR F H as q → ∀ a ∈ as, F a = none
  | _, _, .nil, a, h => absurd h (by simp)
  | _, _, .cons h1 h2 h3 t, a, h => by
    rcases List.mem_cons.mp h with e | e
    · rw [e]; exact h2
    · exact MutsR.fr t a e
/-- the promise of mkFn ks n f is kept by what reads as f -/
theorem runJ {N : List Str} {n : Nat} {ks : List PK} {f : SM} {vs : List V} {H : Hp} {Q : VK} {E : XK} (hN : N.length = ks.length + n) (h : spJ K ks (mkFn ks n f) vs H Q E) :
    ∃ C : FC, C.mp = mutI 0 ks ∧ sJ K C f { nx := fun _ H' => Q .non H', rt := Q } (L2.start N vs) H := by
  obtain ⟨F, ds, r, ms, sm, ar, nd, he, q⟩ := h
  refine ⟨⟨H, F, mutA ks vs, mutI 0 ks⟩, rfl, ?_⟩
  unfold mkFn at he
  split at he
  · cases he
  rename_i e0 h0
  have h1 := hd_start (N := N) sm ar nd h0 hN
  have kl : ks.length = vs.length := ar.len.1.symm
  -- the end: what the def leaves
  have done : ∀ {env : Env} {ms : List (List D)} {F1 : Hp} {σ1 : St} {H1 : Hp} {r : Rt} {v : V}, fin ks env = some ms → Same F F1 → Hd K ⟨H, F, mutA ks vs, mutI 0 ks⟩ F1 env σ1 H1 → RtR ⟨H, F, mutA ks vs, mutI 0 ks⟩ F1 env σ1 H1 r v →
      (∀ v F' H', Same F F' → Same F' H' → (∀ a o, H a = some o → a ∉ mutA ks vs → H' a = some o) → (∀ a, H' a = none → H a = none) → (∀ a, F' a ≠ none → F a ≠ none ∨ H a = none) → MutsR F' H' (mutA ks vs) ms → ResR H F' H' r v → Q v H') → Q v H1 := fun {env ms F1 σ1 H1 r v} hf s1 g1 rt q => by
    have mu : MutsR F1 H1 (mutA ks vs) ms := fin_get (k0 := 0) g1 (fun i s z => by rw [Nat.zero_add]; exact z) hf kl (fun j i a z1 z2 => g1.mps j i a z1 z2) ar.mt
    refine q v F1 H1 s1 g1.ex g1.keep g1.old (fun a z => ?_) mu ?_
    · rcases g1.dom a z with p | p | p
      · exact .inl p
      · exact .inr p
      · exact absurd (mu.fr a p) z
    · cases r with
      | fz d => exact rt
      | ow ds =>
        obtain ⟨a, ws, rfl, p1, p2, p3, p4, p5⟩ := rt
        refine ⟨a, ws, rfl, ?_, p2, p1, p3⟩
        rcases p4 with p4 | p4
        · exact p4
        · -- a changeable parameter cannot be handed back: its slot would be one's own still
          obtain ⟨j, hj⟩ := List.getElem?_of_mem p4
          have hlen : ∀ (k0 : Nat) (ks : List PK) (vs : List V), ks.length = vs.length → (∀ (i : Nat) v, ks[i]? = some .mt → vs[i]? = some v → ∃ a, v = V.ref a) → (mutI k0 ks).length = (mutA ks vs).length := by
            intro k0 ks
            induction ks generalizing k0 with
            | nil => intro vs z _; cases vs <;> simp [mutI, mutA]
            | cons p ks ih =>
              intro vs z hr
              cases vs with
              | nil => simp at z
              | cons v vs =>
                have ih' := ih (k0 + 1) vs (by simpa using z) fun i w z1 z2 => hr (i + 1) w (by simpa using z1) (by simpa using z2)
                cases p with
                | mt =>
                  obtain ⟨b, rfl⟩ := hr 0 v rfl rfl
                  simp [mutI, mutA, ih']
                | _ => cases v <;> simpa [mutI, mutA] using ih'
          have hjl := (List.getElem?_eq_some_iff.mp hj).1
          obtain ⟨i, hi⟩ : ∃ i, (mutI 0 ks)[j]? = some i := ⟨_, List.getElem?_eq_getElem (by rw [hlen 0 ks vs kl ar.mt]; exact hjl)⟩
          have hσ := g1.mps j i a hi hj
          have fow : ∀ (k0 : Nat) (ks : List PK) (env : Env) (ms : List (List D)) (j i : Nat), fin ks env = some ms → (mutI k0 ks)[j]? = some i → ∃ ds, env[i - k0]? = some (.ow ds) := by
            intro k0 ks
            induction ks generalizing k0 with
            | nil => intro env ms j i _ z; simp [mutI] at z
            | cons p ks ih =>
              intro env ms j i z1 z2
              cases env with
              | nil => cases p <;> simp [fin] at z1
              | cons s env =>
                have sk : ∀ ms j, fin ks env = some ms → (mutI (k0 + 1) ks)[j]? = some i → ∃ ds, (s :: env)[i - k0]? = some (.ow ds) := fun ms j w1 w2 => by
                  have := mutI_get w2
                  obtain ⟨ds, w3⟩ := ih (k0 + 1) env ms j i w1 w2
                  refine ⟨ds, ?_⟩
                  rw [show i - k0 = (i - (k0 + 1)) + 1 by omega, List.getElem?_cons_succ]
                  exact w3
                cases p with
                | fz => exact sk ms j (by simpa only [fin] using z1) (by simpa [mutI] using z2)
                | bw => exact sk ms j (by simpa only [fin] using z1) (by simpa [mutI] using z2)
                | sc => exact sk ms j (by simpa only [fin] using z1) (by simpa [mutI] using z2)
                | mt =>
                  cases s with
                  | ow ds =>
                    cases j with
                    | zero =>
                      simp [mutI] at z2
                      subst z2
                      exact ⟨ds, by simp⟩
                    | succ j =>
                      simp only [fin] at z1
                      cases w : fin ks env with
                      | none => rw [w] at z1; cases z1
                      | some q' => exact sk q' j w (by simpa [mutI] using z2)
                  | _ => simp [fin] at z1
          obtain ⟨es, he⟩ := fow 0 ks env ms j i hf hi
          rw [Nat.sub_zero] at he
          exact absurd hσ (p5 i es he)
  split at he
  · rename_i e1 h2
    cases hf : fin ks e1 with
    | none => rw [hf] at he; cases he
    | some ms' =>
      rw [hf] at he
      cases he
      exact ⟨F, _, _, h1, h2, fun F1 σ1 H1 s1 g1 => done (r := .fz .none) (v := .non) hf s1 g1 Rp.non q⟩
  · rename_i r' e1 h2
    cases hf : fin ks e1 with
    | none => rw [hf] at he; cases he
    | some ms' =>
      rw [hf] at he
      cases he
      exact ⟨F, _, _, h1, h2, fun F1 σ1 H1 v s1 g1 rt => done hf s1 g1 rt q⟩
  · cases he
/-- THE RULE: a def whose body reads as f keeps the promise of mkFn ks n f -/
theorem fnJ {x qual : Str} {st : Stmt} {fa : Addr} {fd : FuncData} {N ps : List Str} {k n : Nat} {ks : List PK} {f : SM} (Fu : Fun K x qual st fa fd) (S : FnScope N ps (defScope st)) (hk : ks.length = ps.length) (hN : N.length = ks.length + n)
    (hb : ∀ (cdv : Value) (A : Around) (outer : List PySem.Env) (s : Shared) (H : Hp) (E : XK) (C : FC), Room k (A.deeper (PyProof.Rows.envOfC qual (defScope st) s.heap.objs.size fa cdv)) → C.mp = mutI 0 ks →
      JSs (cxOf CX0 P w K mg base N qual (defScope st) fa cdv A outer s H E).nox C (defBody st) f) :
    FnOk P w K mg base CX0 (k + 1) fa fd ps (spJ K ks (mkFn ks n f)) := by
  refine Fu.ok S (fun vs H Q E h => ?_) fun cdv A outer s H vs Q E hr h => ?_
  · obtain ⟨F, ds, r, ms, _, ar, _⟩ := h
    rw [ar.len.1, hk]
  · obtain ⟨C, hC, z⟩ := runJ hN h
    exact ⟨_, hb cdv A outer s H E C hr hC, z⟩
end
/-! ### calls -/
section
variable {K : Fr} {C : FC} {F F' : Hp} {env env' : Env} {σ : St} {H H' : Hp}
def ItR (F : Hp) (σ : St) : It → V → Prop
  | .d d, v => Rp F v d
  | .r i, v => σ[i]? = some (some v)
  | .m i, v => σ[i]? = some (some v)
  | .s i, v => σ[i]? = some (some v)
inductive ItsR (F : Hp) (σ : St) : List It → List V → Prop
  | nil : ItsR F σ [] []
  | cons {x : It} {l : List It} {v : V} {vs : List V} : ItR F σ x v → ItsR F σ l vs → ItsR F σ (x :: l) (v :: vs)
theorem ItR.up {F F' : Hp} (s : Same F F') : ∀ {x : It} {v : V}, ItR F σ x v → ItR F' σ x v
  | .d d, v, h => Rp.up (show Rp F v d from h) s
  | .r i, v, h => h
  | .m i, v, h => h
  | .s i, v, h => h
def tArJ (K : Fr) (C : FC) (as : List Ar) : TA := fun σ H Q => ∃ F env l env', Hd K C F env σ H ∧ evA as env = some (l, env') ∧
  ∀ F' H' vs, Stp F env σ H F' env' H' → Hd K C F' env' σ H' → ItsR F' σ l vs → Q vs H'
def JAr (X : Cx) (C : FC) (es : List Expr) (as : List Ar) : Prop := PA X es (tArJ X.K C as)
end
section
variable {X : Cx} {C : FC} {e : Expr} {es : List Expr} {f : M RV} {as : List Ar}
theorem jar_nil : JAr X C [] [] := pa_weak pa_nil fun σ H Q ⟨F, env, l, env', hd, he, q⟩ => by
  simp only [evA] at he
  cases he
  exact q F H [] Stp.refl hd .nil
theorem jar_fz (ha : JE X C e f) (hr : JAr X C es as) (hs : starEach (e :: es) X.env = (false, eval e X.env) :: starEach es X.env := by rfl) : JAr X C (e :: es) (.fz f :: as) := by
  refine pa_weak (pa_cons ha hr hs) fun σ H Q ⟨F, env, l, env', hd, he, q⟩ => ?_
  simp only [evA] at he
  split at he
  · cases he
  rename_i x e1 h1
  split at he
  · cases he
  rename_i d e2 h2
  split at he
  · cases he
  rename_i l' e3 h3
  cases he
  refine tJ.go hd h1 fun F1 H1 v s1 g1 r1 => ?_
  obtain ⟨F2, s2, g2, r2, _⟩ := g1.fzv hd s1 r1 h2
  exact ⟨F2, e2, l', env', g2, h3, fun F3 H3 vs s3 g3 r3 => q F3 H3 _ (s2.trans s3) g3 (.cons (ItR.up (x := .d d) s3.exF r2) r3)⟩
theorem jar_bw (ha : JE X C e f) (hr : JAr X C es as) (hs : starEach (e :: es) X.env = (false, eval e X.env) :: starEach es X.env := by rfl) : JAr X C (e :: es) (.bw f :: as) := by
  refine pa_weak (pa_cons ha hr hs) fun σ H Q ⟨F, env, l, env', hd, he, q⟩ => ?_
  simp only [evA] at he
  split at he
  · cases he
  · rename_i d e1 h1
    split at he
    · cases he
    rename_i l' e3 h3
    cases he
    refine tJ.go hd h1 fun F1 H1 v s1 g1 r1 => ?_
    exact ⟨F1, e1, l', env', g1, h3, fun F3 H3 vs s3 g3 r3 => q F3 H3 _ (s1.trans s3) g3 (.cons (ItR.up (x := .d d) s3.exF r1) r3)⟩
  · rename_i ds e1 h1
    split at he
    · cases he
    rename_i l' e3 h3
    cases he
    refine tJ.go hd h1 fun F1 H1 v s1 g1 r1 => ?_
    obtain ⟨F2, s2, g2, r2, _⟩ := g1.fzv (env' := e1) (d := .list ds) hd s1 r1 rfl
    exact ⟨F2, e1, l', env', g2, h3, fun F3 H3 vs s3 g3 r3 => q F3 H3 _ (s2.trans s3) g3 (.cons (ItR.up (x := .d (.list ds)) s3.exF r2) r3)⟩
  · rename_i i e1 h1
    split at he
    · cases he
    rename_i l' e3 h3
    cases he
    refine tJ.go hd h1 fun F1 H1 v s1 g1 r1 => ?_
    exact ⟨F1, e1, l', env', g1, h3, fun F3 H3 vs s3 g3 r3 => q F3 H3 _ (s1.trans s3) g3 (.cons (show ItR F3 σ (.r i) v from r1) r3)⟩
theorem jar_mt {i : Nat} (ha : PE X e (tVar i)) (hr : JAr X C es as) (hs : starEach (e :: es) X.env = (false, eval e X.env) :: starEach es X.env := by rfl) : JAr X C (e :: es) (.mt i :: as) := by
  refine pa_weak (pa_cons ha hr hs) fun σ H Q ⟨F, env, l, env', hd, he, q⟩ => ?_
  simp only [evA] at he
  split at he
  · rename_i ds0 h0
    split at he
    · cases he
    rename_i l' e3 h3
    cases he
    obtain ⟨a, vs, p1, _⟩ := hd.ow i ds0 h0
    exact ⟨_, p1, F, env, l', env', hd, h3, fun F3 H3 vs s3 g3 r3 => q F3 H3 _ s3 g3 (.cons (show ItR F3 σ (.m i) _ from p1) r3)⟩
  · cases he
theorem jar_sc {i : Nat} (ha : PE X e (tVar i)) (hr : JAr X C es as) (hs : starEach (e :: es) X.env = (false, eval e X.env) :: starEach es X.env := by rfl) : JAr X C (e :: es) (.sc i :: as) := by
  refine pa_weak (pa_cons ha hr hs) fun σ H Q ⟨F, env, l, env', hd, he, q⟩ => ?_
  simp only [evA] at he
  split at he
  · rename_i ds0 h0
    split at he
    · cases he
    rename_i l' e3 h3
    cases he
    obtain ⟨a, vs, p1, _⟩ := hd.sc i ds0 h0
    exact ⟨_, p1, F, env, l', env', hd, h3, fun F3 H3 vs s3 g3 r3 => q F3 H3 _ s3 g3 (.cons (show ItR F3 σ (.s i) _ from p1) r3)⟩
  · cases he
/-- kinds and arguments go together -/
def fits : List PK → List Ar → Bool
  | [], [] => true
  | .fz :: ks, .fz _ :: as => fits ks as
  | .bw :: ks, .bw _ :: as => fits ks as
  | .mt :: ks, .mt _ :: as => fits ks as
  | .sc :: ks, .sc _ :: as => fits ks as
  | _, _ => false
def fitsI : List PK → List It → Bool
  | [], [] => true
  | .fz :: ks, .d _ :: as => fitsI ks as
  | .bw :: ks, .d _ :: as => fitsI ks as
  | .bw :: ks, .r _ :: as => fitsI ks as
  | .mt :: ks, .m _ :: as => fitsI ks as
  | .sc :: ks, .s _ :: as => fitsI ks as
  | _, _ => false
theorem fits_of : ∀ {as : List Ar} {ks : List PK} {env env' : Env} {l : List It}, evA as env = some (l, env') → fits ks as = true → fitsI ks l = true
  | [], ks, env, env', l, h, hf => by
    simp only [evA] at h
    cases h
    cases ks with
    | nil => rfl
    | cons k ks => cases k <;> simp [fits] at hf
  | .fz f :: as, ks, env, env', l, h, hf => by
    cases ks with
    | nil => simp [fits] at hf
    | cons k ks =>
      cases k <;> simp [fits] at hf
      simp only [evA] at h
      split at h
      · cases h
      split at h
      · cases h
      split at h
      · cases h
      rename_i h3
      cases h
      simpa [fitsI] using fits_of h3 hf
  | .bw f :: as, ks, env, env', l, h, hf => by
    cases ks with
    | nil => simp [fits] at hf
    | cons k ks =>
      cases k <;> simp [fits] at hf
      simp only [evA] at h
      split at h
      · cases h
      all_goals
        split at h
        · cases h
        rename_i h3
        cases h
        simpa [fitsI] using fits_of h3 hf
  | .mt f :: as, ks, env, env', l, h, hf => by
    cases ks with
    | nil => simp [fits] at hf
    | cons k ks =>
      cases k <;> simp [fits] at hf
      simp only [evA] at h
      split at h
      · split at h
        · cases h
        rename_i h3
        cases h
        simpa [fitsI] using fits_of h3 hf
      · cases h
  | .sc f :: as, ks, env, env', l, h, hf => by
    cases ks with
    | nil => simp [fits] at hf
    | cons k ks =>
      cases k <;> simp [fits] at hf
      simp only [evA] at h
      split at h
      · split at h
        · cases h
        rename_i h3
        cases h
        simpa [fitsI] using fits_of h3 hf
      · cases h
end
section
variable {K : Fr} {C : FC} {F F' : Hp} {env env' : Env} {σ : St} {H H' : Hp}
/-- slots and the addresses that they hold -/
inductive SlA (σ : St) : List Nat → List Addr → Prop
  | nil : SlA σ [] []
  | cons {i : Nat} {is : List Nat} {a : Addr} {as : List Addr} : σ[i]? = some (some (V.ref a)) → SlA σ is as → SlA σ (i :: is) (a :: as)
theorem SlA.get : ∀ {is : List Nat} {as : List Addr}, SlA σ is as → ∀ a ∈ as, ∃ i ∈ is, σ[i]? = some (some (V.ref a))
  | _, _, .nil, a, h => absurd h (by simp)
  | _, _, .cons h1 t, a, h => by
    rcases List.mem_cons.mp h with e | e
    · subst e; exact ⟨_, List.mem_cons_self, h1⟩
    · obtain ⟨i, p, q⟩ := SlA.get t a e
      exact ⟨i, List.mem_cons_of_mem _ p, q⟩
theorem sla_of : ∀ {ks : List PK} {l : List It} {vs : List V} {ds : List D}, Hd K C F env σ H → fitsI ks l = true → ItsR F σ l vs → itDs env l = some ds → SlA σ (muts l) (mutA ks vs)
  | [], [], _, _, _, _, .nil, _ => .nil
  | [], _ :: _, _, _, _, h, _, _ => by simp [fitsI] at h
  | k :: ks, [], _, _, _, h, _, _ => by cases k <;> simp [fitsI] at h
  | k :: ks, x :: l, v :: vs, ds, hd, h, .cons r rs, he => by
    have tl : ∃ ds', itDs env l = some ds' := by
      simp only [itDs] at he
      split at he
      · rename_i d ds' _ h2
        exact ⟨ds', h2⟩
      · cases he
    obtain ⟨ds', h2⟩ := tl
    cases k <;> cases x <;> simp only [fitsI] at h <;> try (cases h)
    · simpa [muts, mutA] using sla_of hd h rs h2
    · simpa [muts, mutA] using sla_of hd h rs h2
    · simpa [muts, mutA] using sla_of hd h rs h2
    · rename_i i
      simp only [itDs, itD] at he
      have : ∃ es, env[i]? = some (.ow es) := by
        split at he
        · rename_i d es h1 _
          split at h1
          · rename_i es' p
            exact ⟨es', p⟩
          · cases h1
        · cases he
      obtain ⟨es, p⟩ := this
      obtain ⟨a, ws, p1, _⟩ := hd.ow i es p
      have r' : σ[i]? = some (some v) := r
      rw [p1] at r'
      cases r'
      simp only [muts, mutA]
      exact .cons p1 (sla_of hd h rs h2)
    · simpa [muts, mutA] using sla_of hd h rs h2
theorem itDs_cons {x : It} {l : List It} {ds : List D} (h : itDs env (x :: l) = some ds) : ∃ d ds', itD env x = some d ∧ itDs env l = some ds' ∧ ds = d :: ds' := by
  simp only [itDs] at h
  split at h
  · rename_i d ds' h1 h2
    cases h
    exact ⟨d, ds', h1, h2, rfl⟩
  · cases h
theorem muts_ow : ∀ {l : List It} {ds : List D}, itDs env l = some ds → ∀ i ∈ muts l, ∃ es, env[i]? = some (.ow es)
  | [], _, _, i, h => absurd h (by simp [muts])
  | x :: l, ds, he, i, h => by
    obtain ⟨d, ds', h1, h2, _⟩ := itDs_cons he
    cases x with
    | m j =>
      simp only [muts] at h
      rcases List.mem_cons.mp h with e | e
      · subst e
        simp only [itD] at h1
        split at h1
        · rename_i es p
          exact ⟨es, p⟩
        · cases h1
      · exact muts_ow h2 i e
    | d _ => exact muts_ow h2 i (by simpa [muts] using h)
    | r _ => exact muts_ow h2 i (by simpa [muts] using h)
    | s _ => exact muts_ow h2 i (by simpa [muts] using h)
theorem args_of {Mu : List Addr} (hd : Hd K C F env σ H) (hM : ∀ a ∈ Mu, F a = none ∧ (C.H0 a = none ∨ a ∈ C.Mu)) : ∀ {ks : List PK} {l : List It} {vs : List V} {ds : List D}, (∀ i ∈ lent l, ∀ (es : List D) a, env[i]? = some (.ow es) → σ[i]? = some (some (V.ref a)) → a ∉ Mu) → fitsI ks l = true → ItsR F σ l vs → itDs env l = some ds → ArgsR K F H Mu ks vs ds
  | [], [], _, _, _, _, .nil, he => by simp only [itDs] at he; cases he; exact .nil
  | [], _ :: _, _, _, _, h, _, _ => by simp [fitsI] at h
  | k :: ks, [], _, _, _, h, _, _ => by cases k <;> simp [fitsI] at h
  | k :: ks, x :: l, v :: vs, ds, hL, h, .cons r rs, he => by
    obtain ⟨d, ds', h1, h2, rfl⟩ := itDs_cons he
    -- no changed list is frozen, lent from outside or the script
    have no1 : ∀ a vs, F a = some (.lst vs) → a ∉ Mu := fun a vs z m => by
      have q3 := (hM a m).1
      rw [z] at q3; cases q3
    have no2 : ∀ a o, C.H0 a = some o → a ∉ C.Mu → a ∉ Mu := fun a o z n m => by
      rcases (hM a m).2 with q5 | q5
      · rw [z] at q5; cases q5
      · exact n q5
    have hL' : ∀ i ∈ lent l, ∀ (es : List D) a, env[i]? = some (.ow es) → σ[i]? = some (some (V.ref a)) → a ∉ Mu := fun i hi => hL i (by cases x <;> simp [lent, hi])
    cases k <;> cases x <;> simp only [fitsI] at h <;> try (cases h)
    · simp only [itD] at h1
      cases h1
      exact .cons (show Rp F v d from r) (args_of hd hM hL' h rs h2)
    · simp only [itD] at h1
      cases h1
      have r' : Rp F v d := r
      refine .cons ?_ (args_of hd hM hL' h rs h2)
      cases r' with
      | lst p1 p2 => exact .inl ⟨_, _, _, rfl, rfl, hd.ex _ _ p1, no1 _ _ p1, p2⟩
      | non => exact .inr ⟨(fun ds z => by cases z), .non⟩
      | bl b => exact .inr ⟨(fun ds z => by cases z), .bl b⟩
      | int b => exact .inr ⟨(fun ds z => by cases z), .int b⟩
      | str b => exact .inr ⟨(fun ds z => by cases z), .str b⟩
      | tup p1 p2 => exact .inr ⟨(fun ds z => by cases z), .tup p1 p2⟩
    · rename_i i
      have r' : σ[i]? = some (some v) := r
      refine .cons ?_ (args_of hd hM hL' h rs h2)
      simp only [itD, dr] at h1
      split at h1
      · rename_i d' p
        cases h1
        obtain ⟨u, q1, q2⟩ := hd.fz i _ p
        rw [r'] at q1; cases q1
        cases q2 with
        | lst p1 p2 => exact .inl ⟨_, _, _, rfl, rfl, hd.ex _ _ p1, no1 _ _ p1, p2⟩
        | non => exact .inr ⟨(fun ds z => by cases z), .non⟩
        | bl b => exact .inr ⟨(fun ds z => by cases z), .bl b⟩
        | int b => exact .inr ⟨(fun ds z => by cases z), .int b⟩
        | str b => exact .inr ⟨(fun ds z => by cases z), .str b⟩
        | tup p1 p2 => exact .inr ⟨(fun ds z => by cases z), .tup p1 p2⟩
      · rename_i es p
        cases h1
        obtain ⟨a, ws, q1, q2, q3, q4, q5⟩ := hd.ow i _ p
        rw [r'] at q1; cases q1
        exact .inl ⟨a, ws, es, rfl, rfl, q2, hL i (by simp [lent]) es a p r', q4⟩
      · rename_i es p
        cases h1
        obtain ⟨a, ws, q1, q2, q3, q4⟩ := hd.bw i _ p
        rw [r'] at q1; cases q1
        exact .inl ⟨a, ws, es, rfl, rfl, hd.keep _ _ q2 q3, no2 a _ q2 q3, q4⟩
      · cases h1
    · rename_i i
      have r' : σ[i]? = some (some v) := r
      refine .cons ?_ (args_of hd hM hL' h rs h2)
      simp only [itD] at h1
      split at h1
      · rename_i es p
        cases h1
        obtain ⟨a, ws, q1, q2, q3, q4, q5⟩ := hd.ow i _ p
        rw [r'] at q1; cases q1
        exact ⟨a, ws, es, rfl, rfl, q2, q3, q4⟩
      · cases h1
    · rename_i i
      have r' : σ[i]? = some (some v) := r
      refine .cons ?_ (args_of hd hM hL' h rs h2)
      simp only [itD] at h1
      split at h1
      · rename_i es p
        cases h1
        obtain ⟨a, ns, q1, q2, q3⟩ := hd.sc i _ p
        rw [r'] at q1; cases q1
        refine ⟨a, ns, rfl, by rw [q2], ?_⟩
        rcases q3 with ⟨q3, q4⟩ | q3
        · refine .inl ⟨?_, ?_⟩
          · rcases q3 with z | ⟨o, z⟩
            · exact .inl (hd.keep _ _ z q4)
            · exact .inr ⟨o, hd.keep _ _ z q4⟩
          · rcases q3 with z | ⟨o, z⟩
            · exact no2 a _ z q4
            · exact no2 a _ z q4
        · exact .inr q3
      · cases h1
theorem setM_get : ∀ {is : List Nat} {ms : List (List D)} {env : Env} {j : Nat} {s : Sl}, is.length = ms.length → (setM is ms env)[j]? = some s → (∃ (k : Nat) (ds : List D), is[k]? = some j ∧ ms[k]? = some ds ∧ s = .ow ds) ∨ (j ∉ is ∧ env[j]? = some s)
  | [], [], env, j, s, _, h => .inr ⟨by simp, h⟩
  | [], _ :: _, _, _, _, hl, _ => by simp at hl
  | _ :: _, [], _, _, _, hl, _ => by simp at hl
  | i :: is, ds :: ms, env, j, s, hl, h => by
    rcases setM_get (is := is) (ms := ms) (by simpa using hl) h with ⟨k, es, h1, h2, h3⟩ | ⟨h1, h2⟩
    · exact .inl ⟨k + 1, es, by simpa using h1, by simpa using h2, h3⟩
    · rcases set_get h2 with ⟨e, e2, _⟩ | ⟨e, h2⟩
      · exact .inl ⟨0, ds, by simp [e], rfl, e2⟩
      · exact .inr ⟨by rw [List.mem_cons, not_or]; exact ⟨fun z => e z.symm, h1⟩, h2⟩
theorem setM_len : ∀ {is : List Nat} {ms : List (List D)} {env : Env}, (setM is ms env).length = env.length
  | [], _, _ => rfl
  | _ :: _, [], _ => rfl
  | i :: is, ds :: ms, env => by
    show (setM is ms (env.set i (.ow ds))).length = env.length
    rw [setM_len, List.length_set]
theorem SlA.at : ∀ {is : List Nat} {as : List Addr} {k i : Nat}, SlA σ is as → is[k]? = some i → ∃ a, as[k]? = some a ∧ σ[i]? = some (some (V.ref a))
  | _, _, _, _, .nil, h => by simp at h
  | _, _, 0, _, .cons h1 t, h => by simp at h; subst h; exact ⟨_, rfl, h1⟩
  | _, _, k + 1, _, .cons h1 t, h => by
    obtain ⟨a, p, q⟩ := SlA.at (k := k) t (by simpa using h)
    exact ⟨a, by simpa using p, q⟩
theorem MutsR.at {F H : Hp} : ∀ {as : List Addr} {q : List (List D)} {k : Nat} {a : Addr} {ds : List D}, MutsR F H as q → as[k]? = some a → q[k]? = some ds → ∃ vs, H a = some (.lst vs) ∧ F a = none ∧ RpA F vs ds
  | _, _, _, _, _, .nil, h, _ => by simp at h
  | _, _, 0, _, _, .cons h1 h2 h3 t, p, q => by simp at p q; subst p q; exact ⟨_, h1, h2, h3⟩
  | _, _, k + 1, _, _, .cons h1 h2 h3 t, p, q => MutsR.at (k := k) t (by simpa using p) (by simpa using q)
/-- the state behind a call; the lists Tm are no slot's -/
theorem Hd.called2 (hd : Hd K C F env σ H) {is : List Nat} {as Tm : List Addr} {ms : List (List D)} (sl : SlA σ is as) (ow : ∀ i ∈ is, ∃ es, env[i]? = some (.ow es)) (hl : is.length = ms.length) (hT : ∀ a ∈ Tm, C.H0 a = none ∧ NotOw env σ a)
    (s1 : Same F F') (s2 : Same F' H') (kp : ∀ a o, H a = some o → a ∉ as → a ∉ Tm → H' a = some o) (old : ∀ a, H' a = none → H a = none) (dom : ∀ a, F' a ≠ none → F a ≠ none ∨ H a = none) (mu : MutsR F' H' as ms) :
    Hd K C F' (setM is ms env) σ H' ∧ (∀ a o, F a = none → H a = some o → NotOw env σ a → a ∉ Tm → F' a = none ∧ H' a = some o) ∧ ∀ (i : Nat) (ds : List D), (setM is ms env)[i]? = some (.ow ds) → ∃ es, env[i]? = some (.ow es) := by
  have fn : ∀ a o, F a = none → H a = some o → F' a = none := fun a o z1 z2 => by
    cases e : F' a with
    | none => rfl
    | some u =>
      rcases dom a (by rw [e]; simp) with z | z
      · exact absurd z1 z
      · rw [z2] at z; cases z
  have addr : ∀ a ∈ as, ∃ (i : Nat) (es : List D), i ∈ is ∧ env[i]? = some (.ow es) ∧ σ[i]? = some (some (V.ref a)) := fun a ha => by
    obtain ⟨i, h1, h2⟩ := sl.get a ha
    obtain ⟨es, h3⟩ := ow i h1
    exact ⟨i, es, h1, h3, h2⟩
  have back : ∀ (i : Nat) (ds : List D), (setM is ms env)[i]? = some (.ow ds) → ∃ es, env[i]? = some (.ow es) := fun i ds q => by
    rcases setM_get hl q with ⟨k, es, h1, _, _⟩ | ⟨_, h2⟩
    · exact ow i (List.mem_of_getElem? h1)
    · exact ⟨ds, h2⟩
  have keepH : ∀ a o, C.H0 a = some o → a ∉ C.Mu → H' a = some o := fun a o z n => by
    refine kp a o (hd.keep a o z n) (fun m => ?_) (fun m => by rw [(hT a m).1] at z; cases z)
    obtain ⟨i, es, _, p, q⟩ := addr a m
    obtain ⟨b, ws, q1, q2, q3, q4, q5⟩ := hd.ow i es p
    rw [q] at q1; cases q1
    rcases q5 with q5 | q5
    · rw [z] at q5; cases q5
    · exact n q5
  refine ⟨⟨s2, by rw [setM_len]; exact hd.len, fun i d q => ?_, fun i ds q => ?_, fun i ds q => ?_, fun i ds q => ?_, fun i j ds es a q1 q2 p1 p2 => ?_, keepH, fun a z => hd.old a (old a z), fun a z => ?_, hd.mps⟩, fun a o z1 z2 n nt => ⟨fn a o z1 z2, kp a o z2 (fun m => ?_) nt⟩, back⟩
  · rcases setM_get hl q with ⟨k, es, _, _, e⟩ | ⟨_, h2⟩
    · cases e
    · obtain ⟨v, p1, p2⟩ := hd.fz i d h2
      exact ⟨v, p1, p2.up s1⟩
  · rcases setM_get hl q with ⟨k, es, h1, h2, e⟩ | ⟨h1, h2⟩
    · cases e
      obtain ⟨a, p1, p2⟩ := sl.at h1
      obtain ⟨vs, p3, p4, p5⟩ := mu.at p1 h2
      obtain ⟨es', h3⟩ := ow i (List.mem_of_getElem? h1)
      obtain ⟨b, ws, q1, _, _, _, q5⟩ := hd.ow i es' h3
      rw [p2] at q1; cases q1
      exact ⟨a, vs, p2, p3, p4, p5, q5⟩
    · obtain ⟨a, vs, p1, p2, p3, p4, p5⟩ := hd.ow i ds h2
      refine ⟨a, vs, p1, kp a _ p2 (fun m => ?_) (fun m => (hT a m).2 i ds h2 p1), fn a _ p3 p2, p4.up s1, p5⟩
      obtain ⟨j, es, j1, j2, j3⟩ := addr a m
      have := hd.inj i j ds es a h2 j2 p1 j3
      rw [this] at h1
      exact h1 j1
  · rcases setM_get hl q with ⟨k, es, _, _, e⟩ | ⟨_, h2⟩
    · cases e
    · obtain ⟨a, vs, p1, p2, p3, p4⟩ := hd.bw i ds h2
      exact ⟨a, vs, p1, p2, p3, p4.up s1⟩
  · rcases setM_get hl q with ⟨k, es, _, _, e⟩ | ⟨_, h2⟩
    · cases e
    · exact hd.sc i ds h2
  · obtain ⟨_, z1⟩ := back i ds q1
    obtain ⟨_, z2⟩ := back j es q2
    exact hd.inj i j _ _ a z1 z2 p1 p2
  · rcases dom a z with p | p
    · exact hd.dom a p
    · exact .inr (.inl (hd.old a p))
  · obtain ⟨i, es, _, p, q⟩ := addr a m
    exact n i es p q
/-- the state behind a call -/
theorem Hd.called (hd : Hd K C F env σ H) {is : List Nat} {as : List Addr} {ms : List (List D)} (sl : SlA σ is as) (ow : ∀ i ∈ is, ∃ es, env[i]? = some (.ow es)) (hl : is.length = ms.length)
    (s1 : Same F F') (s2 : Same F' H') (kp : ∀ a o, H a = some o → a ∉ as → H' a = some o) (old : ∀ a, H' a = none → H a = none) (dom : ∀ a, F' a ≠ none → F a ≠ none ∨ H a = none) (mu : MutsR F' H' as ms) :
    Hd K C F' (setM is ms env) σ H' ∧ Stp F env σ H F' (setM is ms env) H' := by
  obtain ⟨h1, h2, h3⟩ := hd.called2 (Tm := []) sl ow hl (fun a h => absurd h (by simp)) s1 s2 (fun a o z1 z2 _ => kp a o z1 z2) old dom mu
  exact ⟨h1, s1, fun a o z1 z2 n => h2 a o z1 z2 n (by simp), h3, old⟩
end
section
variable {X : Cx} {C : FC} {as : List Ar} {ks : List PK} {fn : FnS} {ce : Expr}
/-- a call; h by pe_call -/
theorem je_call (hf : fits ks as = true) (h : PE X ce (tCall (spJ X.K ks fn) [] E0 (tArJ X.K C as))) : JE X C ce (eCall fn as) := by
  refine pe_weak h fun σ H Q ⟨F, env, rv, env', hd, he, q⟩ => ?_
  simp only [eCall] at he
  split at he
  · cases he
  rename_i l e1 h1
  split at he
  · rename_i hok
    split at he
    · cases he
    rename_i ds h2
    have core : ∀ r ms, fn ds = some (r, ms) → ms.length = (muts l).length → env' = setM (muts l) ms e1 → rv = toRV r → tCall (spJ X.K ks fn) [] E0 (tArJ X.K C as) σ H Q := fun r ms h3 h4 h5 h6 => by
      subst h5 h6
      refine ⟨F, env, l, e1, hd, h1, fun F1 H1 vs s1 g1 r1 => ?_⟩
      show spJ X.K ks fn (vs ++ []) H1 Q E0
      rw [List.append_nil]
      have hfi := fits_of h1 hf
      have sl := sla_of g1 hfi r1 h2
      have ow := muts_ow h2
      rw [okM, Bool.and_eq_true] at hok
      obtain ⟨ok1, ok2⟩ := hok
      have ok2' : (muts l).Nodup := of_decide_eq_true ok2
      have ok1' : ∀ i ∈ muts l, i ∉ lent l := fun i hi z => by
        have := List.all_eq_true.mp ok1 i hi
        simp at this
        exact this z
      have inj : ∀ (i j : Nat) (a : Addr), i ∈ muts l → j ∈ muts l → σ[i]? = some (some (V.ref a)) → σ[j]? = some (some (V.ref a)) → i = j := fun i j a hi hj p1 p2 => by
        obtain ⟨es, z1⟩ := ow i hi
        obtain ⟨es', z2⟩ := ow j hj
        exact g1.inj i j es es' a z1 z2 p1 p2
      have ndA : ∀ {is : List Nat} {as : List Addr}, SlA σ is as → is.Nodup → (∀ i ∈ is, i ∈ muts l) → as.Nodup := by
        intro is
        induction is with
        | nil => intro as s _ _; cases s; exact List.nodup_nil
        | cons i is ih =>
          intro as s nd sub
          cases s with
          | cons p t =>
            refine List.nodup_cons.mpr ⟨fun m => ?_, ih t (List.nodup_cons.mp nd).2 fun j hj => sub j (List.mem_cons_of_mem _ hj)⟩
            obtain ⟨j, j1, j2⟩ := t.get _ m
            have := inj i j _ (sub i List.mem_cons_self) (sub j (List.mem_cons_of_mem _ j1)) p j2
            rw [this] at nd
            exact (List.nodup_cons.mp nd).1 j1
      have hM : ∀ a ∈ mutA ks vs, ∃ (i : Nat) (es : List D), e1[i]? = some (.ow es) ∧ σ[i]? = some (some (V.ref a)) := fun a m => by
        obtain ⟨i, i1, i2⟩ := sl.get a m
        obtain ⟨es, i3⟩ := ow i i1
        exact ⟨i, es, i3, i2⟩
      have hM' : ∀ a ∈ mutA ks vs, F1 a = none ∧ (C.H0 a = none ∨ a ∈ C.Mu) := fun a m => by
        obtain ⟨i, es, p, q⟩ := hM a m
        obtain ⟨b, ws, q1, q2, q3, q4, q5⟩ := g1.ow i es p
        rw [q] at q1; cases q1
        exact ⟨q3, q5⟩
      refine ⟨F1, ds, r, ms, g1.ex, args_of g1 hM' (fun i hi es a z p m => ?_) hfi r1 h2, ndA sl ok2' fun _ z => z, h3, fun v F' H' s1' s2' kp old dom mu res => ?_⟩
      · obtain ⟨j, j1, j2⟩ := sl.get a m
        obtain ⟨es', j3⟩ := ow j j1
        have := g1.inj i j es es' a z j3 p j2
        exact ok1' j j1 (by rw [← this]; exact hi)
      · obtain ⟨g2, s2⟩ := g1.called sl ow h4.symm s1' s2' kp old dom mu
        refine q F' H' v (s1.trans s2) g2 ?_
        cases r with
        | fz d => exact res
        | ow ds' =>
          obtain ⟨a, ws, rfl, p1, p2, p3, p4⟩ := res
          refine ⟨a, ws, rfl, p3, p2, p4, s1.old a p1, fun j es z w => ?_⟩
          obtain ⟨es', z'⟩ := s2.sub j es z
          obtain ⟨b, ws', q1, q2, _⟩ := g1.ow j es' z'
          rw [w] at q1; cases q1
          rw [q2] at p1; cases p1
    split at he
    · rename_i d ms h3
      split at he
      · rename_i h4
        cases he
        exact core (.fz d) ms h3 h4 rfl rfl
      · cases he
    · rename_i d ms h3
      split at he
      · rename_i h4
        cases he
        exact core (.ow d) ms h3 h4 rfl rfl
      · cases he
    · cases he
  · cases he
/-- the same, the first argument a fresh list that the def changes -/
theorem je_callT {f : M RV} (hf : fits ks as = true) (h : PE X ce (tCall (spJ X.K (.mt :: ks) fn) [] E0 (tCons (tJ X.K C f) (tArJ X.K C as)))) : JE X C ce (eCallT fn f as) := by
  refine pe_weak h fun σ H Q ⟨F, env, rv, env', hd, he, q⟩ => ?_
  simp only [eCallT] at he
  split at he
  · rename_i xs e0 h0
    split at he
    · cases he
    rename_i l e1 h1
    split at he
    · rename_i hok
      split at he
      · cases he
      rename_i ds h2
      split at he
      · rename_i r m0 ms h3
        split at he
        · rename_i h4
          cases he
          refine tJ.go hd h0 fun F0 H0 v0 s0 g0 r0 => ⟨F0, e0, l, e1, g0, h1, fun F1 H1 vs s1 g1 r1 => ?_⟩
          obtain ⟨t, ws, rfl, t1, t2, t3, t4, t5⟩ := r0.step s1
          show spJ X.K (.mt :: ks) fn (V.ref t :: vs ++ []) H1 Q E0
          rw [List.append_nil]
          have hfi := fits_of h1 hf
          have sl := sla_of g1 hfi r1 h2
          have ow := muts_ow h2
          rw [okM, Bool.and_eq_true] at hok
          obtain ⟨ok1, ok2⟩ := hok
          have ok2' : (muts l).Nodup := of_decide_eq_true ok2
          have ok1' : ∀ i ∈ muts l, i ∉ lent l := fun i hi z => by
            have := List.all_eq_true.mp ok1 i hi
            simp at this
            exact this z
          have inj : ∀ (i j : Nat) (a : Addr), i ∈ muts l → j ∈ muts l → σ[i]? = some (some (V.ref a)) → σ[j]? = some (some (V.ref a)) → i = j := fun i j a hi hj p1 p2 => by
            obtain ⟨es, z1⟩ := ow i hi
            obtain ⟨es', z2⟩ := ow j hj
            exact g1.inj i j es es' a z1 z2 p1 p2
          have ndA : ∀ {is : List Nat} {as : List Addr}, SlA σ is as → is.Nodup → (∀ i ∈ is, i ∈ muts l) → as.Nodup := by
            intro is
            induction is with
            | nil => intro as s _ _; cases s; exact List.nodup_nil
            | cons i is ih =>
              intro as s nd sub
              cases s with
              | cons p t =>
                refine List.nodup_cons.mpr ⟨fun m => ?_, ih t (List.nodup_cons.mp nd).2 fun j hj => sub j (List.mem_cons_of_mem _ hj)⟩
                obtain ⟨j, j1, j2⟩ := t.get _ m
                have := inj i j _ (sub i List.mem_cons_self) (sub j (List.mem_cons_of_mem _ j1)) p j2
                rw [this] at nd
                exact (List.nodup_cons.mp nd).1 j1
          have tn : t ∉ mutA ks vs := fun m => by
            obtain ⟨i, i1, i2⟩ := sl.get t m
            obtain ⟨es, i3⟩ := ow i i1
            exact t5 i es i3 i2
          have t0 : C.H0 t = none := hd.old t t4
          have hM : ∀ a ∈ t :: mutA ks vs, F1 a = none ∧ (C.H0 a = none ∨ a ∈ C.Mu) := fun a m => by
            rcases List.mem_cons.mp m with rfl | m
            · exact ⟨t2, .inl t0⟩
            · obtain ⟨i, i1, i2⟩ := sl.get a m
              obtain ⟨es, i3⟩ := ow i i1
              obtain ⟨b, ws', q1, q2, q3, q4, q5⟩ := g1.ow i es i3
              rw [i2] at q1; cases q1
              exact ⟨q3, q5⟩
          have ar := args_of (Mu := t :: mutA ks vs) g1 hM (fun i hi es a z p m => by
            rcases List.mem_cons.mp m with rfl | m
            · exact t5 i es z p
            · obtain ⟨j, j1, j2⟩ := sl.get a m
              obtain ⟨es', j3⟩ := ow j j1
              have := g1.inj i j es es' a z j3 p j2
              exact ok1' j j1 (by rw [← this]; exact hi)) hfi r1 h2
          refine ⟨F1, .list xs :: ds, r, m0 :: ms, g1.ex, .cons ⟨t, ws, xs, rfl, rfl, t1, t2, t3⟩ ar, List.nodup_cons.mpr ⟨tn, ndA sl ok2' fun _ z => z⟩, h3, fun v F' H' s1' s2' kp old dom mu res => ?_⟩
          have mu' : MutsR F' H' (mutA ks vs) ms := by
            cases (show MutsR F' H' (t :: mutA ks vs) (m0 :: ms) from mu) with
            | cons _ _ _ z => exact z
          obtain ⟨g2, tmp2, back⟩ := g1.called2 (Tm := [t]) sl ow h4.symm (fun a m => by rw [List.mem_singleton.mp m]; exact ⟨t0, t5⟩) s1' s2'
            (fun a o z1 z2 z3 => kp a o z1 (fun m => by
              rcases List.mem_cons.mp (show a ∈ t :: mutA ks vs from m) with w | w
              · exact z3 (by rw [w]; exact List.mem_singleton_self _)
              · exact z2 w)) old dom mu'
          have s01 := s0.trans s1
          refine q F' H' v ⟨s01.exF.trans s1', fun a o z1 z2 n => ?_, fun i ds z => ?_, fun a z => s01.old a (old a z)⟩ g2 ?_
          · obtain ⟨p1, p2⟩ := s01.tmp a o z1 z2 n
            exact tmp2 a o p1 p2 (n.sub s01.sub) fun m => by
              rw [List.mem_singleton.mp m, t4] at z2
              cases z2
          · obtain ⟨es, w⟩ := back i ds z
            exact s01.sub i es w
          · cases r with
            | fz d => exact res
            | ow ds' =>
              obtain ⟨a, ws', rfl, p1, p2, p3, p4⟩ := res
              refine ⟨a, ws', rfl, p3, p2, p4, s01.old a p1, fun j es z w => ?_⟩
              obtain ⟨es', z'⟩ := back j es z
              obtain ⟨b, ws'', q1, q2, _⟩ := g1.ow j es' z'
              rw [w] at q1; cases q1
              rw [q2] at p1; cases p1
        · cases he
      · cases he
    · cases he
  · cases he
end
end J
namespace J
open PySem L2
/-! ### the operators' and built-ins' rules are kept -/
theorem lim_eq : limit = sizeLine := by rw [sizeLine_eq]; rfl
section
variable {X : Cx}
/-- () + t gives t itself -/
def rCat0 (K : Fr) : R2 := fun x y H Q => ∃ a b ys, x = V.ref a ∧ y = V.ref b ∧ SqT K H a [] ∧ SqT K H b ys ∧ Q (.ref b) H
theorem op_cat0 : OpR X (binaryOp .Add) (rCat0 X.K) := by
  intro pins s σ H x y v u Q I rx ry h
  obtain ⟨a, b, ys, rfl, rfl, ha, hb, q⟩ := h
  cases rx
  cases ry
  obtain ⟨is, r1, ⟨⟨c1, d1, t1, l1⟩, o1, e1, n1, f1⟩, _⟩ := I.tuple ha
  obtain ⟨js, r2, ⟨⟨c2, d2, t2, l2⟩, o2, e2, n2, f2⟩, _⟩ := I.tuple hb
  replace e1 : c1 = .type "tuple" := e1
  replace f1 : t1 = .seq is.toArray n1 := f1
  replace e2 : c2 = .type "tuple" := e2
  replace f2 : t2 = .seq js.toArray n2 := f2
  subst e1 f1 e2 f2
  have z : is = [] := r1.nil_iff.mpr rfl
  subst z
  exact PySem.concat_meets ⟨_, o1, rfl⟩ ⟨_, o2, rfl⟩ PySem.noFill_tuple_add PySem.seq_tuple_add PySem.F.slot_tuple_add PySem.F.entry_tuple_add (PySem.F.args_tuple_add_2 _ _) (PyProof.Rows.tuple_addW0 a b #[] js.toArray n1 n2 d1 d2 l1 l2 rfl) ⟨o1, o2, .ref b, H, I, rfl, q⟩
theorem s_add : S2 (fun x y H Q => (rI0 fun i j => .int (i + j)) x y H Q ∨ rCat x y H Q ∨ rCatZ X.K x y H Q ∨ rCat0 X.K x y H Q) addD := fun F H x y d e rt Q s v w q p => by
  cases d <;> cases e <;> simp only [addD] at q
  case int.int i j =>
    cases (show Rp F x _ from v)
    cases (show Rp F y _ from w)
    cases q
    exact .inl ⟨i, j, rfl, rfl, p _ F H (.inl ⟨rfl, rfl⟩) (.int _)⟩
  case list.list a b =>
    split at q
    · rename_i hl
      cases q
      obtain ⟨l, vs, rfl, h1, h2⟩ := v
      obtain ⟨l', ws, rfl, h3, h4⟩ := w
      exact .inr (.inl ⟨l, l', vs, ws, rfl, rfl, h1, h3, by rw [← lim_eq, h2.length, h4.length]; exact hl, fun a ha => p a _ ha (h2.append h4)⟩)
    · cases q
  case tuple.tuple a b =>
    split at q
    · rename_i hl
      cases q
      cases (show Rp F x _ from v) with
      | tup h1 h2 =>
        cases (show Rp F y _ from w) with
        | tup h3 h4 =>
          cases h2 with
          | nil => exact .inr (.inr (.inr ⟨_, _, _, rfl, rfl, (h1.up s).sq, (h3.up s).sq, p _ F H (.inl ⟨rfl, rfl⟩) (.tup h3 h4)⟩))
          | cons g1 g2 =>
            have h2' := RpA.cons g1 g2
            refine .inr (.inr (.inl ⟨_, _, _, _, rfl, rfl, (h1.up s).sq, (h3.up s).sq, (fun z => by cases z), ?_, fun z => ?_, fun z a' o ha ho => ?_⟩))
            · rw [← lim_eq, h2'.length, h4.length]; exact hl
            · subst z
              cases h4
              rw [List.append_nil] at p
              exact p _ F H (.inl ⟨rfl, rfl⟩) (.tup h1 h2')
            · exact p _ _ _ (.inr ⟨a', o, _, ha, ho, rfl, rfl⟩) (.tup ⟨o, upd_same, ho⟩ ((h2'.append h4).up (same_upd (Same.none s ha))))
    · cases q
  all_goals cases q
theorem s_int {g : Int → Int → V} {gd : D → D → Option Rt} (h : ∀ d e rt, gd d e = some rt → ∃ i j k, d = .int i ∧ e = .int j ∧ rt = .fz k ∧ ∀ F, Rp F (g i j) k) : S2 (rI0 g) gd := fun F H x y d e rt Q s v w q p => by
  obtain ⟨i, j, k, rfl, rfl, rfl, r⟩ := h d e rt q
  cases (show Rp F x _ from v)
  cases (show Rp F y _ from w)
  exact ⟨i, j, rfl, rfl, p _ F H (.inl ⟨rfl, rfl⟩) (r F)⟩
theorem s_intC {Cd : Int → Int → Prop} {g : Int → Int → V} {gd : D → D → Option Rt} (h : ∀ d e rt, gd d e = some rt → ∃ i j k, d = .int i ∧ e = .int j ∧ rt = .fz k ∧ Cd i j ∧ ∀ F, Rp F (g i j) k) : S2 (rI Cd g) gd := fun F H x y d e rt Q s v w q p => by
  obtain ⟨i, j, k, rfl, rfl, rfl, c, r⟩ := h d e rt q
  cases (show Rp F x _ from v)
  cases (show Rp F y _ from w)
  exact ⟨i, j, rfl, rfl, c, p _ F H (.inl ⟨rfl, rfl⟩) (r F)⟩
theorem s_sub : S2 (rI0 fun i j => .int (i - j)) subD := s_int fun d e rt q => by
  cases d <;> cases e <;> simp only [subD] at q <;> cases q
  exact ⟨_, _, _, rfl, rfl, rfl, fun F => .int _⟩
theorem s_lt : S2 (rI0 fun i j => .bl (decide (i < j))) ltD := s_int fun d e rt q => by
  cases d <;> cases e <;> simp only [ltD] at q <;> cases q
  exact ⟨_, _, _, rfl, rfl, rfl, fun F => .bl _⟩
theorem s_le : S2 (rI0 fun i j => .bl (decide (i ≤ j))) leD := s_int fun d e rt q => by
  cases d <;> cases e <;> simp only [leD] at q <;> cases q
  exact ⟨_, _, _, rfl, rfl, rfl, fun F => .bl _⟩
theorem s_gt : S2 (rI0 fun i j => .bl (decide (j < i))) gtD := s_int fun d e rt q => by
  cases d <;> cases e <;> simp only [gtD] at q <;> cases q
  exact ⟨_, _, _, rfl, rfl, rfl, fun F => .bl _⟩
theorem s_ge : S2 (rI0 fun i j => .bl (decide (j ≤ i))) geD := s_int fun d e rt q => by
  cases d <;> cases e <;> simp only [geD] at q <;> cases q
  exact ⟨_, _, _, rfl, rfl, rfl, fun F => .bl _⟩
theorem mB_pow : mB = 2 ^ 700 := by decide
theorem nat_mB {i : Int} (h1 : -mB < i) (h2 : i < mB) : i.natAbs < 2 ^ 700 := by
  have e : ((2 ^ 700 : Nat) : Int) = mB := by decide
  have : ((i.natAbs : Nat) : Int) < ((2 ^ 700 : Nat) : Int) := by rw [e]; omega
  exact Int.ofNat_lt.mp this
theorem s_mul : S2 (fun x y H Q => (rI CMulW fun i j => .int (i * j)) x y H Q ∨ rRep x y H Q) mulD := fun F H x y d e rt Q s v w q p => by
  cases d <;> cases e <;> simp only [mulD] at q <;> try (cases q)
  case int.int i j =>
    split at q
    · rename_i hl
      cases q
      cases (show Rp F x _ from v)
      cases (show Rp F y _ from w)
      exact .inl ⟨i, j, rfl, rfl, wide_mul (nat_mB hl.1.1 hl.1.2) (nat_mB hl.2.1 hl.2.2) (by decide) (by decide) (by decide), p _ F H (.inl ⟨rfl, rfl⟩) (.int _)⟩
    · cases q
  case list.int a j =>
    split at q
    · rename_i hl
      cases q
      obtain ⟨l, vs, rfl, h1, h2⟩ := v
      cases (show Rp F y _ from w)
      have b63 : big < 2 ^ 63 := by decide
      exact .inr ⟨l, j, vs, rfl, rfl, h1, by have := hl.2.1; omega, by have := hl.2.2; omega, by rw [← lim_eq, h2.length]; exact hl.1, fun a ha => p a _ ha (h2.rep _)⟩
    · cases q
theorem s_fdiv : S2 (rI CDivN fun i j => .int (i.fdiv j)) fdivD := s_intC fun d e rt q => by
  cases d <;> cases e <;> simp only [fdivD] at q <;> try (cases q)
  rename_i i j
  split at q
  · rename_i h
    cases q
    exact ⟨_, _, _, rfl, rfl, rfl, ⟨h.1, by omega⟩, fun F => .int _⟩
  · cases q
theorem s_mod : S2 (rI (fun _ j => j ≠ 0) fun i j => .int (i.fmod j)) modD := s_intC fun d e rt q => by
  cases d <;> cases e <;> simp only [modD] at q <;> try (cases q)
  rename_i i j
  split at q
  · rename_i h
    cases q
    exact ⟨_, _, _, rfl, rfl, rfl, h, fun F => .int _⟩
  · cases q
theorem s_pow : S2 (rI CPow fun i j => .int (i ^ j.toNat)) powD := s_intC fun d e rt q => by
  cases d <;> cases e <;> simp only [powD] at q <;> try (cases q)
  rename_i i j
  split at q
  · rename_i h
    cases q
    refine ⟨_, _, _, rfl, rfl, rfl, ⟨h.1.1, h.1.2, ?_⟩, fun F => .int _⟩
    have e : (2 : Nat) ^ 64 = 18446744073709551616 := by decide
    rw [e]
    omega
  · cases q
/-! equality -/
theorem shp_lay : ∀ (n : Nat) (d : D), shp n d = true → d.canLay0 = true ∧ d.depth ≤ n
  | n, .none, _ => ⟨rfl, Nat.zero_le _⟩
  | n, .bool _, _ => ⟨rfl, Nat.zero_le _⟩
  | n, .int _, _ => ⟨rfl, Nat.zero_le _⟩
  | n, .str _, h => ⟨by rw [shp_str] at h; exact h, Nat.zero_le _⟩
  | n, .dict _, h => by cases n <;> simp [shp] at h
  | 0, .list _, h => by simp [shp] at h
  | 0, .tuple _, h => by simp [shp] at h
  | n + 1, .list ds, h => by
    have all : ∀ ds : List D, ds.all (shp n) = true → PyData.canLayAll0 ds = true ∧ PyData.depthAll ds ≤ n := fun ds => by
      induction ds with
      | nil => intro _; exact ⟨rfl, Nat.zero_le _⟩
      | cons d ds ih =>
        intro h
        rw [List.all_cons, Bool.and_eq_true] at h
        obtain ⟨a, b⟩ := shp_lay n d h.1
        obtain ⟨a', b'⟩ := ih h.2
        exact ⟨by simp [PyData.canLayAll0, a, a'], by simp only [PyData.depthAll]; omega⟩
    obtain ⟨a, b⟩ := all ds h
    exact ⟨by simp [PyData.canLay0, a], by simp only [PyData.depth]; omega⟩
  | n + 1, .tuple ds, h => by
    have all : ∀ ds : List D, ds.all (shp n) = true → PyData.canLayAll0 ds = true ∧ PyData.depthAll ds ≤ n := fun ds => by
      induction ds with
      | nil => intro _; exact ⟨rfl, Nat.zero_le _⟩
      | cons d ds ih =>
        intro h
        rw [List.all_cons, Bool.and_eq_true] at h
        obtain ⟨a, b⟩ := shp_lay n d h.1
        obtain ⟨a', b'⟩ := ih h.2
        exact ⟨by simp [PyData.canLayAll0, a, a'], by simp only [PyData.depthAll]; omega⟩
    obtain ⟨a, b⟩ := all ds h
    exact ⟨by simp [PyData.canLay0, a], by simp only [PyData.depth]; omega⟩
theorem shp_shaped {d : D} (h : shp (8 + 1 + 1) d = true) : SeqAt.shaped d = true := by
  obtain ⟨a, b⟩ := shp_lay _ _ h
  unfold SeqAt.shaped
  rw [a, decide_eq_true (by omega : d.depth ≤ 64)]
  rfl
mutual
theorem beqD_eqv : ∀ (d e : D), beqD d e = PyData.eqv d e
  | .none, e => by cases e <;> simp [beqD, PyData.eqv]
  | .bool b, e => by cases e <;> simp [beqD, PyData.eqv]
  | .int i, e => by cases e <;> simp [beqD, PyData.eqv, Bool.beq_eq_decide_eq]
  | .str b, e => by cases e <;> simp [beqD, PyData.eqv]
  | .list ds, e => by
    cases e <;> simp [beqD, PyData.eqv]
    exact beqDs_eqv ds _
  | .tuple ds, e => by
    cases e <;> simp [beqD, PyData.eqv]
    exact beqDs_eqv ds _
  | .dict ds, e => by cases e <;> simp [beqD, PyData.eqv]
theorem beqDs_eqv : ∀ (ds es : List D), beqDs ds es = PyData.eqvAll ds es
  | [], es => by cases es <;> simp [beqDs, PyData.eqvAll]
  | d :: ds, es => by
    cases es with
    | nil => simp [beqDs, PyData.eqvAll]
    | cons e es => simp [beqDs, PyData.eqvAll, beqD_eqv d e, beqDs_eqv ds es]
end
theorem s_eq : S2 (rEqD X.K) eqD := fun F H x y d e rt Q s v w q p => by
  simp only [eqD] at q
  split at q
  · rename_i h
    cases q
    refine ⟨d, e, v.dp s, w.dp s, shp_shaped h.1, shp_shaped h.2, ?_⟩
    rw [← beqD_eqv]
    exact p _ F H (.inl ⟨rfl, rfl⟩) (.bl _)
  · cases q
theorem s_ne : S2 (rNeD X.K) neD := fun F H x y d e rt Q s v w q p => by
  simp only [neD] at q
  split at q
  · rename_i h
    cases q
    refine ⟨d, e, v.dp s, w.dp s, shp_shaped h.1, shp_shaped h.2, ?_⟩
    rw [← beqD_eqv]
    exact p _ F H (.inl ⟨rfl, rfl⟩) (.bl _)
  · cases q
/-! is None -/
theorem VwD.non {F H : Hp} {v : V} {d : D} (h : VwD F H v d) : decide (v = .non) = (match d with | .none => true | _ => false) := by
  cases d with
  | list ds => obtain ⟨a, vs, rfl, _⟩ := h; rfl
  | none => cases (show Rp F v _ from h); rfl
  | bool _ => cases (show Rp F v _ from h); rfl
  | int _ => cases (show Rp F v _ from h); rfl
  | str _ => cases (show Rp F v _ from h); rfl
  | tuple _ => cases (show Rp F v _ from h); rfl
  | dict _ => cases (show Rp F v _ from h)
theorem s_isN : S2 (fun x y H Q => y = .non ∧ Q (.bl (decide (x = .non))) H) isD2 := fun F H x y d e rt Q s v w q p => by
  unfold isD2 at q
  split at q
  · simp only [isND] at q
    cases q
    cases (show Rp F y _ from w)
    refine ⟨rfl, ?_⟩
    rw [v.non]
    refine p _ F H (.inl ⟨rfl, rfl⟩) ?_
    cases d <;> exact .bl _
  · cases q
theorem s_notN : S2 (fun x y H Q => y = .non ∧ Q (.bl (!decide (x = .non))) H) notD2 := fun F H x y d e rt Q s v w q p => by
  unfold notD2 at q
  split at q
  · simp only [notND] at q
    cases q
    cases (show Rp F y _ from w)
    refine ⟨rfl, ?_⟩
    rw [v.non]
    refine p _ F H (.inl ⟨rfl, rfl⟩) ?_
    cases d <;> exact .bl _
  · cases q
/-! unary, built-ins of one argument -/
theorem s_neg : SU (rU fun i => .int (-i)) negD := fun F H x d rt Q s v q p => by
  cases d <;> simp only [negD] at q <;> cases q
  cases (show Rp F x _ from v)
  exact ⟨_, rfl, p _ F H (.inl ⟨rfl, rfl⟩) (.int _)⟩
theorem s_abs : S1 (fun xs H Q => ∃ i, xs = [V.int i] ∧ Q (.int (if i < 0 then -i else i)) H) absD := fun F H x d rt Q s v q p => by
  cases d <;> simp only [absD] at q <;> cases q
  cases (show Rp F x _ from v)
  exact ⟨_, rfl, p _ F H (.inl ⟨rfl, rfl⟩) (.int _)⟩
theorem s_len : S1 (fun xs H Q => ∃ p ys, xs = [V.ref p] ∧ (SqL X.K H p ys ∨ SqT X.K H p ys) ∧ Q (.int ys.length) H) lenD := fun F H x d rt Q s v q p => by
  cases d <;> simp only [lenD] at q <;> cases q
  · obtain ⟨l, vs, rfl, h1, h2⟩ := v
    refine ⟨l, vs, rfl, .inl (SqL.of h1), ?_⟩
    rw [h2.length]
    exact p _ F H (.inl ⟨rfl, rfl⟩) (.int _)
  · cases (show Rp F x _ from v) with
    | tup h1 h2 =>
      refine ⟨_, _, rfl, .inr ((h1.up s).sq), ?_⟩
      rw [h2.length]
      exact p _ F H (.inl ⟨rfl, rfl⟩) (.int _)
theorem s_intc : S1 (fun xs H Q => (∃ i, xs = [V.int i] ∧ Q (.int i) H) ∨ ∃ k, xs = [V.bl k] ∧ Q (.int (if k then 1 else 0)) H) intD := fun F H x d rt Q s v q p => by
  cases d <;> simp only [intD] at q <;> cases q
  · cases (show Rp F x _ from v)
    exact .inr ⟨_, rfl, p _ F H (.inl ⟨rfl, rfl⟩) (.int _)⟩
  · cases (show Rp F x _ from v)
    exact .inl ⟨_, rfl, p _ F H (.inl ⟨rfl, rfl⟩) (.int _)⟩
theorem s_list : S1 (fun xs H Q => ∃ p ys, xs = [V.ref p] ∧ (SqL X.K H p ys ∨ SqT X.K H p ys) ∧ ∀ l, H l = none → Q (.ref l) (upd H l (.lst ys))) listD := fun F H x d rt Q s v q p => by
  cases d <;> simp only [listD] at q <;> cases q
  · obtain ⟨l, vs, rfl, h1, h2⟩ := v
    exact ⟨l, vs, rfl, .inl (SqL.of h1), fun a ha => p a _ ha h2⟩
  · cases (show Rp F x _ from v) with
    | tup h1 h2 => exact ⟨_, _, rfl, .inr ((h1.up s).sq), fun a ha => p a _ ha h2⟩
theorem s_tuple : S1 (fun xs H Q => ∃ p ys, xs = [V.ref p] ∧ ((SqL X.K H p ys ∧ ∀ l o, H l = none → o.dict = none → Q (.ref l) (upd H l (.frz o (.tup ys)))) ∨ (SqT X.K H p ys ∧ Q (.ref p) H))) tupleD := fun F H x d rt Q s v q p => by
  cases d <;> simp only [tupleD] at q <;> cases q
  · obtain ⟨l, vs, rfl, h1, h2⟩ := v
    exact ⟨l, vs, rfl, .inl ⟨SqL.of h1, fun a o ha ho => p _ _ _ (.inr ⟨a, o, vs, ha, ho, rfl, rfl⟩) (.tup ⟨o, upd_same, ho⟩ (h2.up (same_upd (Same.none s ha))))⟩⟩
  · cases (show Rp F x _ from v) with
    | tup h1 h2 => exact ⟨_, _, rfl, .inr ⟨(h1.up s).sq, p _ F H (.inl ⟨rfl, rfl⟩) (.tup h1 h2)⟩⟩
theorem asInt_of : ∀ {ds : List D} {ns : List Int}, asInts ds = some ns → ds = ns.map PyData.int
  | [], ns, h => by simp only [asInts] at h; cases h; rfl
  | d :: ds, ns, h => by
    cases d <;> simp only [asInts] at h <;> try (cases h)
    cases q : asInts ds with
    | none => rw [q] at h; cases h
    | some m => rw [q] at h; cases h; rw [asInt_of q]; rfl
theorem asBool_of : ∀ {ds : List D} {ns : List Bool}, asBools ds = some ns → ds = ns.map PyData.bool
  | [], ns, h => by simp only [asBools] at h; cases h; rfl
  | d :: ds, ns, h => by
    cases d <;> simp only [asBools] at h <;> try (cases h)
    cases q : asBools ds with
    | none => rw [q] at h; cases h
    | some m => rw [q] at h; cases h; rw [asBool_of q]; rfl
theorem s_sum : S1 (rSum X.K) sumD := fun F H x d rt Q s v q p => by
  cases d <;> simp only [sumD] at q <;> try (cases q)
  split at q
  · rename_i ns h
    cases q
    have e := asInt_of h
    subst e
    obtain ⟨l, vs, rfl, h1, h2⟩ := v
    have e := h2.ints
    subst e
    exact ⟨l, ns, rfl, SqL.of h1, p _ F H (.inl ⟨rfl, rfl⟩) (.int _)⟩
  · cases q
theorem s_all : S1 (rAll X.K) allD := fun F H x d rt Q s v q p => by
  cases d <;> simp only [allD] at q <;> try (cases q)
  split at q
  · rename_i ns h
    cases q
    have e := asBool_of h
    subst e
    obtain ⟨l, vs, rfl, h1, h2⟩ := v
    have e := h2.bools
    subst e
    exact ⟨l, ns, rfl, SqL.of h1, p _ F H (.inl ⟨rfl, rfl⟩) (.bl _)⟩
  · cases q
theorem s_any : S1 (rAny X.K) anyD := fun F H x d rt Q s v q p => by
  cases d <;> simp only [anyD] at q <;> try (cases q)
  split at q
  · rename_i ns h
    cases q
    have e := asBool_of h
    subst e
    obtain ⟨l, vs, rfl, h1, h2⟩ := v
    have e := h2.bools
    subst e
    exact ⟨l, ns, rfl, SqL.of h1, p _ F H (.inl ⟨rfl, rfl⟩) (.bl _)⟩
  · cases q
theorem s_max : S12 (fun xs H Q => ∃ i j, xs = [V.int i, V.int j] ∧ Q (.int (if j > i then j else i)) H) maxD := fun F H x y d e rt Q s v w q p => by
  cases d <;> cases e <;> simp only [maxD] at q <;> cases q
  cases (show Rp F x _ from v)
  cases (show Rp F y _ from w)
  exact ⟨_, _, rfl, p _ F H (.inl ⟨rfl, rfl⟩) (.int _)⟩
theorem s_min : S12 (fun xs H Q => ∃ i j, xs = [V.int i, V.int j] ∧ Q (.int (if j < i then j else i)) H) minD := fun F H x y d e rt Q s v w q p => by
  cases d <;> cases e <;> simp only [minD] at q <;> cases q
  cases (show Rp F x _ from v)
  cases (show Rp F y _ from w)
  exact ⟨_, _, rfl, p _ F H (.inl ⟨rfl, rfl⟩) (.int _)⟩
/-! isinstance -/
def tyN : Ty → String
  | .int => "int" | .bool => "bool" | .list => "list" | .tuple => "tuple" | .str => "str"
def tyOf : D → String
  | .none => "NoneType" | .bool _ => "bool" | .int _ => "int" | .str _ => "str" | .list _ => "list" | .tuple _ => "tuple" | .dict _ => "dict"
theorem k_NoneType_int : kitB "NoneType" "int" = some false := by decide +kernel
theorem k_bool_int : kitB "bool" "int" = some true := by decide +kernel
theorem k_int_int : kitB "int" "int" = some true := by decide +kernel
theorem k_str_int : kitB "str" "int" = some false := by decide +kernel
theorem k_list_int : kitB "list" "int" = some false := by decide +kernel
theorem k_tuple_int : kitB "tuple" "int" = some false := by decide +kernel
theorem k_NoneType_bool : kitB "NoneType" "bool" = some false := by decide +kernel
theorem k_bool_bool : kitB "bool" "bool" = some true := by decide +kernel
theorem k_int_bool : kitB "int" "bool" = some false := by decide +kernel
theorem k_str_bool : kitB "str" "bool" = some false := by decide +kernel
theorem k_list_bool : kitB "list" "bool" = some false := by decide +kernel
theorem k_tuple_bool : kitB "tuple" "bool" = some false := by decide +kernel
theorem k_NoneType_list : kitB "NoneType" "list" = some false := by decide +kernel
theorem k_bool_list : kitB "bool" "list" = some false := by decide +kernel
theorem k_int_list : kitB "int" "list" = some false := by decide +kernel
theorem k_str_list : kitB "str" "list" = some false := by decide +kernel
theorem k_list_list : kitB "list" "list" = some true := by decide +kernel
theorem k_tuple_list : kitB "tuple" "list" = some false := by decide +kernel
theorem k_NoneType_tuple : kitB "NoneType" "tuple" = some false := by decide +kernel
theorem k_bool_tuple : kitB "bool" "tuple" = some false := by decide +kernel
theorem k_int_tuple : kitB "int" "tuple" = some false := by decide +kernel
theorem k_str_tuple : kitB "str" "tuple" = some false := by decide +kernel
theorem k_list_tuple : kitB "list" "tuple" = some false := by decide +kernel
theorem k_tuple_tuple : kitB "tuple" "tuple" = some true := by decide +kernel
theorem k_NoneType_str : kitB "NoneType" "str" = some false := by decide +kernel
theorem k_bool_str : kitB "bool" "str" = some false := by decide +kernel
theorem k_int_str : kitB "int" "str" = some false := by decide +kernel
theorem k_str_str : kitB "str" "str" = some true := by decide +kernel
theorem k_list_str : kitB "list" "str" = some false := by decide +kernel
theorem k_tuple_str : kitB "tuple" "str" = some false := by decide +kernel
theorem isi_kit (T : Ty) (d : D) (rt : Rt) (h : isiD T d = some rt) : ∃ b, rt = .fz (.bool b) ∧ kitB (tyOf d) (tyN T) = some b := by
  cases T <;> cases d <;> simp only [isiD] at h <;> cases h <;> first
    | exact ⟨_, rfl, k_NoneType_int⟩
    | exact ⟨_, rfl, k_bool_int⟩
    | exact ⟨_, rfl, k_int_int⟩
    | exact ⟨_, rfl, k_str_int⟩
    | exact ⟨_, rfl, k_list_int⟩
    | exact ⟨_, rfl, k_tuple_int⟩
    | exact ⟨_, rfl, k_NoneType_bool⟩
    | exact ⟨_, rfl, k_bool_bool⟩
    | exact ⟨_, rfl, k_int_bool⟩
    | exact ⟨_, rfl, k_str_bool⟩
    | exact ⟨_, rfl, k_list_bool⟩
    | exact ⟨_, rfl, k_tuple_bool⟩
    | exact ⟨_, rfl, k_NoneType_list⟩
    | exact ⟨_, rfl, k_bool_list⟩
    | exact ⟨_, rfl, k_int_list⟩
    | exact ⟨_, rfl, k_str_list⟩
    | exact ⟨_, rfl, k_list_list⟩
    | exact ⟨_, rfl, k_tuple_list⟩
    | exact ⟨_, rfl, k_NoneType_tuple⟩
    | exact ⟨_, rfl, k_bool_tuple⟩
    | exact ⟨_, rfl, k_int_tuple⟩
    | exact ⟨_, rfl, k_str_tuple⟩
    | exact ⟨_, rfl, k_list_tuple⟩
    | exact ⟨_, rfl, k_tuple_tuple⟩
    | exact ⟨_, rfl, k_NoneType_str⟩
    | exact ⟨_, rfl, k_bool_str⟩
    | exact ⟨_, rfl, k_int_str⟩
    | exact ⟨_, rfl, k_str_str⟩
    | exact ⟨_, rfl, k_list_str⟩
    | exact ⟨_, rfl, k_tuple_str⟩
theorem tyX_of {K : Fr} {F H : Hp} {v : V} {d : D} (s : Same F H) (h : VwD F H v d) : TyX K H v (.type (tyOf d)) := by
  cases d with
  | list ds => obtain ⟨a, vs, rfl, h1, _⟩ := h; exact .base (.lst h1)
  | none => cases (show Rp F v _ from h); exact .base .non
  | bool _ => cases (show Rp F v _ from h); exact .base (.bl _)
  | int _ => cases (show Rp F v _ from h); exact .base (.int _)
  | str _ => cases (show Rp F v _ from h); exact .base (.str _)
  | tuple _ =>
    cases (show Rp F v _ from h) with
    | tup h1 _ =>
      obtain ⟨_, z, _⟩ := h1.up s
      exact .fTuple z
  | dict _ => cases (show Rp F v _ from h)
theorem s_isi (T : Ty) : S1 (fun xs H Q => rIsi X.K (xs ++ [.ty (tyN T)]) H Q) (isiD T) := fun F H x d rt Q s v q p => by
  obtain ⟨b, rfl, hk⟩ := isi_kit T d rt q
  exact ⟨x, .ty (tyN T), .type (tyOf d), .type (tyN T), b, rfl, .ty _, tyX_of s v, kit_ty hk, p _ F H (.inl ⟨rfl, rfl⟩) (.bl _)⟩
/-! items, slices -/
theorem s_ix : S2 (rIx X.K) ixD := fun F H x y d e rt Q s v w q p => by
  cases d <;> cases e <;> simp only [ixD] at q <;> try (cases q)
  case list.int ds i =>
    split at q
    · rename_i j hj
      split at q
      · rename_i d' hd
        cases q
        obtain ⟨l, vs, rfl, h1, h2⟩ := v
        cases (show Rp F y _ from w)
        obtain ⟨u, h3, h4⟩ := h2.getd hd
        refine .inl ⟨l, vs, i, u, rfl, rfl, SqL.of h1, ?_, p _ F H (.inl ⟨rfl, rfl⟩) h4⟩
        have e1 : L2.ixN vs.length i = some j := by rw [h2.length]; exact hj
        show (L2.ixN vs.length i).bind (fun j => vs[j]?) = some u
        rw [e1]; exact h3
      · cases q
    · cases q
  case tuple.int ds i =>
    split at q
    · rename_i j hj
      split at q
      · rename_i d' hd
        cases q
        cases (show Rp F y _ from w)
        cases (show Rp F x _ from v) with
        | tup h1 h2 =>
          obtain ⟨u, h3, h4⟩ := h2.getd hd
          refine .inr (.inl ⟨_, _, i, u, rfl, rfl, (h1.up s).sq, ?_, p _ F H (.inl ⟨rfl, rfl⟩) h4⟩)
          rename_i l vs
          have e1 : L2.ixN vs.length i = some j := by rw [h2.length]; exact hj
          show (L2.ixN vs.length i).bind (fun j => vs[j]?) = some u
          rw [e1]; exact h3
      · cases q
    · cases q
theorem sIx_same (n d : Nat) (o : Option Int) : HT.sIx n d o = sIx n d o := by
  cases o <;> rfl
theorem cut_rp {F : Hp} {vs : List V} {ds : List D} (h : RpA F vs ds) (lo hi : Option Int) : RpA F (cutV vs lo hi) (cutD ds lo hi) := by
  unfold cutV cutD
  rw [sIx_same, sIx_same, h.length]
  exact (h.drop _).take _
theorem cut_all {ds : List D} {lo hi : Option Int} (h : sIx ds.length 0 lo = 0 ∧ sIx ds.length ds.length hi = ds.length) : cutD ds lo hi = ds := by
  unfold cutD
  rw [h.1, h.2, List.drop_zero, Nat.sub_zero, List.take_length]
theorem s_sl : SS (fun x lo hi H Q => rSlL X.K x lo hi H Q ∨ rSlZ X.K x lo hi H Q ∨ rSlW X.K x lo hi H Q) slD := fun F H x lo hi d rt Q s v q p => by
  cases d <;> simp only [slD] at q <;> try (cases q)
  · obtain ⟨l, vs, rfl, h1, h2⟩ := v
    exact .inl ⟨l, vs, rfl, SqL.of h1, fun a ha => p a _ ha (cut_rp h2 lo hi)⟩
  · rename_i ds
    cases (show Rp F x _ from v) with
    | tup h1 h2 =>
      by_cases hw : sIx ds.length 0 lo = 0 ∧ sIx ds.length ds.length hi = ds.length
      · refine .inr (.inr ⟨_, _, rfl, (h1.up s).sq, ?_, ?_⟩)
        · rw [sIx_same, sIx_same, h2.length]
          exact hw
        · rw [cut_all hw] at p
          exact p _ F H (.inl ⟨rfl, rfl⟩) (.tup h1 h2)
      · refine .inr (.inl ⟨_, _, rfl, (h1.up s).sq, ?_, fun a o ha ho => p _ _ _ (.inr ⟨a, o, _, ha, ho, rfl, rfl⟩) (.tup ⟨o, upd_same, ho⟩ ((cut_rp h2 lo hi).up (same_upd (Same.none s ha))))⟩)
        rw [sIx_same, sIx_same, h2.length]
        exact hw
/-- x.extend(a list) -/
theorem s_ext {F H : Hp} {l : Addr} {y : V} {vs : List V} {ds : List D} {d : D} {es : List D} {Q : VK} (s : Same F H) (h : VwD F H y d) (hq : ∃ es', d = .list es') (he : seqD d = some es) (hl : H l = some (.lst vs)) (hv : vs.length = ds.length) (hz : ds.length + es.length ≤ limit)
    (q : ∀ ws, RpA F ws es → Q .non (upd H l (.lst (vs ++ ws)))) : rExtend (.ref l) [y] H Q := by
  obtain ⟨es', rfl⟩ := hq
  cases he
  obtain ⟨a, ws, rfl, h1, h2⟩ := h
  exact ⟨l, a, vs, ws, rfl, rfl, hl, h1, by rw [← lim_eq, hv, h2.length]; exact hz, q ws h2⟩
/-! the script -/
theorem ScR.sq {K : Fr} {C : FC} {F : Hp} {env : Env} {σ : St} {H : Hp} (h : Hd K C F env σ H) {a : Addr} {xs : List V} (r : ScR K C.H0 C.Mu a xs) : SqL K H a xs := by
  rcases r with ⟨r, n⟩ | r
  · rcases r with z | ⟨o, z⟩
    · exact .inl (.inl (h.keep _ _ z n))
    · exact .inl (.inr ⟨o, h.keep _ _ z n⟩)
  · exact .inr r
variable {C : FC} {ce : Expr} {f : M RV}
theorem je_scLen {i : Nat} {r : List V → Hp → VK → Prop} (hr : ∀ p ys H Q, SqL X.K H p ys → Q (.int ys.length) H → r [V.ref p] H Q) (h : PE X ce (tCB r (tCons (tVar i) tNil))) : JE X C ce (eScLen i) := by
  refine pe_weak h fun σ H Q ⟨F, env, rv, env', hd, he, q⟩ => ?_
  simp only [eScLen] at he
  split at he
  · rename_i ds h1
    cases he
    obtain ⟨a, ns, p1, p2, p3⟩ := hd.sc i ds h1
    refine ⟨_, p1, hr a _ H Q (p3.sq hd) ?_⟩
    have e : (List.map PyData.int ns).length = (List.map V.int ns).length := by simp
    have q' := q F H (.int ((ds.length : Nat) : Int)) Stp.refl hd (.int _)
    rw [p2, e] at q'
    exact q'
  · cases he
theorem je_scIx {i : Nat} {b : Expr} {a : Expr} {pos : Pos} (h : PE X (.Subscript a b pos) (tOp (rIx X.K) (tVar i) (tJ X.K C f))) : JE X C (.Subscript a b pos) (eScIx i f) := by
  refine pe_weak h fun σ H Q ⟨F, env, rv, env', hd, he, q⟩ => ?_
  simp only [eScIx] at he
  split at he
  · rename_i ds0 h0
    split at he
    · rename_i k e1 h1
      split at he
      · rename_i ds h2
        split at he
        · rename_i j h3
          split at he
          · rename_i d h4
            cases he
            obtain ⟨a, ns0, p1, _⟩ := hd.sc i ds0 h0
            refine ⟨_, p1, tJ.go hd h1 fun F1 H1 v s1 g1 r1 => ?_⟩
            have r1' : Rp F1 v (.int k) := r1
            cases r1'
            obtain ⟨b, ns, q1, q2, q3⟩ := g1.sc i ds h2
            rw [p1] at q1; cases q1
            subst q2
            rw [List.length_map] at h3
            rw [List.getElem?_map] at h4
            cases e : ns[j]? with
            | none => rw [e] at h4; cases h4
            | some n =>
              rw [e] at h4
              cases h4
              refine .inl ⟨_, _, k, .int n, rfl, rfl, q3.sq g1, ?_, q F1 H1 _ s1 g1 (.int n)⟩
              have e1 : L2.ixN (ns.map V.int).length k = some j := by rw [List.length_map]; exact h3
              show (L2.ixN (ns.map V.int).length k).bind (fun j => (ns.map V.int)[j]?) = some (V.int n)
              rw [e1]
              show (ns.map V.int)[j]? = some (V.int n)
              rw [List.getElem?_map, e]; rfl
          · cases he
        · cases he
      · cases he
    · cases he
  · cases he
theorem je_scSl {i : Nat} {gl gh : M (Option Int)} (h : PE X ce (tSl (rSlL X.K) (tVar i) (toJ X.K C gl) (toJ X.K C gh))) : JE X C ce (eScSl i gl gh) := by
  refine pe_weak h fun σ H Q ⟨F, env, rv, env', hd, he, q⟩ => ?_
  simp only [eScSl] at he
  split at he
  · rename_i ds0 h0
    split at he
    · cases he
    rename_i l e1 h1
    split at he
    · cases he
    rename_i hh e2 h2
    split at he
    · rename_i ds h3
      cases he
      obtain ⟨a, ns0, p1, _⟩ := hd.sc i ds0 h0
      refine ⟨_, p1, F, env, l, e1, hd, h1, fun F1 H1 s1 g1 => ⟨F1, e1, hh, env', g1, h2, fun F2 H2 s2 g2 => ?_⟩⟩
      obtain ⟨b, ns, q1, q2, q3⟩ := g2.sc i ds h3
      rw [p1] at q1; cases q1
      subst q2
      have s12 := s1.trans s2
      exact ⟨_, _, rfl, q3.sq g2, fun p hp => q F2 _ _ (s12.trans (Stp.new hp)) (g2.new hp) (g2.tmNew s12 hp (cut_rp (RpA.ofInts ns) l hh))⟩
    · cases he
  · cases he
end
end J
namespace J
open PySem L2 PySem.Spec PyProof.Rows
/-! ### enumerate over a tuple -/
theorem en_new {v : Value} {o : Obj} {G : Heap → Prop} (B : Begins v o G) :
    Meets (Builtin.«enumerate.__new__» ⟨[.type "enumerate", v], []⟩) (fun _ R s => G s.heap ∧
      R (.ok (.ret (.ref (s.heap.push o).objs.size))) { s with heap := (s.heap.push o).push { cls := .type "enumerate", data := .fields #[.none, .bool false, .ref s.heap.objs.size, rawInt 0, .none, .none] } }) :=
  .of_wp fun prog w A R s h => by
    obtain ⟨h0, g0, d0, t0, o0⟩ := s
    obtain ⟨hG, h⟩ := h
    have hsub := sub_enumerate
    have step : ∀ {A' : Around} {E Q : Value → Shared → Prop}, Q (.ref h0.objs.size) ⟨h0.push o, g0, d0, t0, o0⟩ → wpAny (model prog w) A' (pyIter v) Q E ⟨h0, g0, d0, t0, o0⟩ :=
      fun q => B.iter prog w _ _ ⟨h0, g0, d0, t0, o0⟩ _ hG q
    wp_walk using step
    refine wpAny_stack_any fun st => wpAny_pure ?_
    split
    · rename_i c _ _ _ _ _
      cases (c == Value.type "enumerate")
      all_goals
        wp_walk using step
        exact ⟨_, rfl, h⟩
    · wp_walk using step
      exact ⟨_, rfl, h⟩
theorem en_call {prog : Program} {w : World} {A : Around} {E Q : Value → Shared → Prop} {s : Shared} {v : Value} {o : Obj} {G : Heap → Prop} (B : Begins v o G) (hG : G s.heap)
    (q : ∀ h', IsEnum h' (s.heap.objs.size + 1) s.heap.objs.size 0 .none → h'.get? s.heap.objs.size = some o → (∀ b u, s.heap.get? b = some u → h'.get? b = some u) → Q (.ref (s.heap.objs.size + 1)) { s with heap := h' }) :
    wpAny (model prog w) A (call (.type "enumerate") [v]) Q E s := by
  refine callType_new F.called_enumerate (by decide) (F.typeCall_enumerate_1 _) (F.newCall_enumerate_1 _) (fun obj => F.args_object_init_2 obj _) F.entry_enumerate_new (en_new B) ⟨hG, ?_⟩
  have sz : (s.heap.push o).objs.size = s.heap.objs.size + 1 := Heap.size_push ..
  show _ ∧ _
  rw [sz]
  have h2 : IsEnum ((s.heap.push o).push { cls := .type "enumerate", data := .fields #[.none, .bool false, .ref s.heap.objs.size, rawInt 0, .none, .none] }) (s.heap.objs.size + 1) s.heap.objs.size 0 .none := by
    have z := Heap.get?_push_size (s.heap.push o) (o := { cls := .type "enumerate", data := .fields #[.none, .bool false, .ref s.heap.objs.size, rawInt 0, .none, .none] }) rfl
    rw [sz] at z
    exact z
  exact ⟨⟨_, h2, rfl⟩, q _ h2 (Heap.get?_push_of_some _ (Heap.get?_push_size _ B.free)) fun b u x => Heap.get?_push_of_some _ (Heap.get?_push_of_some _ x)⟩
def Iyt (K : Fr) (a : Addr) : L2.It where
  go := fun i H => ∃ xs x, SqT K H a xs ∧ xs[i]? = some x
  yld := fun i H v H' => ∃ (T : Addr) (o : Obj) (x : V), v = V.ref T ∧ H T = none ∧ o.dict = none ∧ H' = upd H T (.frz o (.tup [.int (i : Nat), x])) ∧ ∀ xs, SqT K H a xs → xs[i]? = some x
  stop := fun i H => ∃ xs : List V, SqT K H a xs ∧ xs.length ≤ i
theorem tup_apart {h : Heap} {a it : Addr} {i : Nat} {its : Array Value} (h1 : h.IsTuple a its) (h2 : h.IsTupleIter it a i) : a ≠ it := by
  rintro rfl
  obtain ⟨o, e, c, _⟩ := h1
  obtain ⟨o', e', c', _⟩ := h2
  rw [e] at e'
  cases e'
  rw [c] at c'
  exact absurd c' (by decide)
theorem enum_apart {h : Heap} {a e it : Addr} {i : Int} {old : Value} {its : Array Value} (h1 : h.IsTuple a its) (h2 : IsEnum h e it i old) : e ≠ a := by
  rintro rfl
  obtain ⟨o, e, c, _⟩ := h1
  have z : h.get? _ = some _ := h2
  rw [e] at z
  have z2 := congrArg Obj.cls (Option.some.inj z)
  rw [c] at z2
  exact absurd z2 (by show ¬ (Value.type "tuple" = Value.type "enumerate"); decide)
theorem turn_enT {P : Program} {w : World} {K : Fr} {elts : List Expr} {kk : Nat} {tpos : Pos} (a e it : Addr) :
    Turn P w K (.Tuple elts kk tpos) (Iyt K a) [e, it] e (fun i h => (∃ old, IsEnum h e it ((i : Nat) : Int) old) ∧ h.IsTupleIter it a i ∧ e ≠ it) where
  mem := by simp
  obj := fun i h st b hb => by
    obtain ⟨⟨old, h1⟩, ⟨o, h2, _, h3⟩, _⟩ := st
    rcases List.mem_cons.mp hb with rfl | hb
    · exact ⟨_, h1, fun v q => nomatch q⟩
    · rw [List.mem_singleton.mp hb]
      exact ⟨o, h2, fun v q => by rw [h3] at q; cases q⟩
  keep := fun i h h' ⟨⟨old, h1⟩, h2, n⟩ k => ⟨⟨old, k e (by simp) _ h1⟩, h2.at fun o q => k it (by simp) o q, n⟩
  item := by
    intro X hP hw hK hc i pins s σ H E I hf st hg
    subst hP hw hK
    obtain ⟨⟨old, h1⟩, h2, n⟩ := st
    obtain ⟨xs, x, hq, hx⟩ := hg
    obtain ⟨its, rv, p, _⟩ := I.tuple hq
    obtain ⟨u, hu, ru⟩ := rv.get hx
    have ht : s.heap.IsTuple a its.toArray := p
    have le : e < s.heap.objs.size := Heap.lt_size h1
    have li : it < s.heap.objs.size := by obtain ⟨_, q, _⟩ := h2; exact Heap.lt_size q
    have Dr := Draws.tuple (prog := X.prog) (w := X.w) (A := X.A.in1) (I.ok.hd hc) it a (tup_apart ht h2) its.toArray
    have hi : i < its.length := (List.getElem?_eq_some_iff.mp hu).1
    refine wpAny_pyNext_enum_itemD Dr h1 ⟨h2, ht⟩ (by simpa using hi) n (by simp only [List.mem_cons, List.not_mem_nil, or_false, not_or]; exact ⟨n, enum_apart ht h1⟩) fun y h' tk hy ho hst hT hsz hk => ?_
    have ey : y = u := by
      have z : its.toArray[i]? = some y := hy
      rw [List.getElem?_toArray, hu] at z
      exact (Option.some.inj z).symm
    subst ey
    refine ⟨_, rfl, wpAny_letOwnedTupleGo_enum (s := { s with heap := h', toks := tk + 1 }) ho fun h'' he' sb => ?_⟩
    have hT2 : h''.get? s.heap.objs.size = some { cls := .type "tuple", data := .seq #[.int i tk, y] } := (sb.2 _ (Nat.ne_of_gt le)).trans hT
    have I1 : Inv X pins σ (upd H s.heap.objs.size (.frz { cls := .type "tuple", data := .seq #[.int (i : Nat) tk, y] } (.tup [.int (i : Nat), x]))) { s with heap := h'', toks := tk + 1 } := by
      refine I.turnedNew (ch := [e, it]) (fun b ob hb q => ?_) hf (Nat.le_refl _) (pairZ (i := (i : Nat)) ru hT2)
      have ne : b ≠ e := fun z => hb (by simp [z])
      have ni : b ≠ it := fun z => hb (by simp [z])
      exact (sb.2 b ne).trans (hk b ob ne ni q)
    refine ⟨.ref s.heap.objs.size, _, I1, rfl, ⟨_, _, x, rfl, I.hok.fresh (Nat.le_refl _), rfl, rfl, fun ys hy => by rw [I.tuple_inj hy hq]; exact hx⟩, ⟨⟨y, ?_⟩, hst.1.at fun o q => (sb.2 it (Ne.symm n)).trans q, n⟩, fun b hb => ?_⟩
    · rw [Int.natCast_succ]
      exact he'
    · have lb : b < s.heap.objs.size := by
        rcases List.mem_cons.mp hb with rfl | hb
        · exact le
        · rw [List.mem_singleton.mp hb]; exact li
      rw [upd_ne (Nat.ne_of_lt lb)]
      exact (hf b hb).1
  done := by
    intro X hP hw hK hc i pins s σ H E I hf st hg
    subst hP hw hK
    obtain ⟨⟨old, h1⟩, h2, n⟩ := st
    obtain ⟨xs, hq, hx⟩ := hg
    obtain ⟨its, rv, p, _⟩ := I.tuple hq
    have ht : s.heap.IsTuple a its.toArray := p
    obtain ⟨f0, f1, f2, f3, f4, f5⟩ := hf it (by simp)
    have hl := rv.length
    have hle : its.toArray[i]? = none := by
      rw [List.getElem?_toArray, List.getElem?_eq_none (by omega)]
    have Dr : Draws X.prog X.w X.A.in1 it [it, a] i (fun _ _ => True) (fun j h => (h.IsTupleIter it a j ∧ h.IsTuple a its.toArray) ∧ i ≤ j) :=
      ⟨fun j h q => let ⟨o, ho, _⟩ := q.1.1; ⟨o, ho⟩, fun j h h' q k => ⟨⟨q.1.1.at fun o z => k it (by simp) o z, q.1.2.at fun o z => k a (by simp) o z⟩, q.2⟩,
        fun j s Q E hj q _ => absurd hj (Nat.not_lt.mpr q.2), fun s Q E q k => wpAny_nextOf_tuple_end (I.ok.hd hc) q.1.1 q.1.2 hle k⟩
    exact wpAny_pyNext_enum_endD Dr h1 ⟨⟨h2, ht⟩, Nat.le_refl _⟩ fun h' eb => ⟨rfl, I.turned (t' := s.toks) (fun b o hb q => eb b o hb q) f0 f1 f3 f4 f5⟩
  self := fun A i s Q E st h => by
    obtain ⟨⟨_, h1⟩, _⟩ := st
    exact wpAny_pyIter_enum h1 h
theorem pi_enT {X : Cx} {e : Expr} {ta : TA} {p pos tpos : Pos} {elts : List Expr} {kk : Nat} (hg : Gl X "enumerate") (hm : X.mg "enumerate" = none) (ha : PA X [e] ta) (hs : starEach [e] X.env = [(false, eval e X.env)] := by rfl) :
    PI X (.Tuple elts kk tpos) (.Call (.Name "enumerate" p) [e] [] pos) (iEnT X.K (Iyt X.K) ta) := by
  refine ⟨fun pins s σ H R I h => Call_ (ld_blt I hg hm boot_enumerate (PyProof.Rows.callWith_type1 (thn (ha.run pos pins s σ H _ I h) fun us s1 ⟨vs, H1, I1, r1, a, xs, ex, hq, q⟩ => ?_) hs rfl))⟩
  subst ex
  cases r1 with
  | cons r rr =>
    cases rr
    cases r
    obtain ⟨its, rv, p', _⟩ := I1.tuple hq
    refine en_call (begins_tuple a its.toArray) p' fun h' he hit hk => wpAny_pyIter_enum he ?_
    have I2 : Inv X pins σ H1 { s1 with heap := h' } := I1.kept (t' := s1.toks) hk
    refine ⟨s1.heap.objs.size + 1, [s1.heap.objs.size + 1, s1.heap.objs.size], _, _, H1, rfl, I2, turn_enT a (s1.heap.objs.size + 1) s1.heap.objs.size, ⟨⟨.none, he⟩, ⟨_, hit, rfl, rfl⟩, Nat.succ_ne_self _⟩, fun b hb => ?_, q⟩
    have le : s1.heap.objs.size ≤ b := by
      rcases List.mem_cons.mp hb with rfl | hb
      · exact Nat.le_add_right _ _
      · rw [List.mem_singleton.mp hb]; exact Nat.le_refl _
    exact I1.fpOk le (I1.hok.fresh le)
theorem wk_enT {K : Fr} {C : FC} {F0 : Hp} {a : Addr} {vs : List V} {ds : List D} (h : Tz F0 a vs) (r : RpA F0 vs ds) : Wk K C F0 (Iyt K a) (enum 0 ds) := fun F env σ H s g => by
  have ha := (h.up s).up g.ex
  have len : ∀ (k : Nat) (ds : List D), (enum k ds).length = ds.length := fun k ds => by
    induction ds generalizing k with
    | nil => rfl
    | cons d ds ih => simp [enum, ih]
  have get : ∀ (k : Nat) (ds : List D) (i : Nat) (d : D), (enum k ds)[i]? = some d → ∃ e, ds[i]? = some e ∧ d = .tuple [.int ((k + i : Nat) : Int), e] := fun k ds => by
    induction ds generalizing k with
    | nil => intro i d z; simp [enum] at z
    | cons d ds ih =>
      intro i e z
      cases i with
      | zero => simp [enum] at z; exact ⟨d, rfl, z.symm⟩
      | succ i =>
        simp only [enum, List.getElem?_cons_succ] at z
        obtain ⟨e', h1, h2⟩ := ih (k + 1) i e z
        refine ⟨e', by simpa using h1, ?_⟩
        rw [h2, show k + 1 + i = k + (i + 1) by omega]
  refine ⟨fun i hi => ⟨vs, ha.sq, by rw [r.length, ← len 0 ds]; exact hi⟩, fun i d hd => ?_⟩
  obtain ⟨e, z1, z2⟩ := get 0 ds i d hd
  obtain ⟨v, h1, h2⟩ := r.getd z1
  refine ⟨⟨vs, v, ha.sq, h1⟩, fun x H' ⟨T, o, y, e1, e2, eo, e3, hy⟩ => ?_⟩
  have e4 := hy vs (ha.sq)
  rw [h1] at e4; cases e4
  subst e1 e3 z2
  have hf := Same.none g.ex e2
  refine ⟨_, g.newF e2, Stp.newF g.ex e2, .tup ⟨o, upd_same, eo⟩ (.cons ?_ (.cons ((h2.up s).up (same_upd hf)) .nil))⟩
  rw [Nat.zero_add]
  exact .int _
section
variable {X : Cx} {C : FC} {f : M RV}
theorem ji_enum {e : Expr} {p pos tpos : Pos} {elts : List Expr} {kk : Nat} (hg : Gl X "enumerate") (hm : X.mg "enumerate" = none) (h : JE X C e f) (hs : starEach [e] X.env = [(false, eval e X.env)] := by rfl) :
    JI X C (.Tuple elts kk tpos) (.Call (.Name "enumerate" p) [e] [] pos) (itEn (itSeq f)) := by
  have ha : PA X [e] (tCons (tJ X.K C f) tNil) := pa_cons h pa_nil hs
  exact ji_en (pi_enZ hg hm ha hs) (pi_enT hg hm ha hs) fun F0 a vs ds h r => wk_enT h r
end
end J
namespace J
open PySem L2
/-! ### the built-ins, each by its name -/
theorem bt_abs : bootBuiltins "abs" = some (.builtin "abs") := by decide +kernel
theorem bt_len : bootBuiltins "len" = some (.builtin "len") := by decide +kernel
theorem bt_sum : bootBuiltins "sum" = some (.builtin "sum") := by decide +kernel
theorem bt_all : bootBuiltins "all" = some (.builtin "all") := by decide +kernel
theorem bt_any : bootBuiltins "any" = some (.builtin "any") := by decide +kernel
theorem bt_max : bootBuiltins "max" = some (.builtin "max") := by decide +kernel
theorem bt_min : bootBuiltins "min" = some (.builtin "min") := by decide +kernel
theorem bt_isinstance : bootBuiltins "isinstance" = some (.builtin "isinstance") := by decide +kernel
theorem bt_sorted : bootBuiltins "sorted" = some (.builtin "sorted") := by decide +kernel
theorem bt_divmod : bootBuiltins "divmod" = some (.builtin "divmod") := by decide +kernel
theorem bt_int : bootBuiltins "int" = some (.type "int") := by decide +kernel
theorem bt_list : bootBuiltins "list" = some (.type "list") := by decide +kernel
theorem bt_tuple : bootBuiltins "tuple" = some (.type "tuple") := by decide +kernel
theorem bt_bool : bootBuiltins "bool" = some (.type "bool") := by decide +kernel
theorem bt_str : bootBuiltins "str" = some (.type "str") := by decide +kernel
theorem bt_range : bootBuiltins "range" = some (.type "range") := by decide +kernel
theorem bt_enumerate : bootBuiltins "enumerate" = some (.type "enumerate") := by decide +kernel
theorem bt_reversed : bootBuiltins "reversed" = some (.type "reversed") := by decide +kernel
theorem bt_zip : bootBuiltins "zip" = some (.type "zip") := by decide +kernel
section
variable {X : Cx} {C : FC} {a b c e : Expr} {es : List Expr} {p pos : Pos} {fa fb f : M RV} {ft : M Bool} {k : Nat}
theorem j_abs (hm : X.mg "abs" = none) (ha : JE X C a fa) (hg : Gl X "abs" := by rfl) (hs : starEach [a] X.env = (false, eval a X.env) :: starEach [] X.env := by rfl) :
    JE X C (.Call (.Name "abs" p) [a] [] pos) (eOp1 absD fa) := je_b s_abs (pe_callB call_abs hg hm bt_abs (pa_cons ha pa_nil hs) (he := hs))
theorem j_len (hm : X.mg "len" = none) (ha : JE X C a fa) (hg : Gl X "len" := by rfl) (hs : starEach [a] X.env = (false, eval a X.env) :: starEach [] X.env := by rfl) :
    JE X C (.Call (.Name "len" p) [a] [] pos) (eOp1 lenD fa) := je_b s_len (pe_callB call_len_seq hg hm bt_len (pa_cons ha pa_nil hs) (he := hs))
theorem j_int (hm : X.mg "int" = none) (ha : JE X C a fa) (hg : Gl X "int" := by rfl) (hs : starEach [a] X.env = (false, eval a X.env) :: starEach [] X.env := by rfl) :
    JE X C (.Call (.Name "int" p) [a] [] pos) (eOp1 intD fa) := je_b s_intc (pe_callTy call_int1 hg hm bt_int (pa_cons ha pa_nil hs) (he := hs))
theorem j_list (hm : X.mg "list" = none) (ha : JE X C a fa) (hg : Gl X "list" := by rfl) (hs : starEach [a] X.env = (false, eval a X.env) :: starEach [] X.env := by rfl) :
    JE X C (.Call (.Name "list" p) [a] [] pos) (eOp1 listD fa) := je_b s_list (pe_callTy call_list_of hg hm bt_list (pa_cons ha pa_nil hs) (he := hs))
theorem j_tuple (hm : X.mg "tuple" = none) (ha : JE X C a fa) (hg : Gl X "tuple" := by rfl) (hs : starEach [a] X.env = (false, eval a X.env) :: starEach [] X.env := by rfl) :
    JE X C (.Call (.Name "tuple" p) [a] [] pos) (eOp1 tupleD fa) := je_b s_tuple (pe_callTy call_tupleZ hg hm bt_tuple (pa_cons ha pa_nil hs) (he := hs))
theorem j_sum (hm : X.mg "sum" = none) (ha : JE X C a fa) (hc : X.calm = true := by rfl) (hg : Gl X "sum" := by rfl) (hs : starEach [a] X.env = (false, eval a X.env) :: starEach [] X.env := by rfl) :
    JE X C (.Call (.Name "sum" p) [a] [] pos) (eOp1 sumD fa) := je_b s_sum (pe_callB (cr_sum hc) hg hm bt_sum (pa_cons ha pa_nil hs) (he := hs))
theorem j_all (hm : X.mg "all" = none) (ha : JE X C a fa) (hc : X.calm = true := by rfl) (hg : Gl X "all" := by rfl) (hs : starEach [a] X.env = (false, eval a X.env) :: starEach [] X.env := by rfl) :
    JE X C (.Call (.Name "all" p) [a] [] pos) (eOp1 allD fa) := je_b s_all (pe_callB (cr_all hc) hg hm bt_all (pa_cons ha pa_nil hs) (he := hs))
theorem j_any (hm : X.mg "any" = none) (ha : JE X C a fa) (hc : X.calm = true := by rfl) (hg : Gl X "any" := by rfl) (hs : starEach [a] X.env = (false, eval a X.env) :: starEach [] X.env := by rfl) :
    JE X C (.Call (.Name "any" p) [a] [] pos) (eOp1 anyD fa) := je_b s_any (pe_callB (cr_any hc) hg hm bt_any (pa_cons ha pa_nil hs) (he := hs))
theorem j_max (hm : X.mg "max" = none) (ha : JE X C a fa) (hb : JE X C b fb) (hc : X.calm = true := by rfl) (hg : Gl X "max" := by rfl) (hs : starEach [a, b] X.env = (false, eval a X.env) :: starEach [b] X.env := by rfl)
    (hs2 : starEach [b] X.env = (false, eval b X.env) :: starEach [] X.env := by rfl) (hpl : (backTo pos (starEach [b] X.env)).any (·.1) = false := by rfl) :
    JE X C (.Call (.Name "max" p) [a, b] [] pos) (eOp2 maxD fa fb) := je_bb s_max (pe_callB (call_max2 hc) hg hm bt_max (pa_cons ha (pa_cons hb pa_nil hs2) hs) (he := hs) (hpl := hpl))
theorem j_min (hm : X.mg "min" = none) (ha : JE X C a fa) (hb : JE X C b fb) (hc : X.calm = true := by rfl) (hg : Gl X "min" := by rfl) (hs : starEach [a, b] X.env = (false, eval a X.env) :: starEach [b] X.env := by rfl)
    (hs2 : starEach [b] X.env = (false, eval b X.env) :: starEach [] X.env := by rfl) (hpl : (backTo pos (starEach [b] X.env)).any (·.1) = false := by rfl) :
    JE X C (.Call (.Name "min" p) [a, b] [] pos) (eOp2 minD fa fb) := je_bb s_min (pe_callB (call_min2 hc) hg hm bt_min (pa_cons ha (pa_cons hb pa_nil hs2) hs) (he := hs) (hpl := hpl))
/-- isinstance(a, T) -/
theorem je_isi {T : Ty} {ce : Expr} (h : PE X ce (tCB (rIsi X.K) (tCons (tJ X.K C fa) (tCons (tC (.ty (tyN T))) tNil)))) : JE X C ce (eOp1 (isiD T) fa) :=
  pe_weak h fun σ H Q z => by
    have S : SU (fun x H1 Q => rIsi X.K ([x] ++ [V.ty (tyN T)]) H1 Q) (isiD T) := fun F H x d rt Q s v e q => s_isi (X := X) T F H x d rt Q s v e q
    have w := un_run S z
    exact w
theorem j_isi_int (hm : X.mg "isinstance" = none) (ht : X.mg "int" = none) (ha : JE X C a fa) (hg : Gl X "isinstance" := by rfl) (hgt : Gl X "int" := by rfl) {q : Pos} (hs : starEach [a, .Name "int" q] X.env = (false, eval a X.env) :: starEach [.Name "int" q] X.env := by rfl) :
    JE X C (.Call (.Name "isinstance" p) [a, .Name "int" q] [] pos) (eOp1 (isiD .int) fa) := je_isi (T := .int) (pe_callB call_isi hg hm bt_isinstance (pa_cons ha (pa_cons (pe_bltn hgt ht bt_int rfl) pa_nil rfl) hs) (he := hs))
theorem j_isi_bool (hm : X.mg "isinstance" = none) (ht : X.mg "bool" = none) (ha : JE X C a fa) (hg : Gl X "isinstance" := by rfl) (hgt : Gl X "bool" := by rfl) {q : Pos} (hs : starEach [a, .Name "bool" q] X.env = (false, eval a X.env) :: starEach [.Name "bool" q] X.env := by rfl) :
    JE X C (.Call (.Name "isinstance" p) [a, .Name "bool" q] [] pos) (eOp1 (isiD .bool) fa) := je_isi (T := .bool) (pe_callB call_isi hg hm bt_isinstance (pa_cons ha (pa_cons (pe_bltn hgt ht bt_bool rfl) pa_nil rfl) hs) (he := hs))
theorem j_isi_list (hm : X.mg "isinstance" = none) (ht : X.mg "list" = none) (ha : JE X C a fa) (hg : Gl X "isinstance" := by rfl) (hgt : Gl X "list" := by rfl) {q : Pos} (hs : starEach [a, .Name "list" q] X.env = (false, eval a X.env) :: starEach [.Name "list" q] X.env := by rfl) :
    JE X C (.Call (.Name "isinstance" p) [a, .Name "list" q] [] pos) (eOp1 (isiD .list) fa) := je_isi (T := .list) (pe_callB call_isi hg hm bt_isinstance (pa_cons ha (pa_cons (pe_bltn hgt ht bt_list rfl) pa_nil rfl) hs) (he := hs))
theorem j_isi_tuple (hm : X.mg "isinstance" = none) (ht : X.mg "tuple" = none) (ha : JE X C a fa) (hg : Gl X "isinstance" := by rfl) (hgt : Gl X "tuple" := by rfl) {q : Pos} (hs : starEach [a, .Name "tuple" q] X.env = (false, eval a X.env) :: starEach [.Name "tuple" q] X.env := by rfl) :
    JE X C (.Call (.Name "isinstance" p) [a, .Name "tuple" q] [] pos) (eOp1 (isiD .tuple) fa) := je_isi (T := .tuple) (pe_callB call_isi hg hm bt_isinstance (pa_cons ha (pa_cons (pe_bltn hgt ht bt_tuple rfl) pa_nil rfl) hs) (he := hs))
theorem j_isi_str (hm : X.mg "isinstance" = none) (ht : X.mg "str" = none) (ha : JE X C a fa) (hg : Gl X "isinstance" := by rfl) (hgt : Gl X "str" := by rfl) {q : Pos} (hs : starEach [a, .Name "str" q] X.env = (false, eval a X.env) :: starEach [.Name "str" q] X.env := by rfl) :
    JE X C (.Call (.Name "isinstance" p) [a, .Name "str" q] [] pos) (eOp1 (isiD .str) fa) := je_isi (T := .str) (pe_callB call_isi hg hm bt_isinstance (pa_cons ha (pa_cons (pe_bltn hgt ht bt_str rfl) pa_nil rfl) hs) (he := hs))
/-! ### the script -/
theorem j_scLen {i : Nat} (hm : X.mg "len" = none) (ha : PE X a (tVar i)) (hg : Gl X "len" := by rfl) (hs : starEach [a] X.env = (false, eval a X.env) :: starEach [] X.env := by rfl) : JE X C (.Call (.Name "len" p) [a] [] pos) (eScLen i) :=
  je_scLen (fun p ys H Q h q => ⟨p, ys, rfl, .inl h, q⟩) (pe_callB call_len_seq hg hm bt_len (pa_cons ha pa_nil hs) (he := hs))
theorem j_scIx {i : Nat} (ha : PE X a (tVar i)) (hb : JE X C b f) (hs : PlainIx b := by intro _ _; rfl) : JE X C (.Subscript a b pos) (eScIx i f) := je_scIx (pe_ix ix_seq ha hb hs)
theorem j_scSl {i : Nat} {lo hi : Option Expr} {p2 : Pos} {gl gh : M (Option Int)} (ha : PE X a (tVar i)) (hl : JO X C lo gl) (hh : JO X C hi gh) : JE X C (.Subscript a (.Slice lo hi none p2) pos) (eScSl i gl gh) := je_scSl (pe_slice sl_list ha hl hh)
theorem j_ix (ha : JE X C a fa) (hb : JE X C b fb) (hs : PlainIx b := by intro _ _; rfl) : JE X C (.Subscript a b pos) (eOp2 ixD fa fb) := je_ix ix_seq s_ix ha hb hs
theorem j_sl {lo hi : Option Expr} {p2 : Pos} {gl gh : M (Option Int)} (ha : JE X C a fa) (hl : JO X C lo gl) (hh : JO X C hi gh) : JE X C (.Subscript a (.Slice lo hi none p2) pos) (eSl slD fa gl gh) := je_sl (sl_list.or (sl_tupZ.or sl_tupW)) s_sl ha hl hh
/-! ### statements -/
theorem js_asgF {st : Stmt} {i : Nat} {mp : List Nat} (hc : C.mp = mp) (hm : i ∉ mp) (h : PS X st (tAsg (tJ X.K C f) (gName i))) : JS X C st (sUnp (gNm i) f) := by
  subst hc
  refine ps_weak h fun D' σ H ⟨F, env, fl, hd, he, q⟩ => ?_
  simp only [sUnp] at he
  split at he
  · cases he
  rename_i x e1 h1
  split at he
  · cases he
  rename_i d e2 h2
  simp only [gNm] at he
  cases he
  refine tJ.go hd h1 fun F1 H1 v s1 g1 r1 => ?_
  obtain ⟨F2, s2, g2, r2, _⟩ := g1.fzv hd s1 r1 h2
  exact q F2 _ H1 s2.exF (g2.asgF r2 hm)
theorem js_extL {i : Nat} {st : Stmt} (h : PS X st (tDrop (tBM X.K "list" rExtend (tVar i) (tCons (tJ X.K C f) tNil)))) : JS X C st (sExtL i f) := by
  refine ps_weak h fun D' σ H ⟨F, env, fl, hd, he, q⟩ => ?_
  simp only [sExtL] at he
  split at he
  · rename_i ds0 h0
    split at he
    · cases he
    rename_i x e1 h1
    split at he
    · rename_i es h2
      split at he
      · rename_i ds h3
        split at he
        · rename_i hlen
          cases he
          obtain ⟨a, vs0, p1, p2, _⟩ := hd.ow i ds0 h0
          refine ⟨_, p1, .inl ⟨rfl, _, SqL.of p2⟩, tJ.go hd h1 fun F1 H1 v s1 g1 r1 => ?_⟩
          obtain ⟨b, vs, q1, q2, q3, q4, q5⟩ := g1.ow i ds h3
          rw [p1] at q1; cases q1
          show rExtend (.ref a) [v] H1 (fun _ H2 => D'.nx σ H2)
          refine s_ext (ds := ds) g1.ex (g1.vw r1 h2) ⟨es, rfl⟩ rfl q2 q4.length hlen fun ws rw' => ?_
          exact q F1 σ _ s1.exF (g1.write h3 p1 (q4.append rw')).1
        · cases he
      · cases he
    · cases he
  · cases he
theorem js_aug {st : Stmt} {i : Nat} {g : Int → Int → Int} {mp : List Nat} (hc : C.mp = mp) (hm : i ∉ mp) (h : PS X st (tAug i (tJ X.K C f) (ipI g))) : JS X C st (sAug i g f) := by
  subst hc
  refine ps_weak h fun D' σ H ⟨F, env, fl, hd, he, q⟩ => ?_
  simp only [sAug] at he
  split at he
  · rename_i n h0
    split at he
    · rename_i m e1 h1
      cases he
      obtain ⟨w, z1, z2⟩ := hd.fz i _ h0
      cases z2
      refine ⟨_, z1, tJ.go hd h1 fun F1 H1 v s1 g1 r1 => ?_⟩
      have r1' : Rp F1 v (.int m) := r1
      cases r1'
      exact ⟨n, m, rfl, rfl, q F1 _ H1 s1.exF (g1.asgF (.int _) hm)⟩
    · cases he
  · cases he
/-- y = [..] -/
theorem lc_ps {st : Stmt} {i : Nat} {er mp : List Nat} {g : G} {it : M (List D)} {fe : M RV} (hc : C.mp = mp) (hm : ∀ i ∈ er, i ∉ mp) (hn : ∀ d env env', g d env = some env' → NoNew env env')
    (h : PS X st (tAsg (tLc (tiJ X.K C it) (tgJ X.K C er g) (ttJ X.K C ft) (tJ X.K C fe) er) (gName i))) : PS X st (tAsg (tJ X.K C (eLc er g it ft fe)) (gName i)) := ps_weak h fun D' σ H z => lc_run hc hm hn z
theorem jgx (sl : List Nat) {tg : Expr} {g : G} (h : JG X C sl tg g) : JG X C sl tg g := h
theorem j_app {i : Nat} {o : Expr} {ap cp sp : Pos} (ho : PE X o (tVar i)) (ha : JE X C a f) (h : ∀ {te : TE}, PE X (.Call (.Attribute o "append" ap) [a] [] cp) te → PS X (.Expr (.Call (.Attribute o "append" ap) [a] [] cp) sp) (tDrop te))
    (h2 : ∀ {t : TA}, PA X [a] t → PE X (.Call (.Attribute o "append" ap) [a] [] cp) (tBM X.K "list" rAppend (tVar i) t)) (hs : starEach [a] X.env = (false, eval a X.env) :: starEach [] X.env := by rfl) : JS X C (.Expr (.Call (.Attribute o "append" ap) [a] [] cp) sp) (sApp i f) :=
  js_app (h (h2 (pa_cons ha pa_nil hs)))
/-! ### calls -/
def Cal (P : Program) (w : World) (K : Fr) (mg : Str → Option Value) (base : Heap) (x : Str) (k : Nat) (ps : List Str) (ks : List PK) (fn : FnS) : Prop :=
  ∃ (fa : Addr) (fd : FuncData), FnOk P w K mg base CX0 k fa fd ps (spJ K ks fn) ∧ mg x = some (.ref fa) ∧ PySem.W.keepIn K (.ref fa) = true ∧ Binds K fd ps []
theorem j_call {x : Str} {kg : Nat} {ps : List Str} {ks : List PK} {fn : FnS} {as : List Ar} (Cg : Cal X.prog X.w X.K X.mg X.base x kg ps ks fn) (hr : Room k X.A) (hk : kg ≤ k) (ha : JAr X C (e :: es) as) (hf : fits ks as = true) (hg : Gl X x := by rfl)
    (hdb : (x == ("__debug__" : Str)) = false := by decide) (he : starEach (e :: es) X.env = (false, eval e X.env) :: starEach es X.env := by rfl) (hpl : (backTo pos (starEach es X.env)).any (·.1) = false := by rfl) : JE X C (.Call (.Name x p) (e :: es) [] pos) (eCall fn as) := by
  obtain ⟨fa, fd, F, hm, kp, hb⟩ := Cg
  exact je_call hf (pe_call F (hr.mono hk) hg hm kp hb .nil pass0 ha hdb he hpl)
end
/-! ### the law's head -/
theorem sp_law {K : Fr} {fn : FnS} {H : Hp} {a : Addr} {ns : List Int} (ho : Only H) (hs : SqL K H a (ns.map V.int)) (h : fn [.list (ns.map PyData.int)] = some (.fz (.bool true), [])) : spJ K [.sc] fn [.ref a] H (fun v _ => v = .bl true) fun _ _ _ => False := by
  refine ⟨fun _ => none, [.list (ns.map PyData.int)], .fz (.bool true), [], (fun a o z => by cases z), .cons ⟨a, ns, rfl, rfl, ?_⟩ .nil, List.nodup_nil, h, fun v F' H' _ _ _ _ _ _ r => ?_⟩
  · rcases hs with z | z
    · exact .inl ⟨z, by simp [mutA]⟩
    · exact .inr z
  · have r' : Rp F' v (.bool true) := r
    cases r'
    rfl
theorem jwalk {l : PySem.W.OpenLaw} {k : Nat} {q : Program} {loose : List Str} {XP : (Str → Option Value) → Heap → Prop} {YP : World → Heap → Prop} {d : DefRec} {K : Params → Fr} {fn : FnS} {x : Str} (hn : l.most = some 63) (hdf : d.params.defaults = []) (hr : Room k callerA)
    (hY : ∀ (w : World) (h : Heap), YP w h → (K w.params).In h) (hp : ∀ ns : List Int, ns.length ≤ 63 → fn [.list (ns.map PyData.int)] = some (.fz (.bool true), []))
    (F : ∀ (w : World) (mg : Str → Option Value) (fa : Addr) (h : Heap), (K w.params).In h → h.Ns mainGlobals mg → mg d.name = some (.ref fa) →
      ∃ fd : FuncData, (∀ (s : Shared) (u : Value), BindsTo s fd ⟨[u], []⟩ [(x, u)]) ∧ ∀ base : Heap, (K w.params).In base → base.Ns mainGlobals mg → FnOk l.prog w (K w.params) mg base CX0 k fa fd [x] (spJ (K w.params) [.sc] fn)) :
    PySem.W.WalkO q loose XP YP l.row.toRowW d [] (fun f vs => PySem.call f vs) :=
  L2.walk_of (n := 63) (CX := fun _ => CX0) (sp := fun w => spJ (K w.params) [.sc] fn) hn (by decide) hdf hr hY F (fun w H a ns hl ho hs => sp_law ho hs (hp ns hl)) fun _ _ _ _ _ z => z
end J
namespace J
open PySem L2 PySem.Spec PyProof.Rows
/-! ### t[::-1], t a tuple -/
theorem back_places (n : Nat) : Builtin.Slice.slicePlaces ((n : Int) - 1) (-1) (-1) = n := by
  unfold Builtin.Slice.slicePlaces
  rw [if_neg (by decide)]
  by_cases h : (n : Int) - 1 > -1
  · rw [if_pos h, show (n : Int) - 1 - -1 - 1 = (n : Int) - 1 by omega, show (- -1 : Int) = 1 by decide, Int.ediv_one]
    omega
  · rw [if_neg h]
    omega
theorem fm_congr {α β : Type} {f g : α → Option β} : ∀ {l : List α}, (∀ x ∈ l, f x = g x) → l.filterMap f = l.filterMap g
  | [], _ => rfl
  | a :: l, h => by
    rw [List.filterMap_cons, List.filterMap_cons, h a List.mem_cons_self, fm_congr fun x hx => h x (List.mem_cons_of_mem _ hx)]
theorem back_pick (xs : Array Value) : ((List.range xs.size).filterMap fun (k : Nat) => xs[((xs.size : Int) - 1 + (k : Int) * -1).toNat]?).toArray = xs.toList.reverse.toArray := by
  congr 1
  apply List.ext_getElem?
  intro i
  rw [show (List.range xs.size).filterMap (fun (k : Nat) => xs[((xs.size : Int) - 1 + (k : Int) * -1).toNat]?) = (List.range xs.size).map (fun k => xs.toList.reverse[k]?.getD .none) by
    rw [← List.filterMap_eq_map]
    apply fm_congr
    intro k hk
    have hk' := List.mem_range.mp hk
    have e : ((xs.size : Int) - 1 + (k : Int) * -1).toNat = xs.size - 1 - k := by omega
    show xs[((xs.size : Int) - 1 + (k : Int) * -1).toNat]? = some (xs.toList.reverse[k]?.getD .none)
    rw [e, List.getElem?_reverse (by rw [Array.length_toList]; exact hk'), Array.length_toList, ← Array.getElem?_toList]
    have hlt : xs.size - 1 - k < xs.toList.length := by rw [Array.length_toList]; omega
    rw [List.getElem?_eq_getElem hlt]
    rfl]
  rw [List.getElem?_map]
  rcases Nat.lt_or_ge i xs.size with h | h
  · rw [List.getElem?_range h, Option.map_some]
    have hlt : i < xs.toList.reverse.length := by rw [List.length_reverse, Array.length_toList]; exact h
    rw [List.getElem?_eq_getElem hlt]
    rfl
  · rw [List.getElem?_eq_none (by rw [List.length_range]; exact h), List.getElem?_eq_none (by rw [List.length_reverse, Array.length_toList]; exact h)]
    rfl
theorem back_applied {prog : Program} {w : World} {A : Around} {E : Value → Shared → Prop} {s : Shared} {sl : Addr} {vs : Value} {n : Nat} {Q : Int × Int × Nat → Shared → Prop} (hs : s.heap.IsSliceOf sl .none .none vs) (ps : IsPart vs (some (-1)))
    (q : Q ((n : Int) - 1, -1, n) s) : wpAny (model prog w) A (Builtin.Slice.sliceApplied (.ref sl) (pure (n : Int))) Q E s := by
  obtain ⟨o, ho, hc, hd⟩ := id hs
  unfold Builtin.Slice.sliceApplied Builtin.Slice.sliceFields
  refine wpAny_bind (wpAny_bind (wpAny_field ho hd (x := .none) rfl (wpAny_bind (wpAny_field ho hd (x := .none) rfl (wpAny_bind (wpAny_field ho hd (x := vs) rfl (wpAny_pure ?_)))))))
  refine wpAny_bind (HT.slicePart_ ps ?_)
  show wpAny _ _ (if ((-1 : Int) == 0) = true then _ else _) _ _ s
  rw [if_neg (by decide)]
  refine wpAny_bind (slicePart_none (wpAny_bind (slicePart_none (wpAny_bind (wpAny_pure ?_)))))
  show wpAny _ _ (pure ((n : Int) - 1, (-1 : Int), Builtin.Slice.slicePlaces ((n : Int) - 1) (-1) (-1))) _ _ s
  rw [back_places]
  exact wpAny_pure q
theorem back_tuple {prog : Program} {w : World} {A : Around} {E : Value → Shared → Prop} {s : Shared} {t sl : Addr} {xs : Array Value} {vs : Value} {Q : Value → Shared → Prop} (ht : IsTup s.heap t xs) (hs : s.heap.IsSliceOf sl .none .none vs) (ps : IsPart vs (some (-1))) (hz : xs.size ≤ sizeLine)
    (q : Q (.ref s.heap.objs.size) { s with heap := s.heap.push { cls := .type "tuple", data := .seq xs.toList.reverse.toArray } }) : wpAny (model prog w) A (getItem (.ref t) (.ref sl)) Q E s := by
  have hok : sizeOk (.seq xs.toList.reverse.toArray) := by
    show xs.toList.reverse.toArray.size ≤ sizeLine
    rw [List.size_toArray, List.length_reverse, Array.length_toList]
    exact hz
  obtain ⟨o, ho, hc, hd⟩ := id hs
  have hT : s.TypeIs (.ref sl) "slice" := ⟨o, ho, hc⟩
  unfold getItem
  try with_reducible refine wpAny_holding ?_
  first
    | refine wpAny_bind (wpAny_pure ?_)
    | skip
  refine wpAny_bind (wpAny_sequenceKey ht.typeIs (by decide) ?_)
  refine wpAny_bind (wpAny_callSpecial?_slot (name := Str.ofString "__getitem__") ht.typeIs PyProof.Rows.slot_tuple_getitem (wpAny_call_entry PyProof.Rows.slot_tuple_getitem ht.typeIs entry_tuple_getitem ?_ (args_tuple_getitem _ _)))
  show wpAny _ _ (Builtin.Tuple.tupleItemsOf (.ref t) >>= fun xs => _) _ _ s
  refine wpAny_bind (tupleItemsOf_ ht (wpAny_bind (wpAny_typeOf hT ?_)))
  rw [if_pos (by decide)]
  refine wpAny_bind (back_applied hs ps ?_)
  show wpAny _ _ (if (((xs.size : Int) - 1 == 0) && (-1 : Int) == 1 && xs.size == xs.size) = true then _ else _) _ _ s
  rw [if_neg (by intro z; rw [Bool.and_eq_true, Bool.and_eq_true] at z; exact absurd (eq_of_beq z.1.2) (by decide)), back_pick]
  first
    | exact wpAny_bind (m := Builtin.Tuple.tupleExact _) (wpAny_newObj_type (wpAny_pure ⟨_, rfl, wpAny_pure q⟩) hok)
    | exact wpAny_bind (wpAny_bind (m := Builtin.Tuple.tupleExact _) (wpAny_newObj_type (wpAny_pure (wpAny_pure ⟨_, rfl, wpAny_pure q⟩)) hok))
    | exact wpAny_bind (m := Builtin.Tuple.tupleExact _) (wpAny_newObj_type (wpAny_bind (wpAny_pure (wpAny_pure ⟨_, rfl, wpAny_pure q⟩))) hok)
def tRevT (K : Fr) (te : TE) : TE := fun σ H Q => te σ H fun x H1 => ∃ a xs, x = .ref a ∧ SqT K H1 a xs ∧ LaysT H1 xs.reverse Q
theorem pe_revT {X : Cx} {e : Expr} {te : TE} {k : Nat} {p1 p2 p3 pos : Pos} (he : PE X e te) : PE X (.Subscript e (.Slice none none (some (.UnaryOp .USub (.Constant (.int 1) k p1) p2)) p3) pos) (tRevT X.K te) :=
  ⟨fun pins s σ H Q I h => by
    refine Subscript_ (thn (he.run pins s σ H _ I h) fun v s1 ⟨x, H1, J1, rx, a, xs, ex, hx, q⟩ => ?_)
    subst ex
    cases rx
    have st : PO X (some (.UnaryOp .USub (.Constant (.int 1) k p1) p2)) (tPart (tUn (rU fun i => .int (-i)) (tC (.int 1)))) := po_some (pe_un un_neg pe_int)
    refine wpAny_Slice (thn (po_none.run pins s1 σ H1 (fun o G => o = none ∧ G = H1) J1 ⟨rfl, rfl⟩) fun vl s2 ⟨l, G2, J2, pl, el, e2⟩ => ?_)
    subst el e2
    refine thn (po_none.run pins s2 σ G2 (fun o G => o = none ∧ G = G2) J2 ⟨rfl, rfl⟩) fun vu s3 ⟨u, G3, J3, pu, eu, e3⟩ => ?_
    subst eu e3
    refine thn (st.run pins s3 σ G3 (fun o G => o = some (-1) ∧ G = G3) J3 ⟨1, rfl, -1, rfl, rfl, rfl⟩) fun vs s4 ⟨o, G4, J4, ps, eo, e4⟩ => ?_
    subst eo e4
    cases pl
    cases pu
    have J5 : Inv X pins σ G4 { s4 with heap := s4.heap.push { cls := .type "slice", data := .fields #[.none, .none, vs] } } := J4.kept (t' := s4.toks) fun b ob z => Heap.get?_push_of_some _ z
    obtain ⟨its, r, ht, hz⟩ := J5.tuple hx
    have hlen := r.length
    have ht' : IsTup (s4.heap.push { cls := .type "slice", data := .fields #[.none, .none, vs] }) a its.toArray := ht
    show wpAny (model X.prog X.w) X.A (subscriptTail e (.Slice none none (some (.UnaryOp .USub (.Constant (.int 1) k p1) p2)) p3) (.ref a) (.ref s4.heap.objs.size)) _ X.xe { s4 with heap := s4.heap.push { cls := .type "slice", data := .fields #[.none, .none, vs] } }
    refine tail_any (ops := [.ref a, .ref s4.heap.objs.size]) ht'.typeIs (PyProof.Rows.slot_tuple_getitem.lookup) ?_ (by with_unfolding_all rfl)
    refine back_tuple ht' (Heap.IsSliceOf.new _ .none .none vs) ps (by rw [List.size_toArray]; omega) ?_
    exact layZ (t := s4.toks) J5 (by rw [List.length_reverse]; exact hz) r.reverse q⟩
/-- one of two ways -/
theorem pe_or {X : Cx} {e : Expr} {t u : TE} (h1 : PE X e t) (h2 : PE X e u) : PE X e (fun σ H Q => t σ H Q ∨ u σ H Q) := ⟨fun pins s σ H Q I h => h.elim (h1.run pins s σ H Q I) (h2.run pins s σ H Q I)⟩
section
variable {X : Cx} {C : FC} {a b c e : Expr} {es : List Expr} {p pos : Pos} {fa fb f : M RV} {ft : M Bool} {k : Nat}
theorem rev_run {K : Fr} {f : M RV} {σ : L2.St} {H : Hp} {Q : VK} (h : tJ K C (eOp1 revD f) σ H Q) : tRevL K (tJ K C f) σ H Q ∨ tRevT K (tJ K C f) σ H Q := by
  obtain ⟨F, env, rv, env', hd, he, q⟩ := h
  simp only [eOp1] at he
  split at he
  · cases he
  rename_i x e1' ha
  split at he
  · cases he
  rename_i d hdx
  split at he
  · cases he
  rename_i rt hg
  cases he
  cases d <;> simp only [revD] at hg <;> cases hg
  · refine .inl (tJ.go hd ha fun F1 H1 v s1 h1 r1 => ?_)
    obtain ⟨l, vs, rfl, g1, g2⟩ := h1.vw r1 hdx
    exact ⟨l, vs, rfl, SqL.of g1, fun a ha => POp.end h1 s1 q a _ ha g2.reverse⟩
  · refine .inr (tJ.go hd ha fun F1 H1 v s1 h1 r1 => ?_)
    cases (show Rp F1 v _ from h1.vw r1 hdx) with
    | tup g1 g2 => exact ⟨_, _, rfl, (g1.up h1.ex).sq, fun a o ha ho => POp.end h1 s1 q _ _ _ (.inr ⟨a, o, _, ha, ho, rfl, rfl⟩) (.tup ⟨o, upd_same, ho⟩ (g2.reverse.up (same_upd (Same.none h1.ex ha))))⟩
theorem j_rev {k : Nat} {p1 p2 p3 pos : Pos} (ha : JE X C a fa) : JE X C (.Subscript a (.Slice none none (some (.UnaryOp .USub (.Constant (.int 1) k p1) p2)) p3) pos) (eOp1 revD fa) :=
  pe_weak (pe_or (pe_revL ha) (pe_revT ha)) fun σ H Q h => rev_run h
end
/-! ### calls whose first argument is a fresh list -/
section
variable {X : Cx} {C : FC} {a b c e : Expr} {es : List Expr} {p pos : Pos} {fa fb f : M RV} {ft : M Bool} {k : Nat}
theorem j_callT {x : Str} {kg : Nat} {ps : List Str} {ks : List PK} {fn : FnS} {as : List Ar} (Cg : Cal X.prog X.w X.K X.mg X.base x kg ps (.mt :: ks) fn) (hr : Room k X.A) (hk : kg ≤ k) (he0 : JE X C e f) (ha : JAr X C es as) (hf : fits ks as = true) (hg : Gl X x := by rfl)
    (hdb : (x == ("__debug__" : Str)) = false := by decide) (he : starEach (e :: es) X.env = (false, eval e X.env) :: starEach es X.env := by rfl) (hpl : (backTo pos (starEach es X.env)).any (·.1) = false := by rfl) : JE X C (.Call (.Name x p) (e :: es) [] pos) (eCallT fn f as) := by
  obtain ⟨fa, fd, F, hm, kp, hb⟩ := Cg
  exact je_callT hf (pe_call F (hr.mono hk) hg hm kp hb .nil pass0 (pa_cons he0 ha he) hdb he hpl)
/-! ### defs of any number of arguments -/
def spV (K : Fr) (fn : FnS) : Sp := fun vs H Q _ => ∃ F ds r, Same F H ∧ RpA F vs ds ∧ vs.length ≤ sizeLine ∧ fn [.tuple ds] = some (r, []) ∧
  ∀ v F' H', Same F F' → Same F' H' → (∀ a o, H a = some o → H' a = some o) → (∀ a, H' a = none → H a = none) → (∀ a, F' a ≠ none → F a ≠ none ∨ H a = none) → ResR H F' H' r v → Q v H'
/-! def f(*v) -/
section
variable {P : Program} {w : World} {K : Fr} {mg : Str → Option Value} {base : Heap}
theorem fnz_star {x qual pv : Str} {st : Stmt} {N : List Str} {k : Nat} {f : Addr} {oc : Value} {od an : Option Addr} {kV doc pm cdv ct : Value} {osl : Array (Option Value)} {sp : Sp}
    (lk : K.lookup f = some ⟨oc, od, .func (PySem.W.fnOf x qual (defArgs st) (defBody st) (defScope st) .none kV doc pm an cdv ct), osl⟩) (hcd : PySem.W.codeIn K cdv qual = true) (S : FnScope N [pv] (defScope st)) (hCX : StX.CXUp CX0)
    (hb : ∀ us : List Value, bindArgs (PySem.W.fnOf x qual (defArgs st) (defBody st) (defScope st) .none kV doc pm an cdv ct) ⟨us, []⟩ = (newTuple us >>= fun t => pure [(pv, t)]))
    (hbody : ∀ (A : Around) (outer : List PySem.Env) (s : Shared) (H : Hp) (vs : List V) (Q : VK) (E : XK), Room k (A.deeper (envOfC qual (defScope st) s.heap.objs.size f cdv)) → sp vs H Q E →
      ∃ t, PSs (cxOf CX0 P w K mg base N qual (defScope st) f cdv A outer s H E) (defBody st) t ∧ t { nx := fun _ H' => Q .non H', rt := Q } (start N vs) H) :
    FnR P w K mg base CX0 (k + 1) f (fun vs H Q E => vs.length ≤ sizeLine ∧ ∀ (p : Addr) (o : Obj), H p = none → o.dict = none → sp [V.ref p] (upd H p (.frz o (.tup vs))) Q E) := by
  intro A outer s H us vs Q E hr e0 r hsp
  obtain ⟨hz, hq⟩ := hsp
  have hn : H s.heap.objs.size = none := e0.hok.fresh (Nat.le_refl _)
  have hl2 : us.length ≤ sizeLine := by rw [← r.length]; exact hz
  refine StX.run_bnd lk hcd S hr e0 (G := fun xs H2 => ∃ (p : Addr) (o : Obj), H p = none ∧ o.dict = none ∧ xs = [V.ref p] ∧ H2 = upd H p (.frz o (.tup vs))) (fun A' Ex Q' h => ?_) fun s2 H2 xs ⟨p, o, hp, ho, ex, eH⟩ hr' => ?_
  · rw [hb us]
    refine wpAny_bind (wpAny_newTuple (wpAny_pure ?_) hl2)
    have un := StX.un_laid (fs := frs outer) (s := s) (o := ({ cls := .type "tuple", data := .seq us.toArray } : Obj)) (u := .frz { cls := .type "tuple", data := .seq us.toArray } (.tup vs)) hn
    exact h _ _ [V.ref s.heap.objs.size] [Value.ref s.heap.objs.size] (StX.env0_laid e0 (okZ hz r)) un rfl (fun e s' => hCX outer s H _ _ E e s' un (fun b o q => Heap.get?_push_of_some _ q) rfl) (.cons rfl .nil) rfl ⟨_, _, hn, rfl, rfl, rfl⟩
  · subst ex eH
    exact hbody A outer s2 _ _ Q E hr' (hq p o hp ho)
end
theorem fnJS {P : Program} {w : World} {K : Fr} {mg : Str → Option Value} {base : Heap} {x qual pv : Str} {st : Stmt} {fa : Addr} {fd : FuncData} {N : List Str} {k n : Nat} {f : SM} (Fu : Fun K x qual st fa fd) (S : FnScope N [pv] (defScope st)) (hN : N.length = 1 + n)
    (hbd : ∀ (kV doc pm : Value) (an : Option Addr) (cdv ct : Value) (us : List Value), bindArgs (PySem.W.fnOf x qual (defArgs st) (defBody st) (defScope st) .none kV doc pm an cdv ct) ⟨us, []⟩ = (newTuple us >>= fun t => pure [(pv, t)]))
    (hb : ∀ (cdv : Value) (A : Around) (outer : List PySem.Env) (s : Shared) (H : Hp) (E : XK) (C : FC), Room k (A.deeper (PyProof.Rows.envOfC qual (defScope st) s.heap.objs.size fa cdv)) → C.mp = [] →
      JSs (cxOf CX0 P w K mg base N qual (defScope st) fa cdv A outer s H E).nox C (defBody st) f) :
    FnR P w K mg base CX0 (k + 1) fa (spV K (mkFn [.fz] n f)) := by
  obtain ⟨oc, od, kV, doc, pm, an, cdv, ct, osl, rfl, lk, hcd⟩ := Fu.ex
  have main := fnz_star (P := P) (w := w) (mg := mg) (base := base) (k := k) (pv := pv) (N := N) (sp := spJ K [.fz] (mkFn [.fz] n f)) lk hcd S StX.cxUp_none (hbd kV doc pm an cdv ct) fun A outer s H vs Q E hr h => by
        obtain ⟨C, hC, z⟩ := runJ (ks := [.fz]) hN h
        exact ⟨_, (show PSs _ _ _ from hb cdv A outer s H E C hr hC).nox, z⟩
  refine main.imp fun vs H Q E h => ?_
  obtain ⟨F, ds, r, s1, r1, hz, hf, q⟩ := h
  refine ⟨hz, fun p o hp ho => ?_⟩
  have fp := Same.none s1 hp
  have up : Same F (upd F p (.frz o (.tup vs))) := same_upd fp
  refine ⟨upd F p (.frz o (.tup vs)), [.tuple ds], r, [], fun a o z => ?_, .cons (.tup ⟨o, upd_same, ho⟩ (r1.up up)) .nil, List.nodup_nil, hf, fun v F' H' s1' s2' kp old dom _ res => ?_⟩
  · by_cases e : a = p
    · subst e
      rw [upd_same] at z ⊢
      exact z
    · rw [upd_ne e] at z ⊢
      exact s1 a o z
  · refine q v F' H' (up.trans s1') s2' (fun a o z => kp a o (by rw [upd_ne (ne_of_none z hp)]; exact z) (by simp [mutA])) (fun a z => (upd_none (old a z)).2) (fun a z => ?_) ?_
    · rcases dom a z with w | w
      · by_cases e : a = p
        · subst e; exact .inr hp
        · rw [upd_ne e] at w; exact .inl w
      · exact .inr (upd_none w).2
    · cases r with
      | fz d => exact res
      | ow ds' =>
        obtain ⟨a, ws, e, w1, w2⟩ := res
        exact ⟨a, ws, e, (upd_none w1).2, w2⟩
def CalV (P : Program) (w : World) (K : Fr) (mg : Str → Option Value) (base : Heap) (x : Str) (k : Nat) (fn : FnS) : Prop :=
  ∃ fa : Addr, FnR P w K mg base CX0 k fa (spV K fn) ∧ mg x = some (.ref fa) ∧ PySem.W.keepIn K (.ref fa) = true
theorem callV_run {K : Fr} {fn : FnS} {as : M (List D)} {n : Nat} (hn : n ≤ 1000) (ha : ∀ env ds env', as env = some (ds, env') → ds.length = n) {σ : L2.St} {H : Hp} {Q : VK} (h : tJ K C (eCallV fn as) σ H Q) : taJ K C as σ H fun vs H1 => spV K fn vs H1 Q E0 := by
  obtain ⟨F, env, rv, env', hd, he, q⟩ := h
  simp only [eCallV] at he
  split at he
  · rename_i ds e1 h1
    split at he
    · rename_i r h2
      cases he
      refine taJ.go hd h1 fun F1 H1 vs s1 g1 r1 => ⟨F1, ds, r, g1.ex, r1, by rw [r1.length, ha _ _ _ h1]; exact Nat.le_trans hn (by decide), h2, fun v F' H' s1' s2' kp old dom res => ?_⟩
      obtain ⟨g2, s2⟩ := g1.called (is := []) (as := []) (ms := []) .nil (fun i h => absurd h (by simp)) rfl s1' s2' (fun a o z _ => kp a o z) old dom .nil
      refine q F' H' v (s1.trans s2) g2 ?_
      cases r with
      | fz d => exact res
      | ow ds' =>
        obtain ⟨a, ws, rfl, p1, p2, p3, p4⟩ := res
        refine ⟨a, ws, rfl, p3, p2, p4, s1.old a p1, fun j es z w => ?_⟩
        obtain ⟨b, ws', q1, q2, _⟩ := g1.ow j es z
        rw [w] at q1; cases q1
        rw [q2] at p1; cases p1
    · cases he
  · cases he
theorem j_callV {x : Str} {kg n : Nat} {fn : FnS} {as : M (List D)} (Cg : CalV X.prog X.w X.K X.mg X.base x kg fn) (hr : Room k X.A) (hk : kg ≤ k) (ha : JA X C n (e :: es) as) (hn : n ≤ 1000 := by decide) (hg : Gl X x := by rfl)
    (hdb : (x == ("__debug__" : Str)) = false := by decide) (he : starEach (e :: es) X.env = (false, eval e X.env) :: starEach es X.env := by rfl) (hpl : (backTo pos (starEach es X.env)).any (·.1) = false := by rfl) : JE X C (.Call (.Name x p) (e :: es) [] pos) (eCallV fn as) := by
  obtain ⟨fa, F, hm, kp⟩ := Cg
  refine pe_weak (t := fun σ H Q => taJ X.K C as σ H fun vs H1 => spV X.K fn vs H1 Q E0) ⟨fun pins s σ H Q I h => wpAny_Call_Name_kw (ld_glob I hg hm (PySem.W.callWith_K (h₀ := X.base) I.ok.mod.kin kp (thn (ha.1.run pos pins s σ H _ I h) fun us s1 ⟨vs, H1, I1, r, q⟩ =>
    ⟨I1.kIn, wpAny_call (run_fnR F (hr.mono hk) pass0 I1 r q)⟩) he hpl) hdb)⟩ fun σ H Q h => callV_run hn ha.2 h
theorem j_callV0 {x : Str} {kg : Nat} {fn : FnS} (Cg : CalV X.prog X.w X.K X.mg X.base x kg fn) (hr : Room k X.A) (hk : kg ≤ k) (hg : Gl X x := by rfl) (hdb : (x == ("__debug__" : Str)) = false := by decide) : JE X C (.Call (.Name x p) [] [] pos) (eCallV fn aNil) := by
  obtain ⟨fa, F, hm, kp⟩ := Cg
  refine pe_weak (t := fun σ H Q => spV X.K fn [] H Q E0) ⟨fun pins s σ H Q I h => wpAny_Call_Name_kw (ld_glob I hg hm (PySem.W.callWith_K0 I.kIn kp (wpAny_call (run_fnR (us := []) F (hr.mono hk) pass0 I .nil h))) hdb)⟩ fun σ H Q h => ?_
  have z := callV_run (n := 0) (by decide) (fun env ds env' e => by simp only [aNil] at e; cases e; rfl) h
  obtain ⟨F, env, ds, env', hd, he, q⟩ := z
  simp only [aNil] at he
  cases he
  exact q F H [] Stp.refl hd .nil
end
end J
/-! JA: comprehensions with two fors. -/
namespace J
open PySem L2
/-- a step that may change the list at dl -/
structure StpX (dl : Addr) (F : Hp) (env : Env) (σ : St) (H : Hp) (F' : Hp) (env' : Env) (H' : Hp) : Prop where
  exF : Same F F'
  tmp : ∀ a o, F a = none → H a = some o → NotOw env σ a → a ≠ dl → F' a = none ∧ H' a = some o
  sub : ∀ (i : Nat) (ds : List D), env'[i]? = some (.ow ds) → ∃ es, env[i]? = some (.ow es)
  old : ∀ a, H' a = none → H a = none
section
variable {K : Fr} {C : FC} {dl : Addr} {F F1 F2 : Hp} {env env1 env2 : Env} {σ σ' : St} {H H1 H2 : Hp}
theorem StpX.refl : StpX dl F env σ H F env H := ⟨Same.refl F, fun a o h1 h2 _ _ => ⟨h1, h2⟩, fun i ds h => ⟨ds, h⟩, fun _ h => h⟩
theorem StpX.of (s : Stp F env σ H F1 env1 H1) : StpX dl F env σ H F1 env1 H1 := ⟨s.exF, fun a o h1 h2 n _ => s.tmp a o h1 h2 n, s.sub, s.old⟩
theorem StpX.trans (a : StpX dl F env σ H F1 env1 H1) (b : StpX dl F1 env1 σ H1 F2 env2 H2) : StpX dl F env σ H F2 env2 H2 :=
  ⟨a.exF.trans b.exF, fun x o h1 h2 n e => by
    obtain ⟨q1, q2⟩ := a.tmp x o h1 h2 n e
    exact b.tmp x o q1 q2 (n.sub a.sub) e, fun i ds h => by
    obtain ⟨es, h1⟩ := b.sub i ds h
    exact a.sub i es h1, fun x h => a.old x (b.old x h)⟩
theorem StpX.less {env3 : Env} (h : StpX dl F env σ H F1 env1 H1) (hs : ∀ (i : Nat) (ds : List D), env3[i]? = some (.ow ds) → ∃ es, env1[i]? = some (.ow es)) : StpX dl F env σ H F1 env3 H1 :=
  ⟨h.exF, h.tmp, fun i ds q => by
    obtain ⟨es, q'⟩ := hs i ds q
    exact h.sub i es q', h.old⟩
theorem StpX.sig (h : StpX dl F env σ H F1 env1 H1) (he : ∀ (i : Nat) (ds : List D), env[i]? = some (.ow ds) → σ'[i]? = σ[i]?) : StpX dl F env σ' H F1 env1 H1 :=
  ⟨h.exF, fun a o q1 q2 n => h.tmp a o q1 q2 (n.sig fun i ds q => (he i ds q).symm), h.sub, h.old⟩
theorem StpX.more {env0 : Env} (h : StpX dl F env σ H F1 env1 H1) (hs : NoNew env0 env) : StpX dl F env0 σ H F1 env1 H1 :=
  ⟨h.exF, fun a o q1 q2 n => h.tmp a o q1 q2 fun j ds q => n j ds (hs j ds q), fun i ds q => by
    obtain ⟨es, q'⟩ := h.sub i ds q
    exact ⟨es, hs i es q'⟩, h.old⟩
theorem Stp.thenX (a : Stp F env σ H F1 env1 H1) (b : StpX dl F1 env1 σ H1 F2 env2 H2) (hd : H dl = none) : Stp F env σ H F2 env2 H2 :=
  ⟨a.exF.trans b.exF, fun x o h1 h2 n => by
    obtain ⟨q1, q2⟩ := a.tmp x o h1 h2 n
    exact b.tmp x o q1 q2 (n.sub a.sub) (ne_of_none h2 hd), fun i ds h => by
    obtain ⟨es, h1⟩ := b.sub i ds h
    exact a.sub i es h1, fun x h => a.old x (b.old x h)⟩
theorem StpX.write {o : HO} (s : StpX dl F env σ H F1 env1 H1) : StpX dl F env σ H F1 env1 (upd H1 dl o) :=
  ⟨s.exF, fun a u z1 z2 n e => by
    obtain ⟨p1, p2⟩ := s.tmp a u z1 z2 n e
    exact ⟨p1, by rw [upd_ne e]; exact p2⟩, s.sub, fun b z => s.old b (upd_none z).2⟩
/-- the new list grows -/
theorem Hd.grow (h : Hd K C F env σ H) {acc : List V} (hF : F dl = none) (h0 : C.H0 dl = none) (nO : NotOw env σ dl) : Hd K C F env σ (upd H dl (.lst acc)) := by
  refine ⟨fun b u z => ?_, h.len, h.fz, fun j es z => ?_, h.bw, h.sc, h.inj, fun b u z n => ?_, fun b z => h.old b (upd_none z).2, h.dom, h.mps⟩
  · rw [upd_ne (ne_of_none z hF)]; exact h.ex b u z
  · obtain ⟨b, ws, p1, p2, p3⟩ := h.ow j es z
    have ne : b ≠ dl := fun w => nO j es z (by rw [← w]; exact p1)
    exact ⟨b, ws, p1, by rw [upd_ne ne]; exact p2, p3⟩
  · have ne : b ≠ dl := by
      rintro rfl
      rw [h0] at z; cases z
    rw [upd_ne ne]; exact h.keep b u z n
/-- the state between two turns: dn has gone into the list at dl -/
structure AtL (K : Fr) (C : FC) (dl : Addr) (er : List Nat) (σ : St) (F : Hp) (env : Env) (H : Hp) (dn : List D) : Prop where
  hd : Hd K C F env σ H
  off : Off er env
  hF : F dl = none
  h0 : C.H0 dl = none
  nO : NotOw env σ dl
  hA : ∃ acc, H dl = some (.lst acc) ∧ RpA F acc dn
/-- a loop of a comprehension, from a list that may have items -/
theorem lc_loop {g : G} {ft : M Bool} {fe : M RV} {er mp : List Nat} {J : L2.It} {ds ys dn : List D} {env' : Env} (hc : C.mp = mp) (hm : ∀ i ∈ er, i ∉ mp) (hn : ∀ d env env', g d env = some env' → NoNew env env')
    (at0 : AtL K C dl er σ F env H dn) (wk : Wk K C F J ds) (hr : runLc g ft fe er ds env = some (ys, env')) (hz : dn.length + ys.length ≤ limit) {Nx : Hp → Prop} (q : ∀ F' H', AtL K C dl er σ F' env' H' (dn ++ ys) → StpX dl F env σ H F' env' H' → Nx H') :
    ∃ W : Nat → Nat → Hp → Prop, (∃ m, W 0 m H) ∧ ∀ i m H, W i m H → (J.stop i H ∧ Nx H) ∨ (J.go i H ∧ ∃ Nx1 : Hp → Prop, (∀ H', Nx1 H' → ∃ m', m' < m ∧ W (i + 1) m' H') ∧
      ∀ x H', J.yld i H x H' → tgJ K C er g x (wipe σ er) H' fun σ3 H5 => wipe σ3 er = wipe σ er ∧ ttJ K C ft σ3 H5 fun b H6 => if b = true then tJ K C fe σ3 H6 fun y H7 => ∃ acc, H7 dl = some (.lst acc) ∧ acc.length < sizeLine ∧ Nx1 (upd H7 dl (.lst (acc ++ [y]))) else Nx1 H6) := by
  subst hc
  refine ⟨fun i m H' => m = ds.length - i ∧ i ≤ ds.length ∧ ∃ F2 env2 done rest, AtL K C dl er σ F2 env2 H' (dn ++ done) ∧ StpX dl F env σ H F2 env2 H' ∧ runLc g ft fe er (ds.drop i) env2 = some (rest, env') ∧ ys = done ++ rest, ⟨_, rfl, Nat.zero_le _, F, env, [], ys, by simpa using at0, StpX.refl, hr, rfl⟩, ?_⟩
  rintro i m H2 ⟨rfl, hi', F2, env2, done, rest, ⟨g2, off, hF, h0, nO, acc, hA, rA⟩, s2, h3, hy⟩
  have offO : ∀ {env3 : Env}, NoNew env2 env3 → ∀ {σ3 : St}, (∀ i, i ∉ er → σ3[i]? = (wipe σ er)[i]?) → ∀ (i : Nat) (ds : List D), env3[i]? = some (.ow ds) → σ3[i]? = σ[i]? := fun {env3} nn {σ3} hs i ds z => by
    have hi : i ∉ er := fun w => by
      have z' := nn i ds z
      rcases off i w with p | p
      · rw [p] at z'; cases z'
      · rw [p] at z'; cases z'
    rw [hs i hi, wipe_out hi]
  obtain ⟨w1, w2⟩ := wk F2 env2 σ H2 s2.exF g2
  rcases Nat.lt_or_ge i ds.length with hlt | hge
  · refine .inr ?_
    have hd' : ds[i]? = some ds[i] := List.getElem?_eq_getElem hlt
    rw [List.drop_eq_getElem_cons hlt] at h3
    obtain ⟨w3, w4⟩ := w2 i _ hd'
    simp only [runLc] at h3
    split at h3
    · cases h3
    rename_i e3 h4
    refine ⟨w3, fun H' => ∃ F2 env2 done rest, AtL K C dl er σ F2 env2 H' (dn ++ done) ∧ StpX dl F env σ H F2 env2 H' ∧ runLc g ft fe er (ds.drop (i + 1)) env2 = some (rest, env') ∧ ys = done ++ rest, fun H' z => ⟨ds.length - (i + 1), by omega, rfl, hlt, z⟩, fun x H' hy' => ?_⟩
    obtain ⟨F3, g3, s3, r3⟩ := w4 x H' hy'
    obtain ⟨hF3, hA3⟩ := s3.tmp dl _ hF hA nO
    have g3w : Hd K C F3 env2 (wipe σ er) H' := g3.sig (wipe_length σ er) off (fun i hi => wipe_out hi) hm
    refine ⟨F3, env2, _, e3, g3w, r3, h4, fun σ4 l4 k4 g4 => ⟨(wipe_eq l4 k4).trans (wipe_eq (wipe_length σ er) fun i hi => wipe_out hi), ?_⟩⟩
    have nn := hn _ _ _ h4
    have o4 := offO nn k4
    have nO4 : NotOw e3 σ4 dl := fun j es z w => nO j es (nn j es z) (by rw [← o4 j es z]; exact w)
    split at h3
    · cases h3
    · rename_i e4 h5
      refine ttJ.go g4 h5 fun F5 H5 s5 g5 => ?_
      rw [if_neg Bool.false_ne_true]
      obtain ⟨hF5, hA5⟩ := s5.tmp dl _ hF3 hA3 nO4
      have s5' : Stp F3 env2 σ H' F5 e4 H5 := (s5.sig fun j es z => (o4 j es z).symm).more nn
      have g5w : Hd K C F5 (ers er e4) σ H5 := (g5.ers er).sig (by rw [l4, wipe_length]) off_ers (fun i hi => by rw [k4 i hi, wipe_out hi]) hm
      refine ⟨F5, ers er e4, done, rest, ⟨g5w, off_ers, hF5, h0, fun j es z w => ?_, acc, hA5, (rA.up s3.exF).up s5.exF⟩, ((s2.trans (.of s3)).trans (.of s5')).less fun j es z => ⟨es, ers_ow z⟩, h3, hy⟩
      obtain ⟨es', z'⟩ := s5'.sub j es (ers_ow z)
      exact nO j es' z' w
    · rename_i e4 h5
      split at h3
      · cases h3
      rename_i x' e5 h6
      split at h3
      · cases h3
      rename_i y' e6 h7
      split at h3
      · cases h3
      rename_i ys' e7 h8
      cases h3
      refine ttJ.go g4 h5 fun F5 H5 s5 g5 => ?_
      rw [if_pos rfl]
      refine tJ.go g5 h6 fun F6 H6 v s6 g6 r6 => ?_
      obtain ⟨F7, s7, g7, r7, _⟩ := g6.fzv g5 s6 r6 h7
      obtain ⟨hF5, hA5⟩ := s5.tmp dl _ hF3 hA3 nO4
      have nO5 : NotOw e4 σ4 dl := nO4.sub s5.sub
      obtain ⟨hF7, hA7⟩ := s7.tmp dl _ hF5 hA5 nO5
      have s57 := s5.trans s7
      have s57' : Stp F3 env2 σ H' F7 e6 H6 := (s57.sig fun j es z => (o4 j es z).symm).more nn
      have hz' : acc.length < sizeLine := by
        rw [rA.length, List.length_append, sizeLine_eq]
        rw [hy, List.length_append, List.length_cons] at hz
        unfold limit at hz
        omega
      refine ⟨acc, hA7, hz', ?_⟩
      have g7w : Hd K C F7 (ers er e6) σ H6 := (g7.ers er).sig (by rw [l4, wipe_length]) off_ers (fun i hi => by rw [k4 i hi, wipe_out hi]) hm
      have nO7 : NotOw (ers er e6) σ dl := fun j es z w => by
        obtain ⟨es', z'⟩ := s57'.sub j es (ers_ow z)
        exact nO j es' z' w
      refine ⟨F7, ers er e6, done ++ [y'], ys', ⟨g7w.grow hF7 h0 nO7, off_ers, hF7, h0, nO7, acc ++ [v], upd_same, ?_⟩, ?_, h8, by rw [hy, List.append_assoc]; rfl⟩
      · rw [← List.append_assoc]
        exact ((((rA.up s3.exF).up s5.exF).up s7.exF)).append (.cons r7 .nil)
      · exact (((s2.trans (.of s3)).trans (.of s57')).less fun j es z => ⟨es, ers_ow z⟩).write
  · refine .inl ⟨w1 i hge, ?_⟩
    rw [List.drop_eq_nil_of_le hge] at h3
    simp only [runLc] at h3
    cases h3
    rw [List.append_nil] at hy
    subst hy
    exact q F2 H2 ⟨g2, off, hF, h0, nO, acc, hA, rA⟩ s2
end
section
variable {X : Cx} {C : FC} {fe : M RV} {ft ft1 : M Bool} {e : Expr}
/-- the reading of a comprehension with two fors -/
theorem lc2_run {K : Fr} {er er1 : List Nat} {g g1 : G} {it it1 : M (List D)} {σ : St} {H : Hp} {Q : VK} {mp : List Nat} (hc : C.mp = mp) (hm : ∀ i ∈ er, i ∉ mp) (hs : ∀ i ∈ er1, i ∈ er) (hn : ∀ d env env', g d env = some env' → NoNew env env') (hn1 : ∀ d env env', g1 d env = some env' → NoNew env env')
    (h : tJ K C (eLc2 er er1 g it ft g1 it1 ft1 fe) σ H Q) : tLc2 (tiJ K C it) (tgJ K C er g) (ttJ K C ft) (tiJ K C it1) (tgJ K C er1 g1) (ttJ K C ft1) (tJ K C fe) er er1 σ H Q := by
  have hm1 : ∀ i ∈ er1, i ∉ mp := fun i hi => hm i (hs i hi)
  obtain ⟨F, env, rv, env', hd, he, q⟩ := h
  simp only [eLc2] at he
  split at he
  · cases he
  rename_i ds e1 h1
  split at he
  · cases he
  rename_i ys e2 h2
  split at he
  · rename_i hlen
    cases he
    refine ⟨F, env, ds, e1, hd, h1, fun F1 H1 J s1 g1' wk dl hD => ?_⟩
    have hD0 : H dl = none := s1.old dl hD
    refine ⟨fun i m H' => m = ds.length - i ∧ i ≤ ds.length ∧ ∃ F2 env2 done rest, AtL K C dl er σ F2 env2 H' done ∧ Same F1 F2 ∧ Stp F env σ H F2 env2 H' ∧ runLc2 g ft it1 g1 ft1 fe er er1 (ds.drop i) env2 = some (rest, env') ∧ ys = done ++ rest,
      ⟨_, rfl, Nat.zero_le _, F1, ers er e1, [], ys, ⟨(g1'.ers er).new hD, off_ers, Same.none g1'.ex hD, hd.old dl hD0, ?_, [], upd_same, .nil⟩, Same.refl F1, ?_, h2, rfl⟩, ?_⟩
    · intro j es z w
      obtain ⟨a, vs, p1, p2, _⟩ := (g1'.ers er).ow j es z
      rw [w] at p1; cases p1
      rw [p2] at hD; cases hD
    · exact (s1.trans (Stp.new hD)).less fun i es z => ⟨es, ers_ow z⟩
    · rintro i m H2 ⟨rfl, hi', F2, env2, done, rest, at2, sm, s2, h3, hy⟩
      have at2' := at2
      obtain ⟨g2, off, hF, h0, nO, acc, hA, rA⟩ := at2'
      have offO : ∀ {env3 : Env}, NoNew env2 env3 → ∀ {σ3 : St}, (∀ i, i ∉ er → σ3[i]? = (wipe σ er)[i]?) → ∀ (i : Nat) (ds : List D), env3[i]? = some (.ow ds) → σ3[i]? = σ[i]? := fun {env3} nn {σ3} hs i ds z => by
        have hi : i ∉ er := fun w => by
          have z' := nn i ds z
          rcases off i w with p | p
          · rw [p] at z'; cases z'
          · rw [p] at z'; cases z'
        rw [hs i hi, wipe_out hi]
      obtain ⟨w1, w2⟩ := wk F2 env2 σ H2 sm g2
      rcases Nat.lt_or_ge i ds.length with hlt | hge
      · refine .inr ?_
        have hd' : ds[i]? = some ds[i] := List.getElem?_eq_getElem hlt
        rw [List.drop_eq_getElem_cons hlt] at h3
        obtain ⟨w3, w4⟩ := w2 i _ hd'
        simp only [runLc2] at h3
        split at h3
        · cases h3
        rename_i e3 h4
        refine ⟨w3, fun H' => ∃ F2 env2 done rest, AtL K C dl er σ F2 env2 H' done ∧ Same F1 F2 ∧ Stp F env σ H F2 env2 H' ∧ runLc2 g ft it1 g1 ft1 fe er er1 (ds.drop (i + 1)) env2 = some (rest, env') ∧ ys = done ++ rest, fun H' z => ⟨ds.length - (i + 1), by omega, rfl, hlt, z⟩, fun x H' hy' => ?_⟩
        obtain ⟨F3, g3, s3, r3⟩ := w4 x H' hy'
        obtain ⟨hF3, hA3⟩ := s3.tmp dl _ hF hA nO
        have g3w : Hd K C F3 env2 (wipe σ er) H' := g3.sig (wipe_length σ er) off (fun i hi => wipe_out hi) (by rw [hc]; exact hm)
        refine ⟨F3, env2, _, e3, g3w, r3, h4, fun σ4 l4 k4 g4 => ⟨(wipe_eq l4 k4).trans (wipe_eq (wipe_length σ er) fun i hi => wipe_out hi), ?_⟩⟩
        have nn := hn _ _ _ h4
        have o4 := offO nn k4
        have nO4 : NotOw e3 σ4 dl := fun j es z w => nO j es (nn j es z) (by rw [← o4 j es z]; exact w)
        -- back to the state between two turns
        have back : ∀ {F5 : Hp} {e5 : Env} {H5 : Hp} {dn : List D}, Hd K C F5 e5 σ4 H5 → StpX dl F3 e3 σ4 H' F5 e5 H5 → F5 dl = none → (∃ acc, H5 dl = some (.lst acc) ∧ RpA F5 acc dn) → AtL K C dl er σ F5 (ers er e5) H5 dn ∧ Stp F env σ H F5 (ers er e5) H5 := fun {F5 e5 H5 dn} g5 s5 hF5 hA5 => by
          have s5' : StpX dl F3 env2 σ H' F5 e5 H5 := (s5.sig fun j es z => (o4 j es z).symm).more nn
          refine ⟨⟨(g5.ers er).sig (by rw [l4, wipe_length]) off_ers (fun i hi => by rw [k4 i hi, wipe_out hi]) (by rw [hc]; exact hm), off_ers, hF5, h0, fun j es z w => ?_, hA5⟩, ?_⟩
          · obtain ⟨es', z'⟩ := s5'.sub j es (ers_ow z)
            exact nO j es' z' w
          · exact ((s2.trans s3).thenX s5' hD0).less fun j es z => ⟨es, ers_ow z⟩
        split at h3
        · cases h3
        · rename_i e4 h5
          refine ttJ.go g4 h5 fun F5 H5 s5 g5 => ?_
          rw [if_neg Bool.false_ne_true]
          obtain ⟨hF5, hA5⟩ := s5.tmp dl _ hF3 hA3 nO4
          obtain ⟨b1, b2⟩ := back g5 (.of s5) hF5 ⟨acc, hA5, (rA.up s3.exF).up s5.exF⟩
          exact ⟨F5, ers er e4, done, rest, b1, (sm.trans s3.exF).trans s5.exF, b2, h3, hy⟩
        · rename_i e4 h5
          split at h3
          · cases h3
          rename_i xs e5 h6
          split at h3
          · cases h3
          rename_i ys1 e6 h7
          split at h3
          · cases h3
          rename_i zs e7 h8
          cases h3
          refine ttJ.go g4 h5 fun F5 H5 s5 g5 => ?_
          rw [if_pos rfl]
          obtain ⟨hF5, hA5⟩ := s5.tmp dl _ hF3 hA3 nO4
          have nO5 : NotOw e4 σ4 dl := nO4.sub s5.sub
          refine ⟨F5, e4, xs, e5, g5, h6, fun F6 H6 J1 s6 g6 wk1 => ?_⟩
          obtain ⟨hF6, hA6⟩ := s6.tmp dl _ hF5 hA5 nO5
          have nO6 : NotOw e5 σ4 dl := nO5.sub s6.sub
          have s56 := s5.trans s6
          have at6 : AtL K C dl er1 σ4 F6 (ers er1 e5) H6 done := ⟨g6.ers er1, off_ers, hF6, h0, fun j es z w => nO6 j es (ers_ow z) w, acc, hA6, ((rA.up s3.exF).up s5.exF).up s6.exF⟩
          refine lc_loop hc hm1 hn1 at6 wk1 h7 ?_ fun F7 H7 at7 s7 => ?_
          · rw [hy, List.length_append, List.length_append] at hlen
            omega
          · obtain ⟨g7, _, hF7, _, _, hA7⟩ := at7
            have s67 : StpX dl F3 e3 σ4 H' F7 e6 H7 := ((StpX.of (dl := dl) s56).less (fun j es z => ⟨es, ers_ow z⟩)).trans s7
            obtain ⟨b1, b2⟩ := back g7 s67 hF7 hA7
            exact ⟨F7, ers er e6, done ++ ys1, zs, b1, ((sm.trans s3.exF).trans s56.exF).trans s7.exF, b2, h8, by rw [hy, List.append_assoc]⟩
      · refine .inl ⟨w1 i hge, ?_⟩
        rw [List.drop_eq_nil_of_le hge] at h3
        simp only [runLc2] at h3
        cases h3
        rw [List.append_nil] at hy
        subst hy
        exact q F2 H2 _ s2 g2 ⟨dl, acc, rfl, hA, hF, rA, hD0, nO⟩
  · cases he
/-- h by pe_lc2 -/
theorem je_lc2 {er er1 mp : List Nat} {g g1 : G} {it it1 : M (List D)} (hc : C.mp = mp) (hm : ∀ i ∈ er, i ∉ mp) (hs : ∀ i ∈ er1, i ∈ er) (hn : ∀ d env env', g d env = some env' → NoNew env env') (hn1 : ∀ d env env', g1 d env = some env' → NoNew env env')
    (h : PE X e (tLc2 (tiJ X.K C it) (tgJ X.K C er g) (ttJ X.K C ft) (tiJ X.K C it1) (tgJ X.K C er1 g1) (ttJ X.K C ft1) (tJ X.K C fe) er er1)) : JE X C e (eLc2 er er1 g it ft g1 it1 ft1 fe) := pe_weak h fun σ H Q z => lc2_run hc hm hs hn hn1 z
theorem lc2_ps {st : Stmt} {i : Nat} {er er1 mp : List Nat} {g g1 : G} {it it1 : M (List D)} (hc : C.mp = mp) (hm : ∀ i ∈ er, i ∉ mp) (hs : ∀ i ∈ er1, i ∈ er) (hn : ∀ d env env', g d env = some env' → NoNew env env') (hn1 : ∀ d env env', g1 d env = some env' → NoNew env env')
    (h : PS X st (tAsg (tLc2 (tiJ X.K C it) (tgJ X.K C er g) (ttJ X.K C ft) (tiJ X.K C it1) (tgJ X.K C er1 g1) (ttJ X.K C ft1) (tJ X.K C fe) er er1) (gName i))) : PS X st (tAsg (tJ X.K C (eLc2 er er1 g it ft g1 it1 ft1 fe)) (gName i)) := ps_weak h fun D' σ H z => lc2_run hc hm hs hn hn1 z
end
end J
/-! JB: reversed, sorted. -/
namespace J
open PySem L2
theorem srt_uniq {l m : List Int} (h1 : m.Perm l) (h2 : m.Pairwise (· ≤ ·)) : m = srt l := by
  have h3 : (srt l).Pairwise (· ≤ ·) := by
    have := List.pairwise_mergeSort (le := fun a b : Int => decide (a ≤ b)) (fun a b c h1 h2 => by simp at *; omega) (fun a b => by simp; omega) l
    exact this.imp fun h => by simpa using h
  exact List.Perm.eq_of_pairwise (fun a b _ _ x y => Int.le_antisymm x y) h2 h3 (h1.trans (List.mergeSort_perm _ _).symm)
section
variable {X : Cx} {C : FC} {f fa : M RV} {a e : Expr} {p pos : Pos}
theorem s_sorted : S1 (rSortedI X.K) sortedD := fun F H x d rt Q s v q k => by
  cases d <;> simp only [sortedD] at q <;> try (cases q)
  split at q
  · rename_i ns h
    cases q
    have e := asInt_of h
    subst e
    obtain ⟨l, vs, rfl, h1, h2⟩ := v
    have e := h2.ints
    subst e
    refine ⟨l, ns, rfl, SqL.of h1, fun m t hp ho ht => ?_⟩
    rw [srt_uniq hp ho]
    exact k t _ ht (RpA.ofInts _)
  · cases q
theorem j_sorted (hm : X.mg "sorted" = none) (ha : JE X C a fa) (hg : Gl X "sorted" := by rfl) (hs : starEach [a] X.env = (false, eval a X.env) :: starEach [] X.env := by rfl) : JE X C (.Call (.Name "sorted" p) [a] [] pos) (eOp1 sortedD fa) :=
  je_b s_sorted (pe_callB cr_sortedI hg hm bt_sorted (pa_cons ha pa_nil hs) (he := hs))
theorem rev_get {vs : List V} {i : Nat} : vs.reverse[i]? = if i < vs.length then vs[vs.length - 1 - i]? else none := by
  by_cases h : i < vs.length
  · rw [if_pos h, List.getElem?_reverse h]
  · rw [if_neg h, List.getElem?_eq_none (by rw [List.length_reverse]; omega)]
theorem wk_rl {K : Fr} {F0 : Hp} {a : Addr} {vs : List V} {ds : List D} (h : ∀ F env σ H, Same F0 F → Hd K C F env σ H → H a = some (.lst vs)) (r : RpA F0 vs ds) : Wk K C F0 (Itv K a vs.length) ds.reverse := fun F env σ H s g => by
  have ha := h F env σ H s g
  have rr := r.reverse
  refine ⟨fun i hi => by rw [← rr.length, List.length_reverse] at hi; exact hi, fun i d hd => ?_⟩
  obtain ⟨v, h1, h2⟩ := rr.getd hd
  rw [rev_get] at h1
  split at h1
  · rename_i hlt
    refine ⟨⟨hlt, vs, v, SqL.of ha, h1⟩, fun x H' ⟨e, hy⟩ => ?_⟩
    subst e
    have e2 := hy vs (SqL.of ha)
    rw [h1] at e2; cases e2
    exact ⟨F, g, Stp.refl, h2.up s⟩
  · cases h1
theorem wk_rt {K : Fr} {F0 : Hp} {a : Addr} {vs : List V} {ds : List D} (h : Tz F0 a vs) (r : RpA F0 vs ds) : Wk K C F0 (RT.ItvT K a vs.length) ds.reverse := fun F env σ H s g => by
  have ha := (h.up s).up g.ex
  have rr := r.reverse
  refine ⟨fun i hi => by rw [← rr.length, List.length_reverse] at hi; exact hi, fun i d hd => ?_⟩
  obtain ⟨v, h1, h2⟩ := rr.getd hd
  rw [rev_get] at h1
  split at h1
  · rename_i hlt
    refine ⟨⟨hlt, vs, v, ha.sq, h1⟩, fun x H' ⟨e, hy⟩ => ?_⟩
    subst e
    have e2 := hy vs (ha.sq)
    rw [h1] at e2; cases e2
    exact ⟨F, g, Stp.refl, h2.up s⟩
  · cases h1
theorem j_irev {tg : Expr} (hm : X.mg "reversed" = none) (he : JE X C e f) (hg : Gl X "reversed" := by rfl) (hs : starEach [e] X.env = (false, eval e X.env) :: starEach [] X.env := by rfl) : JI X C tg (.Call (.Name "reversed" p) [e] [] pos) (itRv f) := by
  refine pi_weak (RT.pi_revA hg hm he hs) fun σ H R ⟨F, env, ds, env', hd, hv, q⟩ => ?_
  simp only [itRv] at hv
  split at hv
  · cases hv
  rename_i ds' e1 h1
  cases hv
  rcases seq_it hd h1 with w | w
  · exact w _ fun F1 H1 a vs s1 g1 r1 hl => ⟨a, vs, rfl, .inl ⟨SqL.of (hl F1 _ _ H1 (Same.refl F1) g1), q F1 H1 _ s1 g1 (wk_rl hl r1)⟩⟩
  · exact w _ fun F1 H1 a vs s1 g1 r1 hl => ⟨a, vs, rfl, .inr ⟨(hl.up g1.ex).sq, q F1 H1 _ s1 g1 (wk_rt hl r1)⟩⟩
end
/-! ### names stored side by side -/
section
open PySem.Spec PyProof.Rows
variable {X : Cx} {C : FC}
def tPar3 (i j k : Nat) (ta : TA) : TS := fun D σ H => ta σ H fun vs H1 => ∃ u v w, vs = [u, v, w] ∧ D.nx (((σ.set i (some u)).set j (some v)).set k (some w)) H1
theorem ps_par3 {i j k : Nat} {x y z : Str} {a b c : Expr} {ta : TA} {px py pz pt pos : Pos} {kt k2 pt2} (hc : X.calm = true) (hN : X.N.Nodup) (hi : X.N[i]? = some x) (hj : X.N[j]? = some y) (hk : X.N[k]? = some z) (hij : i ≠ j) (hik : i ≠ k) (hjk : j ≠ k)
    (hx : X.env.scope.names.lookup x = some .local) (hy : X.env.scope.names.lookup y = some .local) (hz : X.env.scope.names.lookup z = some .local) (ha : PA X [a, b, c] ta)
    (hw : swappedStores [.Tuple [.Name x px, .Name y py, .Name z pz] kt pt] (.Tuple [a, b, c] k2 pt2) X.env = pure (some [x, y, z]))
    (hs : swapsWithSole [.Tuple [.Name x px, .Name y py, .Name z pz] kt pt] (.Tuple [a, b, c] k2 pt2) pos.line X.env = pure false := by rfl) :
    PS X (.Assign [.Tuple [.Name x px, .Name y py, .Name z pz] kt pt] (.Tuple [a, b, c] k2 pt2) pos) (tPar3 i j k ta) :=
  ⟨fun pins s σ H D I h => by
    rw [exec_Assign_arm]
    refine wpAny_bind (wpAny_standAt ?_)
    rw [hs]
    refine wpAny_bind (wpAny_pure ?_)
    rw [if_neg (by decide)]
    refine wpAny_bind (Tuple_ (thn (ha.run _ pins s σ H _ I h) fun us s1 ⟨vs, H1, J1, r1, u, v, w, e1, q1⟩ => ?_))
    subst e1
    obtain ⟨u1, u2, u3, rfl, ru, rv, rw'⟩ : ∃ u1 u2 u3, us = [u1, u2, u3] ∧ RelV u u1 ∧ RelV v u2 ∧ RelV w u3 := by
      cases r1 with
      | cons p q =>
        cases q with
        | cons p' q' =>
          cases q' with
          | cons p2 q2 =>
            cases q2
            exact ⟨_, _, _, rfl, p, p', p2⟩
    refine wpAny_newObj_type ?_ (by show 3 ≤ sizeLine; decide)
    have J2 : Inv X pins σ H1 { s1 with heap := s1.heap.push { cls := .type "tuple", data := .seq [u1, u2, u3].toArray } } := J1.kept (t' := s1.toks) fun b o e => Heap.get?_push_of_some _ e
    rw [hw]
    refine wpAny_bind (wpAny_pure ?_)
    show wpAny (model X.prog X.w) X.A (do rule "assign.swapped-stores"; let items ← unpackItems (.ref s1.heap.objs.size) 3 none; assignInOrder [fun v => bindName X.env z v, fun v => bindName X.env y v, fun v => bindName X.env x v] items.reverse; pure Flow.next) _ _ _
    refine wpAny_bind (wpAny_rule (wpAny_bind (unpackItems_tuple (items := #[u1, u2, u3]) (I.ok.hd hc) (IsTup.new s1.heap _) fun h' hx' => ?_)))
    have J3 := J2.kept (h' := h') (t' := s1.toks) fun b o e => hx' b o (Nat.ne_of_lt (Heap.lt_size e)) e
    show wpAny _ _ (assignInOrder [fun v => bindName X.env z v, fun v => bindName X.env y v, fun v => bindName X.env x v] [u3, u2, u1] >>= fun _ => pure Flow.next) _ _ _
    refine wpAny_bind (assignInOrder_cons (wpAny_bindName (store_ok J3 hN hk (.inl hz) rw' (fun s2 J4 => ?_) (.inr hz))))
    refine assignInOrder_cons (wpAny_bindName (store_ok J4 hN hj (.inl hy) rv (fun s3 J5 => ?_) (.inr hy)))
    refine assignInOrder_cons (wpAny_bindName (store_ok J5 hN hi (.inl hx) ru (fun s4 J6 => assignInOrder_nil (wpAny_pure ?_)) (.inr hx)))
    have e : ((σ.set k (some w)).set j (some v)).set i (some u) = ((σ.set i (some u)).set j (some v)).set k (some w) := by
      rw [List.set_comm _ _ (Ne.symm hij), List.set_comm _ _ (Ne.symm hik), List.set_comm _ _ (Ne.symm hjk)]
    rw [e] at J6
    exact ⟨_, H1, J6, q1⟩⟩
variable {st : Stmt} {es : M (List D)} {mp : List Nat}
theorem js_par2 {i j : Nat} (hc : C.mp = mp) (hm : i ∉ mp) (hm2 : j ∉ mp) (h : PS X st (tPar i j (taJ X.K C es))) : JS X C st (sPar [i, j] es) := by
  subst hc
  refine ps_weak h fun D' σ H ⟨F, env, fl, hd, he, q⟩ => ?_
  simp only [sPar] at he
  split at he
  · cases he
  rename_i ds e1 h1
  split at he
  · cases he
  rename_i e2 h2
  cases he
  refine taJ.go hd h1 fun F1 H1 vs s1 g1 r1 => ?_
  cases r1 with
  | nil => simp [setF] at h2
  | cons a1 t =>
  cases t with
  | nil => simp [setF] at h2
  | cons a2 t =>
  cases t with
  | cons _ _ => simp [setF] at h2
  | nil =>
    simp only [setF] at h2
    cases h2
    exact ⟨_, _, rfl, q F1 _ H1 s1.exF ((g1.asgF a1 hm).asgF a2 hm2)⟩
theorem js_par3 {i j k : Nat} (hc : C.mp = mp) (hm : i ∉ mp) (hm2 : j ∉ mp) (hm3 : k ∉ mp) (h : PS X st (tPar3 i j k (taJ X.K C es))) : JS X C st (sPar [i, j, k] es) := by
  subst hc
  refine ps_weak h fun D' σ H ⟨F, env, fl, hd, he, q⟩ => ?_
  simp only [sPar] at he
  split at he
  · cases he
  rename_i ds e1 h1
  split at he
  · cases he
  rename_i e2 h2
  cases he
  refine taJ.go hd h1 fun F1 H1 vs s1 g1 r1 => ?_
  cases r1 with
  | nil => simp [setF] at h2
  | cons a1 t =>
  cases t with
  | nil => simp [setF] at h2
  | cons a2 t =>
  cases t with
  | nil => simp [setF] at h2
  | cons a3 t =>
  cases t with
  | cons _ _ => simp [setF] at h2
  | nil =>
    simp only [setF] at h2
    cases h2
    exact ⟨_, _, _, rfl, q F1 _ H1 s1.exF (((g1.asgF a1 hm).asgF a2 hm2).asgF a3 hm3)⟩
end
end J
/-! JC: a list extended by a tuple. -/
namespace J
open PySem L2
open AutoSeq1
theorem ext_tuple (l : Addr) (xs : Array Value) (n : Nat) (b : Addr) (ys : Array Value) (m : Nat) (dct : Option Addr) (sl : Array (Option Value)) (h1 : ¬(!xs.isEmpty && Builtin.List.listTooLong (xs.size + ys.size)) = true) (h2 : xs.size ≤ sizeLine) (h3 : xs.size + ys.size ≤ sizeLine + 1) :
    Meets (Builtin.«list.extend» ⟨[.ref l, .ref b], []⟩) (fun _ R s => s.heap.get? l = some { cls := .type "list", dict := none, data := .seq xs n, slots := #[] } ∧
      s.heap.get? b = some { cls := .type "tuple", dict := dct, data := .seq ys m, slots := sl } ∧ R (.ok (.ret Value.none)) { s with heap := s.heap.update l (Obj.mapSeq fun x => x ++ ys), toks := s.toks }) :=
  .of_wp fun prog w A R s h => by
    obtain ⟨hp, g, d, tk, os⟩ := s
    obtain ⟨hl, hb, h⟩ := h
    have f1 := idx_int
    have f2 := sub_tuple_tuple
    have f3 := sub_list_list
    have f4 := sub_tuple_list
    have f5 := sub_list_tuple
    have hz : (xs ++ ys).size ≤ sizeLine + 1 := by rw [Array.size_append]; exact h3
    wp_walk using (wpAny_updateSeq hl rfl (hz := h2) (_hz' := hz)), wpAny_loadPart' hl, wpAny_loadPart' hb
    exact ⟨_, rfl, h⟩
def rExtT (K : Fr) : V → List V → Hp → VK → Prop := fun x vs H Q => ∃ l b xs zs, x = .ref l ∧ vs = [.ref b] ∧ H l = some (.lst xs) ∧ SqT K H b zs ∧ xs.length + zs.length ≤ sizeLine ∧ Q .non (upd H l (.lst (xs ++ zs)))
theorem mt_extT {X : Cx} : MtR X "list.extend" (rExtT X.K) := by
  intro pins s σ H x vs v us Q I rx rv h
  obtain ⟨l, b, xs, zs, rfl, rfl, hH, hB, hz, q⟩ := h
  cases rx
  obtain ⟨u, rfl, ru⟩ := rv.one
  cases ru
  obtain ⟨_, its, n, r, hl, e⟩ := I.lstM hH
  obtain ⟨its2, r2, ⟨⟨c2, d2, dt2, sl2⟩, e2, hc2, m2, hd2⟩, _⟩ := I.tuple hB
  replace hc2 : c2 = .type "tuple" := hc2
  replace hd2 : dt2 = .seq its2.toArray m2 := hd2
  subst hc2 hd2
  have l2 := r2.length
  have sz : its.toArray.size + its2.toArray.size ≤ sizeLine := by rw [List.size_toArray, List.size_toArray]; omega
  have long : ¬ (!its.toArray.isEmpty && Builtin.List.listTooLong (its.toArray.size + its2.toArray.size)) = true := by rw [notLongL sz, Bool.and_false]; exact Bool.false_ne_true
  refine call_meets PySem.F.slot_list_extend ⟨_, e, rfl⟩ PySem.F.entry_list_extend (PySem.F.args_list_extend_2 _ _) (ext_tuple l its.toArray n b its2.toArray m2 d2 sl2 long (by rw [List.size_toArray]; omega) (by omega)) ⟨e, e2, ?_⟩
  refine ⟨.non, _, I.lset (its' := its ++ its2) hH e (by simp) (r.append r2) (by rw [List.length_append]; omega), rfl, q⟩
section
variable {X : Cx} {C : FC} {f : M RV} {a : Expr}
/-- x.extend(e), e a list or a tuple -/
theorem js_extA {i : Nat} {st : Stmt} (h : PS X st (tDrop (tBM X.K "list" rExtend (tVar i) (tCons (tJ X.K C f) tNil)))) (h2 : PS X st (tDrop (tBM X.K "list" (rExtT X.K) (tVar i) (tCons (tJ X.K C f) tNil)))) : JS X C st (sExt i f) := by
  refine ⟨fun pins s σ H D' I h0 => ?_⟩
  obtain ⟨F, env, fl, hd, he, q⟩ := h0
  simp only [sExt] at he
  split at he
  · rename_i ds0 h0
    split at he
    · cases he
    rename_i x e1 h1
    split at he
    · cases he
    rename_i d h2'
    split at he
    · cases he
    rename_i es h4
    split at he
    · rename_i ds h3
      split at he
      · rename_i hlen
        cases he
        obtain ⟨a, vs0, p1, p2, _⟩ := hd.ow i ds0 h0
        cases d with
        | list es' =>
          cases h4
          refine h.run pins s σ H D' I ⟨_, p1, .inl ⟨rfl, _, SqL.of p2⟩, tJ.go hd h1 fun F1 H1 v s1 g1 r1 => ?_⟩
          obtain ⟨b, vs, q1, q2, q3, q4, q5⟩ := g1.ow i ds h3
          rw [p1] at q1; cases q1
          show rExtend (.ref a) [v] H1 (fun _ H2 => D'.nx σ H2)
          refine s_ext (ds := ds) g1.ex (g1.vw r1 h2') ⟨_, rfl⟩ rfl q2 q4.length hlen fun ws rw' => ?_
          exact q F1 σ _ s1.exF (g1.write h3 p1 (q4.append rw')).1
        | tuple es' =>
          cases h4
          refine h2.run pins s σ H D' I ⟨_, p1, .inl ⟨rfl, _, SqL.of p2⟩, tJ.go hd h1 fun F1 H1 v s1 g1 r1 => ?_⟩
          obtain ⟨b, vs, q1, q2, q3, q4, q5⟩ := g1.ow i ds h3
          rw [p1] at q1; cases q1
          cases (show Rp F1 v _ from g1.vw r1 h2') with
          | tup t1 t2 =>
            refine ⟨a, _, vs, _, rfl, rfl, q2, (t1.up g1.ex).sq, by rw [q4.length, t2.length, ← lim_eq]; exact hlen, ?_⟩
            exact q F1 σ _ s1.exF (g1.write h3 p1 (q4.append t2)).1
        | _ => cases h4
      · cases he
    · cases he
  · cases he
end
end J
/-! JD: list and tuple of a range. -/
namespace J
open PySem L2
theorem rg_rp {F : Hp} {a b : Int} : RpA F (rgV a b) (rngD a (b - a).toNat) := by
  unfold rgV rngD
  generalize (b - a).toNat = n
  induction n with
  | zero => exact .nil
  | succ n ih =>
    rw [List.range_succ, List.map_append, List.map_append]
    exact ih.append (.cons (.int _) .nil)
section
variable {X : Cx} {C : FC} {fa fb : M RV} {a b e : Expr} {p p2 pos pos2 : Pos}
theorem rg1_run {K : Fr} {σ : St} {H : Hp} {P : Int → Int → Hp → Prop} {Z : List D → Env → Prop} (h : ∃ F env ds env', Hd K C F env σ H ∧ itR1 fa env = some (ds, env') ∧ ds.length ≤ limit ∧
    ∀ F1 H1 x y, Stp F env σ H F1 env' H1 → Hd K C F1 env' σ H1 → RgOk x y → ds = rngD x (y - x).toNat → P x y H1) : tRg1 (tJ K C fa) σ H P := by
  obtain ⟨F, env, ds, env', hd, he, hl, q⟩ := h
  simp only [itR1] at he
  split at he
  · rename_i n e1 h1
    split at he
    · rename_i hb
      cases he
      refine tJ.go hd h1 fun F1 H1 v s1 g1 r1 => ?_
      have r1' : Rp F1 v (.int n) := r1
      cases r1'
      rw [rngD_len] at hl
      refine ⟨n, rfl, q F1 H1 0 n s1 g1 ⟨by decide, by decide, by rw [two62]; exact hb.1, by rw [two62]; exact hb.2, by rw [Int.sub_zero]; exact hl⟩ (by rw [Int.sub_zero])⟩
    · cases he
  · cases he
theorem rg2_run {K : Fr} {σ : St} {H : Hp} {P : Int → Int → Hp → Prop} (h : ∃ F env ds env', Hd K C F env σ H ∧ itR2 fa fb env = some (ds, env') ∧ ds.length ≤ limit ∧
    ∀ F1 H1 x y, Stp F env σ H F1 env' H1 → Hd K C F1 env' σ H1 → RgOk x y → ds = rngD x (y - x).toNat → P x y H1) : tRg2 (tJ K C fa) (tJ K C fb) σ H P := by
  obtain ⟨F, env, ds, env', hd, he, hl, q⟩ := h
  simp only [itR2] at he
  split at he
  · rename_i m e1 h1
    split at he
    · rename_i n e2 h2
      split at he
      · rename_i hb
        cases he
        refine tJ.go hd h1 fun F1 H1 v s1 g1 r1 => tJ.go g1 h2 fun F2 H2 w s2 g2 r2 => ?_
        have r1' : Rp F1 v (.int m) := r1
        have r2' : Rp F2 w (.int n) := r2
        cases r1'
        cases r2'
        rw [rngD_len] at hl
        exact ⟨m, n, rfl, rfl, q F2 H2 m n (s1.trans s2) g2 ⟨by rw [two62]; exact hb.1.1, by rw [two62]; exact hb.1.2, by rw [two62]; exact hb.2.1, by rw [two62]; exact hb.2.2, hl⟩ rfl⟩
      · cases he
    · cases he
  · cases he
theorem lst_run {K : Fr} {it : M (List D)} {te : St → Hp → (Int → Int → Hp → Prop) → Prop} (hr : ∀ (σ : St) (H : Hp) (P : Int → Int → Hp → Prop), (∃ F env ds env', Hd K C F env σ H ∧ it env = some (ds, env') ∧ ds.length ≤ limit ∧
    ∀ F1 H1 x y, Stp F env σ H F1 env' H1 → Hd K C F1 env' σ H1 → RgOk x y → ds = rngD x (y - x).toNat → P x y H1) → te σ H P) {σ : St} {H : Hp} {Q : VK} (h : tJ K C (eRgL it) σ H Q) : tLstRg te σ H Q := by
  obtain ⟨F, env, rv, env', hd, he, q⟩ := h
  simp only [eRgL] at he
  split at he
  · rename_i ds e1 h1
    split at he
    · rename_i hl
      cases he
      refine hr σ H _ ⟨F, env, ds, _, hd, h1, hl, fun F1 H1 x y s1 g1 ok e => ⟨ok, fun t ht => ?_⟩⟩
      subst e
      exact q F1 _ _ (s1.trans (Stp.new ht)) (g1.new ht) (g1.tmNew s1 ht rg_rp)
    · cases he
  · cases he
theorem cV_rg (x y : Int) : cV x 1 (y - x).toNat = rgV x y := by
  unfold cV rgV
  exact List.map_congr_left fun k _ => by rw [Int.mul_one]
theorem tup_run {K : Fr} {it : M (List D)} {te : St → Hp → (Int → Int → Hp → Prop) → Prop} (hr : ∀ (σ : St) (H : Hp) (P : Int → Int → Hp → Prop), (∃ F env ds env', Hd K C F env σ H ∧ it env = some (ds, env') ∧ ds.length ≤ limit ∧
    ∀ F1 H1 x y, Stp F env σ H F1 env' H1 → Hd K C F1 env' σ H1 → RgOk x y → ds = rngD x (y - x).toNat → P x y H1) → te σ H P) {σ : St} {H : Hp} {Q : VK} (h : tJ K C (eRgT it) σ H Q) : tTupRgC (fun σ H R => te σ H fun i j H1 => (-(2 ^ 62) ≤ i ∧ i < 2 ^ 62 ∧ -(2 ^ 62) ≤ j ∧ j < 2 ^ 62) ∧ R i 1 (j - i).toNat H1) σ H Q := by
  obtain ⟨F, env, rv, env', hd, he, q⟩ := h
  simp only [eRgT] at he
  split at he
  · rename_i ds e1 h1
    split at he
    · rename_i hl
      cases he
      refine hr σ H _ ⟨F, env, ds, _, hd, h1, hl, fun F1 H1 x y s1 g1 ok e => ⟨⟨ok.1, ok.2.1, ok.2.2.1, ok.2.2.2.1⟩, ok.2.2.2.2, fun t o ht ho => ?_⟩⟩
      subst e
      have hf := Same.none g1.ex ht
      rw [cV_rg]
      exact q (upd F1 t (.frz o (.tup _))) _ _ (s1.trans (Stp.newF g1.ex ht)) (g1.newF ht) (.tup ⟨o, upd_same, ho⟩ rg_rp)
    · cases he
  · cases he
variable (hl : X.mg "list" = none) (ht : X.mg "tuple" = none) (hm : X.mg "range" = none)
theorem j_listR1 (hl : X.mg "list" = none) (hm : X.mg "range" = none) (ha : JE X C a fa) (hc : X.calm = true := by rfl) (hg : Gl X "list" := by rfl) (hg2 : Gl X "range" := by rfl) (hs : starEach [a] X.env = (false, eval a X.env) :: starEach [] X.env := by rfl) :
    JE X C (.Call (.Name "list" p) [.Call (.Name "range" p2) [a] [] pos2] [] pos) (eRgL (itR1 fa)) := pe_weak (pe_listRg hc hg hl (prg_1 hg2 hm ha hs) rfl) fun σ H Q h => lst_run (fun σ H P z => rg1_run (Z := fun _ _ => True) z) h
theorem j_tupleR1 (hl : X.mg "tuple" = none) (hm : X.mg "range" = none) (ha : JE X C a fa) (hc : X.calm = true := by rfl) (hg : Gl X "tuple" := by rfl) (hg2 : Gl X "range" := by rfl) (hs : starEach [a] X.env = (false, eval a X.env) :: starEach [] X.env := by rfl) :
    JE X C (.Call (.Name "tuple" p) [.Call (.Name "range" p2) [a] [] pos2] [] pos) (eRgT (itR1 fa)) := pe_weak (pe_tupRgC hc hg hl (prgc_of (prg_1 hg2 hm ha hs)) rfl) fun σ H Q h => tup_run (fun σ H P z => rg1_run (Z := fun _ _ => True) z) h
theorem j_listR2 (hl : X.mg "list" = none) (hm : X.mg "range" = none) (ha : JE X C a fa) (hb : JE X C b fb) (hc : X.calm = true := by rfl) (hg : Gl X "list" := by rfl) (hg2 : Gl X "range" := by rfl) (hs : starEach [a, b] X.env = (false, eval a X.env) :: starEach [b] X.env := by rfl) (hs2 : starEach [b] X.env = (false, eval b X.env) :: starEach [] X.env := by rfl) (hp : (backTo pos2 (starEach [b] X.env)).any (·.1) = false := by rfl) :
    JE X C (.Call (.Name "list" p) [.Call (.Name "range" p2) [a, b] [] pos2] [] pos) (eRgL (itR2 fa fb)) := pe_weak (pe_listRg hc hg hl (prg_2 hg2 hm ha hb hs hs2 hp) rfl) fun σ H Q h => lst_run (fun σ H P z => rg2_run z) h
theorem j_tupleR2 (hl : X.mg "tuple" = none) (hm : X.mg "range" = none) (ha : JE X C a fa) (hb : JE X C b fb) (hc : X.calm = true := by rfl) (hg : Gl X "tuple" := by rfl) (hg2 : Gl X "range" := by rfl) (hs : starEach [a, b] X.env = (false, eval a X.env) :: starEach [b] X.env := by rfl) (hs2 : starEach [b] X.env = (false, eval b X.env) :: starEach [] X.env := by rfl) (hp : (backTo pos2 (starEach [b] X.env)).any (·.1) = false := by rfl) :
    JE X C (.Call (.Name "tuple" p) [.Call (.Name "range" p2) [a, b] [] pos2] [] pos) (eRgT (itR2 fa fb)) := pe_weak (pe_tupRgC hc hg hl (prgc_of (prg_2 hg2 hm ha hb hs hs2 hp)) rfl) fun σ H Q h => tup_run (fun σ H P z => rg2_run z) h
end
end J
/-! JE: a pair stored at two places of lists, a range that falls, in, is True. -/
namespace J
open PySem L2
section
variable {X : Cx} {C : FC} {f fa fb fc : M RV} {st : Stmt} {es : M (List D)} {a b e : Expr} {p pos : Pos}
theorem st1_run {K : Fr} {i : Nat} {ie : M RV} {d : D} {F : Hp} {env env' : Env} {σ : St} {H : Hp} {v : V} {Q : St → Hp → Prop} (hd : Hd K C F env σ H) (r : Rp F v d) (he : st1 i ie d env = some env')
    (q : ∀ F' H', Same F F' → Hd K C F' env' σ H' → Q σ H') : gSub (tVar i) (tJ K C ie) rSetL v σ H Q := by
  simp only [st1] at he
  split at he
  · rename_i ds0 h0
    split at he
    · rename_i k e3 h3
      split at he
      · rename_i ds h4
        split at he
        · rename_i j h5
          cases he
          obtain ⟨a, vs0, p1, p2, _⟩ := hd.ow i ds0 h0
          refine ⟨_, p1, tJ.go hd h3 fun F3 H3 w s3 g3 r3 => ?_⟩
          have r3' : Rp F3 w (.int k) := r3
          cases r3'
          obtain ⟨b, vs, q1, q2, q3, q4, q5⟩ := g3.ow i ds h4
          rw [p1] at q1; cases q1
          refine ⟨_, vs, k, j, rfl, rfl, q2, by rw [q4.length]; exact h5, ?_⟩
          exact q F3 _ s3.exF (g3.write h4 p1 (RpA.set j (r.up s3.exF) q4)).1
        · cases he
      · cases he
    · cases he
  · cases he
theorem js_ps {i j : Nat} (h : PS X st (tAsg (tTupZ (taJ X.K C es)) (gTup X.K 2 (gCons (gSub (tVar i) (tJ X.K C fa) rSetL) (gCons (gSub (tVar j) (tJ X.K C fb) rSetL) gNil))))) : JS X C st (sPS i fa j fb es) := by
  refine ps_weak h fun D' σ H ⟨F, env, fl, hd, he, q⟩ => ?_
  simp only [sPS] at he
  split at he
  · rename_i d1 d2 e0 h1
    split at he
    · rename_i e1 h2
      split at he
      · rename_i e2 h3
        cases he
        refine taJ.go hd h1 fun F1 H1 vs s1 g1 r1 => ⟨by rw [r1.length]; exact (by decide : (2 : Nat) ≤ sizeLine), fun p o hp ho => ?_⟩
        have g2 := g1.newF (o := .frz o (.tup vs)) hp
        have hf := Same.none g1.ex hp
        have up : Same F1 (upd F1 p (.frz o (.tup vs))) := same_upd hf
        cases r1 with
        | cons ra rr =>
        cases rr with
        | cons rb rr =>
        cases rr
        refine ⟨p, _, rfl, .inl (.inr ⟨o, upd_same⟩), rfl, _, _, rfl, st1_run g2 (ra.up up) h2 fun F3 H3 s3 g3 => ?_⟩
        refine ⟨_, _, rfl, st1_run g3 ((rb.up up).up s3) h3 fun F4 H4 s4 g4 => ?_⟩
        exact ⟨rfl, q F4 σ H4 ((s1.exF.trans up).trans (s3.trans s4)) g4⟩
      · cases he
    · cases he
  · cases he
/-! range(a, b, -1) -/
theorem rngM_get {lo : Int} {n i : Nat} {d : D} (h : (rngM lo n)[i]? = some d) : i < n ∧ d = .int (lo - (i : Nat)) := by
  unfold rngM at h
  rw [List.getElem?_map] at h
  rcases Nat.lt_or_ge i n with hi | hi
  · rw [List.getElem?_range hi] at h
    cases h
    exact ⟨hi, rfl⟩
  · rw [List.getElem?_eq_none (by rw [List.length_range]; exact hi)] at h
    cases h
theorem wk_rangeM {K : Fr} {F0 : Hp} {lo : Int} {n : Nat} : Wk K C F0 (Itc lo (-1) n) (rngM lo n) := fun F env σ H s g => by
  refine ⟨fun i hi => by have : (rngM lo n).length = n := by unfold rngM; simp
                         rw [this] at hi; exact hi, fun i d hd => ?_⟩
  obtain ⟨h1, rfl⟩ := rngM_get hd
  refine ⟨h1, fun x H' ⟨e, hy⟩ => ?_⟩
  subst e hy
  have : lo + (i : Nat) * (-1 : Int) = lo - (i : Nat) := by omega
  rw [this]
  exact ⟨F, g, Stp.refl, .int _⟩
theorem ji_r3 {tg iter : Expr} (h : PI X tg iter (iRng3 (tCons (tJ X.K C fa) (tCons (tJ X.K C fb) (tCons (tJ X.K C fc) tNil))))) : JI X C tg iter (itR3 fa fb fc) := by
  refine pi_weak h fun σ H R ⟨F, env, ds, env', hd, he, q⟩ => ?_
  simp only [itR3] at he
  split at he
  · rename_i m e1 h1
    split at he
    · rename_i n e2 h2
      split at he
      · rename_i s e3 h3
        split at he
        · rename_i hb
          obtain ⟨rfl, hb1, hb2⟩ := hb
          cases he
          refine tJ.go hd h1 fun F1 H1 v s1 g1 r1 => tJ.go g1 h2 fun F2 H2 w s2 g2 r2 => tJ.go g2 h3 fun F3 H3 z s3 g3 r3 => ?_
          have r1' : Rp F1 v (.int m) := r1
          have r2' : Rp F2 w (.int n) := r2
          have r3' : Rp F3 z (.int (-1)) := r3
          cases r1'
          cases r2'
          cases r3'
          exact ⟨m, n, -1, _, rfl, RgC.neg (by rw [two62]; exact hb1.1) (by rw [two62]; exact hb1.2) (by rw [two62]; exact hb2.1) (by rw [two62]; exact hb2.2), q F3 H3 _ (s1.trans (s2.trans s3)) g3 wk_rangeM⟩
        · cases he
      · cases he
    · cases he
  · cases he
/-! in -/
theorem flt_V {F : Hp} {v : V} {d : D} (r : Rp F v d) (h : flt d = true) : flatV v = true := by
  cases d <;> simp [flt] at h <;> cases r <;> rfl
theorem flt_all {F : Hp} : ∀ {vs : List V} {ds : List D}, RpA F vs ds → ds.all flt = true → vs.all flatV = true
  | _, _, .nil, _ => rfl
  | _, _, .cons r t, h => by
    rw [List.all_cons, Bool.and_eq_true] at h ⊢
    exact ⟨flt_V r h.1, flt_all t h.2⟩
theorem flt_eq {F : Hp} {v w : V} {d e : D} (r : Rp F v d) (s : Rp F w e) (h : flt d = true) (k : flt e = true) : eqV v w = beqD d e := by
  cases d <;> simp [flt] at h <;> cases e <;> simp [flt] at k <;> cases r <;> cases s <;> simp [eqV, beqD, Bool.beq_eq_decide_eq]
theorem flt_any {F : Hp} {v : V} {d : D} (r : Rp F v d) (h : flt d = true) : ∀ {vs : List V} {ds : List D}, RpA F vs ds → ds.all flt = true → inV v vs = ds.any fun x => beqD x d
  | _, _, .nil, _ => rfl
  | _, _, .cons a t, k => by
    rw [List.all_cons, Bool.and_eq_true] at k
    unfold inV
    rw [List.any_cons, List.any_cons, flt_eq a r k.1 h]
    congr 1
    exact flt_any r h t k.2
theorem vw_flt {F H : Hp} {v : V} {d : D} (w : VwD F H v d) (h : flt d = true) : Rp F v d := by
  cases d <;> simp [flt] at h <;> exact w
theorem s_in : S2 (rIn X.K false) inD := fun F H x y d e rt Q s v w q p => by
  simp only [inD] at q
  split at q
  · rename_i ds hs
    split at q
    · rename_i hf
      cases q
      have rv := vw_flt v hf.1
      cases e <;> simp only [seqD] at hs <;> cases hs
      · obtain ⟨l, vs, rfl, h1, h2⟩ := w
        refine ⟨l, vs, rfl, .inl (SqL.of h1), flt_V rv hf.1, flt_all h2 hf.2, ?_⟩
        rw [if_neg (by decide), flt_any rv hf.1 h2 hf.2]
        exact p _ F H (.inl ⟨rfl, rfl⟩) (.bl _)
      · cases (show Rp F y _ from w) with
        | tup h1 h2 =>
          refine ⟨_, _, rfl, .inr ((h1.up s).sq), flt_V rv hf.1, flt_all h2 hf.2, ?_⟩
          rw [if_neg (by decide), flt_any rv hf.1 h2 hf.2]
          exact p _ F H (.inl ⟨rfl, rfl⟩) (.bl _)
    · cases q
  · cases q
theorem s_notIn : S2 (rIn X.K true) notInD := fun F H x y d e rt Q s v w q p => by
  simp only [notInD] at q
  split at q
  · rename_i ds hs
    split at q
    · rename_i hf
      cases q
      have rv := vw_flt v hf.1
      cases e <;> simp only [seqD] at hs <;> cases hs
      · obtain ⟨l, vs, rfl, h1, h2⟩ := w
        refine ⟨l, vs, rfl, .inl (SqL.of h1), flt_V rv hf.1, flt_all h2 hf.2, ?_⟩
        rw [if_pos rfl, flt_any rv hf.1 h2 hf.2]
        exact p _ F H (.inl ⟨rfl, rfl⟩) (.bl _)
      · cases (show Rp F y _ from w) with
        | tup h1 h2 =>
          refine ⟨_, _, rfl, .inr ((h1.up s).sq), flt_V rv hf.1, flt_all h2 hf.2, ?_⟩
          rw [if_pos rfl, flt_any rv hf.1 h2 hf.2]
          exact p _ F H (.inl ⟨rfl, rfl⟩) (.bl _)
    · cases q
  · cases q
/-! is True -/
theorem s_isB : S2 rIsB isBD := fun F H x y d e rt Q s v w q p => by
  cases d <;> cases e <;> simp only [isBD] at q <;> cases q
  cases (show Rp F x _ from v)
  cases (show Rp F y _ from w)
  refine ⟨_, _, rfl, rfl, p _ F H (.inl ⟨rfl, rfl⟩) ?_⟩
  rw [Bool.beq_eq_decide_eq]
  exact .bl _
theorem s_notB : S2 rNotB notBD := fun F H x y d e rt Q s v w q p => by
  cases d <;> cases e <;> simp only [notBD] at q <;> cases q
  cases (show Rp F x _ from v)
  cases (show Rp F y _ from w)
  refine ⟨_, _, rfl, rfl, p _ F H (.inl ⟨rfl, rfl⟩) ?_⟩
  rw [Bool.beq_eq_decide_eq]
  exact .bl _
end
end J
/-! JF: tuple(range(a, b, -1)), t.count(x), x.pop(k). -/
namespace J
open PySem L2
theorem cV_rp {F : Hp} {lo : Int} {n : Nat} : RpA F (cV lo (-1) n) (rngM lo n) := by
  unfold cV rngM
  induction n with
  | zero => exact .nil
  | succ n ih =>
    rw [List.range_succ, List.map_append, List.map_append]
    refine ih.append (.cons ?_ .nil)
    show Rp F (V.int (lo + (n : Int) * (-1))) (PyData.int (lo - (n : Int)))
    rw [show lo + (n : Int) * (-1) = lo - (n : Int) by omega]
    exact .int _
section
variable {X : Cx} {C : FC} {fa fb fc : M RV} {a b c e : Expr} {p p2 pos pos2 : Pos}
theorem tup3_run {K : Fr} {σ : L2.St} {H : Hp} {Q : VK} (h : tJ K C (eRgT (itR3 fa fb fc)) σ H Q) : tTupRgC (tRg3 (tCons (tJ K C fa) (tCons (tJ K C fb) (tCons (tJ K C fc) tNil)))) σ H Q := by
  obtain ⟨F, env, rv, env', hd, he, q⟩ := h
  simp only [eRgT] at he
  split at he
  · rename_i ds e0 h0
    split at he
    · rename_i hl
      cases he
      simp only [itR3] at h0
      split at h0
      · rename_i m e1 h1
        split at h0
        · rename_i n e2 h2
          split at h0
          · rename_i s e3 h3
            split at h0
            · rename_i hb
              obtain ⟨rfl, hb1, hb2⟩ := hb
              cases h0
              refine tJ.go hd h1 fun F1 H1 v s1 g1 r1 => tJ.go g1 h2 fun F2 H2 w s2 g2 r2 => tJ.go g2 h3 fun F3 H3 z s3 g3 r3 => ?_
              have r1' : Rp F1 v (.int m) := r1
              have r2' : Rp F2 w (.int n) := r2
              have r3' : Rp F3 z (.int (-1)) := r3
              cases r1'
              cases r2'
              cases r3'
              have hlen : (m - n).toNat ≤ 2 ^ 24 := by
                have z : (rngM m (m - n).toNat).length = (m - n).toNat := by unfold rngM; rw [List.length_map, List.length_range]
                rw [z] at hl
                exact hl
              refine ⟨m, n, -1, _, rfl, RgC.neg (by rw [two62]; exact hb1.1) (by rw [two62]; exact hb1.2) (by rw [two62]; exact hb2.1) (by rw [two62]; exact hb2.2), hlen, fun t o ht ho => ?_⟩
              have hf := Same.none g3.ex ht
              exact q (upd F3 t (.frz o (.tup _))) _ _ ((s1.trans (s2.trans s3)).trans (Stp.newF g3.ex ht)) (g3.newF ht) (.tup ⟨o, upd_same, ho⟩ cV_rp)
            · cases h0
          · cases h0
        · cases h0
      · cases h0
    · cases he
  · cases he
theorem j_tupleR3 (hl : X.mg "tuple" = none) (hm : X.mg "range" = none) (ha : JE X C a fa) (hb : JE X C b fb) (hc : JE X C c fc) (hcm : X.calm = true := by rfl) (hg : Gl X "tuple" := by rfl) (hg2 : Gl X "range" := by rfl)
    (hs : starEach [a, b, c] X.env = (false, eval a X.env) :: starEach [b, c] X.env := by rfl) (hs2 : starEach [b, c] X.env = (false, eval b X.env) :: starEach [c] X.env := by rfl) (hs3 : starEach [c] X.env = (false, eval c X.env) :: starEach [] X.env := by rfl) (hp : (backTo pos2 (starEach [b, c] X.env)).any (·.1) = false := by rfl) :
    JE X C (.Call (.Name "tuple" p) [.Call (.Name "range" p2) [a, b, c] [] pos2] [] pos) (eRgT (itR3 fa fb fc)) :=
  pe_weak (pe_tupRgC hcm hg hl (prgc_3 hg2 hm (pa_cons ha (pa_cons hb (pa_cons hc pa_nil hs3) hs2) hs) hs hp) rfl) fun σ H Q h => tup3_run h
/-! t.count(x) -/
theorem flt_cnt {F : Hp} {v : V} {d : D} (r : Rp F v d) (h : flt d = true) : ∀ {vs : List V} {ds : List D}, RpA F vs ds → ds.all flt = true → (vs.countP fun x => eqV x v) = ds.countP fun x => beqD x d
  | _, _, .nil, _ => rfl
  | _, _, .cons a t, k => by
    rw [List.all_cons, Bool.and_eq_true] at k
    rw [List.countP_cons, List.countP_cons, flt_cnt r h t k.2, flt_eq a r k.1 h]
theorem je_cnt (h : ∀ H0, PE X e (tBMT (rCnt H0) (tJ X.K C fa) (tCons (tJ X.K C fb) tNil))) : JE X C e (eCnt fa fb) := by
  refine pe_weak (h fun _ => none) fun σ H Q ⟨F, env, rv, env', hd, he, q⟩ => ?_
  simp only [eCnt] at he
  split at he
  · rename_i ds e1 h1
    split at he
    · rename_i d e2 h2
      split at he
      · rename_i hf
        cases he
        refine tJ.go hd h1 fun F1 H1 v s1 g1 r1 => ?_
        have r1' : Rp F1 v (.tuple ds) := r1
        cases r1' with
        | tup t1 t2 =>
          refine ⟨⟨_, _, rfl, t1.up g1.ex⟩, tJ.go g1 h2 fun F2 H2 w s2 g2 r2 => ?_⟩
          have r2' : Rp F2 w d := r2
          refine ⟨_, _, w, rfl, rfl, (t1.up s2.exF).up g2.ex, flt_all (t2.up s2.exF) hf.2, flt_V r2' hf.1, ?_⟩
          rw [flt_cnt r2' hf.1 (t2.up s2.exF) hf.2]
          exact q F2 H2 _ (s1.trans s2) g2 (.int _)
      · cases he
    · cases he
  · cases he
/-! x.pop(k) -/
theorem RpA.erase {F : Hp} : ∀ {vs : List V} {ds : List D} (i : Nat), RpA F vs ds → RpA F (vs.eraseIdx i) (ds.eraseIdx i)
  | _, _, _, .nil => .nil
  | _, _, 0, .cons _ t => t
  | _, _, i + 1, .cons a t => .cons a (RpA.erase i t)
theorem je_popA {i : Nat} (h : PE X e (tBM X.K "list" rPopAt (tVar i) (tCons (tJ X.K C fa) tNil))) : JE X C e (ePopA i fa) := by
  refine pe_weak h fun σ H Q ⟨F, env, rv, env', hd, he, q⟩ => ?_
  simp only [ePopA] at he
  split at he
  · rename_i ds0 h0
    split at he
    · rename_i n e1 h1
      split at he
      · rename_i ds h3
        split at he
        · rename_i hn
          split at he
          · rename_i d h4
            split at he
            · rename_i hb
              cases he
              obtain ⟨a, vs0, p1, p2, _⟩ := hd.ow i ds0 h0
              refine ⟨_, p1, .inl ⟨rfl, _, SqL.of p2⟩, tJ.go hd h1 fun F1 H1 v s1 g1 r1 => ?_⟩
              have r1' : Rp F1 v (.int n) := r1
              cases r1'
              obtain ⟨b, vs, q1, q2, q3, q4, q5⟩ := g1.ow i ds h3
              rw [p1] at q1; cases q1
              obtain ⟨u, z1, z2⟩ := q4.getd h4
              obtain ⟨w1, w2⟩ := g1.write h3 p1 (RpA.erase n.toNat q4)
              have hlt : n.toNat < vs.length := (List.getElem?_eq_some_iff.mp z1).1
              have hb' : n < 4611686018427387904 := hb
              have e2 : seqIndex? n vs.length = some n.toNat := by
                unfold seqIndex?
                simp
                omega
              exact ⟨a, vs, n, n.toNat, u, rfl, rfl, q2, by omega, by omega, e2, z1, q F1 _ u (s1.trans w2) w1 z2⟩
            · cases he
          · cases he
        · cases he
      · cases he
    · cases he
  · cases he
/-! str(i) -/
theorem s_str : S1 (fun xs H Q => ∃ i : Int, xs = [V.int i] ∧ i.natAbs.log2 < 1920 ∧ Q (.str (toString i)) H) strD := fun F H x d rt Q s v q p => by
  cases d <;> simp only [strD] at q <;> try (cases q)
  split at q
  · rename_i i h
    cases q
    cases (show Rp F x _ from v)
    refine ⟨i, rfl, ?_, p _ F H (.inl ⟨rfl, rfl⟩) (.str _)⟩
    by_cases z : i.natAbs = 0
    · rw [z]; decide
    · exact (Nat.log2_lt z).mpr (Nat.lt_of_lt_of_le h (Nat.pow_le_pow_right (by decide) (by decide)))
  · cases q
theorem j_str (hm : X.mg "str" = none) (ha : JE X C a fa) (hg : Gl X "str" := by rfl) (hs : starEach [a] X.env = (false, eval a X.env) :: starEach [] X.env := by rfl) :
    JE X C (.Call (.Name "str" p) [a] [] pos) (eOp1 strD fa) := je_b s_str (pe_callTy call_str_int hg hm bt_str (pa_cons ha pa_nil hs) (he := hs))
/-! a < b < c -/
theorem jt_chain {op op' : CmpOp} {r r' : R2} {g g' : D → D → Option Rt} (ho : OpR X (compareOp op) r) (ho' : OpR X (compareOp op') r') (S : S2 r g) (S' : S2 r' g') (ha : JE X C a fa) (hb : JE X C b fb) (hc : JE X C c fc)
    (hm : lastMarks [op, op'] [b, c] = false := by with_unfolding_all rfl) : JT X C (.Compare a [op, op'] [b, c] pos) (tCh g g' fa fb fc) := by
  refine pt_weak (pt_chain ho ho' ha hb hc hm) fun σ H Q ⟨F, env, bb, env', hd, he, q⟩ => ?_
  simp only [tCh] at he
  split at he
  · rename_i i e1 h1
    split at he
    · rename_i j e2 h2
      split at he
      · rename_i k h3
        refine tJ.go hd h1 fun F1 H1 v s1 g1 r1 => tJ.go g1 h2 fun F2 H2 w s2 g2 r2 => ?_
        have r1' : Rp F1 v (.int i) := r1
        have r2' : Rp F2 w (.int j) := r2
        cases r1'
        cases r2'
        refine S F2 H2 _ _ (.int i) (.int j) _ _ g2.ex (show Rp F2 _ _ from .int i) (show Rp F2 _ _ from .int j) h3 (fun v3 F3 H3 x3 r3 => ?_)
        have r3' : Rp F3 v3 (.bool k) := r3
        cases r3'
        obtain ⟨g3, s3⟩ := Ext.hd g2 x3
        refine ⟨k, rfl, ?_⟩
        by_cases z : k = true
        · rw [if_pos z] at he ⊢
          split at he
          · rename_i l e3 h4
            split at he
            · rename_i m h5
              cases he
              refine tJ.go g3 h4 fun F4 H4 u s4 g4 r4 => ?_
              have r4' : Rp F4 u (.int l) := r4
              cases r4'
              refine S' F4 H4 _ _ (.int j) (.int l) _ _ g4.ex (show Rp F4 _ _ from .int j) (show Rp F4 _ _ from .int l) h5 (fun v5 F5 H5 x5 r5 => ?_)
              have r5' : Rp F5 v5 (.bool bb) := r5
              cases r5'
              obtain ⟨g5, s5⟩ := Ext.hd g4 x5
              exact ⟨bb, rfl, q F5 H5 (((s1.trans s2).trans s3).trans (s4.trans s5)) g5⟩
            · cases he
          · cases he
        · rw [if_neg z] at he ⊢
          cases he
          exact ⟨false, rfl, q F3 H3 ((s1.trans s2).trans s3) g3⟩
      · cases he
    · cases he
  · cases he
end
end J
namespace K12
open PySem L2 J
def top (i : Nat) : Stmt := PySem.Challenge.pw_sennit_k12_whole_front_transducer.main.body.getD i (.Pass ⟨0, 0, 0, 0⟩)
abbrev s__law_cell : Stmt := top 24
abbrev s__law_box : Stmt := top 25
abbrev s__law_take : Stmt := top 26
abbrev s__law_strands : Stmt := top 27
abbrev s__law_perm : Stmt := top 31
abbrev s__law_power : Stmt := top 35
abbrev s__law_starts : Stmt := top 29
abbrev s__law_factor : Stmt := top 32
abbrev s__law_inverse : Stmt := top 30
abbrev s__law_row : Stmt := top 33
abbrev s_starts : Stmt := top 6
abbrev s_inverse_perm : Stmt := top 4
abbrev s_finishes : Stmt := top 7
abbrev s_weighted : Stmt := top 16
abbrev s_perm_of : Stmt := top 5
abbrev s__common_divisor : Stmt := top 13
abbrev s_meet_of : Stmt := top 12
abbrev s_compose : Stmt := top 3
abbrev s__rest_behind : Stmt := top 11
abbrev s_half_turn : Stmt := top 2
abbrev s_right_complement : Stmt := top 14
abbrev s_slide_pair : Stmt := top 17
abbrev s_front_step : Stmt := top 21
abbrev s__law_rest : Stmt := top 44
abbrev s__law_divides : Stmt := top 43
abbrev s__law_is_integer : Stmt := top 28
abbrev s__law_perm_holds : Stmt := top 38
abbrev s__law_step_holds : Stmt := top 45
abbrev s__law_heads : Stmt := top 46
abbrev s_twist : Stmt := top 15
abbrev s__twisted : Stmt := top 19
abbrev s_is_half_turn : Stmt := top 9
abbrev s_identity : Stmt := top 1
abbrev s_is_trivial_perm : Stmt := top 8
abbrev s__trimmed : Stmt := top 20
abbrev s_put_in_front : Stmt := top 22
abbrev s__law_heads_of_form : Stmt := top 48
abbrev s__law_most : Stmt := top 34
abbrev s__law_form_of_heads : Stmt := top 47
abbrev s__law_form_holds : Stmt := top 39
abbrev s__law_front_holds : Stmt := top 49
abbrev s__law_staircase : Stmt := top 36
abbrev s__law_form_letters : Stmt := top 37
abbrev s__law_sign_sum : Stmt := top 42
abbrev s__law_free : Stmt := top 40
abbrev s__law_images : Stmt := top 41
abbrev s__law_letters_hold : Stmt := top 50
abbrev s_law : Stmt := top 51
structure Txt (mg : Str → Option Value) : Prop where
  b_abs : mg "abs" = none
  b_all : mg "all" = none
  b_bool : mg "bool" = none
  b_enumerate : mg "enumerate" = none
  b_int : mg "int" = none
  b_isinstance : mg "isinstance" = none
  b_len : mg "len" = none
  b_list : mg "list" = none
  b_max : mg "max" = none
  b_min : mg "min" = none
  b_range : mg "range" = none
  b_sorted : mg "sorted" = none
  b_sum : mg "sum" = none
  b_tuple : mg "tuple" = none
section
variable {P : Program} {w : World} {K : Fr} {mg : Str → Option Value} {base : Heap}
theorem sc__law_cell : FnScope ["script", "k"] ["script", "k"] (defScope s__law_cell) := ⟨rfl, rfl, rfl, by decide +kernel, rfl, by decide +kernel, by decide +kernel⟩
theorem d__law_cell {fa : Addr} {fd : FuncData} (Fu : Fun K "_law_cell" "_law_cell" s__law_cell fa fd) (T : Txt mg) : FnOk P w K mg base CX0 1 fa fd ["script", "k"] (spJ K [.sc, .bw] f__law_cell) :=
  fnJ (k := 0) (n := 0) (f := b__law_cell) Fu sc__law_cell rfl rfl fun cdv A outer s H E C hr hC =>
    (jss_cons (js_if (jt_cmp op_lt s_lt (je_var (pv 1)) (j_scLen T.b_len (pv 0)) (nomark _)) (jss_one (js_ret (j_int T.b_int (j_scIx (pv 0) (je_var (pv 1)))))) jss_nil) (jss_one (js_ret (je_op (op_add.or (op_cat.or (op_catZ.or op_cat0))) s_add (je_op (op_mulW.or op_rep) s_mul je_int (je_op (op_add.or (op_cat.or (op_catZ.or op_cat0))) s_add (je_var (pv 1)) je_int)) (je_op (op_mulW.or op_rep) s_mul je_int (j_int T.b_int (je_op op_modN s_mod (j_int T.b_int (j_sum T.b_sum (j_scSl (pv 0) jo_no (jo_so je_int)))) je_int)))))))
theorem sc__law_box : FnScope ["script", "k", "cell", "great"] ["script", "k"] (defScope s__law_box) := ⟨rfl, rfl, rfl, by decide +kernel, rfl, by decide +kernel, by decide +kernel⟩
theorem d__law_box {fa : Addr} {fd : FuncData} (Fu : Fun K "_law_box" "_law_box" s__law_box fa fd) (T : Txt mg) (G__law_cell : Cal P w K mg base "_law_cell" 1 ["script", "k"] [.sc, .bw] f__law_cell) : FnOk P w K mg base CX0 2 fa fd ["script", "k"] (spJ K [.sc, .bw] f__law_box) :=
  fnJ (k := 1) (n := 2) (f := b__law_box) Fu sc__law_box rfl rfl fun cdv A outer s H E C hr hC =>
    (jss_cons (js_asgF hC (by decide) (ps_set (i := 2) sc__law_box.nd rfl (Or.inl rfl) (j_abs T.b_abs (j_call G__law_cell hr (by decide) (jar_sc (pv 0) (jar_bw (je_var (pv 1)) jar_nil)) rfl)))) (jss_cons (js_asgF hC (by decide) (ps_set (i := 3) sc__law_box.nd rfl (Or.inl rfl) je_int)) (jss_cons (js_if (jt_cmp op_ge s_ge (je_var (pv 2)) (je_op op_pow s_pow je_int je_int) (nomark _)) (jss_one (js_asgF hC (by decide) (ps_set (i := 3) sc__law_box.nd rfl (Or.inl rfl) je_int))) jss_nil) (jss_one (js_ret (je_lst (ja_cons (je_var (pv 2)) (ja_cons (je_op op_modN s_mod (j_int T.b_int (je_op (op_add.or (op_cat.or (op_catZ.or op_cat0))) s_add (je_var (pv 2)) (je_op (op_mulW.or op_rep) s_mul je_int (je_var (pv 1))))) je_int) (ja_cons je_int (ja_cons (je_var (pv 3)) ja_nil))))))))))
theorem sc__law_take : FnScope ["box", "many", "drawn", "number"] ["box", "many"] (defScope s__law_take) := ⟨rfl, rfl, rfl, by decide +kernel, rfl, by decide +kernel, by decide +kernel⟩
theorem d__law_take {fa : Addr} {fd : FuncData} (Fu : Fun K "_law_take" "_law_take" s__law_take fa fd) (T : Txt mg) : FnOk P w K mg base CX0 1 fa fd ["box", "many"] (spJ K [.mt, .bw] f__law_take) :=
  fnJ (k := 0) (n := 2) (f := b__law_take) Fu sc__law_take rfl rfl fun cdv A outer s H E C hr hC =>
    (jss_cons (js_set (ps_asg (je_op (op_add.or (op_cat.or (op_catZ.or op_cat0))) s_add (j_ix (je_var (pv 0)) je_int) je_int) (pg_sub (pv 0) je_int set_list))) (jss_cons (js_if (jt_w (jw_and (jt_cmp (op_eqD hr.units) s_eq (j_ix (je_var (pv 0)) je_int) je_int (nomark _)) (jw_and1 (jt_cmp op_gt s_gt (j_ix (je_var (pv 0)) je_int) je_int (nomark _))))) (jss_cons (js_asg hC (by decide) (ps_set (i := 2) sc__law_take.nd rfl (Or.inl rfl) (je_op op_modN s_mod (j_int T.b_int (j_ix (je_var (pv 0)) je_int)) (je_var (pv 1))))) (jss_cons (js_set (ps_asg (je_op op_fdivN s_fdiv (j_ix (je_var (pv 0)) je_int) (je_var (pv 1))) (pg_sub (pv 0) je_int set_list))) (jss_one (js_ret (je_var (pv 2)))))) jss_nil) (jss_cons (js_asgF hC (by decide) (ps_set (i := 3) sc__law_take.nd rfl (Or.inl rfl) (je_op op_modN s_mod (j_int T.b_int (je_op (op_add.or (op_cat.or (op_catZ.or op_cat0))) s_add (je_op (op_add.or (op_cat.or (op_catZ.or op_cat0))) s_add (je_op (op_mulW.or op_rep) s_mul (j_ix (je_var (pv 0)) je_int) je_int) (je_op (op_mulW.or op_rep) s_mul (j_ix (je_var (pv 0)) je_int) je_int)) je_int)) je_int))) (jss_cons (js_asgF hC (by decide) (ps_set (i := 3) sc__law_take.nd rfl (Or.inl rfl) (je_op op_modN s_mod (j_int T.b_int (je_op (op_add.or (op_cat.or (op_catZ.or op_cat0))) s_add (je_op (op_mulW.or op_rep) s_mul (je_var (pv 3)) je_int) (je_op (op_mulW.or op_rep) s_mul (je_op op_fdivN s_fdiv (je_var (pv 3)) je_int) (j_ix (je_var (pv 0)) je_int)))) je_int))) (jss_cons (js_asgF hC (by decide) (ps_set (i := 3) sc__law_take.nd rfl (Or.inl rfl) (je_op op_modN s_mod (j_int T.b_int (je_op (op_add.or (op_cat.or (op_catZ.or op_cat0))) s_add (je_op (op_mulW.or op_rep) s_mul (je_var (pv 3)) (je_var (pv 3))) (j_ix (je_var (pv 0)) je_int))) je_int))) (jss_one (js_ret (je_op op_modN s_mod (j_int T.b_int (je_op op_fdivN s_fdiv (je_var (pv 3)) je_int)) (je_var (pv 1))))))))))
theorem sc__law_strands : FnScope ["box"] ["box"] (defScope s__law_strands) := ⟨rfl, rfl, rfl, by decide +kernel, rfl, by decide +kernel, by decide +kernel⟩
theorem d__law_strands {fa : Addr} {fd : FuncData} (Fu : Fun K "_law_strands" "_law_strands" s__law_strands fa fd) (T : Txt mg) (G__law_take : Cal P w K mg base "_law_take" 1 ["box", "many"] [.mt, .bw] f__law_take) : FnOk P w K mg base CX0 2 fa fd ["box"] (spJ K [.mt] f__law_strands) :=
  fnJ (k := 1) (n := 0) (f := b__law_strands) Fu sc__law_strands rfl rfl fun cdv A outer s H E C hr hC =>
    (jss_one (js_ret (j_ix (je_lst (ja_cons je_int (ja_cons je_int (ja_cons je_int (ja_cons je_int (ja_cons je_int (ja_cons je_int (ja_cons je_int (ja_cons je_int (ja_cons je_int (ja_cons je_int (ja_cons je_int (ja_cons je_int (ja_cons je_int (ja_cons je_int (ja_cons je_int (ja_cons je_int (ja_cons je_int ja_nil)))))))))))))))))) (j_call G__law_take hr (by decide) (jar_mt (pv 0) (jar_bw je_int jar_nil)) rfl))))
theorem sc__law_perm : FnScope ["box", "n", "many", "k", "number", "left", "row", "at"] ["box", "n"] (defScope s__law_perm) := ⟨rfl, rfl, rfl, by decide +kernel, rfl, by decide +kernel, by decide +kernel⟩
theorem d__law_perm {fa : Addr} {fd : FuncData} (Fu : Fun K "_law_perm" "_law_perm" s__law_perm fa fd) (T : Txt mg) (G__law_take : Cal P w K mg base "_law_take" 1 ["box", "many"] [.mt, .bw] f__law_take) : FnOk P w K mg base CX0 2 fa fd ["box", "n"] (spJ K [.mt, .bw] f__law_perm) :=
  fnJ (k := 1) (n := 6) (f := b__law_perm) Fu sc__law_perm rfl rfl fun cdv A outer s H E C hr hC =>
    (jss_cons (js_asgF hC (by decide) (ps_set (i := 2) sc__law_perm.nd rfl (Or.inl rfl) je_int)) (jss_cons (js_for (sl := [3]) PassesOwn.never rfl (ji_r2 (pi_range2 rfl T.b_range (pa_cons je_int (pa_cons (je_op (op_add.or (op_cat.or (op_catZ.or op_cat0))) s_add (je_var (pv 1)) je_int) pa_nil)))) (jg_nm hC (by decide) (by decide) (pg_name (i := 3) sc__law_perm.nd rfl (Or.inl rfl))) (jss_one (js_asgF hC (by decide) (ps_set (i := 2) sc__law_perm.nd rfl (Or.inl rfl) (je_op (op_mulW.or op_rep) s_mul (je_var (pv 2)) (je_var (pv 3))))))) (jss_cons (js_asgF hC (by decide) (ps_set (i := 4) sc__law_perm.nd rfl (Or.inl rfl) (j_call G__law_take hr (by decide) (jar_mt (pv 0) (jar_bw (je_var (pv 2)) jar_nil)) rfl))) (jss_cons (js_asg hC (by decide) (ps_set (i := 5) sc__law_perm.nd rfl (Or.inl rfl) (j_listR2 T.b_list T.b_range je_int (je_op (op_add.or (op_cat.or (op_catZ.or op_cat0))) s_add (je_var (pv 1)) je_int)))) (jss_cons (js_asg hC (by decide) (ps_set (i := 6) sc__law_perm.nd rfl (Or.inl rfl) (je_lst ja_nil))) (jss_cons (js_for (sl := [3]) PassesOwn.never rfl (ji_r1 (pi_range1 rfl T.b_range (pa_cons (je_var (pv 1)) pa_nil))) (jg_nm hC (by decide) (by decide) (pg_name (i := 3) sc__law_perm.nd rfl (Or.inl rfl))) (jss_cons (js_asgF hC (by decide) (ps_set (i := 7) sc__law_perm.nd rfl (Or.inl rfl) (je_op op_modN s_mod (j_int T.b_int (je_var (pv 4))) (j_len T.b_len (je_var (pv 5)))))) (jss_cons (js_asgF hC (by decide) (ps_set (i := 4) sc__law_perm.nd rfl (Or.inl rfl) (je_op op_fdivN s_fdiv (je_var (pv 4)) (j_len T.b_len (je_var (pv 5)))))) (jss_one (js_app (ps_expr (pe_bm PySem.F.plainAttrs_list PySem.F.slot_list_append PySem.F.type_list_append mt_append (pv 6) (pa_cons (je_popA (pe_bm PySem.F.plainAttrs_list PySem.F.slot_list_pop PySem.F.type_list_pop mt_popAt (pv 5) (pa_cons (je_var (pv 7)) pa_nil))) pa_nil)))))))) (jss_one (js_ret (j_tuple T.b_tuple (je_var (pv 6)))))))))))
theorem sc__law_power : FnScope ["box", "n", "reach"] ["box", "n"] (defScope s__law_power) := ⟨rfl, rfl, rfl, by decide +kernel, rfl, by decide +kernel, by decide +kernel⟩
theorem d__law_power {fa : Addr} {fd : FuncData} (Fu : Fun K "_law_power" "_law_power" s__law_power fa fd) (T : Txt mg) (G__law_take : Cal P w K mg base "_law_take" 1 ["box", "many"] [.mt, .bw] f__law_take) : FnOk P w K mg base CX0 2 fa fd ["box", "n"] (spJ K [.mt, .bw] f__law_power) :=
  fnJ (k := 1) (n := 1) (f := b__law_power) Fu sc__law_power rfl rfl fun cdv A outer s H E C hr hC =>
    (jss_cons (js_if (jt_cmp (op_eqD hr.units) s_eq (je_var (pv 1)) je_int (nomark _)) (jss_one (js_ret je_int)) jss_nil) (jss_cons (js_asgF hC (by decide) (ps_set (i := 2) sc__law_power.nd rfl (Or.inl rfl) (j_ix (je_lst (ja_cons je_int (ja_cons je_int (ja_cons je_int (ja_cons je_int (ja_cons je_int (ja_cons je_int (ja_cons je_int (ja_cons je_int (ja_cons je_int ja_nil)))))))))) (je_var (pv 1))))) (jss_cons (js_if (jt_cmp (op_eqD hr.units) s_eq (j_call G__law_take hr (by decide) (jar_mt (pv 0) (jar_bw je_int jar_nil)) rfl) je_int (nomark _)) (jss_one (js_asgF hC (by decide) (ps_set (i := 2) sc__law_power.nd rfl (Or.inl rfl) (j_ix (je_lst (ja_cons je_int (ja_cons je_int (ja_cons je_int (ja_cons je_int (ja_cons je_int (ja_cons je_int (ja_cons je_int (ja_cons je_int (ja_cons je_int ja_nil)))))))))) (je_var (pv 1)))))) jss_nil) (jss_one (js_ret (je_op op_sub s_sub (j_call G__law_take hr (by decide) (jar_mt (pv 0) (jar_bw (je_op (op_add.or (op_cat.or (op_catZ.or op_cat0))) s_add (je_op (op_mulW.or op_rep) s_mul je_int (je_var (pv 2))) je_int) jar_nil)) rfl) (je_var (pv 2))))))))
theorem sc__law_starts : FnScope ["row", "k"] ["row"] (defScope s__law_starts) := ⟨rfl, rfl, rfl, by decide +kernel, rfl, by decide +kernel, by decide +kernel⟩
theorem d__law_starts {fa : Addr} {fd : FuncData} (Fu : Fun K "_law_starts" "_law_starts" s__law_starts fa fd) (T : Txt mg) : FnOk P w K mg base CX0 1 fa fd ["row"] (spJ K [.bw] f__law_starts) :=
  fnJ (k := 0) (n := 1) (f := b__law_starts) Fu sc__law_starts rfl rfl fun cdv A outer s H E C hr hC =>
    (jss_one (js_ret (je_lc hC (by decide) nn_nm (pe_lc (own := [("k", 1)]) rfl sc__law_starts.nd (ji_r1 (pi_range1 rfl T.b_range (pa_cons (je_op op_sub s_sub (j_len T.b_len (je_var (pv 0))) je_int) pa_nil))) (blkOk_by (N := ["row", "k"]) (sc := defScope s__law_starts) (by decide +kernel)) (fun _ _ _ _ _ => And.left (jgx [1] (jg_nm hC (by decide) (by decide) (pg_name (i := 1) sc__law_starts.nd rfl (Or.inl rfl))))) (fun _ _ _ _ _ => (jts_one (jt_cmp op_gt s_gt (j_ix (je_var (pv 0)) (je_var (pv 1))) (j_ix (je_var (pv 0)) (je_op (op_add.or (op_cat.or (op_catZ.or op_cat0))) s_add (je_var (pv 1)) je_int)) (nomark _)))) (fun _ _ _ _ _ => (je_op (op_add.or (op_cat.or (op_catZ.or op_cat0))) s_add (je_var (pv 1)) je_int))))))
theorem sc__law_factor : FnScope ["box", "n", "allowed", "row", "entries", "part", "k", "begins", "at"] ["box", "n", "allowed"] (defScope s__law_factor) := ⟨rfl, rfl, rfl, by decide +kernel, rfl, by decide +kernel, by decide +kernel⟩
theorem d__law_factor {fa : Addr} {fd : FuncData} (Fu : Fun K "_law_factor" "_law_factor" s__law_factor fa fd) (T : Txt mg) (G__law_perm : Cal P w K mg base "_law_perm" 2 ["box", "n"] [.mt, .bw] f__law_perm) (G__law_starts : Cal P w K mg base "_law_starts" 1 ["row"] [.bw] f__law_starts) (G__law_take : Cal P w K mg base "_law_take" 1 ["box", "many"] [.mt, .bw] f__law_take) : FnOk P w K mg base CX0 3 fa fd ["box", "n", "allowed"] (spJ K [.mt, .bw, .bw] f__law_factor) :=
  fnJ (k := 2) (n := 6) (f := b__law_factor) Fu sc__law_factor rfl rfl fun cdv A outer s H E C hr hC =>
    (jss_cons (js_asgF hC (by decide) (ps_set (i := 3) sc__law_factor.nd rfl (Or.inl rfl) (j_call G__law_perm hr (by decide) (jar_mt (pv 0) (jar_bw (je_var (pv 1)) jar_nil)) rfl))) (jss_cons (js_asgF hC (by decide) (ps_set (i := 4) sc__law_factor.nd rfl (Or.inl rfl) (je_lst ja_nil))) (jss_cons (js_asg hC (by decide) (ps_set (i := 5) sc__law_factor.nd rfl (Or.inl rfl) (je_lst ja_nil))) (jss_cons (js_for (sl := [6]) PassesOwn.never rfl (ji_r1 (pi_range1 rfl T.b_range (pa_cons (je_var (pv 1)) pa_nil))) (jg_nm hC (by decide) (by decide) (pg_name (i := 6) sc__law_factor.nd rfl (Or.inl rfl))) (jss_cons (js_if (jt_w (jw_and (jt_cmp op_gt s_gt (je_var (pv 6)) je_int (nomark _)) (jw_and1 (jt_cmp op_in_seq s_in (je_var (pv 6)) (je_var (pv 2)) rfl)))) (jss_cons (js_asgF hC (by decide) (ps_set (i := 4) sc__law_factor.nd rfl (Or.inl rfl) (je_op (op_add.or (op_cat.or (op_catZ.or op_cat0))) s_add (je_var (pv 4)) (j_sorted T.b_sorted (je_var (pv 5)))))) (jss_one (js_asg hC (by decide) (ps_set (i := 5) sc__law_factor.nd rfl (Or.inl rfl) (je_lst ja_nil))))) jss_nil) (jss_one (js_app (ps_expr (pe_bm PySem.F.plainAttrs_list PySem.F.slot_list_append PySem.F.type_list_append mt_append (pv 5) (pa_cons (j_ix (je_var (pv 3)) (je_var (pv 6))) pa_nil))))))) (jss_cons (js_asgF hC (by decide) (ps_set (i := 4) sc__law_factor.nd rfl (Or.inl rfl) (je_op (op_add.or (op_cat.or (op_catZ.or op_cat0))) s_add (je_var (pv 4)) (j_sorted T.b_sorted (je_var (pv 5)))))) (jss_cons (js_asgF hC (by decide) (ps_set (i := 7) sc__law_factor.nd rfl (Or.inl rfl) (j_call G__law_starts hr (by decide) (jar_bw (je_var (pv 4)) jar_nil) rfl))) (jss_cons (js_if (jt_cmp (op_eqD hr.units) s_eq (j_len T.b_len (je_var (pv 7))) je_int (nomark _)) (jss_cons (js_asgF hC (by decide) (ps_set (i := 8) sc__law_factor.nd rfl (Or.inl rfl) (j_ix (je_var (pv 2)) (j_call G__law_take hr (by decide) (jar_mt (pv 0) (jar_bw (j_len T.b_len (je_var (pv 2))) jar_nil)) rfl)))) (jss_one (js_asgF hC (by decide) (ps_set (i := 4) sc__law_factor.nd rfl (Or.inl rfl) (je_op (op_add.or (op_cat.or (op_catZ.or op_cat0))) s_add (je_op (op_add.or (op_cat.or (op_catZ.or op_cat0))) s_add (j_sl (je_var (pv 4)) jo_no (jo_so (je_op op_sub s_sub (je_var (pv 8)) je_int))) (je_lst (ja_cons (j_ix (je_var (pv 4)) (je_var (pv 8))) (ja_cons (j_ix (je_var (pv 4)) (je_op op_sub s_sub (je_var (pv 8)) je_int)) ja_nil)))) (j_sl (je_var (pv 4)) (jo_so (je_op (op_add.or (op_cat.or (op_catZ.or op_cat0))) s_add (je_var (pv 8)) je_int)) jo_no)))))) jss_nil) (jss_cons (js_if (jt_cmp (op_eqD hr.units) s_eq (j_len T.b_len (je_var (pv 7))) (je_op op_sub s_sub (je_var (pv 1)) je_int) (nomark _)) (jss_one (js_asgF hC (by decide) (ps_set (i := 4) sc__law_factor.nd rfl (Or.inl rfl) (je_op (op_add.or (op_cat.or (op_catZ.or op_cat0))) s_add (je_lst (ja_cons (j_ix (je_var (pv 4)) je_int) (ja_cons (j_ix (je_var (pv 4)) je_int) ja_nil))) (j_sl (je_var (pv 4)) (jo_so je_int) jo_no))))) jss_nil) (jss_one (js_ret (j_tuple T.b_tuple (je_var (pv 4)))))))))))))
theorem sc__law_inverse : FnScope ["row", "ends", "k"] ["row"] (defScope s__law_inverse) := ⟨rfl, rfl, rfl, by decide +kernel, rfl, by decide +kernel, by decide +kernel⟩
theorem d__law_inverse {fa : Addr} {fd : FuncData} (Fu : Fun K "_law_inverse" "_law_inverse" s__law_inverse fa fd) (T : Txt mg) : FnOk P w K mg base CX0 1 fa fd ["row"] (spJ K [.bw] f__law_inverse) :=
  fnJ (k := 0) (n := 2) (f := b__law_inverse) Fu sc__law_inverse rfl rfl fun cdv A outer s H E C hr hC =>
    (jss_cons (js_asg hC (by decide) (ps_set (i := 1) sc__law_inverse.nd rfl (Or.inl rfl) (je_op (op_mulW.or op_rep) s_mul (je_lst (ja_cons je_int ja_nil)) (j_len T.b_len (je_var (pv 0)))))) (jss_cons (js_for (sl := [2]) PassesOwn.never rfl (ji_r1 (pi_range1 rfl T.b_range (pa_cons (j_len T.b_len (je_var (pv 0))) pa_nil))) (jg_nm hC (by decide) (by decide) (pg_name (i := 2) sc__law_inverse.nd rfl (Or.inl rfl))) (jss_one (js_set (ps_asg (je_op (op_add.or (op_cat.or (op_catZ.or op_cat0))) s_add (je_var (pv 2)) je_int) (pg_sub (pv 1) (je_op op_sub s_sub (j_ix (je_var (pv 0)) (je_var (pv 2))) je_int) set_list))))) (jss_one (js_ret (j_tuple T.b_tuple (je_var (pv 1)))))))
theorem sc__law_row : FnScope ["box", "n", "most", "allowed", "row", "turn", "factor"] ["box", "n", "most", "allowed"] (defScope s__law_row) := ⟨rfl, rfl, rfl, by decide +kernel, rfl, by decide +kernel, by decide +kernel⟩
theorem d__law_row {fa : Addr} {fd : FuncData} (Fu : Fun K "_law_row" "_law_row" s__law_row fa fd) (T : Txt mg) (G__law_take : Cal P w K mg base "_law_take" 1 ["box", "many"] [.mt, .bw] f__law_take) (G__law_factor : Cal P w K mg base "_law_factor" 3 ["box", "n", "allowed"] [.mt, .bw, .bw] f__law_factor) (G__law_starts : Cal P w K mg base "_law_starts" 1 ["row"] [.bw] f__law_starts) (G__law_inverse : Cal P w K mg base "_law_inverse" 1 ["row"] [.bw] f__law_inverse) : FnOk P w K mg base CX0 4 fa fd ["box", "n", "most", "allowed"] (spJ K [.mt, .bw, .bw, .bw] f__law_row) :=
  fnJ (k := 3) (n := 3) (f := b__law_row) Fu sc__law_row rfl rfl fun cdv A outer s H E C hr hC =>
    (jss_cons (js_asg hC (by decide) (ps_set (i := 4) sc__law_row.nd rfl (Or.inl rfl) (je_lst ja_nil))) (jss_cons (js_for (sl := [5]) PassesOwn.never rfl (ji_r1 (pi_range1 rfl T.b_range (pa_cons (j_call G__law_take hr (by decide) (jar_mt (pv 0) (jar_bw (je_op (op_add.or (op_cat.or (op_catZ.or op_cat0))) s_add (je_var (pv 2)) je_int) jar_nil)) rfl) pa_nil))) (jg_nm hC (by decide) (by decide) (pg_name (i := 5) sc__law_row.nd rfl (Or.inl rfl))) (jss_cons (js_asgF hC (by decide) (ps_set (i := 6) sc__law_row.nd rfl (Or.inl rfl) (j_call G__law_factor hr (by decide) (jar_mt (pv 0) (jar_bw (je_var (pv 1)) (jar_bw (je_var (pv 3)) jar_nil))) rfl))) (jss_cons (js_app (ps_expr (pe_bm PySem.F.plainAttrs_list PySem.F.slot_list_append PySem.F.type_list_append mt_append (pv 4) (pa_cons (je_var (pv 6)) pa_nil)))) (jss_one (js_asgF hC (by decide) (ps_set (i := 3) sc__law_row.nd rfl (Or.inl rfl) (j_call G__law_starts hr (by decide) (jar_bw (j_call G__law_inverse hr (by decide) (jar_bw (je_var (pv 6)) jar_nil) rfl) jar_nil) rfl))))))) (jss_one (js_ret (je_var (pv 4))))))
theorem sc_starts : FnScope ["perm", "i"] ["perm"] (defScope s_starts) := ⟨rfl, rfl, rfl, by decide +kernel, rfl, by decide +kernel, by decide +kernel⟩
theorem d_starts {fa : Addr} {fd : FuncData} (Fu : Fun K "starts" "starts" s_starts fa fd) (T : Txt mg) : FnOk P w K mg base CX0 1 fa fd ["perm"] (spJ K [.bw] f_starts) :=
  fnJ (k := 0) (n := 1) (f := b_starts) Fu sc_starts rfl rfl fun cdv A outer s H E C hr hC =>
    (jss_one (js_ret (je_lc hC (by decide) nn_nm (pe_lc (own := [("i", 1)]) rfl sc_starts.nd (ji_r2 (pi_range2 rfl T.b_range (pa_cons je_int (pa_cons (j_len T.b_len (je_var (pv 0))) pa_nil)))) (blkOk_by (N := ["perm", "i"]) (sc := defScope s_starts) (by decide +kernel)) (fun _ _ _ _ _ => And.left (jgx [1] (jg_nm hC (by decide) (by decide) (pg_name (i := 1) sc_starts.nd rfl (Or.inl rfl))))) (fun _ _ _ _ _ => (jts_one (jt_cmp op_gt s_gt (j_ix (je_var (pv 0)) (je_op op_sub s_sub (je_var (pv 1)) je_int)) (j_ix (je_var (pv 0)) (je_var (pv 1))) (nomark _)))) (fun _ _ _ _ _ => (je_var (pv 1)))))))
theorem sc_inverse_perm : FnScope ["perm", "begins", "index", "end"] ["perm"] (defScope s_inverse_perm) := ⟨rfl, rfl, rfl, by decide +kernel, rfl, by decide +kernel, by decide +kernel⟩
theorem d_inverse_perm {fa : Addr} {fd : FuncData} (Fu : Fun K "inverse_perm" "inverse_perm" s_inverse_perm fa fd) (T : Txt mg) : FnOk P w K mg base CX0 1 fa fd ["perm"] (spJ K [.bw] f_inverse_perm) :=
  fnJ (k := 0) (n := 3) (f := b_inverse_perm) Fu sc_inverse_perm rfl rfl fun cdv A outer s H E C hr hC =>
    (jss_cons (js_asg hC (by decide) (ps_set (i := 1) sc_inverse_perm.nd rfl (Or.inl rfl) (j_list T.b_list (je_var (pv 0))))) (jss_cons (js_for (sl := [2, 3]) PassesOwn.never rfl (ji_enum rfl T.b_enumerate (je_var (pv 0))) (jg_tp rfl (jgs_cons (jg_nm hC (by decide) (by decide) (pg_name (i := 2) sc_inverse_perm.nd rfl (Or.inl rfl))) (jgs_cons (jg_nm hC (by decide) (by decide) (pg_name (i := 3) sc_inverse_perm.nd rfl (Or.inl rfl))) jgs_nil))) (jss_one (js_set (ps_asg (je_op (op_add.or (op_cat.or (op_catZ.or op_cat0))) s_add (je_var (pv 2)) je_int) (pg_sub (pv 1) (je_op op_sub s_sub (je_var (pv 3)) je_int) set_list))))) (jss_one (js_ret (j_tuple T.b_tuple (je_var (pv 1)))))))
theorem sc_finishes : FnScope ["perm"] ["perm"] (defScope s_finishes) := ⟨rfl, rfl, rfl, by decide +kernel, rfl, by decide +kernel, by decide +kernel⟩
theorem d_finishes {fa : Addr} {fd : FuncData} (Fu : Fun K "finishes" "finishes" s_finishes fa fd) (T : Txt mg) (G_starts : Cal P w K mg base "starts" 1 ["perm"] [.bw] f_starts) (G_inverse_perm : Cal P w K mg base "inverse_perm" 1 ["perm"] [.bw] f_inverse_perm) : FnOk P w K mg base CX0 2 fa fd ["perm"] (spJ K [.bw] f_finishes) :=
  fnJ (k := 1) (n := 0) (f := b_finishes) Fu sc_finishes rfl rfl fun cdv A outer s H E C hr hC =>
    (jss_one (js_ret (j_call G_starts hr (by decide) (jar_bw (j_call G_inverse_perm hr (by decide) (jar_bw (je_var (pv 0)) jar_nil) rfl) jar_nil) rfl)))
theorem sc_weighted : FnScope ["first", "second", "ends", "i"] ["first", "second"] (defScope s_weighted) := ⟨rfl, rfl, rfl, by decide +kernel, rfl, by decide +kernel, by decide +kernel⟩
theorem d_weighted {fa : Addr} {fd : FuncData} (Fu : Fun K "weighted" "weighted" s_weighted fa fd) (T : Txt mg) (G_finishes : Cal P w K mg base "finishes" 2 ["perm"] [.bw] f_finishes) (G_starts : Cal P w K mg base "starts" 1 ["perm"] [.bw] f_starts) : FnOk P w K mg base CX0 3 fa fd ["first", "second"] (spJ K [.bw, .bw] f_weighted) :=
  fnJ (k := 2) (n := 2) (f := b_weighted) Fu sc_weighted rfl rfl fun cdv A outer s H E C hr hC =>
    (jss_cons (js_asgF hC (by decide) (ps_set (i := 2) sc_weighted.nd rfl (Or.inr rfl) (j_call G_finishes hr (by decide) (jar_bw (je_var (pv 0)) jar_nil) rfl))) (jss_one (js_ret (j_all T.b_all (je_lc hC (by decide) nn_nm (pe_lc (own := [("i", 3)]) rfl sc_weighted.nd (ji_seq (j_call G_starts hr (by decide) (jar_bw (je_var (pv 1)) jar_nil) rfl)) (blkOk_by (N := ["first", "second", "ends", "i"]) (sc := defScope s_weighted) (by decide +kernel)) (fun _ _ _ _ _ => And.left (jgx [3] (jg_nm hC (by decide) (by decide) (pg_name (i := 3) sc_weighted.nd rfl (Or.inl rfl))))) (fun _ _ _ _ _ => jts_nil) (fun _ _ _ _ _ => (je_cmp op_in_seq s_in (je_var (pv 3)) (je_var (pv 2)) rfl))))))))
theorem sc_perm_of : FnScope ["strands", "word", "begins", "letter", "i"] ["strands", "word"] (defScope s_perm_of) := ⟨rfl, rfl, rfl, by decide +kernel, rfl, by decide +kernel, by decide +kernel⟩
theorem d_perm_of {fa : Addr} {fd : FuncData} (Fu : Fun K "perm_of" "perm_of" s_perm_of fa fd) (T : Txt mg) (G_inverse_perm : Cal P w K mg base "inverse_perm" 1 ["perm"] [.bw] f_inverse_perm) : FnOk P w K mg base CX0 2 fa fd ["strands", "word"] (spJ K [.bw, .bw] f_perm_of) :=
  fnJ (k := 1) (n := 3) (f := b_perm_of) Fu sc_perm_of rfl rfl fun cdv A outer s H E C hr hC =>
    (jss_cons (js_asg hC (by decide) (ps_set (i := 2) sc_perm_of.nd rfl (Or.inl rfl) (j_listR2 T.b_list T.b_range je_int (je_op (op_add.or (op_cat.or (op_catZ.or op_cat0))) s_add (je_var (pv 0)) je_int)))) (jss_cons (js_for (sl := [3]) PassesOwn.never rfl (ji_seq (je_var (pv 1))) (jg_nm hC (by decide) (by decide) (pg_name (i := 3) sc_perm_of.nd rfl (Or.inl rfl))) (jss_cons (js_asgF hC (by decide) (ps_set (i := 4) sc_perm_of.nd rfl (Or.inl rfl) (j_abs T.b_abs (je_var (pv 3))))) (jss_one (js_ps (ps_asg (pe_tupZ (And.left (ja_cons (j_ix (je_var (pv 2)) (je_var (pv 4))) (ja_cons (j_ix (je_var (pv 2)) (je_op op_sub s_sub (je_var (pv 4)) je_int)) ja_nil)))) (pg_tup rfl (pgs_cons (pg_sub (pv 2) (je_op op_sub s_sub (je_var (pv 4)) je_int) set_list) (pgs_cons (pg_sub (pv 2) (je_var (pv 4)) set_list) pgs_nil)))))))) (jss_one (js_ret (j_call G_inverse_perm hr (by decide) (jar_bw (je_var (pv 2)) jar_nil) rfl)))))
theorem sc__common_divisor : FnScope ["first", "second", "left", "right", "letters", "i"] ["first", "second"] (defScope s__common_divisor) := ⟨rfl, rfl, rfl, by decide +kernel, rfl, by decide +kernel, by decide +kernel⟩
theorem d__common_divisor {fa : Addr} {fd : FuncData} (Fu : Fun K "_common_divisor" "_common_divisor" s__common_divisor fa fd) (T : Txt mg) (G_perm_of : Cal P w K mg base "perm_of" 2 ["strands", "word"] [.bw, .bw] f_perm_of) : FnOk P w K mg base CX0 3 fa fd ["first", "second"] (spJ K [.bw, .bw] f__common_divisor) :=
  fnJ (k := 2) (n := 4) (f := b__common_divisor) Fu sc__common_divisor rfl rfl fun cdv A outer s H E C hr hC =>
    (jss_cons (js_asg hC (by decide) (ps_set (i := 2) sc__common_divisor.nd rfl (Or.inl rfl) (j_list T.b_list (je_var (pv 0))))) (jss_cons (js_asg hC (by decide) (ps_set (i := 3) sc__common_divisor.nd rfl (Or.inl rfl) (j_list T.b_list (je_var (pv 1))))) (jss_cons (js_asg hC (by decide) (ps_set (i := 4) sc__common_divisor.nd rfl (Or.inl rfl) (je_lst ja_nil))) (jss_cons (js_asgF hC (by decide) (ps_set (i := 5) sc__common_divisor.nd rfl (Or.inl rfl) je_int)) (jss_cons (js_while PassesOwn.never (jt_cmp op_lt s_lt (je_var (pv 5)) (j_len T.b_len (je_var (pv 2))) (nomark _)) (jss_one (js_if (jt_w (jw_and (jt_cmp op_gt s_gt (j_ix (je_var (pv 2)) (je_op op_sub s_sub (je_var (pv 5)) je_int)) (j_ix (je_var (pv 2)) (je_var (pv 5))) (nomark _)) (jw_and1 (jt_cmp op_gt s_gt (j_ix (je_var (pv 3)) (je_op op_sub s_sub (je_var (pv 5)) je_int)) (j_ix (je_var (pv 3)) (je_var (pv 5))) (nomark _))))) (jss_cons (js_ps (ps_asg (pe_tupZ (And.left (ja_cons (j_ix (je_var (pv 2)) (je_var (pv 5))) (ja_cons (j_ix (je_var (pv 2)) (je_op op_sub s_sub (je_var (pv 5)) je_int)) ja_nil)))) (pg_tup rfl (pgs_cons (pg_sub (pv 2) (je_op op_sub s_sub (je_var (pv 5)) je_int) set_list) (pgs_cons (pg_sub (pv 2) (je_var (pv 5)) set_list) pgs_nil))))) (jss_cons (js_ps (ps_asg (pe_tupZ (And.left (ja_cons (j_ix (je_var (pv 3)) (je_var (pv 5))) (ja_cons (j_ix (je_var (pv 3)) (je_op op_sub s_sub (je_var (pv 5)) je_int)) ja_nil)))) (pg_tup rfl (pgs_cons (pg_sub (pv 3) (je_op op_sub s_sub (je_var (pv 5)) je_int) set_list) (pgs_cons (pg_sub (pv 3) (je_var (pv 5)) set_list) pgs_nil))))) (jss_cons (js_app (ps_expr (pe_bm PySem.F.plainAttrs_list PySem.F.slot_list_append PySem.F.type_list_append mt_append (pv 4) (pa_cons (je_var (pv 5)) pa_nil)))) (jss_one (js_if (jt_cmp op_gt s_gt (je_var (pv 5)) je_int (nomark _)) (jss_one (js_asgF hC (by decide) (ps_set (i := 5) sc__common_divisor.nd rfl (Or.inl rfl) (je_op op_sub s_sub (je_var (pv 5)) je_int)))) jss_nil))))) (jss_one (js_asgF hC (by decide) (ps_set (i := 5) sc__common_divisor.nd rfl (Or.inl rfl) (je_op (op_add.or (op_cat.or (op_catZ.or op_cat0))) s_add (je_var (pv 5)) je_int))))))) (jss_one (js_ret (j_call G_perm_of hr (by decide) (jar_bw (j_len T.b_len (je_var (pv 2))) (jar_bw (je_var (pv 4)) jar_nil)) rfl))))))))
theorem sc_meet_of : FnScope ["perms", "result", "perm"] ["perms"] (defScope s_meet_of) := ⟨rfl, rfl, rfl, by decide +kernel, rfl, by decide +kernel, by decide +kernel⟩
theorem d_meet_of {fa : Addr} {fd : FuncData} (Fu : Fun K "meet_of" "meet_of" s_meet_of fa fd) (T : Txt mg) (G__common_divisor : Cal P w K mg base "_common_divisor" 3 ["first", "second"] [.bw, .bw] f__common_divisor) : FnR P w K mg base CX0 4 fa (spV K f_meet_of) :=
  fnJS (k := 3) (n := 2) (f := b_meet_of) Fu sc_meet_of rfl (fun _ _ _ _ _ _ us => match us with | [] => rfl | _ :: _ => rfl) fun cdv A outer s H E C hr hC =>
    (jss_cons (js_asg hC (by decide) (ps_set (i := 1) sc_meet_of.nd rfl (Or.inl rfl) (j_ix (je_var (pv 0)) je_int))) (jss_cons (js_for (sl := [2]) PassesOwn.never rfl (ji_seq (j_sl (je_var (pv 0)) (jo_so je_int) jo_no)) (jg_nm hC (by decide) (by decide) (pg_name (i := 2) sc_meet_of.nd rfl (Or.inl rfl))) (jss_one (js_asg hC (by decide) (ps_set (i := 1) sc_meet_of.nd rfl (Or.inl rfl) (j_call G__common_divisor hr (by decide) (jar_bw (je_var (pv 1)) (jar_bw (je_var (pv 2)) jar_nil)) rfl))))) (jss_one (js_ret (je_var (pv 1))))))
theorem sc_compose : FnScope ["first", "second", "end"] ["first", "second"] (defScope s_compose) := ⟨rfl, rfl, rfl, by decide +kernel, rfl, by decide +kernel, by decide +kernel⟩
theorem d_compose {fa : Addr} {fd : FuncData} (Fu : Fun K "compose" "compose" s_compose fa fd) (T : Txt mg) : FnOk P w K mg base CX0 1 fa fd ["first", "second"] (spJ K [.bw, .bw] f_compose) :=
  fnJ (k := 0) (n := 1) (f := b_compose) Fu sc_compose rfl rfl fun cdv A outer s H E C hr hC =>
    (jss_one (js_ret (j_tuple T.b_tuple (je_lc hC (by decide) nn_nm (pe_lc (own := [("end", 2)]) rfl sc_compose.nd (ji_seq (je_var (pv 0))) (blkOk_by (N := ["first", "second", "end"]) (sc := defScope s_compose) (by decide +kernel)) (fun _ _ _ _ _ => And.left (jgx [2] (jg_nm hC (by decide) (by decide) (pg_name (i := 2) sc_compose.nd rfl (Or.inl rfl))))) (fun _ _ _ _ _ => jts_nil) (fun _ _ _ _ _ => (j_ix (je_var (pv 1)) (je_op op_sub s_sub (je_var (pv 2)) je_int))))))))
theorem sc__rest_behind : FnScope ["first", "second"] ["first", "second"] (defScope s__rest_behind) := ⟨rfl, rfl, rfl, by decide +kernel, rfl, by decide +kernel, by decide +kernel⟩
theorem d__rest_behind {fa : Addr} {fd : FuncData} (Fu : Fun K "_rest_behind" "_rest_behind" s__rest_behind fa fd) (T : Txt mg) (G_compose : Cal P w K mg base "compose" 1 ["first", "second"] [.bw, .bw] f_compose) (G_inverse_perm : Cal P w K mg base "inverse_perm" 1 ["perm"] [.bw] f_inverse_perm) : FnOk P w K mg base CX0 2 fa fd ["first", "second"] (spJ K [.bw, .bw] f__rest_behind) :=
  fnJ (k := 1) (n := 0) (f := b__rest_behind) Fu sc__rest_behind rfl rfl fun cdv A outer s H E C hr hC =>
    (jss_one (js_ret (j_call G_compose hr (by decide) (jar_bw (j_call G_inverse_perm hr (by decide) (jar_bw (je_var (pv 0)) jar_nil) rfl) (jar_bw (je_var (pv 1)) jar_nil)) rfl)))
theorem sc_half_turn : FnScope ["strands"] ["strands"] (defScope s_half_turn) := ⟨rfl, rfl, rfl, by decide +kernel, rfl, by decide +kernel, by decide +kernel⟩
theorem d_half_turn {fa : Addr} {fd : FuncData} (Fu : Fun K "half_turn" "half_turn" s_half_turn fa fd) (T : Txt mg) : FnOk P w K mg base CX0 1 fa fd ["strands"] (spJ K [.bw] f_half_turn) :=
  fnJ (k := 0) (n := 0) (f := b_half_turn) Fu sc_half_turn rfl rfl fun cdv A outer s H E C hr hC =>
    (jss_one (js_ret (j_tupleR3 T.b_tuple T.b_range (je_var (pv 0)) je_int (je_un un_neg s_neg je_int))))
theorem sc_right_complement : FnScope ["perm"] ["perm"] (defScope s_right_complement) := ⟨rfl, rfl, rfl, by decide +kernel, rfl, by decide +kernel, by decide +kernel⟩
theorem d_right_complement {fa : Addr} {fd : FuncData} (Fu : Fun K "right_complement" "right_complement" s_right_complement fa fd) (T : Txt mg) (G__rest_behind : Cal P w K mg base "_rest_behind" 2 ["first", "second"] [.bw, .bw] f__rest_behind) (G_half_turn : Cal P w K mg base "half_turn" 1 ["strands"] [.bw] f_half_turn) : FnOk P w K mg base CX0 3 fa fd ["perm"] (spJ K [.bw] f_right_complement) :=
  fnJ (k := 2) (n := 0) (f := b_right_complement) Fu sc_right_complement rfl rfl fun cdv A outer s H E C hr hC =>
    (jss_one (js_ret (j_call G__rest_behind hr (by decide) (jar_bw (je_var (pv 0)) (jar_bw (j_call G_half_turn hr (by decide) (jar_bw (j_len T.b_len (je_var (pv 0))) jar_nil) rfl) jar_nil)) rfl)))
theorem sc_slide_pair : FnScope ["first", "second", "moved"] ["first", "second"] (defScope s_slide_pair) := ⟨rfl, rfl, rfl, by decide +kernel, rfl, by decide +kernel, by decide +kernel⟩
theorem d_slide_pair {fa : Addr} {fd : FuncData} (Fu : Fun K "slide_pair" "slide_pair" s_slide_pair fa fd) (T : Txt mg) (G_weighted : Cal P w K mg base "weighted" 3 ["first", "second"] [.bw, .bw] f_weighted) (G_meet_of : CalV P w K mg base "meet_of" 4 f_meet_of) (G_right_complement : Cal P w K mg base "right_complement" 3 ["perm"] [.bw] f_right_complement) (G_compose : Cal P w K mg base "compose" 1 ["first", "second"] [.bw, .bw] f_compose) (G__rest_behind : Cal P w K mg base "_rest_behind" 2 ["first", "second"] [.bw, .bw] f__rest_behind) : FnOk P w K mg base CX0 5 fa fd ["first", "second"] (spJ K [.fz, .fz] f_slide_pair) :=
  fnJ (k := 4) (n := 1) (f := b_slide_pair) Fu sc_slide_pair rfl rfl fun cdv A outer s H E C hr hC =>
    (jss_cons (js_if (jt_tru (j_call G_weighted hr (by decide) (jar_bw (je_var (pv 0)) (jar_bw (je_var (pv 1)) jar_nil)) rfl)) (jss_one (js_ret (je_tup (ja_cons (je_var (pv 0)) (ja_cons (je_var (pv 1)) ja_nil))))) jss_nil) (jss_cons (js_asgF hC (by decide) (ps_set (i := 2) sc_slide_pair.nd rfl (Or.inl rfl) (j_callV G_meet_of hr (by decide) (ja_cons (je_var (pv 1)) (ja_cons (j_call G_right_complement hr (by decide) (jar_bw (je_var (pv 0)) jar_nil) rfl) ja_nil))))) (jss_one (js_ret (je_tup (ja_cons (j_call G_compose hr (by decide) (jar_bw (je_var (pv 0)) (jar_bw (je_var (pv 2)) jar_nil)) rfl) (ja_cons (j_call G__rest_behind hr (by decide) (jar_bw (je_var (pv 2)) (jar_bw (je_var (pv 1)) jar_nil)) rfl) ja_nil)))))))
theorem sc_front_step : FnScope ["carry", "factor"] ["carry", "factor"] (defScope s_front_step) := ⟨rfl, rfl, rfl, by decide +kernel, rfl, by decide +kernel, by decide +kernel⟩
theorem d_front_step {fa : Addr} {fd : FuncData} (Fu : Fun K "front_step" "front_step" s_front_step fa fd) (T : Txt mg) (G_slide_pair : Cal P w K mg base "slide_pair" 5 ["first", "second"] [.fz, .fz] f_slide_pair) : FnOk P w K mg base CX0 6 fa fd ["carry", "factor"] (spJ K [.fz, .fz] f_front_step) :=
  fnJ (k := 5) (n := 0) (f := b_front_step) Fu sc_front_step rfl rfl fun cdv A outer s H E C hr hC =>
    (jss_one (js_ret (j_call G_slide_pair hr (by decide) (jar_fz (je_var (pv 0)) (jar_fz (je_var (pv 1)) jar_nil)) rfl)))
theorem sc__law_rest : FnScope ["first", "second", "row", "k"] ["first", "second"] (defScope s__law_rest) := ⟨rfl, rfl, rfl, by decide +kernel, rfl, by decide +kernel, by decide +kernel⟩
theorem d__law_rest {fa : Addr} {fd : FuncData} (Fu : Fun K "_law_rest" "_law_rest" s__law_rest fa fd) (T : Txt mg) : FnOk P w K mg base CX0 1 fa fd ["first", "second"] (spJ K [.bw, .bw] f__law_rest) :=
  fnJ (k := 0) (n := 2) (f := b__law_rest) Fu sc__law_rest rfl rfl fun cdv A outer s H E C hr hC =>
    (jss_cons (js_asg hC (by decide) (ps_set (i := 2) sc__law_rest.nd rfl (Or.inl rfl) (je_op (op_mulW.or op_rep) s_mul (je_lst (ja_cons je_int ja_nil)) (j_len T.b_len (je_var (pv 0)))))) (jss_cons (js_for (sl := [3]) PassesOwn.never rfl (ji_r1 (pi_range1 rfl T.b_range (pa_cons (j_len T.b_len (je_var (pv 0))) pa_nil))) (jg_nm hC (by decide) (by decide) (pg_name (i := 3) sc__law_rest.nd rfl (Or.inl rfl))) (jss_one (js_set (ps_asg (j_ix (je_var (pv 1)) (je_var (pv 3))) (pg_sub (pv 2) (je_op op_sub s_sub (j_ix (je_var (pv 0)) (je_var (pv 3))) je_int) set_list))))) (jss_one (js_ret (j_tuple T.b_tuple (je_var (pv 2)))))))
theorem sc__law_divides : FnScope ["first", "second", "k", "j"] ["first", "second"] (defScope s__law_divides) := ⟨rfl, rfl, rfl, by decide +kernel, rfl, by decide +kernel, by decide +kernel⟩
theorem d__law_divides {fa : Addr} {fd : FuncData} (Fu : Fun K "_law_divides" "_law_divides" s__law_divides fa fd) (T : Txt mg) : FnOk P w K mg base CX0 1 fa fd ["first", "second"] (spJ K [.bw, .bw] f__law_divides) :=
  fnJ (k := 0) (n := 2) (f := b__law_divides) Fu sc__law_divides rfl rfl fun cdv A outer s H E C hr hC =>
    (jss_cons (js_for (sl := [2]) PassesOwn.never rfl (ji_r1 (pi_range1 rfl T.b_range (pa_cons (j_len T.b_len (je_var (pv 0))) pa_nil))) (jg_nm hC (by decide) (by decide) (pg_name (i := 2) sc__law_divides.nd rfl (Or.inl rfl))) (jss_one (js_for (sl := [3]) PassesOwn.never rfl (ji_r1 (pi_range1 rfl T.b_range (pa_cons (je_var (pv 2)) pa_nil))) (jg_nm hC (by decide) (by decide) (pg_name (i := 3) sc__law_divides.nd rfl (Or.inl rfl))) (jss_one (js_if (jt_w (jw_and (jt_cmp op_gt s_gt (j_ix (je_var (pv 0)) (je_var (pv 3))) (j_ix (je_var (pv 0)) (je_var (pv 2))) (nomark _)) (jw_and1 (jt_cmp op_lt s_lt (j_ix (je_var (pv 1)) (je_var (pv 3))) (j_ix (je_var (pv 1)) (je_var (pv 2))) (nomark _))))) (jss_one (js_ret je_bl)) jss_nil))))) (jss_one (js_ret je_bl)))
theorem sc__law_is_integer : FnScope ["value"] ["value"] (defScope s__law_is_integer) := ⟨rfl, rfl, rfl, by decide +kernel, rfl, by decide +kernel, by decide +kernel⟩
theorem d__law_is_integer {fa : Addr} {fd : FuncData} (Fu : Fun K "_law_is_integer" "_law_is_integer" s__law_is_integer fa fd) (T : Txt mg) : FnOk P w K mg base CX0 1 fa fd ["value"] (spJ K [.bw] f__law_is_integer) :=
  fnJ (k := 0) (n := 0) (f := b__law_is_integer) Fu sc__law_is_integer rfl rfl fun cdv A outer s H E C hr hC =>
    (jss_one (js_ret (je_and (j_isi_int T.b_isinstance T.b_int (je_var (pv 0))) (je_one (je_not (j_isi_bool T.b_isinstance T.b_bool (je_var (pv 0))))))))
theorem sc__law_perm_holds : FnScope ["n", "value", "k"] ["n", "value"] (defScope s__law_perm_holds) := ⟨rfl, rfl, rfl, by decide +kernel, rfl, by decide +kernel, by decide +kernel⟩
theorem d__law_perm_holds {fa : Addr} {fd : FuncData} (Fu : Fun K "_law_perm_holds" "_law_perm_holds" s__law_perm_holds fa fd) (T : Txt mg) (G__law_is_integer : Cal P w K mg base "_law_is_integer" 1 ["value"] [.bw] f__law_is_integer) : FnOk P w K mg base CX0 2 fa fd ["n", "value"] (spJ K [.bw, .bw] f__law_perm_holds) :=
  fnJ (k := 1) (n := 1) (f := b__law_perm_holds) Fu sc__law_perm_holds rfl rfl fun cdv A outer s H E C hr hC =>
    (jss_cons (js_if (jt_w (jw_or (jt_not (jt_tru (j_isi_tuple T.b_isinstance T.b_tuple (je_var (pv 1))))) (jw_or1 (jt_cmp (op_neD hr.units) s_ne (j_len T.b_len (je_var (pv 1))) (je_var (pv 0)) (nomark _))))) (jss_one (js_ret je_bl)) jss_nil) (jss_cons (js_for (sl := [2]) PassesOwn.never rfl (ji_r1 (pi_range1 rfl T.b_range (pa_cons (je_var (pv 0)) pa_nil))) (jg_nm hC (by decide) (by decide) (pg_name (i := 2) sc__law_perm_holds.nd rfl (Or.inl rfl))) (jss_one (js_if (jt_not (jt_tru (j_call G__law_is_integer hr (by decide) (jar_bw (j_ix (je_var (pv 1)) (je_var (pv 2))) jar_nil) rfl))) (jss_one (js_ret je_bl)) jss_nil))) (jss_cons (js_for (sl := [2]) PassesOwn.never rfl (ji_r1 (pi_range1 rfl T.b_range (pa_cons (je_var (pv 0)) pa_nil))) (jg_nm hC (by decide) (by decide) (pg_name (i := 2) sc__law_perm_holds.nd rfl (Or.inl rfl))) (jss_one (js_if (jt_cmp (op_neD hr.units) s_ne (je_cnt (fun _ => pe_bmT slotT_count PySem.F.type_tuple_count mt_count (je_var (pv 1)) (pa_cons (je_op (op_add.or (op_cat.or (op_catZ.or op_cat0))) s_add (je_var (pv 2)) je_int) pa_nil))) je_int (nomark _)) (jss_one (js_ret je_bl)) jss_nil))) (jss_one (js_ret je_bl)))))
theorem sc__law_step_holds : FnScope ["n", "first", "second", "pair", "head", "rest", "middle", "ends", "letter"] ["n", "first", "second", "pair"] (defScope s__law_step_holds) := ⟨rfl, rfl, rfl, by decide +kernel, rfl, by decide +kernel, by decide +kernel⟩
theorem d__law_step_holds {fa : Addr} {fd : FuncData} (Fu : Fun K "_law_step_holds" "_law_step_holds" s__law_step_holds fa fd) (T : Txt mg) (G__law_perm_holds : Cal P w K mg base "_law_perm_holds" 2 ["n", "value"] [.bw, .bw] f__law_perm_holds) (G__law_divides : Cal P w K mg base "_law_divides" 1 ["first", "second"] [.bw, .bw] f__law_divides) (G__law_rest : Cal P w K mg base "_law_rest" 1 ["first", "second"] [.bw, .bw] f__law_rest) (G__law_starts : Cal P w K mg base "_law_starts" 1 ["row"] [.bw] f__law_starts) (G__law_inverse : Cal P w K mg base "_law_inverse" 1 ["row"] [.bw] f__law_inverse) : FnOk P w K mg base CX0 3 fa fd ["n", "first", "second", "pair"] (spJ K [.bw, .bw, .bw, .bw] f__law_step_holds) :=
  fnJ (k := 2) (n := 5) (f := b__law_step_holds) Fu sc__law_step_holds rfl rfl fun cdv A outer s H E C hr hC =>
    (jss_cons (js_if (jt_w (jw_or (jt_not (jt_tru (j_isi_tuple T.b_isinstance T.b_tuple (je_var (pv 3))))) (jw_or1 (jt_cmp (op_neD hr.units) s_ne (j_len T.b_len (je_var (pv 3))) je_int (nomark _))))) (jss_one (js_ret je_bl)) jss_nil) (jss_cons (js_asgF hC (by decide) (ps_set (i := 4) sc__law_step_holds.nd rfl (Or.inl rfl) (j_ix (je_var (pv 3)) je_int))) (jss_cons (js_asgF hC (by decide) (ps_set (i := 5) sc__law_step_holds.nd rfl (Or.inl rfl) (j_ix (je_var (pv 3)) je_int))) (jss_cons (js_if (jt_w (jw_or (jt_not (jt_tru (j_call G__law_perm_holds hr (by decide) (jar_bw (je_var (pv 0)) (jar_bw (je_var (pv 4)) jar_nil)) rfl))) (jw_or1 (jt_not (jt_tru (j_call G__law_perm_holds hr (by decide) (jar_bw (je_var (pv 0)) (jar_bw (je_var (pv 5)) jar_nil)) rfl)))))) (jss_one (js_ret je_bl)) jss_nil) (jss_cons (js_if (jt_not (jt_tru (j_call G__law_divides hr (by decide) (jar_bw (je_var (pv 1)) (jar_bw (je_var (pv 4)) jar_nil)) rfl))) (jss_one (js_ret je_bl)) jss_nil) (jss_cons (js_asgF hC (by decide) (ps_set (i := 6) sc__law_step_holds.nd rfl (Or.inl rfl) (j_call G__law_rest hr (by decide) (jar_bw (je_var (pv 1)) (jar_bw (je_var (pv 4)) jar_nil)) rfl))) (jss_cons (js_if (jt_w (jw_or (jt_not (jt_tru (j_call G__law_divides hr (by decide) (jar_bw (je_var (pv 6)) (jar_bw (je_var (pv 2)) jar_nil)) rfl))) (jw_or1 (jt_cmp (op_neD hr.units) s_ne (j_call G__law_rest hr (by decide) (jar_bw (je_var (pv 6)) (jar_bw (je_var (pv 2)) jar_nil)) rfl) (je_var (pv 5)) (nomark _))))) (jss_one (js_ret je_bl)) jss_nil) (jss_cons (js_asgF hC (by decide) (ps_set (i := 7) sc__law_step_holds.nd rfl (Or.inl rfl) (j_call G__law_starts hr (by decide) (jar_bw (j_call G__law_inverse hr (by decide) (jar_bw (je_var (pv 4)) jar_nil) rfl) jar_nil) rfl))) (jss_cons (js_for (sl := [8]) PassesOwn.never rfl (ji_seq (j_call G__law_starts hr (by decide) (jar_bw (je_var (pv 5)) jar_nil) rfl)) (jg_nm hC (by decide) (by decide) (pg_name (i := 8) sc__law_step_holds.nd rfl (Or.inl rfl))) (jss_one (js_if (jt_cmp op_notIn_seq s_notIn (je_var (pv 8)) (je_var (pv 7)) rfl) (jss_one (js_ret je_bl)) jss_nil))) (jss_one (js_ret je_bl)))))))))))
theorem sc__law_heads : FnScope ["n", "perm", "shape", "carry", "heads", "factor", "pair", "entry"] ["n", "perm", "shape"] (defScope s__law_heads) := ⟨rfl, rfl, rfl, by decide +kernel, rfl, by decide +kernel, by decide +kernel⟩
theorem d__law_heads {fa : Addr} {fd : FuncData} (Fu : Fun K "_law_heads" "_law_heads" s__law_heads fa fd) (T : Txt mg) (G_front_step : Cal P w K mg base "front_step" 6 ["carry", "factor"] [.fz, .fz] f_front_step) (G__law_step_holds : Cal P w K mg base "_law_step_holds" 3 ["n", "first", "second", "pair"] [.bw, .bw, .bw, .bw] f__law_step_holds) : FnOk P w K mg base CX0 7 fa fd ["n", "perm", "shape"] (spJ K [.bw, .fz, .bw] f__law_heads) :=
  fnJ (k := 6) (n := 5) (f := b__law_heads) Fu sc__law_heads rfl rfl fun cdv A outer s H E C hr hC =>
    (jss_cons (js_asgF hC (by decide) (ps_set (i := 3) sc__law_heads.nd rfl (Or.inl rfl) (je_var (pv 1)))) (jss_cons (js_if (jt_cmp (op_eqD hr.units) s_eq (je_op op_modN s_mod (j_int T.b_int (j_ix (je_var (pv 2)) je_int)) je_int) je_int (nomark _)) (jss_one (js_asgF hC (by decide) (ps_set (i := 3) sc__law_heads.nd rfl (Or.inl rfl) (j_tuple T.b_tuple (je_lc hC (by decide) nn_nm (pe_lc (own := [("entry", 7)]) rfl sc__law_heads.nd (ji_seq (j_rev (je_var (pv 1)))) (blkOk_by (N := ["n", "perm", "shape", "carry", "heads", "factor", "pair", "entry"]) (sc := defScope s__law_heads) (by decide +kernel)) (fun _ _ _ _ _ => And.left (jgx [7] (jg_nm hC (by decide) (by decide) (pg_name (i := 7) sc__law_heads.nd rfl (Or.inl rfl))))) (fun _ _ _ _ _ => jts_nil) (fun _ _ _ _ _ => (je_op op_sub s_sub (je_op (op_add.or (op_cat.or (op_catZ.or op_cat0))) s_add (je_var (pv 0)) je_int) (je_var (pv 7)))))))))) jss_nil) (jss_cons (js_asg hC (by decide) (ps_set (i := 4) sc__law_heads.nd rfl (Or.inl rfl) (je_lst ja_nil))) (jss_cons (js_for (sl := [5]) PassesOwn.never rfl (ji_seq (j_ix (je_var (pv 2)) je_int)) (jg_nm hC (by decide) (by decide) (pg_name (i := 5) sc__law_heads.nd rfl (Or.inl rfl))) (jss_cons (js_asgF hC (by decide) (ps_set (i := 6) sc__law_heads.nd rfl (Or.inl rfl) (j_call G_front_step hr (by decide) (jar_fz (je_var (pv 3)) (jar_fz (je_var (pv 5)) jar_nil)) rfl))) (jss_cons (js_if (jt_not (jt_tru (j_call G__law_step_holds hr (by decide) (jar_bw (je_var (pv 0)) (jar_bw (je_var (pv 3)) (jar_bw (je_var (pv 5)) (jar_bw (je_var (pv 6)) jar_nil)))) rfl))) (jss_one (js_ret (je_lst ja_nil))) jss_nil) (jss_cons (js_app (ps_expr (pe_bm PySem.F.plainAttrs_list PySem.F.slot_list_append PySem.F.type_list_append mt_append (pv 4) (pa_cons (j_ix (je_var (pv 6)) je_int) pa_nil)))) (jss_one (js_asgF hC (by decide) (ps_set (i := 3) sc__law_heads.nd rfl (Or.inl rfl) (j_ix (je_var (pv 6)) je_int)))))))) (jss_cons (js_app (ps_expr (pe_bm PySem.F.plainAttrs_list PySem.F.slot_list_append PySem.F.type_list_append mt_append (pv 4) (pa_cons (je_var (pv 3)) pa_nil)))) (jss_one (js_ret (je_var (pv 4)))))))))
theorem sc_twist : FnScope ["perm", "strands", "k"] ["perm"] (defScope s_twist) := ⟨rfl, rfl, rfl, by decide +kernel, rfl, by decide +kernel, by decide +kernel⟩
theorem d_twist {fa : Addr} {fd : FuncData} (Fu : Fun K "twist" "twist" s_twist fa fd) (T : Txt mg) : FnOk P w K mg base CX0 1 fa fd ["perm"] (spJ K [.bw] f_twist) :=
  fnJ (k := 0) (n := 2) (f := b_twist) Fu sc_twist rfl rfl fun cdv A outer s H E C hr hC =>
    (jss_cons (js_asgF hC (by decide) (ps_set (i := 1) sc_twist.nd rfl (Or.inr rfl) (j_len T.b_len (je_var (pv 0))))) (jss_one (js_ret (j_tuple T.b_tuple (je_lc hC (by decide) nn_nm (pe_lc (own := [("k", 2)]) rfl sc_twist.nd (ji_r2 (pi_range2 rfl T.b_range (pa_cons je_int (pa_cons (je_op (op_add.or (op_cat.or (op_catZ.or op_cat0))) s_add (je_var (pv 1)) je_int) pa_nil)))) (blkOk_by (N := ["perm", "strands", "k"]) (sc := defScope s_twist) (by decide +kernel)) (fun _ _ _ _ _ => And.left (jgx [2] (jg_nm hC (by decide) (by decide) (pg_name (i := 2) sc_twist.nd rfl (Or.inl rfl))))) (fun _ _ _ _ _ => jts_nil) (fun _ _ _ _ _ => (je_op op_sub s_sub (je_op (op_add.or (op_cat.or (op_catZ.or op_cat0))) s_add (je_var (pv 1)) je_int) (j_ix (je_var (pv 0)) (je_op op_sub s_sub (je_var (pv 1)) (je_var (pv 2))))))))))))
theorem sc__twisted : FnScope ["perm", "times"] ["perm", "times"] (defScope s__twisted) := ⟨rfl, rfl, rfl, by decide +kernel, rfl, by decide +kernel, by decide +kernel⟩
theorem d__twisted {fa : Addr} {fd : FuncData} (Fu : Fun K "_twisted" "_twisted" s__twisted fa fd) (T : Txt mg) (G_twist : Cal P w K mg base "twist" 1 ["perm"] [.bw] f_twist) : FnOk P w K mg base CX0 2 fa fd ["perm", "times"] (spJ K [.fz, .bw] f__twisted) :=
  fnJ (k := 1) (n := 0) (f := b__twisted) Fu sc__twisted rfl rfl fun cdv A outer s H E C hr hC =>
    (jss_cons (js_if (jt_cmp (op_eqD hr.units) s_eq (je_op op_modN s_mod (je_var (pv 1)) je_int) je_int (nomark _)) (jss_one (js_ret (j_call G_twist hr (by decide) (jar_bw (je_var (pv 0)) jar_nil) rfl))) jss_nil) (jss_one (js_ret (je_var (pv 0)))))
theorem sc_is_half_turn : FnScope ["perm"] ["perm"] (defScope s_is_half_turn) := ⟨rfl, rfl, rfl, by decide +kernel, rfl, by decide +kernel, by decide +kernel⟩
theorem d_is_half_turn {fa : Addr} {fd : FuncData} (Fu : Fun K "is_half_turn" "is_half_turn" s_is_half_turn fa fd) (T : Txt mg) (G_half_turn : Cal P w K mg base "half_turn" 1 ["strands"] [.bw] f_half_turn) : FnOk P w K mg base CX0 2 fa fd ["perm"] (spJ K [.bw] f_is_half_turn) :=
  fnJ (k := 1) (n := 0) (f := b_is_half_turn) Fu sc_is_half_turn rfl rfl fun cdv A outer s H E C hr hC =>
    (jss_one (js_ret (je_and (je_cmp op_gt s_gt (j_len T.b_len (je_var (pv 0))) je_int (nomark _)) (je_one (je_cmp (op_eqD hr.units) s_eq (je_var (pv 0)) (j_call G_half_turn hr (by decide) (jar_bw (j_len T.b_len (je_var (pv 0))) jar_nil) rfl) (nomark _))))))
theorem sc_identity : FnScope ["strands"] ["strands"] (defScope s_identity) := ⟨rfl, rfl, rfl, by decide +kernel, rfl, by decide +kernel, by decide +kernel⟩
theorem d_identity {fa : Addr} {fd : FuncData} (Fu : Fun K "identity" "identity" s_identity fa fd) (T : Txt mg) : FnOk P w K mg base CX0 1 fa fd ["strands"] (spJ K [.bw] f_identity) :=
  fnJ (k := 0) (n := 0) (f := b_identity) Fu sc_identity rfl rfl fun cdv A outer s H E C hr hC =>
    (jss_one (js_ret (j_tupleR2 T.b_tuple T.b_range je_int (je_op (op_add.or (op_cat.or (op_catZ.or op_cat0))) s_add (je_var (pv 0)) je_int))))
theorem sc_is_trivial_perm : FnScope ["perm"] ["perm"] (defScope s_is_trivial_perm) := ⟨rfl, rfl, rfl, by decide +kernel, rfl, by decide +kernel, by decide +kernel⟩
theorem d_is_trivial_perm {fa : Addr} {fd : FuncData} (Fu : Fun K "is_trivial_perm" "is_trivial_perm" s_is_trivial_perm fa fd) (T : Txt mg) (G_identity : Cal P w K mg base "identity" 1 ["strands"] [.bw] f_identity) : FnOk P w K mg base CX0 2 fa fd ["perm"] (spJ K [.bw] f_is_trivial_perm) :=
  fnJ (k := 1) (n := 0) (f := b_is_trivial_perm) Fu sc_is_trivial_perm rfl rfl fun cdv A outer s H E C hr hC =>
    (jss_one (js_ret (je_cmp (op_eqD hr.units) s_eq (je_var (pv 0)) (j_call G_identity hr (by decide) (jar_bw (j_len T.b_len (je_var (pv 0))) jar_nil) rfl) (nomark _))))
theorem sc__trimmed : FnScope ["strands", "power", "row", "begin", "end"] ["strands", "power", "row"] (defScope s__trimmed) := ⟨rfl, rfl, rfl, by decide +kernel, rfl, by decide +kernel, by decide +kernel⟩
theorem d__trimmed {fa : Addr} {fd : FuncData} (Fu : Fun K "_trimmed" "_trimmed" s__trimmed fa fd) (T : Txt mg) (G_is_half_turn : Cal P w K mg base "is_half_turn" 2 ["perm"] [.bw] f_is_half_turn) (G_is_trivial_perm : Cal P w K mg base "is_trivial_perm" 2 ["perm"] [.bw] f_is_trivial_perm) : FnOk P w K mg base CX0 3 fa fd ["strands", "power", "row"] (spJ K [.bw, .bw, .bw] f__trimmed) :=
  fnJ (k := 2) (n := 2) (f := b__trimmed) Fu sc__trimmed rfl rfl fun cdv A outer s H E C hr hC =>
    (jss_cons (js_if (jt_cmp (op_eqD hr.units) s_eq (je_var (pv 0)) je_int (nomark _)) (jss_one (js_ret (je_tup (ja_cons je_int (ja_cons (je_tup ja_nil) ja_nil))))) jss_nil) (jss_cons (js_asgF hC (by decide) (ps_set (i := 3) sc__trimmed.nd rfl (Or.inl rfl) je_int)) (jss_cons (js_while PassesOwn.never (jt_w (jw_and (jt_cmp op_lt s_lt (je_var (pv 3)) (j_len T.b_len (je_var (pv 2))) (nomark _)) (jw_and1 (jt_tru (j_call G_is_half_turn hr (by decide) (jar_bw (j_ix (je_var (pv 2)) (je_var (pv 3))) jar_nil) rfl))))) (jss_one (js_asgF hC (by decide) (ps_set (i := 3) sc__trimmed.nd rfl (Or.inl rfl) (je_op (op_add.or (op_cat.or (op_catZ.or op_cat0))) s_add (je_var (pv 3)) je_int))))) (jss_cons (js_asgF hC (by decide) (ps_set (i := 4) sc__trimmed.nd rfl (Or.inl rfl) (j_len T.b_len (je_var (pv 2))))) (jss_cons (js_while PassesOwn.never (jt_w (jw_and (jt_cmp op_gt s_gt (je_var (pv 4)) (je_var (pv 3)) (nomark _)) (jw_and1 (jt_tru (j_call G_is_trivial_perm hr (by decide) (jar_bw (j_ix (je_var (pv 2)) (je_op op_sub s_sub (je_var (pv 4)) je_int)) jar_nil) rfl))))) (jss_one (js_asgF hC (by decide) (ps_set (i := 4) sc__trimmed.nd rfl (Or.inl rfl) (je_op op_sub s_sub (je_var (pv 4)) je_int))))) (jss_one (js_ret (je_tup (ja_cons (je_op (op_add.or (op_cat.or (op_catZ.or op_cat0))) s_add (je_var (pv 1)) (je_var (pv 3))) (ja_cons (j_tuple T.b_tuple (j_sl (je_var (pv 2)) (jo_so (je_var (pv 3))) (jo_so (je_var (pv 4))))) ja_nil))))))))))
theorem sc_put_in_front : FnScope ["strands", "perm", "form", "power", "factors", "carry", "heads", "factor", "head"] ["strands", "perm", "form"] (defScope s_put_in_front) := ⟨rfl, rfl, rfl, by decide +kernel, rfl, by decide +kernel, by decide +kernel⟩
theorem d_put_in_front {fa : Addr} {fd : FuncData} (Fu : Fun K "put_in_front" "put_in_front" s_put_in_front fa fd) (T : Txt mg) (G__twisted : Cal P w K mg base "_twisted" 2 ["perm", "times"] [.fz, .bw] f__twisted) (G_front_step : Cal P w K mg base "front_step" 6 ["carry", "factor"] [.fz, .fz] f_front_step) (G__trimmed : Cal P w K mg base "_trimmed" 3 ["strands", "power", "row"] [.bw, .bw, .bw] f__trimmed) : FnOk P w K mg base CX0 7 fa fd ["strands", "perm", "form"] (spJ K [.bw, .fz, .fz] f_put_in_front) :=
  fnJ (k := 6) (n := 6) (f := b_put_in_front) Fu sc_put_in_front rfl rfl fun cdv A outer s H E C hr hC =>
    (jss_cons (js_unp (sl := [3, 4]) (ps_asg (je_var (pv 2)) (And.left (jg_tp rfl (jgs_cons (jg_nm hC (by decide) (by decide) (pg_name (i := 3) sc_put_in_front.nd rfl (Or.inl rfl))) (jgs_cons (jg_nm hC (by decide) (by decide) (pg_name (i := 4) sc_put_in_front.nd rfl (Or.inl rfl))) jgs_nil)))))) (jss_cons (js_asgF hC (by decide) (ps_set (i := 5) sc_put_in_front.nd rfl (Or.inl rfl) (j_call G__twisted hr (by decide) (jar_fz (je_var (pv 1)) (jar_bw (je_var (pv 3)) jar_nil)) rfl))) (jss_cons (js_asg hC (by decide) (ps_set (i := 6) sc_put_in_front.nd rfl (Or.inl rfl) (je_lst ja_nil))) (jss_cons (js_for (sl := [7]) PassesOwn.never rfl (ji_seq (je_var (pv 4))) (jg_nm hC (by decide) (by decide) (pg_name (i := 7) sc_put_in_front.nd rfl (Or.inl rfl))) (jss_cons (js_unp (sl := [8, 5]) (ps_asg (j_call G_front_step hr (by decide) (jar_fz (je_var (pv 5)) (jar_fz (je_var (pv 7)) jar_nil)) rfl) (And.left (jg_tp rfl (jgs_cons (jg_nm hC (by decide) (by decide) (pg_name (i := 8) sc_put_in_front.nd rfl (Or.inl rfl))) (jgs_cons (jg_nm hC (by decide) (by decide) (pg_name (i := 5) sc_put_in_front.nd rfl (Or.inl rfl))) jgs_nil)))))) (jss_one (js_app (ps_expr (pe_bm PySem.F.plainAttrs_list PySem.F.slot_list_append PySem.F.type_list_append mt_append (pv 6) (pa_cons (je_var (pv 8)) pa_nil))))))) (jss_cons (js_app (ps_expr (pe_bm PySem.F.plainAttrs_list PySem.F.slot_list_append PySem.F.type_list_append mt_append (pv 6) (pa_cons (je_var (pv 5)) pa_nil)))) (jss_one (js_ret (j_call G__trimmed hr (by decide) (jar_bw (je_var (pv 0)) (jar_bw (je_var (pv 3)) (jar_bw (je_var (pv 6)) jar_nil))) rfl))))))))
theorem sc__law_heads_of_form : FnScope ["n", "lowest", "found", "many", "turn", "plain", "row", "k"] ["n", "lowest", "found", "many"] (defScope s__law_heads_of_form) := ⟨rfl, rfl, rfl, by decide +kernel, rfl, by decide +kernel, by decide +kernel⟩
theorem d__law_heads_of_form {fa : Addr} {fd : FuncData} (Fu : Fun K "_law_heads_of_form" "_law_heads_of_form" s__law_heads_of_form fa fd) (T : Txt mg) : FnOk P w K mg base CX0 1 fa fd ["n", "lowest", "found", "many"] (spJ K [.bw, .bw, .bw, .bw] f__law_heads_of_form) :=
  fnJ (k := 0) (n := 4) (f := b__law_heads_of_form) Fu sc__law_heads_of_form rfl rfl fun cdv A outer s H E C hr hC =>
    (jss_cons (js_asgF hC (by decide) (ps_set (i := 4) sc__law_heads_of_form.nd rfl (Or.inl rfl) (j_tuple T.b_tuple (je_lc hC (by decide) nn_nm (pe_lc (own := [("k", 7)]) rfl sc__law_heads_of_form.nd (ji_r1 (pi_range1 rfl T.b_range (pa_cons (je_var (pv 0)) pa_nil))) (blkOk_by (N := ["n", "lowest", "found", "many", "turn", "plain", "row", "k"]) (sc := defScope s__law_heads_of_form) (by decide +kernel)) (fun _ _ _ _ _ => And.left (jgx [7] (jg_nm hC (by decide) (by decide) (pg_name (i := 7) sc__law_heads_of_form.nd rfl (Or.inl rfl))))) (fun _ _ _ _ _ => jts_nil) (fun _ _ _ _ _ => (je_op op_sub s_sub (je_var (pv 0)) (je_var (pv 7))))))))) (jss_cons (js_asgF hC (by decide) (ps_set (i := 5) sc__law_heads_of_form.nd rfl (Or.inl rfl) (j_tuple T.b_tuple (je_lc hC (by decide) nn_nm (pe_lc (own := [("k", 7)]) rfl sc__law_heads_of_form.nd (ji_r1 (pi_range1 rfl T.b_range (pa_cons (je_var (pv 0)) pa_nil))) (blkOk_by (N := ["n", "lowest", "found", "many", "turn", "plain", "row", "k"]) (sc := defScope s__law_heads_of_form) (by decide +kernel)) (fun _ _ _ _ _ => And.left (jgx [7] (jg_nm hC (by decide) (by decide) (pg_name (i := 7) sc__law_heads_of_form.nd rfl (Or.inl rfl))))) (fun _ _ _ _ _ => jts_nil) (fun _ _ _ _ _ => (je_op (op_add.or (op_cat.or (op_catZ.or op_cat0))) s_add (je_var (pv 7)) je_int))))))) (jss_cons (js_asgF hC (by decide) (ps_set (i := 6) sc__law_heads_of_form.nd rfl (Or.inl rfl) (je_op (op_add.or (op_cat.or (op_catZ.or op_cat0))) s_add (je_op (op_mulW.or op_rep) s_mul (je_lst (ja_cons (je_var (pv 4)) ja_nil)) (j_max T.b_max je_int (je_op op_sub s_sub (j_ix (je_var (pv 2)) je_int) (je_var (pv 1))))) (j_list T.b_list (j_ix (je_var (pv 2)) je_int))))) (jss_one (js_ret (je_op (op_add.or (op_cat.or (op_catZ.or op_cat0))) s_add (je_var (pv 6)) (je_op (op_mulW.or op_rep) s_mul (je_lst (ja_cons (je_var (pv 5)) ja_nil)) (je_op op_sub s_sub (je_var (pv 3)) (j_len T.b_len (je_var (pv 6)))))))))))
theorem sc__law_most : FnScope ["box", "n"] ["box", "n"] (defScope s__law_most) := ⟨rfl, rfl, rfl, by decide +kernel, rfl, by decide +kernel, by decide +kernel⟩
theorem d__law_most {fa : Addr} {fd : FuncData} (Fu : Fun K "_law_most" "_law_most" s__law_most fa fd) (T : Txt mg) (G__law_take : Cal P w K mg base "_law_take" 1 ["box", "many"] [.mt, .bw] f__law_take) : FnOk P w K mg base CX0 2 fa fd ["box", "n"] (spJ K [.mt, .bw] f__law_most) :=
  fnJ (k := 1) (n := 0) (f := b__law_most) Fu sc__law_most rfl rfl fun cdv A outer s H E C hr hC =>
    (jss_cons (js_if (jt_cmp (op_eqD hr.units) s_eq (j_call G__law_take hr (by decide) (jar_mt (pv 0) (jar_bw je_int jar_nil)) rfl) je_int (nomark _)) (jss_one (js_ret (j_ix (je_lst (ja_cons je_int (ja_cons je_int (ja_cons je_int (ja_cons je_int (ja_cons je_int (ja_cons je_int (ja_cons je_int (ja_cons je_int (ja_cons je_int ja_nil)))))))))) (je_var (pv 1))))) jss_nil) (jss_one (js_ret (j_ix (je_lst (ja_cons je_int (ja_cons je_int (ja_cons je_int (ja_cons je_int (ja_cons je_int (ja_cons je_int (ja_cons je_int (ja_cons je_int (ja_cons je_int ja_nil)))))))))) (je_var (pv 1))))))
theorem sc__law_form_of_heads : FnScope ["n", "lowest", "heads", "many", "head", "row", "top", "k"] ["n", "lowest", "heads"] (defScope s__law_form_of_heads) := ⟨rfl, rfl, rfl, by decide +kernel, rfl, by decide +kernel, by decide +kernel⟩
theorem d__law_form_of_heads {fa : Addr} {fd : FuncData} (Fu : Fun K "_law_form_of_heads" "_law_form_of_heads" s__law_form_of_heads fa fd) (T : Txt mg) (G__law_starts : Cal P w K mg base "_law_starts" 1 ["row"] [.bw] f__law_starts) : FnOk P w K mg base CX0 2 fa fd ["n", "lowest", "heads"] (spJ K [.bw, .bw, .bw] f__law_form_of_heads) :=
  fnJ (k := 1) (n := 5) (f := b__law_form_of_heads) Fu sc__law_form_of_heads rfl rfl fun cdv A outer s H E C hr hC =>
    (jss_cons (js_asgF hC (by decide) (ps_set (i := 3) sc__law_form_of_heads.nd rfl (Or.inl rfl) je_int)) (jss_cons (js_for (sl := [4]) PassesOwn.never rfl (ji_seq (je_var (pv 2))) (jg_nm hC (by decide) (by decide) (pg_name (i := 4) sc__law_form_of_heads.nd rfl (Or.inl rfl))) (jss_cons (js_if (jt_w (jw_or (jt_cmp (op_eqD hr.units) s_eq (je_var (pv 0)) je_int (nomark _)) (jw_or1 (jt_cmp (op_neD hr.units) s_ne (j_len T.b_len (j_call G__law_starts hr (by decide) (jar_bw (je_var (pv 4)) jar_nil) rfl)) (je_op op_sub s_sub (je_var (pv 0)) je_int) (nomark _))))) (jss_one js_break) jss_nil) (jss_one (js_asgF hC (by decide) (ps_set (i := 3) sc__law_form_of_heads.nd rfl (Or.inl rfl) (je_op (op_add.or (op_cat.or (op_catZ.or op_cat0))) s_add (je_var (pv 3)) je_int)))))) (jss_cons (js_asgF hC (by decide) (ps_set (i := 5) sc__law_form_of_heads.nd rfl (Or.inl rfl) (j_sl (je_var (pv 2)) (jo_so (je_var (pv 3))) jo_no))) (jss_cons (js_asgF hC (by decide) (ps_set (i := 6) sc__law_form_of_heads.nd rfl (Or.inl rfl) (j_len T.b_len (je_var (pv 5))))) (jss_cons (js_for (sl := [7]) PassesOwn.never rfl (ji_r1 (pi_range1 rfl T.b_range (pa_cons (j_len T.b_len (je_var (pv 5))) pa_nil))) (jg_nm hC (by decide) (by decide) (pg_name (i := 7) sc__law_form_of_heads.nd rfl (Or.inl rfl))) (jss_cons (js_if (jt_cmp (op_neD hr.units) s_ne (j_len T.b_len (j_call G__law_starts hr (by decide) (jar_bw (j_ix (je_var (pv 5)) (je_op op_sub s_sub (je_op op_sub s_sub (j_len T.b_len (je_var (pv 5))) je_int) (je_var (pv 7)))) jar_nil) rfl)) je_int (nomark _)) (jss_one js_break) jss_nil) (jss_one (js_asgF hC (by decide) (ps_set (i := 6) sc__law_form_of_heads.nd rfl (Or.inl rfl) (je_op op_sub s_sub (je_var (pv 6)) je_int)))))) (jss_one (js_ret (je_tup (ja_cons (je_op (op_add.or (op_cat.or (op_catZ.or op_cat0))) s_add (je_var (pv 1)) (je_var (pv 3))) (ja_cons (j_tuple T.b_tuple (j_sl (je_var (pv 5)) jo_no (jo_so (je_var (pv 6))))) ja_nil))))))))))
theorem sc__law_form_holds : FnScope ["n", "value", "allowed", "factor", "begins", "letter"] ["n", "value"] (defScope s__law_form_holds) := ⟨rfl, rfl, rfl, by decide +kernel, rfl, by decide +kernel, by decide +kernel⟩
theorem d__law_form_holds {fa : Addr} {fd : FuncData} (Fu : Fun K "_law_form_holds" "_law_form_holds" s__law_form_holds fa fd) (T : Txt mg) (G__law_is_integer : Cal P w K mg base "_law_is_integer" 1 ["value"] [.bw] f__law_is_integer) (G__law_perm_holds : Cal P w K mg base "_law_perm_holds" 2 ["n", "value"] [.bw, .bw] f__law_perm_holds) (G__law_starts : Cal P w K mg base "_law_starts" 1 ["row"] [.bw] f__law_starts) (G__law_inverse : Cal P w K mg base "_law_inverse" 1 ["row"] [.bw] f__law_inverse) : FnOk P w K mg base CX0 3 fa fd ["n", "value"] (spJ K [.bw, .bw] f__law_form_holds) :=
  fnJ (k := 2) (n := 4) (f := b__law_form_holds) Fu sc__law_form_holds rfl rfl fun cdv A outer s H E C hr hC =>
    (jss_cons (js_if (jt_w (jw_or (jt_not (jt_tru (j_isi_tuple T.b_isinstance T.b_tuple (je_var (pv 1))))) (jw_or1 (jt_cmp (op_neD hr.units) s_ne (j_len T.b_len (je_var (pv 1))) je_int (nomark _))))) (jss_one (js_ret je_bl)) jss_nil) (jss_cons (js_if (jt_w (jw_or (jt_not (jt_tru (j_call G__law_is_integer hr (by decide) (jar_bw (j_ix (je_var (pv 1)) je_int) jar_nil) rfl))) (jw_or1 (jt_not (jt_tru (j_isi_tuple T.b_isinstance T.b_tuple (j_ix (je_var (pv 1)) je_int))))))) (jss_one (js_ret je_bl)) jss_nil) (jss_cons (js_if (jt_cmp (op_eqD hr.units) s_eq (je_var (pv 0)) je_int (nomark _)) (jss_one (js_ret (je_and (je_cmp (op_eqD hr.units) s_eq (j_ix (je_var (pv 1)) je_int) je_int (nomark _)) (je_one (je_cmp (op_eqD hr.units) s_eq (j_len T.b_len (j_ix (je_var (pv 1)) je_int)) je_int (nomark _)))))) jss_nil) (jss_cons (js_asgF hC (by decide) (ps_set (i := 2) sc__law_form_holds.nd rfl (Or.inl rfl) (j_listR2 T.b_list T.b_range je_int (je_var (pv 0))))) (jss_cons (js_for (sl := [3]) PassesOwn.never rfl (ji_seq (j_ix (je_var (pv 1)) je_int)) (jg_nm hC (by decide) (by decide) (pg_name (i := 3) sc__law_form_holds.nd rfl (Or.inl rfl))) (jss_cons (js_if (jt_not (jt_tru (j_call G__law_perm_holds hr (by decide) (jar_bw (je_var (pv 0)) (jar_bw (je_var (pv 3)) jar_nil)) rfl))) (jss_one (js_ret je_bl)) jss_nil) (jss_cons (js_asgF hC (by decide) (ps_set (i := 4) sc__law_form_holds.nd rfl (Or.inl rfl) (j_call G__law_starts hr (by decide) (jar_bw (je_var (pv 3)) jar_nil) rfl))) (jss_cons (js_if (jt_w (jw_or (jt_cmp (op_eqD hr.units) s_eq (j_len T.b_len (je_var (pv 4))) je_int (nomark _)) (jw_or1 (jt_cmp (op_eqD hr.units) s_eq (j_len T.b_len (je_var (pv 4))) (je_op op_sub s_sub (je_var (pv 0)) je_int) (nomark _))))) (jss_one (js_ret je_bl)) jss_nil) (jss_cons (js_for (sl := [5]) PassesOwn.never rfl (ji_seq (je_var (pv 4))) (jg_nm hC (by decide) (by decide) (pg_name (i := 5) sc__law_form_holds.nd rfl (Or.inl rfl))) (jss_one (js_if (jt_cmp op_notIn_seq s_notIn (je_var (pv 5)) (je_var (pv 2)) rfl) (jss_one (js_ret je_bl)) jss_nil))) (jss_one (js_asgF hC (by decide) (ps_set (i := 2) sc__law_form_holds.nd rfl (Or.inl rfl) (j_call G__law_starts hr (by decide) (jar_bw (j_call G__law_inverse hr (by decide) (jar_bw (je_var (pv 3)) jar_nil) rfl) jar_nil) rfl))))))))) (jss_one (js_ret je_bl)))))))
theorem sc__law_front_holds : FnScope ["n", "shape", "found", "heads"] ["n", "shape", "found", "heads"] (defScope s__law_front_holds) := ⟨rfl, rfl, rfl, by decide +kernel, rfl, by decide +kernel, by decide +kernel⟩
theorem d__law_front_holds {fa : Addr} {fd : FuncData} (Fu : Fun K "_law_front_holds" "_law_front_holds" s__law_front_holds fa fd) (T : Txt mg) (G__law_form_holds : Cal P w K mg base "_law_form_holds" 3 ["n", "value"] [.bw, .bw] f__law_form_holds) (G__law_form_of_heads : Cal P w K mg base "_law_form_of_heads" 2 ["n", "lowest", "heads"] [.bw, .bw, .bw] f__law_form_of_heads) (G__law_heads_of_form : Cal P w K mg base "_law_heads_of_form" 1 ["n", "lowest", "found", "many"] [.bw, .bw, .bw, .bw] f__law_heads_of_form) : FnOk P w K mg base CX0 4 fa fd ["n", "shape", "found", "heads"] (spJ K [.bw, .bw, .bw, .bw] f__law_front_holds) :=
  fnJ (k := 3) (n := 0) (f := b__law_front_holds) Fu sc__law_front_holds rfl rfl fun cdv A outer s H E C hr hC =>
    (jss_cons (js_if (jt_w (jw_or (jt_cmp (op_eqD hr.units) s_eq (je_var (pv 3)) (je_lst ja_nil) (nomark _)) (jw_or1 (jt_not (jt_tru (j_call G__law_form_holds hr (by decide) (jar_bw (je_var (pv 0)) (jar_bw (je_var (pv 2)) jar_nil)) rfl)))))) (jss_one (js_ret je_bl)) jss_nil) (jss_cons (js_if (jt_cmp (op_neD hr.units) s_ne (je_var (pv 2)) (j_call G__law_form_of_heads hr (by decide) (jar_bw (je_var (pv 0)) (jar_bw (j_ix (je_var (pv 1)) je_int) (jar_bw (je_var (pv 3)) jar_nil))) rfl) (nomark _)) (jss_one (js_ret je_bl)) jss_nil) (jss_one (js_ret (je_cmp (op_eqD hr.units) s_eq (j_call G__law_heads_of_form hr (by decide) (jar_bw (je_var (pv 0)) (jar_bw (j_ix (je_var (pv 1)) je_int) (jar_bw (je_var (pv 2)) (jar_bw (j_len T.b_len (je_var (pv 3))) jar_nil)))) rfl) (je_var (pv 3)) (nomark _))))))
theorem sc__law_staircase : FnScope ["row", "line", "m", "many", "k"] ["row"] (defScope s__law_staircase) := ⟨rfl, rfl, rfl, by decide +kernel, rfl, by decide +kernel, by decide +kernel⟩
theorem d__law_staircase {fa : Addr} {fd : FuncData} (Fu : Fun K "_law_staircase" "_law_staircase" s__law_staircase fa fd) (T : Txt mg) : FnOk P w K mg base CX0 1 fa fd ["row"] (spJ K [.bw] f__law_staircase) :=
  fnJ (k := 0) (n := 4) (f := b__law_staircase) Fu sc__law_staircase rfl rfl fun cdv A outer s H E C hr hC =>
    (jss_cons (js_asg hC (by decide) (ps_set (i := 1) sc__law_staircase.nd rfl (Or.inl rfl) (je_lst ja_nil))) (jss_cons (js_for (sl := [2]) PassesOwn.never rfl (ji_r2 (pi_range2 rfl T.b_range (pa_cons je_int (pa_cons (j_len T.b_len (je_var (pv 0))) pa_nil)))) (jg_nm hC (by decide) (by decide) (pg_name (i := 2) sc__law_staircase.nd rfl (Or.inr rfl))) (jss_cons (js_asgF hC (by decide) (ps_set (i := 3) sc__law_staircase.nd rfl (Or.inl rfl) (j_len T.b_len (je_lc hC (by decide) nn_nm (pe_lc (own := [("k", 4)]) rfl sc__law_staircase.nd (ji_r1 (pi_range1 rfl T.b_range (pa_cons (je_var (pv 2)) pa_nil))) (blkOk_by (N := ["row", "line", "m", "many", "k"]) (sc := defScope s__law_staircase) (by decide +kernel)) (fun _ _ _ _ _ => And.left (jgx [4] (jg_nm hC (by decide) (by decide) (pg_name (i := 4) sc__law_staircase.nd rfl (Or.inl rfl))))) (fun _ _ _ _ _ => (jts_one (jt_cmp op_gt s_gt (j_ix (je_var (pv 0)) (je_var (pv 4))) (j_ix (je_var (pv 0)) (je_var (pv 2))) (nomark _)))) (fun _ _ _ _ _ => (je_var (pv 4)))))))) (jss_one (js_asg hC (by decide) (ps_set (i := 1) sc__law_staircase.nd rfl (Or.inl rfl) (je_op (op_add.or (op_cat.or (op_catZ.or op_cat0))) s_add (je_var (pv 1)) (je_lc hC (by decide) nn_nm (pe_lc (own := [("k", 4)]) rfl sc__law_staircase.nd (ji_r1 (pi_range1 rfl T.b_range (pa_cons (je_var (pv 3)) pa_nil))) (blkOk_by (N := ["row", "line", "m", "many", "k"]) (sc := defScope s__law_staircase) (by decide +kernel)) (fun _ _ _ _ _ => And.left (jgx [4] (jg_nm hC (by decide) (by decide) (pg_name (i := 4) sc__law_staircase.nd rfl (Or.inl rfl))))) (fun _ _ _ _ _ => jts_nil) (fun _ _ _ _ _ => (je_op op_sub s_sub (je_var (pv 2)) (je_var (pv 4)))))))))))) (jss_one (js_ret (je_var (pv 1))))))
theorem sc__law_form_letters : FnScope ["n", "shape", "half", "line", "factor", "k", "letter"] ["n", "shape"] (defScope s__law_form_letters) := ⟨rfl, rfl, rfl, by decide +kernel, rfl, by decide +kernel, by decide +kernel⟩
theorem d__law_form_letters {fa : Addr} {fd : FuncData} (Fu : Fun K "_law_form_letters" "_law_form_letters" s__law_form_letters fa fd) (T : Txt mg) (G__law_staircase : Cal P w K mg base "_law_staircase" 1 ["row"] [.bw] f__law_staircase) : FnOk P w K mg base CX0 2 fa fd ["n", "shape"] (spJ K [.bw, .bw] f__law_form_letters) :=
  fnJ (k := 1) (n := 5) (f := b__law_form_letters) Fu sc__law_form_letters rfl rfl fun cdv A outer s H E C hr hC =>
    (jss_cons (js_asgF hC (by decide) (ps_set (i := 2) sc__law_form_letters.nd rfl (Or.inl rfl) (j_call G__law_staircase hr (by decide) (jar_bw (je_lc hC (by decide) nn_nm (pe_lc (own := [("k", 5)]) rfl sc__law_form_letters.nd (ji_r1 (pi_range1 rfl T.b_range (pa_cons (je_var (pv 0)) pa_nil))) (blkOk_by (N := ["n", "shape", "half", "line", "factor", "k", "letter"]) (sc := defScope s__law_form_letters) (by decide +kernel)) (fun _ _ _ _ _ => And.left (jgx [5] (jg_nm hC (by decide) (by decide) (pg_name (i := 5) sc__law_form_letters.nd rfl (Or.inl rfl))))) (fun _ _ _ _ _ => jts_nil) (fun _ _ _ _ _ => (je_op op_sub s_sub (je_var (pv 0)) (je_var (pv 5)))))) jar_nil) rfl))) (jss_cons (js_asg hC (by decide) (ps_set (i := 3) sc__law_form_letters.nd rfl (Or.inl rfl) (je_op (op_mulW.or op_rep) s_mul (je_var (pv 2)) (j_max T.b_max je_int (j_ix (je_var (pv 1)) je_int))))) (jss_cons (js_if (jt_cmp op_lt s_lt (j_ix (je_var (pv 1)) je_int) je_int (nomark _)) (jss_one (js_asg hC (by decide) (ps_set (i := 3) sc__law_form_letters.nd rfl (Or.inl rfl) (je_op (op_mulW.or op_rep) s_mul (je_lc hC (by decide) nn_nm (pe_lc (own := [("letter", 6)]) rfl sc__law_form_letters.nd (ji_seq (j_rev (je_var (pv 2)))) (blkOk_by (N := ["n", "shape", "half", "line", "factor", "k", "letter"]) (sc := defScope s__law_form_letters) (by decide +kernel)) (fun _ _ _ _ _ => And.left (jgx [6] (jg_nm hC (by decide) (by decide) (pg_name (i := 6) sc__law_form_letters.nd rfl (Or.inl rfl))))) (fun _ _ _ _ _ => jts_nil) (fun _ _ _ _ _ => (je_op op_sub s_sub je_int (je_var (pv 6)))))) (je_op op_sub s_sub je_int (j_ix (je_var (pv 1)) je_int)))))) jss_nil) (jss_cons (js_for (sl := [4]) PassesOwn.never rfl (ji_seq (j_ix (je_var (pv 1)) je_int)) (jg_nm hC (by decide) (by decide) (pg_name (i := 4) sc__law_form_letters.nd rfl (Or.inl rfl))) (jss_one (js_asg hC (by decide) (ps_set (i := 3) sc__law_form_letters.nd rfl (Or.inl rfl) (je_op (op_add.or (op_cat.or (op_catZ.or op_cat0))) s_add (je_var (pv 3)) (j_call G__law_staircase hr (by decide) (jar_bw (je_var (pv 4)) jar_nil) rfl)))))) (jss_one (js_ret (je_var (pv 3))))))))
theorem sc__law_sign_sum : FnScope ["line", "letter"] ["line"] (defScope s__law_sign_sum) := ⟨rfl, rfl, rfl, by decide +kernel, rfl, by decide +kernel, by decide +kernel⟩
theorem d__law_sign_sum {fa : Addr} {fd : FuncData} (Fu : Fun K "_law_sign_sum" "_law_sign_sum" s__law_sign_sum fa fd) (T : Txt mg) : FnOk P w K mg base CX0 1 fa fd ["line"] (spJ K [.bw] f__law_sign_sum) :=
  fnJ (k := 0) (n := 1) (f := b__law_sign_sum) Fu sc__law_sign_sum rfl rfl fun cdv A outer s H E C hr hC =>
    (jss_one (js_ret (je_op op_sub s_sub (j_len T.b_len (je_lc hC (by decide) nn_nm (pe_lc (own := [("letter", 1)]) rfl sc__law_sign_sum.nd (ji_seq (je_var (pv 0))) (blkOk_by (N := ["line", "letter"]) (sc := defScope s__law_sign_sum) (by decide +kernel)) (fun _ _ _ _ _ => And.left (jgx [1] (jg_nm hC (by decide) (by decide) (pg_name (i := 1) sc__law_sign_sum.nd rfl (Or.inl rfl))))) (fun _ _ _ _ _ => (jts_one (jt_cmp op_gt s_gt (je_var (pv 1)) je_int (nomark _)))) (fun _ _ _ _ _ => (je_var (pv 1)))))) (j_len T.b_len (je_lc hC (by decide) nn_nm (pe_lc (own := [("letter", 1)]) rfl sc__law_sign_sum.nd (ji_seq (je_var (pv 0))) (blkOk_by (N := ["line", "letter"]) (sc := defScope s__law_sign_sum) (by decide +kernel)) (fun _ _ _ _ _ => And.left (jgx [1] (jg_nm hC (by decide) (by decide) (pg_name (i := 1) sc__law_sign_sum.nd rfl (Or.inl rfl))))) (fun _ _ _ _ _ => (jts_one (jt_cmp op_lt s_lt (je_var (pv 1)) je_int (nomark _)))) (fun _ _ _ _ _ => (je_var (pv 1)))))))))
theorem sc__law_free : FnScope ["first", "second", "gone", "k"] ["first", "second"] (defScope s__law_free) := ⟨rfl, rfl, rfl, by decide +kernel, rfl, by decide +kernel, by decide +kernel⟩
theorem d__law_free {fa : Addr} {fd : FuncData} (Fu : Fun K "_law_free" "_law_free" s__law_free fa fd) (T : Txt mg) : FnOk P w K mg base CX0 1 fa fd ["first", "second"] (spJ K [.bw, .bw] f__law_free) :=
  fnJ (k := 0) (n := 2) (f := b__law_free) Fu sc__law_free rfl rfl fun cdv A outer s H E C hr hC =>
    (jss_cons (js_asgF hC (by decide) (ps_set (i := 2) sc__law_free.nd rfl (Or.inl rfl) je_int)) (jss_cons (js_for (sl := [3]) PassesOwn.never rfl (ji_r1 (pi_range1 rfl T.b_range (pa_cons (j_min T.b_min (j_len T.b_len (je_var (pv 0))) (j_len T.b_len (je_var (pv 1)))) pa_nil))) (jg_nm hC (by decide) (by decide) (pg_name (i := 3) sc__law_free.nd rfl (Or.inl rfl))) (jss_cons (js_if (jt_cmp (op_neD hr.units) s_ne (j_ix (je_var (pv 0)) (je_op op_sub s_sub (je_op op_sub s_sub (j_len T.b_len (je_var (pv 0))) je_int) (je_var (pv 3)))) (je_op op_sub s_sub je_int (j_ix (je_var (pv 1)) (je_var (pv 3)))) (nomark _)) (jss_one js_break) jss_nil) (jss_one (js_asgF hC (by decide) (ps_set (i := 2) sc__law_free.nd rfl (Or.inl rfl) (je_op (op_add.or (op_cat.or (op_catZ.or op_cat0))) s_add (je_var (pv 2)) je_int)))))) (jss_one (js_ret (je_op (op_add.or (op_cat.or (op_catZ.or op_cat0))) s_add (j_sl (je_var (pv 0)) jo_no (jo_so (je_op op_sub s_sub (j_len T.b_len (je_var (pv 0))) (je_var (pv 2))))) (j_sl (je_var (pv 1)) (jo_so (je_var (pv 2))) jo_no))))))
theorem sc__law_images : FnScope ["n", "line", "row", "letter", "at", "left", "right", "k"] ["n", "line"] (defScope s__law_images) := ⟨rfl, rfl, rfl, by decide +kernel, rfl, by decide +kernel, by decide +kernel⟩
theorem d__law_images {fa : Addr} {fd : FuncData} (Fu : Fun K "_law_images" "_law_images" s__law_images fa fd) (T : Txt mg) (G__law_free : Cal P w K mg base "_law_free" 1 ["first", "second"] [.bw, .bw] f__law_free) : FnOk P w K mg base CX0 2 fa fd ["n", "line"] (spJ K [.bw, .bw] f__law_images) :=
  fnJ (k := 1) (n := 6) (f := b__law_images) Fu sc__law_images rfl rfl fun cdv A outer s H E C hr hC =>
    (jss_cons (js_asg hC (by decide) (lc_ps hC (by decide) nn_nm (ps_setLc (i := 2) (own := [("k", 7)]) rfl sc__law_images.nd rfl rfl (sw_true rfl rfl rfl (by decide +kernel)) (ji_r2 (pi_range2 rfl T.b_range (pa_cons je_int (pa_cons (je_op (op_add.or (op_cat.or (op_catZ.or op_cat0))) s_add (je_var (pv 0)) je_int) pa_nil)))) (blkOk_by (N := ["n", "line", "row", "letter", "at", "left", "right", "k"]) (sc := defScope s__law_images) (by decide +kernel)) (fun _ _ _ _ _ => And.left (jgx [7] (jg_nm hC (by decide) (by decide) (pg_name (i := 7) sc__law_images.nd rfl (Or.inl rfl))))) (fun _ _ _ _ _ => jts_nil) (fun _ _ _ _ _ => (je_lst (ja_cons (je_var (pv 7)) ja_nil)))))) (jss_cons (js_for (sl := [3]) PassesOwn.never rfl (ji_seq (je_var (pv 1))) (jg_nm hC (by decide) (by decide) (pg_name (i := 3) sc__law_images.nd rfl (Or.inl rfl))) (jss_cons (js_asgF hC (by decide) (ps_set (i := 4) sc__law_images.nd rfl (Or.inl rfl) (je_op op_sub s_sub (j_abs T.b_abs (je_var (pv 3))) je_int))) (jss_cons (js_asgF hC (by decide) (ps_set (i := 5) sc__law_images.nd rfl (Or.inl rfl) (j_ix (je_var (pv 2)) (je_var (pv 4))))) (jss_cons (js_asgF hC (by decide) (ps_set (i := 6) sc__law_images.nd rfl (Or.inl rfl) (j_ix (je_var (pv 2)) (je_op (op_add.or (op_cat.or (op_catZ.or op_cat0))) s_add (je_var (pv 4)) je_int)))) (jss_one (js_if (jt_cmp op_gt s_gt (je_var (pv 3)) je_int (nomark _)) (jss_cons (js_set (ps_asg (j_call G__law_free hr (by decide) (jar_bw (j_call G__law_free hr (by decide) (jar_bw (je_var (pv 5)) (jar_bw (je_var (pv 6)) jar_nil)) rfl) (jar_bw (je_lc hC (by decide) nn_nm (pe_lc (own := [("k", 7)]) rfl sc__law_images.nd (ji_seq (j_rev (je_var (pv 5)))) (blkOk_by (N := ["n", "line", "row", "letter", "at", "left", "right", "k"]) (sc := defScope s__law_images) (by decide +kernel)) (fun _ _ _ _ _ => And.left (jgx [7] (jg_nm hC (by decide) (by decide) (pg_name (i := 7) sc__law_images.nd rfl (Or.inl rfl))))) (fun _ _ _ _ _ => jts_nil) (fun _ _ _ _ _ => (je_op op_sub s_sub je_int (je_var (pv 7)))))) jar_nil)) rfl) (pg_sub (pv 2) (je_var (pv 4)) set_list))) (jss_one (js_set (ps_asg (je_var (pv 5)) (pg_sub (pv 2) (je_op (op_add.or (op_cat.or (op_catZ.or op_cat0))) s_add (je_var (pv 4)) je_int) set_list))))) (jss_cons (js_set (ps_asg (je_var (pv 6)) (pg_sub (pv 2) (je_var (pv 4)) set_list))) (jss_one (js_set (ps_asg (j_call G__law_free hr (by decide) (jar_bw (j_call G__law_free hr (by decide) (jar_bw (je_lc hC (by decide) nn_nm (pe_lc (own := [("k", 7)]) rfl sc__law_images.nd (ji_seq (j_rev (je_var (pv 6)))) (blkOk_by (N := ["n", "line", "row", "letter", "at", "left", "right", "k"]) (sc := defScope s__law_images) (by decide +kernel)) (fun _ _ _ _ _ => And.left (jgx [7] (jg_nm hC (by decide) (by decide) (pg_name (i := 7) sc__law_images.nd rfl (Or.inl rfl))))) (fun _ _ _ _ _ => jts_nil) (fun _ _ _ _ _ => (je_op op_sub s_sub je_int (je_var (pv 7)))))) (jar_bw (je_var (pv 5)) jar_nil)) rfl) (jar_bw (je_var (pv 6)) jar_nil)) rfl) (pg_sub (pv 2) (je_op (op_add.or (op_cat.or (op_catZ.or op_cat0))) s_add (je_var (pv 4)) je_int) set_list))))))))))) (jss_one (js_ret (je_var (pv 2))))))
theorem sc__law_letters_hold : FnScope ["n", "perm", "shape", "found", "line", "row"] ["n", "perm", "shape", "found"] (defScope s__law_letters_hold) := ⟨rfl, rfl, rfl, by decide +kernel, rfl, by decide +kernel, by decide +kernel⟩
theorem d__law_letters_hold {fa : Addr} {fd : FuncData} (Fu : Fun K "_law_letters_hold" "_law_letters_hold" s__law_letters_hold fa fd) (T : Txt mg) (G__law_staircase : Cal P w K mg base "_law_staircase" 1 ["row"] [.bw] f__law_staircase) (G__law_form_letters : Cal P w K mg base "_law_form_letters" 2 ["n", "shape"] [.bw, .bw] f__law_form_letters) (G__law_sign_sum : Cal P w K mg base "_law_sign_sum" 1 ["line"] [.bw] f__law_sign_sum) (G__law_images : Cal P w K mg base "_law_images" 2 ["n", "line"] [.bw, .bw] f__law_images) : FnOk P w K mg base CX0 3 fa fd ["n", "perm", "shape", "found"] (spJ K [.bw, .bw, .bw, .bw] f__law_letters_hold) :=
  fnJ (k := 2) (n := 2) (f := b__law_letters_hold) Fu sc__law_letters_hold rfl rfl fun cdv A outer s H E C hr hC =>
    (jss_cons (js_asgF hC (by decide) (ps_set (i := 4) sc__law_letters_hold.nd rfl (Or.inl rfl) (je_op (op_add.or (op_cat.or (op_catZ.or op_cat0))) s_add (j_call G__law_staircase hr (by decide) (jar_bw (je_var (pv 1)) jar_nil) rfl) (j_call G__law_form_letters hr (by decide) (jar_bw (je_var (pv 0)) (jar_bw (je_var (pv 2)) jar_nil)) rfl)))) (jss_cons (js_asgF hC (by decide) (ps_set (i := 5) sc__law_letters_hold.nd rfl (Or.inl rfl) (j_call G__law_form_letters hr (by decide) (jar_bw (je_var (pv 0)) (jar_bw (je_var (pv 3)) jar_nil)) rfl))) (jss_cons (js_if (jt_cmp (op_neD hr.units) s_ne (j_call G__law_sign_sum hr (by decide) (jar_bw (je_var (pv 5)) jar_nil) rfl) (j_call G__law_sign_sum hr (by decide) (jar_bw (je_var (pv 4)) jar_nil) rfl) (nomark _)) (jss_one (js_ret je_bl)) jss_nil) (jss_cons (js_if (jt_cmp op_le s_le (je_var (pv 0)) je_int (nomark _)) (jss_one (js_ret (je_cmp (op_eqD hr.units) s_eq (je_var (pv 3)) (je_tup (ja_cons (j_call G__law_sign_sum hr (by decide) (jar_bw (je_var (pv 4)) jar_nil) rfl) (ja_cons (je_tup ja_nil) ja_nil))) (nomark _)))) jss_nil) (jss_one (js_ret (je_or (je_cmp op_gt s_gt (j_len T.b_len (j_ix (je_var (pv 2)) je_int)) je_int (nomark _)) (je_one (je_cmp (op_eqD hr.units) s_eq (j_call G__law_images hr (by decide) (jar_bw (je_var (pv 0)) (jar_bw (je_var (pv 5)) jar_nil)) rfl) (j_call G__law_images hr (by decide) (jar_bw (je_var (pv 0)) (jar_bw (je_var (pv 4)) jar_nil)) rfl) (nomark _))))))))))
theorem sc_law : FnScope ["script", "box", "n", "perm", "lowest", "near", "row", "shape", "heads", "found", "kept", "allowed", "far", "other", "other_heads", "other_found", "again"] ["script"] (defScope s_law) := ⟨rfl, rfl, rfl, by decide +kernel, rfl, by decide +kernel, by decide +kernel⟩
theorem d_law {fa : Addr} {fd : FuncData} (Fu : Fun K "law" "law" s_law fa fd) (T : Txt mg) (G__law_box : Cal P w K mg base "_law_box" 2 ["script", "k"] [.sc, .bw] f__law_box) (G__law_strands : Cal P w K mg base "_law_strands" 2 ["box"] [.mt] f__law_strands) (G__law_perm : Cal P w K mg base "_law_perm" 2 ["box", "n"] [.mt, .bw] f__law_perm) (G__law_power : Cal P w K mg base "_law_power" 2 ["box", "n"] [.mt, .bw] f__law_power) (G__law_row : Cal P w K mg base "_law_row" 4 ["box", "n", "most", "allowed"] [.mt, .bw, .bw, .bw] f__law_row) (G__law_most : Cal P w K mg base "_law_most" 2 ["box", "n"] [.mt, .bw] f__law_most) (G__law_heads : Cal P w K mg base "_law_heads" 7 ["n", "perm", "shape"] [.bw, .fz, .bw] f__law_heads) (G_put_in_front : Cal P w K mg base "put_in_front" 7 ["strands", "perm", "form"] [.bw, .fz, .fz] f_put_in_front) (G__law_front_holds : Cal P w K mg base "_law_front_holds" 4 ["n", "shape", "found", "heads"] [.bw, .bw, .bw, .bw] f__law_front_holds) (G__law_letters_hold : Cal P w K mg base "_law_letters_hold" 3 ["n", "perm", "shape", "found"] [.bw, .bw, .bw, .bw] f__law_letters_hold) (G__law_take : Cal P w K mg base "_law_take" 1 ["box", "many"] [.mt, .bw] f__law_take) (G__law_starts : Cal P w K mg base "_law_starts" 1 ["row"] [.bw] f__law_starts) (G__law_inverse : Cal P w K mg base "_law_inverse" 1 ["row"] [.bw] f__law_inverse) (G__law_heads_of_form : Cal P w K mg base "_law_heads_of_form" 1 ["n", "lowest", "found", "many"] [.bw, .bw, .bw, .bw] f__law_heads_of_form) : FnOk P w K mg base CX0 8 fa fd ["script"] (spJ K [.sc] f_law) :=
  fnJ (k := 7) (n := 16) (f := b_law) Fu sc_law rfl rfl fun cdv A outer s H E C hr hC =>
    (jss_cons (js_asg hC (by decide) (ps_set (i := 1) sc_law.nd rfl (Or.inl rfl) (j_call G__law_box hr (by decide) (jar_sc (pv 0) (jar_bw je_int jar_nil)) rfl))) (jss_cons (js_asgF hC (by decide) (ps_set (i := 2) sc_law.nd rfl (Or.inl rfl) (j_call G__law_strands hr (by decide) (jar_mt (pv 1) jar_nil) rfl))) (jss_cons (js_asgF hC (by decide) (ps_set (i := 3) sc_law.nd rfl (Or.inl rfl) (j_call G__law_perm hr (by decide) (jar_mt (pv 1) (jar_bw (je_var (pv 2)) jar_nil)) rfl))) (jss_cons (js_asgF hC (by decide) (ps_set (i := 4) sc_law.nd rfl (Or.inl rfl) (j_call G__law_power hr (by decide) (jar_mt (pv 1) (jar_bw (je_var (pv 2)) jar_nil)) rfl))) (jss_cons (js_asg hC (by decide) (ps_set (i := 5) sc_law.nd rfl (Or.inl rfl) (j_call G__law_box hr (by decide) (jar_sc (pv 0) (jar_bw je_int jar_nil)) rfl))) (jss_cons (js_asgF hC (by decide) (ps_set (i := 6) sc_law.nd rfl (Or.inl rfl) (j_call G__law_row hr (by decide) (jar_mt (pv 5) (jar_bw (je_var (pv 2)) (jar_bw (j_call G__law_most hr (by decide) (jar_mt (pv 5) (jar_bw (je_var (pv 2)) jar_nil)) rfl) (jar_bw (j_listR2 T.b_list T.b_range je_int (je_var (pv 2))) jar_nil)))) rfl))) (jss_cons (js_asgF hC (by decide) (ps_set (i := 7) sc_law.nd rfl (Or.inl rfl) (je_tup (ja_cons (je_var (pv 4)) (ja_cons (j_tuple T.b_tuple (je_var (pv 6))) ja_nil))))) (jss_cons (js_asgF hC (by decide) (ps_set (i := 8) sc_law.nd rfl (Or.inl rfl) (j_call G__law_heads hr (by decide) (jar_bw (je_var (pv 2)) (jar_fz (je_var (pv 3)) (jar_bw (je_var (pv 7)) jar_nil))) rfl))) (jss_cons (js_asgF hC (by decide) (ps_set (i := 9) sc_law.nd rfl (Or.inl rfl) (j_call G_put_in_front hr (by decide) (jar_bw (je_var (pv 2)) (jar_fz (je_var (pv 3)) (jar_fz (je_var (pv 7)) jar_nil))) rfl))) (jss_cons (js_if (jt_not (jt_tru (j_call G__law_front_holds hr (by decide) (jar_bw (je_var (pv 2)) (jar_bw (je_var (pv 7)) (jar_bw (je_var (pv 9)) (jar_bw (je_var (pv 8)) jar_nil)))) rfl))) (jss_one (js_ret je_bl)) jss_nil) (jss_cons (js_if (jt_not (jt_tru (j_call G__law_letters_hold hr (by decide) (jar_bw (je_var (pv 2)) (jar_bw (je_var (pv 3)) (jar_bw (je_var (pv 7)) (jar_bw (je_var (pv 9)) jar_nil)))) rfl))) (jss_one (js_ret je_bl)) jss_nil) (jss_cons (js_asgF hC (by decide) (ps_set (i := 10) sc_law.nd rfl (Or.inl rfl) (j_call G__law_take hr (by decide) (jar_mt (pv 1) (jar_bw (je_op (op_add.or (op_cat.or (op_catZ.or op_cat0))) s_add (j_len T.b_len (je_var (pv 6))) je_int) jar_nil)) rfl))) (jss_cons (js_asgF hC (by decide) (ps_set (i := 11) sc_law.nd rfl (Or.inl rfl) (j_listR2 T.b_list T.b_range je_int (je_var (pv 2))))) (jss_cons (js_if (jt_cmp op_gt s_gt (je_var (pv 10)) je_int (nomark _)) (jss_one (js_asgF hC (by decide) (ps_set (i := 11) sc_law.nd rfl (Or.inl rfl) (j_call G__law_starts hr (by decide) (jar_bw (j_call G__law_inverse hr (by decide) (jar_bw (j_ix (je_var (pv 6)) (je_op op_sub s_sub (je_var (pv 10)) je_int)) jar_nil) rfl) jar_nil) rfl)))) jss_nil) (jss_cons (js_asg hC (by decide) (ps_set (i := 12) sc_law.nd rfl (Or.inl rfl) (j_call G__law_box hr (by decide) (jar_sc (pv 0) (jar_bw je_int jar_nil)) rfl))) (jss_cons (js_if (jt_cmp op_gt s_gt (je_var (pv 2)) je_int (nomark _)) (jss_one (js_asgF hC (by decide) (ps_set (i := 4) sc_law.nd rfl (Or.inl rfl) (je_op (op_add.or (op_cat.or (op_catZ.or op_cat0))) s_add (je_var (pv 4)) (je_op (op_mulW.or op_rep) s_mul je_int (je_op op_sub s_sub (j_call G__law_take hr (by decide) (jar_mt (pv 12) (jar_bw je_int jar_nil)) rfl) je_int)))))) jss_nil) (jss_cons (js_asgF hC (by decide) (ps_set (i := 13) sc_law.nd rfl (Or.inl rfl) (je_tup (ja_cons (je_var (pv 4)) (ja_cons (j_tuple T.b_tuple (je_op (op_add.or (op_cat.or (op_catZ.or op_cat0))) s_add (j_sl (je_var (pv 6)) jo_no (jo_so (je_var (pv 10)))) (j_call G__law_row hr (by decide) (jar_mt (pv 12) (jar_bw (je_var (pv 2)) (jar_bw (j_call G__law_most hr (by decide) (jar_mt (pv 12) (jar_bw (je_var (pv 2)) jar_nil)) rfl) (jar_bw (je_var (pv 11)) jar_nil)))) rfl))) ja_nil))))) (jss_cons (js_asgF hC (by decide) (ps_set (i := 14) sc_law.nd rfl (Or.inl rfl) (j_call G__law_heads hr (by decide) (jar_bw (je_var (pv 2)) (jar_fz (je_var (pv 3)) (jar_bw (je_var (pv 13)) jar_nil))) rfl))) (jss_cons (js_asgF hC (by decide) (ps_set (i := 15) sc_law.nd rfl (Or.inl rfl) (j_call G_put_in_front hr (by decide) (jar_bw (je_var (pv 2)) (jar_fz (je_var (pv 3)) (jar_fz (je_var (pv 13)) jar_nil))) rfl))) (jss_cons (js_if (jt_not (jt_tru (j_call G__law_front_holds hr (by decide) (jar_bw (je_var (pv 2)) (jar_bw (je_var (pv 13)) (jar_bw (je_var (pv 15)) (jar_bw (je_var (pv 14)) jar_nil)))) rfl))) (jss_one (js_ret je_bl)) jss_nil) (jss_cons (js_if (jt_not (jt_tru (j_call G__law_letters_hold hr (by decide) (jar_bw (je_var (pv 2)) (jar_bw (je_var (pv 3)) (jar_bw (je_var (pv 13)) (jar_bw (je_var (pv 15)) jar_nil)))) rfl))) (jss_one (js_ret je_bl)) jss_nil) (jss_cons (js_if (jt_cmp (op_neD hr.units) s_ne (j_sl (je_var (pv 14)) jo_no (jo_so (je_var (pv 10)))) (j_sl (je_var (pv 8)) jo_no (jo_so (je_var (pv 10)))) (nomark _)) (jss_one (js_ret je_bl)) jss_nil) (jss_cons (js_asgF hC (by decide) (ps_set (i := 16) sc_law.nd rfl (Or.inl rfl) (j_call G__law_heads_of_form hr (by decide) (jar_bw (je_var (pv 2)) (jar_bw (je_var (pv 4)) (jar_bw (je_var (pv 15)) (jar_bw (j_len T.b_len (je_var (pv 14))) jar_nil)))) rfl))) (jss_one (js_ret (je_and (je_cmp (op_eqD hr.units) s_eq (j_sl (je_var (pv 16)) jo_no (jo_so (je_var (pv 10)))) (j_sl (je_var (pv 8)) jo_no (jo_so (je_var (pv 10)))) (nomark _)) (je_one (je_cmp (op_eqD hr.units) s_eq (j_call G_put_in_front hr (by decide) (jar_bw (je_var (pv 2)) (jar_fz (je_var (pv 3)) (jar_fz (je_var (pv 7)) jar_nil))) rfl) (je_var (pv 9)) (nomark _)))))))))))))))))))))))))))))
theorem all_mk {l : PySem.W.OpenLaw} {w : World} {K : Fr} {h : Heap} {mg : Str → Option Value} {fa : Addr} (X : K.In h) (G : h.Ns mainGlobals mg) (hfa : mg "law" = some (.ref fa))
    {p0 p1 p2 p3 p4 p5 p6 p7 p8 p9 p10 p11 p12 p13 p14 p15 p16 p17 p18 p19 p20 p21 p22 p23 p24 p25 p26 p27 p28 p29 p30 p31 p32 p33 p34 p35 p36 p37 p38 p39 p40 p41 p42 p43 p44 p45 p46 p47 : Addr} {od0 an0 od1 an1 od2 an2 od3 an3 od4 an4 od5 an5 od6 an6 od7 an7 od8 an8 od9 an9 od10 an10 od11 an11 od12 an12 od13 an13 od14 an14 od15 an15 od16 an16 od17 an17 od18 an18 od19 an19 od20 an20 od21 an21 od22 an22 od23 an23 od24 an24 od25 an25 od26 an26 od27 an27 od28 an28 od29 an29 od30 an30 od31 an31 od32 an32 od33 an33 od34 an34 od35 an35 od36 an36 od37 an37 od38 an38 od39 an39 od40 an40 od41 an41 od42 an42 od43 an43 od44 an44 od45 an45 od46 an46 od47 an47 : Option Addr} {sl0 sl1 sl2 sl3 sl4 sl5 sl6 sl7 sl8 sl9 sl10 sl11 sl12 sl13 sl14 sl15 sl16 sl17 sl18 sl19 sl20 sl21 sl22 sl23 sl24 sl25 sl26 sl27 sl28 sl29 sl30 sl31 sl32 sl33 sl34 sl35 sl36 sl37 sl38 sl39 sl40 sl41 sl42 sl43 sl44 sl45 sl46 sl47 : Array (Option Value)} {oc0 kV0 dc0 pm0 cd0 ct0 oc1 kV1 dc1 pm1 cd1 ct1 oc2 kV2 dc2 pm2 cd2 ct2 oc3 kV3 dc3 pm3 cd3 ct3 oc4 kV4 dc4 pm4 cd4 ct4 oc5 kV5 dc5 pm5 cd5 ct5 oc6 kV6 dc6 pm6 cd6 ct6 oc7 kV7 dc7 pm7 cd7 ct7 oc8 kV8 dc8 pm8 cd8 ct8 oc9 kV9 dc9 pm9 cd9 ct9 oc10 kV10 dc10 pm10 cd10 ct10 oc11 kV11 dc11 pm11 cd11 ct11 oc12 kV12 dc12 pm12 cd12 ct12 oc13 kV13 dc13 pm13 cd13 ct13 oc14 kV14 dc14 pm14 cd14 ct14 oc15 kV15 dc15 pm15 cd15 ct15 oc16 kV16 dc16 pm16 cd16 ct16 oc17 kV17 dc17 pm17 cd17 ct17 oc18 kV18 dc18 pm18 cd18 ct18 oc19 kV19 dc19 pm19 cd19 ct19 oc20 kV20 dc20 pm20 cd20 ct20 oc21 kV21 dc21 pm21 cd21 ct21 oc22 kV22 dc22 pm22 cd22 ct22 oc23 kV23 dc23 pm23 cd23 ct23 oc24 kV24 dc24 pm24 cd24 ct24 oc25 kV25 dc25 pm25 cd25 ct25 oc26 kV26 dc26 pm26 cd26 ct26 oc27 kV27 dc27 pm27 cd27 ct27 oc28 kV28 dc28 pm28 cd28 ct28 oc29 kV29 dc29 pm29 cd29 ct29 oc30 kV30 dc30 pm30 cd30 ct30 oc31 kV31 dc31 pm31 cd31 ct31 oc32 kV32 dc32 pm32 cd32 ct32 oc33 kV33 dc33 pm33 cd33 ct33 oc34 kV34 dc34 pm34 cd34 ct34 oc35 kV35 dc35 pm35 cd35 ct35 oc36 kV36 dc36 pm36 cd36 ct36 oc37 kV37 dc37 pm37 cd37 ct37 oc38 kV38 dc38 pm38 cd38 ct38 oc39 kV39 dc39 pm39 cd39 ct39 oc40 kV40 dc40 pm40 cd40 ct40 oc41 kV41 dc41 pm41 cd41 ct41 oc42 kV42 dc42 pm42 cd42 ct42 oc43 kV43 dc43 pm43 cd43 ct43 oc44 kV44 dc44 pm44 cd44 ct44 oc45 kV45 dc45 pm45 cd45 ct45 oc46 kV46 dc46 pm46 cd46 ct46 oc47 kV47 dc47 pm47 cd47 ct47 : Value}
    (a0 : PySem.W.nsIn K mainGlobals "_law_cell" = some (some (.ref p0))) (l0 : K.lookup p0 = some ⟨oc0, od0, .func (PySem.W.fnOf "_law_cell" "_law_cell" (defArgs s__law_cell) (defBody s__law_cell) (defScope s__law_cell) .none kV0 dc0 pm0 an0 cd0 ct0), sl0⟩) (c0 : PySem.W.codeIn K cd0 "_law_cell" = true) (k0 : PySem.W.keepIn K (.ref p0) = true)
    (a1 : PySem.W.nsIn K mainGlobals "_law_box" = some (some (.ref p1))) (l1 : K.lookup p1 = some ⟨oc1, od1, .func (PySem.W.fnOf "_law_box" "_law_box" (defArgs s__law_box) (defBody s__law_box) (defScope s__law_box) .none kV1 dc1 pm1 an1 cd1 ct1), sl1⟩) (c1 : PySem.W.codeIn K cd1 "_law_box" = true) (k1 : PySem.W.keepIn K (.ref p1) = true)
    (a2 : PySem.W.nsIn K mainGlobals "_law_take" = some (some (.ref p2))) (l2 : K.lookup p2 = some ⟨oc2, od2, .func (PySem.W.fnOf "_law_take" "_law_take" (defArgs s__law_take) (defBody s__law_take) (defScope s__law_take) .none kV2 dc2 pm2 an2 cd2 ct2), sl2⟩) (c2 : PySem.W.codeIn K cd2 "_law_take" = true) (k2 : PySem.W.keepIn K (.ref p2) = true)
    (a3 : PySem.W.nsIn K mainGlobals "_law_strands" = some (some (.ref p3))) (l3 : K.lookup p3 = some ⟨oc3, od3, .func (PySem.W.fnOf "_law_strands" "_law_strands" (defArgs s__law_strands) (defBody s__law_strands) (defScope s__law_strands) .none kV3 dc3 pm3 an3 cd3 ct3), sl3⟩) (c3 : PySem.W.codeIn K cd3 "_law_strands" = true) (k3 : PySem.W.keepIn K (.ref p3) = true)
    (a4 : PySem.W.nsIn K mainGlobals "_law_perm" = some (some (.ref p4))) (l4 : K.lookup p4 = some ⟨oc4, od4, .func (PySem.W.fnOf "_law_perm" "_law_perm" (defArgs s__law_perm) (defBody s__law_perm) (defScope s__law_perm) .none kV4 dc4 pm4 an4 cd4 ct4), sl4⟩) (c4 : PySem.W.codeIn K cd4 "_law_perm" = true) (k4 : PySem.W.keepIn K (.ref p4) = true)
    (a5 : PySem.W.nsIn K mainGlobals "_law_power" = some (some (.ref p5))) (l5 : K.lookup p5 = some ⟨oc5, od5, .func (PySem.W.fnOf "_law_power" "_law_power" (defArgs s__law_power) (defBody s__law_power) (defScope s__law_power) .none kV5 dc5 pm5 an5 cd5 ct5), sl5⟩) (c5 : PySem.W.codeIn K cd5 "_law_power" = true) (k5 : PySem.W.keepIn K (.ref p5) = true)
    (a6 : PySem.W.nsIn K mainGlobals "_law_starts" = some (some (.ref p6))) (l6 : K.lookup p6 = some ⟨oc6, od6, .func (PySem.W.fnOf "_law_starts" "_law_starts" (defArgs s__law_starts) (defBody s__law_starts) (defScope s__law_starts) .none kV6 dc6 pm6 an6 cd6 ct6), sl6⟩) (c6 : PySem.W.codeIn K cd6 "_law_starts" = true) (k6 : PySem.W.keepIn K (.ref p6) = true)
    (a7 : PySem.W.nsIn K mainGlobals "_law_factor" = some (some (.ref p7))) (l7 : K.lookup p7 = some ⟨oc7, od7, .func (PySem.W.fnOf "_law_factor" "_law_factor" (defArgs s__law_factor) (defBody s__law_factor) (defScope s__law_factor) .none kV7 dc7 pm7 an7 cd7 ct7), sl7⟩) (c7 : PySem.W.codeIn K cd7 "_law_factor" = true) (k7 : PySem.W.keepIn K (.ref p7) = true)
    (a8 : PySem.W.nsIn K mainGlobals "_law_inverse" = some (some (.ref p8))) (l8 : K.lookup p8 = some ⟨oc8, od8, .func (PySem.W.fnOf "_law_inverse" "_law_inverse" (defArgs s__law_inverse) (defBody s__law_inverse) (defScope s__law_inverse) .none kV8 dc8 pm8 an8 cd8 ct8), sl8⟩) (c8 : PySem.W.codeIn K cd8 "_law_inverse" = true) (k8 : PySem.W.keepIn K (.ref p8) = true)
    (a9 : PySem.W.nsIn K mainGlobals "_law_row" = some (some (.ref p9))) (l9 : K.lookup p9 = some ⟨oc9, od9, .func (PySem.W.fnOf "_law_row" "_law_row" (defArgs s__law_row) (defBody s__law_row) (defScope s__law_row) .none kV9 dc9 pm9 an9 cd9 ct9), sl9⟩) (c9 : PySem.W.codeIn K cd9 "_law_row" = true) (k9 : PySem.W.keepIn K (.ref p9) = true)
    (a10 : PySem.W.nsIn K mainGlobals "starts" = some (some (.ref p10))) (l10 : K.lookup p10 = some ⟨oc10, od10, .func (PySem.W.fnOf "starts" "starts" (defArgs s_starts) (defBody s_starts) (defScope s_starts) .none kV10 dc10 pm10 an10 cd10 ct10), sl10⟩) (c10 : PySem.W.codeIn K cd10 "starts" = true) (k10 : PySem.W.keepIn K (.ref p10) = true)
    (a11 : PySem.W.nsIn K mainGlobals "inverse_perm" = some (some (.ref p11))) (l11 : K.lookup p11 = some ⟨oc11, od11, .func (PySem.W.fnOf "inverse_perm" "inverse_perm" (defArgs s_inverse_perm) (defBody s_inverse_perm) (defScope s_inverse_perm) .none kV11 dc11 pm11 an11 cd11 ct11), sl11⟩) (c11 : PySem.W.codeIn K cd11 "inverse_perm" = true) (k11 : PySem.W.keepIn K (.ref p11) = true)
    (a12 : PySem.W.nsIn K mainGlobals "finishes" = some (some (.ref p12))) (l12 : K.lookup p12 = some ⟨oc12, od12, .func (PySem.W.fnOf "finishes" "finishes" (defArgs s_finishes) (defBody s_finishes) (defScope s_finishes) .none kV12 dc12 pm12 an12 cd12 ct12), sl12⟩) (c12 : PySem.W.codeIn K cd12 "finishes" = true) (k12 : PySem.W.keepIn K (.ref p12) = true)
    (a13 : PySem.W.nsIn K mainGlobals "weighted" = some (some (.ref p13))) (l13 : K.lookup p13 = some ⟨oc13, od13, .func (PySem.W.fnOf "weighted" "weighted" (defArgs s_weighted) (defBody s_weighted) (defScope s_weighted) .none kV13 dc13 pm13 an13 cd13 ct13), sl13⟩) (c13 : PySem.W.codeIn K cd13 "weighted" = true) (k13 : PySem.W.keepIn K (.ref p13) = true)
    (a14 : PySem.W.nsIn K mainGlobals "perm_of" = some (some (.ref p14))) (l14 : K.lookup p14 = some ⟨oc14, od14, .func (PySem.W.fnOf "perm_of" "perm_of" (defArgs s_perm_of) (defBody s_perm_of) (defScope s_perm_of) .none kV14 dc14 pm14 an14 cd14 ct14), sl14⟩) (c14 : PySem.W.codeIn K cd14 "perm_of" = true) (k14 : PySem.W.keepIn K (.ref p14) = true)
    (a15 : PySem.W.nsIn K mainGlobals "_common_divisor" = some (some (.ref p15))) (l15 : K.lookup p15 = some ⟨oc15, od15, .func (PySem.W.fnOf "_common_divisor" "_common_divisor" (defArgs s__common_divisor) (defBody s__common_divisor) (defScope s__common_divisor) .none kV15 dc15 pm15 an15 cd15 ct15), sl15⟩) (c15 : PySem.W.codeIn K cd15 "_common_divisor" = true) (k15 : PySem.W.keepIn K (.ref p15) = true)
    (a16 : PySem.W.nsIn K mainGlobals "meet_of" = some (some (.ref p16))) (l16 : K.lookup p16 = some ⟨oc16, od16, .func (PySem.W.fnOf "meet_of" "meet_of" (defArgs s_meet_of) (defBody s_meet_of) (defScope s_meet_of) .none kV16 dc16 pm16 an16 cd16 ct16), sl16⟩) (c16 : PySem.W.codeIn K cd16 "meet_of" = true) (k16 : PySem.W.keepIn K (.ref p16) = true)
    (a17 : PySem.W.nsIn K mainGlobals "compose" = some (some (.ref p17))) (l17 : K.lookup p17 = some ⟨oc17, od17, .func (PySem.W.fnOf "compose" "compose" (defArgs s_compose) (defBody s_compose) (defScope s_compose) .none kV17 dc17 pm17 an17 cd17 ct17), sl17⟩) (c17 : PySem.W.codeIn K cd17 "compose" = true) (k17 : PySem.W.keepIn K (.ref p17) = true)
    (a18 : PySem.W.nsIn K mainGlobals "_rest_behind" = some (some (.ref p18))) (l18 : K.lookup p18 = some ⟨oc18, od18, .func (PySem.W.fnOf "_rest_behind" "_rest_behind" (defArgs s__rest_behind) (defBody s__rest_behind) (defScope s__rest_behind) .none kV18 dc18 pm18 an18 cd18 ct18), sl18⟩) (c18 : PySem.W.codeIn K cd18 "_rest_behind" = true) (k18 : PySem.W.keepIn K (.ref p18) = true)
    (a19 : PySem.W.nsIn K mainGlobals "half_turn" = some (some (.ref p19))) (l19 : K.lookup p19 = some ⟨oc19, od19, .func (PySem.W.fnOf "half_turn" "half_turn" (defArgs s_half_turn) (defBody s_half_turn) (defScope s_half_turn) .none kV19 dc19 pm19 an19 cd19 ct19), sl19⟩) (c19 : PySem.W.codeIn K cd19 "half_turn" = true) (k19 : PySem.W.keepIn K (.ref p19) = true)
    (a20 : PySem.W.nsIn K mainGlobals "right_complement" = some (some (.ref p20))) (l20 : K.lookup p20 = some ⟨oc20, od20, .func (PySem.W.fnOf "right_complement" "right_complement" (defArgs s_right_complement) (defBody s_right_complement) (defScope s_right_complement) .none kV20 dc20 pm20 an20 cd20 ct20), sl20⟩) (c20 : PySem.W.codeIn K cd20 "right_complement" = true) (k20 : PySem.W.keepIn K (.ref p20) = true)
    (a21 : PySem.W.nsIn K mainGlobals "slide_pair" = some (some (.ref p21))) (l21 : K.lookup p21 = some ⟨oc21, od21, .func (PySem.W.fnOf "slide_pair" "slide_pair" (defArgs s_slide_pair) (defBody s_slide_pair) (defScope s_slide_pair) .none kV21 dc21 pm21 an21 cd21 ct21), sl21⟩) (c21 : PySem.W.codeIn K cd21 "slide_pair" = true) (k21 : PySem.W.keepIn K (.ref p21) = true)
    (a22 : PySem.W.nsIn K mainGlobals "front_step" = some (some (.ref p22))) (l22 : K.lookup p22 = some ⟨oc22, od22, .func (PySem.W.fnOf "front_step" "front_step" (defArgs s_front_step) (defBody s_front_step) (defScope s_front_step) .none kV22 dc22 pm22 an22 cd22 ct22), sl22⟩) (c22 : PySem.W.codeIn K cd22 "front_step" = true) (k22 : PySem.W.keepIn K (.ref p22) = true)
    (a23 : PySem.W.nsIn K mainGlobals "_law_rest" = some (some (.ref p23))) (l23 : K.lookup p23 = some ⟨oc23, od23, .func (PySem.W.fnOf "_law_rest" "_law_rest" (defArgs s__law_rest) (defBody s__law_rest) (defScope s__law_rest) .none kV23 dc23 pm23 an23 cd23 ct23), sl23⟩) (c23 : PySem.W.codeIn K cd23 "_law_rest" = true) (k23 : PySem.W.keepIn K (.ref p23) = true)
    (a24 : PySem.W.nsIn K mainGlobals "_law_divides" = some (some (.ref p24))) (l24 : K.lookup p24 = some ⟨oc24, od24, .func (PySem.W.fnOf "_law_divides" "_law_divides" (defArgs s__law_divides) (defBody s__law_divides) (defScope s__law_divides) .none kV24 dc24 pm24 an24 cd24 ct24), sl24⟩) (c24 : PySem.W.codeIn K cd24 "_law_divides" = true) (k24 : PySem.W.keepIn K (.ref p24) = true)
    (a25 : PySem.W.nsIn K mainGlobals "_law_is_integer" = some (some (.ref p25))) (l25 : K.lookup p25 = some ⟨oc25, od25, .func (PySem.W.fnOf "_law_is_integer" "_law_is_integer" (defArgs s__law_is_integer) (defBody s__law_is_integer) (defScope s__law_is_integer) .none kV25 dc25 pm25 an25 cd25 ct25), sl25⟩) (c25 : PySem.W.codeIn K cd25 "_law_is_integer" = true) (k25 : PySem.W.keepIn K (.ref p25) = true)
    (a26 : PySem.W.nsIn K mainGlobals "_law_perm_holds" = some (some (.ref p26))) (l26 : K.lookup p26 = some ⟨oc26, od26, .func (PySem.W.fnOf "_law_perm_holds" "_law_perm_holds" (defArgs s__law_perm_holds) (defBody s__law_perm_holds) (defScope s__law_perm_holds) .none kV26 dc26 pm26 an26 cd26 ct26), sl26⟩) (c26 : PySem.W.codeIn K cd26 "_law_perm_holds" = true) (k26 : PySem.W.keepIn K (.ref p26) = true)
    (a27 : PySem.W.nsIn K mainGlobals "_law_step_holds" = some (some (.ref p27))) (l27 : K.lookup p27 = some ⟨oc27, od27, .func (PySem.W.fnOf "_law_step_holds" "_law_step_holds" (defArgs s__law_step_holds) (defBody s__law_step_holds) (defScope s__law_step_holds) .none kV27 dc27 pm27 an27 cd27 ct27), sl27⟩) (c27 : PySem.W.codeIn K cd27 "_law_step_holds" = true) (k27 : PySem.W.keepIn K (.ref p27) = true)
    (a28 : PySem.W.nsIn K mainGlobals "_law_heads" = some (some (.ref p28))) (l28 : K.lookup p28 = some ⟨oc28, od28, .func (PySem.W.fnOf "_law_heads" "_law_heads" (defArgs s__law_heads) (defBody s__law_heads) (defScope s__law_heads) .none kV28 dc28 pm28 an28 cd28 ct28), sl28⟩) (c28 : PySem.W.codeIn K cd28 "_law_heads" = true) (k28 : PySem.W.keepIn K (.ref p28) = true)
    (a29 : PySem.W.nsIn K mainGlobals "twist" = some (some (.ref p29))) (l29 : K.lookup p29 = some ⟨oc29, od29, .func (PySem.W.fnOf "twist" "twist" (defArgs s_twist) (defBody s_twist) (defScope s_twist) .none kV29 dc29 pm29 an29 cd29 ct29), sl29⟩) (c29 : PySem.W.codeIn K cd29 "twist" = true) (k29 : PySem.W.keepIn K (.ref p29) = true)
    (a30 : PySem.W.nsIn K mainGlobals "_twisted" = some (some (.ref p30))) (l30 : K.lookup p30 = some ⟨oc30, od30, .func (PySem.W.fnOf "_twisted" "_twisted" (defArgs s__twisted) (defBody s__twisted) (defScope s__twisted) .none kV30 dc30 pm30 an30 cd30 ct30), sl30⟩) (c30 : PySem.W.codeIn K cd30 "_twisted" = true) (k30 : PySem.W.keepIn K (.ref p30) = true)
    (a31 : PySem.W.nsIn K mainGlobals "is_half_turn" = some (some (.ref p31))) (l31 : K.lookup p31 = some ⟨oc31, od31, .func (PySem.W.fnOf "is_half_turn" "is_half_turn" (defArgs s_is_half_turn) (defBody s_is_half_turn) (defScope s_is_half_turn) .none kV31 dc31 pm31 an31 cd31 ct31), sl31⟩) (c31 : PySem.W.codeIn K cd31 "is_half_turn" = true) (k31 : PySem.W.keepIn K (.ref p31) = true)
    (a32 : PySem.W.nsIn K mainGlobals "identity" = some (some (.ref p32))) (l32 : K.lookup p32 = some ⟨oc32, od32, .func (PySem.W.fnOf "identity" "identity" (defArgs s_identity) (defBody s_identity) (defScope s_identity) .none kV32 dc32 pm32 an32 cd32 ct32), sl32⟩) (c32 : PySem.W.codeIn K cd32 "identity" = true) (k32 : PySem.W.keepIn K (.ref p32) = true)
    (a33 : PySem.W.nsIn K mainGlobals "is_trivial_perm" = some (some (.ref p33))) (l33 : K.lookup p33 = some ⟨oc33, od33, .func (PySem.W.fnOf "is_trivial_perm" "is_trivial_perm" (defArgs s_is_trivial_perm) (defBody s_is_trivial_perm) (defScope s_is_trivial_perm) .none kV33 dc33 pm33 an33 cd33 ct33), sl33⟩) (c33 : PySem.W.codeIn K cd33 "is_trivial_perm" = true) (k33 : PySem.W.keepIn K (.ref p33) = true)
    (a34 : PySem.W.nsIn K mainGlobals "_trimmed" = some (some (.ref p34))) (l34 : K.lookup p34 = some ⟨oc34, od34, .func (PySem.W.fnOf "_trimmed" "_trimmed" (defArgs s__trimmed) (defBody s__trimmed) (defScope s__trimmed) .none kV34 dc34 pm34 an34 cd34 ct34), sl34⟩) (c34 : PySem.W.codeIn K cd34 "_trimmed" = true) (k34 : PySem.W.keepIn K (.ref p34) = true)
    (a35 : PySem.W.nsIn K mainGlobals "put_in_front" = some (some (.ref p35))) (l35 : K.lookup p35 = some ⟨oc35, od35, .func (PySem.W.fnOf "put_in_front" "put_in_front" (defArgs s_put_in_front) (defBody s_put_in_front) (defScope s_put_in_front) .none kV35 dc35 pm35 an35 cd35 ct35), sl35⟩) (c35 : PySem.W.codeIn K cd35 "put_in_front" = true) (k35 : PySem.W.keepIn K (.ref p35) = true)
    (a36 : PySem.W.nsIn K mainGlobals "_law_heads_of_form" = some (some (.ref p36))) (l36 : K.lookup p36 = some ⟨oc36, od36, .func (PySem.W.fnOf "_law_heads_of_form" "_law_heads_of_form" (defArgs s__law_heads_of_form) (defBody s__law_heads_of_form) (defScope s__law_heads_of_form) .none kV36 dc36 pm36 an36 cd36 ct36), sl36⟩) (c36 : PySem.W.codeIn K cd36 "_law_heads_of_form" = true) (k36 : PySem.W.keepIn K (.ref p36) = true)
    (a37 : PySem.W.nsIn K mainGlobals "_law_most" = some (some (.ref p37))) (l37 : K.lookup p37 = some ⟨oc37, od37, .func (PySem.W.fnOf "_law_most" "_law_most" (defArgs s__law_most) (defBody s__law_most) (defScope s__law_most) .none kV37 dc37 pm37 an37 cd37 ct37), sl37⟩) (c37 : PySem.W.codeIn K cd37 "_law_most" = true) (k37 : PySem.W.keepIn K (.ref p37) = true)
    (a38 : PySem.W.nsIn K mainGlobals "_law_form_of_heads" = some (some (.ref p38))) (l38 : K.lookup p38 = some ⟨oc38, od38, .func (PySem.W.fnOf "_law_form_of_heads" "_law_form_of_heads" (defArgs s__law_form_of_heads) (defBody s__law_form_of_heads) (defScope s__law_form_of_heads) .none kV38 dc38 pm38 an38 cd38 ct38), sl38⟩) (c38 : PySem.W.codeIn K cd38 "_law_form_of_heads" = true) (k38 : PySem.W.keepIn K (.ref p38) = true)
    (a39 : PySem.W.nsIn K mainGlobals "_law_form_holds" = some (some (.ref p39))) (l39 : K.lookup p39 = some ⟨oc39, od39, .func (PySem.W.fnOf "_law_form_holds" "_law_form_holds" (defArgs s__law_form_holds) (defBody s__law_form_holds) (defScope s__law_form_holds) .none kV39 dc39 pm39 an39 cd39 ct39), sl39⟩) (c39 : PySem.W.codeIn K cd39 "_law_form_holds" = true) (k39 : PySem.W.keepIn K (.ref p39) = true)
    (a40 : PySem.W.nsIn K mainGlobals "_law_front_holds" = some (some (.ref p40))) (l40 : K.lookup p40 = some ⟨oc40, od40, .func (PySem.W.fnOf "_law_front_holds" "_law_front_holds" (defArgs s__law_front_holds) (defBody s__law_front_holds) (defScope s__law_front_holds) .none kV40 dc40 pm40 an40 cd40 ct40), sl40⟩) (c40 : PySem.W.codeIn K cd40 "_law_front_holds" = true) (k40 : PySem.W.keepIn K (.ref p40) = true)
    (a41 : PySem.W.nsIn K mainGlobals "_law_staircase" = some (some (.ref p41))) (l41 : K.lookup p41 = some ⟨oc41, od41, .func (PySem.W.fnOf "_law_staircase" "_law_staircase" (defArgs s__law_staircase) (defBody s__law_staircase) (defScope s__law_staircase) .none kV41 dc41 pm41 an41 cd41 ct41), sl41⟩) (c41 : PySem.W.codeIn K cd41 "_law_staircase" = true) (k41 : PySem.W.keepIn K (.ref p41) = true)
    (a42 : PySem.W.nsIn K mainGlobals "_law_form_letters" = some (some (.ref p42))) (l42 : K.lookup p42 = some ⟨oc42, od42, .func (PySem.W.fnOf "_law_form_letters" "_law_form_letters" (defArgs s__law_form_letters) (defBody s__law_form_letters) (defScope s__law_form_letters) .none kV42 dc42 pm42 an42 cd42 ct42), sl42⟩) (c42 : PySem.W.codeIn K cd42 "_law_form_letters" = true) (k42 : PySem.W.keepIn K (.ref p42) = true)
    (a43 : PySem.W.nsIn K mainGlobals "_law_sign_sum" = some (some (.ref p43))) (l43 : K.lookup p43 = some ⟨oc43, od43, .func (PySem.W.fnOf "_law_sign_sum" "_law_sign_sum" (defArgs s__law_sign_sum) (defBody s__law_sign_sum) (defScope s__law_sign_sum) .none kV43 dc43 pm43 an43 cd43 ct43), sl43⟩) (c43 : PySem.W.codeIn K cd43 "_law_sign_sum" = true) (k43 : PySem.W.keepIn K (.ref p43) = true)
    (a44 : PySem.W.nsIn K mainGlobals "_law_free" = some (some (.ref p44))) (l44 : K.lookup p44 = some ⟨oc44, od44, .func (PySem.W.fnOf "_law_free" "_law_free" (defArgs s__law_free) (defBody s__law_free) (defScope s__law_free) .none kV44 dc44 pm44 an44 cd44 ct44), sl44⟩) (c44 : PySem.W.codeIn K cd44 "_law_free" = true) (k44 : PySem.W.keepIn K (.ref p44) = true)
    (a45 : PySem.W.nsIn K mainGlobals "_law_images" = some (some (.ref p45))) (l45 : K.lookup p45 = some ⟨oc45, od45, .func (PySem.W.fnOf "_law_images" "_law_images" (defArgs s__law_images) (defBody s__law_images) (defScope s__law_images) .none kV45 dc45 pm45 an45 cd45 ct45), sl45⟩) (c45 : PySem.W.codeIn K cd45 "_law_images" = true) (k45 : PySem.W.keepIn K (.ref p45) = true)
    (a46 : PySem.W.nsIn K mainGlobals "_law_letters_hold" = some (some (.ref p46))) (l46 : K.lookup p46 = some ⟨oc46, od46, .func (PySem.W.fnOf "_law_letters_hold" "_law_letters_hold" (defArgs s__law_letters_hold) (defBody s__law_letters_hold) (defScope s__law_letters_hold) .none kV46 dc46 pm46 an46 cd46 ct46), sl46⟩) (c46 : PySem.W.codeIn K cd46 "_law_letters_hold" = true) (k46 : PySem.W.keepIn K (.ref p46) = true)
    (a47 : PySem.W.nsIn K mainGlobals "law" = some (some (.ref p47))) (l47 : K.lookup p47 = some ⟨oc47, od47, .func (PySem.W.fnOf "law" "law" (defArgs s_law) (defBody s_law) (defScope s_law) .none kV47 dc47 pm47 an47 cd47 ct47), sl47⟩) (c47 : PySem.W.codeIn K cd47 "law" = true) (k47 : PySem.W.keepIn K (.ref p47) = true)
    (z_abs : PySem.W.nsIn K mainGlobals "abs" = some none)
    (z_all : PySem.W.nsIn K mainGlobals "all" = some none)
    (z_bool : PySem.W.nsIn K mainGlobals "bool" = some none)
    (z_enumerate : PySem.W.nsIn K mainGlobals "enumerate" = some none)
    (z_int : PySem.W.nsIn K mainGlobals "int" = some none)
    (z_isinstance : PySem.W.nsIn K mainGlobals "isinstance" = some none)
    (z_len : PySem.W.nsIn K mainGlobals "len" = some none)
    (z_list : PySem.W.nsIn K mainGlobals "list" = some none)
    (z_max : PySem.W.nsIn K mainGlobals "max" = some none)
    (z_min : PySem.W.nsIn K mainGlobals "min" = some none)
    (z_range : PySem.W.nsIn K mainGlobals "range" = some none)
    (z_sorted : PySem.W.nsIn K mainGlobals "sorted" = some none)
    (z_sum : PySem.W.nsIn K mainGlobals "sum" = some none)
    (z_tuple : PySem.W.nsIn K mainGlobals "tuple" = some none)
    : ∃ fd : FuncData, (∀ (s : Shared) (v : Value), BindsTo s fd ⟨[v], []⟩ [("script", v)]) ∧ ∀ base : Heap, K.In base → base.Ns mainGlobals mg → FnOk l.prog w K mg base CX0 8 fa fd ["script"] (spJ K [.sc] f_law) := by
  have T : Txt mg := ⟨PySem.W.mg_none_of X G z_abs, PySem.W.mg_none_of X G z_all, PySem.W.mg_none_of X G z_bool, PySem.W.mg_none_of X G z_enumerate, PySem.W.mg_none_of X G z_int, PySem.W.mg_none_of X G z_isinstance, PySem.W.mg_none_of X G z_len, PySem.W.mg_none_of X G z_list, PySem.W.mg_none_of X G z_max, PySem.W.mg_none_of X G z_min, PySem.W.mg_none_of X G z_range, PySem.W.mg_none_of X G z_sorted, PySem.W.mg_none_of X G z_sum, PySem.W.mg_none_of X G z_tuple⟩
  have e := hfa.symm.trans (PySem.W.mg_of X G a47)
  cases e
  have F0 := fun_mk (st := s__law_cell) l0 c0 k0
  have B0 := F0.binds (ps := ["script", "k"]) fun _ _ _ _ _ _ us hl => match us, hl with | [_, _], _ => rfl
  have F1 := fun_mk (st := s__law_box) l1 c1 k1
  have B1 := F1.binds (ps := ["script", "k"]) fun _ _ _ _ _ _ us hl => match us, hl with | [_, _], _ => rfl
  have F2 := fun_mk (st := s__law_take) l2 c2 k2
  have B2 := F2.binds (ps := ["box", "many"]) fun _ _ _ _ _ _ us hl => match us, hl with | [_, _], _ => rfl
  have F3 := fun_mk (st := s__law_strands) l3 c3 k3
  have B3 := F3.binds (ps := ["box"]) fun _ _ _ _ _ _ us hl => match us, hl with | [_], _ => rfl
  have F4 := fun_mk (st := s__law_perm) l4 c4 k4
  have B4 := F4.binds (ps := ["box", "n"]) fun _ _ _ _ _ _ us hl => match us, hl with | [_, _], _ => rfl
  have F5 := fun_mk (st := s__law_power) l5 c5 k5
  have B5 := F5.binds (ps := ["box", "n"]) fun _ _ _ _ _ _ us hl => match us, hl with | [_, _], _ => rfl
  have F6 := fun_mk (st := s__law_starts) l6 c6 k6
  have B6 := F6.binds (ps := ["row"]) fun _ _ _ _ _ _ us hl => match us, hl with | [_], _ => rfl
  have F7 := fun_mk (st := s__law_factor) l7 c7 k7
  have B7 := F7.binds (ps := ["box", "n", "allowed"]) fun _ _ _ _ _ _ us hl => match us, hl with | [_, _, _], _ => rfl
  have F8 := fun_mk (st := s__law_inverse) l8 c8 k8
  have B8 := F8.binds (ps := ["row"]) fun _ _ _ _ _ _ us hl => match us, hl with | [_], _ => rfl
  have F9 := fun_mk (st := s__law_row) l9 c9 k9
  have B9 := F9.binds (ps := ["box", "n", "most", "allowed"]) fun _ _ _ _ _ _ us hl => match us, hl with | [_, _, _, _], _ => rfl
  have F10 := fun_mk (st := s_starts) l10 c10 k10
  have B10 := F10.binds (ps := ["perm"]) fun _ _ _ _ _ _ us hl => match us, hl with | [_], _ => rfl
  have F11 := fun_mk (st := s_inverse_perm) l11 c11 k11
  have B11 := F11.binds (ps := ["perm"]) fun _ _ _ _ _ _ us hl => match us, hl with | [_], _ => rfl
  have F12 := fun_mk (st := s_finishes) l12 c12 k12
  have B12 := F12.binds (ps := ["perm"]) fun _ _ _ _ _ _ us hl => match us, hl with | [_], _ => rfl
  have F13 := fun_mk (st := s_weighted) l13 c13 k13
  have B13 := F13.binds (ps := ["first", "second"]) fun _ _ _ _ _ _ us hl => match us, hl with | [_, _], _ => rfl
  have F14 := fun_mk (st := s_perm_of) l14 c14 k14
  have B14 := F14.binds (ps := ["strands", "word"]) fun _ _ _ _ _ _ us hl => match us, hl with | [_, _], _ => rfl
  have F15 := fun_mk (st := s__common_divisor) l15 c15 k15
  have B15 := F15.binds (ps := ["first", "second"]) fun _ _ _ _ _ _ us hl => match us, hl with | [_, _], _ => rfl
  have F16 := fun_mk (st := s_meet_of) l16 c16 k16
  have F17 := fun_mk (st := s_compose) l17 c17 k17
  have B17 := F17.binds (ps := ["first", "second"]) fun _ _ _ _ _ _ us hl => match us, hl with | [_, _], _ => rfl
  have F18 := fun_mk (st := s__rest_behind) l18 c18 k18
  have B18 := F18.binds (ps := ["first", "second"]) fun _ _ _ _ _ _ us hl => match us, hl with | [_, _], _ => rfl
  have F19 := fun_mk (st := s_half_turn) l19 c19 k19
  have B19 := F19.binds (ps := ["strands"]) fun _ _ _ _ _ _ us hl => match us, hl with | [_], _ => rfl
  have F20 := fun_mk (st := s_right_complement) l20 c20 k20
  have B20 := F20.binds (ps := ["perm"]) fun _ _ _ _ _ _ us hl => match us, hl with | [_], _ => rfl
  have F21 := fun_mk (st := s_slide_pair) l21 c21 k21
  have B21 := F21.binds (ps := ["first", "second"]) fun _ _ _ _ _ _ us hl => match us, hl with | [_, _], _ => rfl
  have F22 := fun_mk (st := s_front_step) l22 c22 k22
  have B22 := F22.binds (ps := ["carry", "factor"]) fun _ _ _ _ _ _ us hl => match us, hl with | [_, _], _ => rfl
  have F23 := fun_mk (st := s__law_rest) l23 c23 k23
  have B23 := F23.binds (ps := ["first", "second"]) fun _ _ _ _ _ _ us hl => match us, hl with | [_, _], _ => rfl
  have F24 := fun_mk (st := s__law_divides) l24 c24 k24
  have B24 := F24.binds (ps := ["first", "second"]) fun _ _ _ _ _ _ us hl => match us, hl with | [_, _], _ => rfl
  have F25 := fun_mk (st := s__law_is_integer) l25 c25 k25
  have B25 := F25.binds (ps := ["value"]) fun _ _ _ _ _ _ us hl => match us, hl with | [_], _ => rfl
  have F26 := fun_mk (st := s__law_perm_holds) l26 c26 k26
  have B26 := F26.binds (ps := ["n", "value"]) fun _ _ _ _ _ _ us hl => match us, hl with | [_, _], _ => rfl
  have F27 := fun_mk (st := s__law_step_holds) l27 c27 k27
  have B27 := F27.binds (ps := ["n", "first", "second", "pair"]) fun _ _ _ _ _ _ us hl => match us, hl with | [_, _, _, _], _ => rfl
  have F28 := fun_mk (st := s__law_heads) l28 c28 k28
  have B28 := F28.binds (ps := ["n", "perm", "shape"]) fun _ _ _ _ _ _ us hl => match us, hl with | [_, _, _], _ => rfl
  have F29 := fun_mk (st := s_twist) l29 c29 k29
  have B29 := F29.binds (ps := ["perm"]) fun _ _ _ _ _ _ us hl => match us, hl with | [_], _ => rfl
  have F30 := fun_mk (st := s__twisted) l30 c30 k30
  have B30 := F30.binds (ps := ["perm", "times"]) fun _ _ _ _ _ _ us hl => match us, hl with | [_, _], _ => rfl
  have F31 := fun_mk (st := s_is_half_turn) l31 c31 k31
  have B31 := F31.binds (ps := ["perm"]) fun _ _ _ _ _ _ us hl => match us, hl with | [_], _ => rfl
  have F32 := fun_mk (st := s_identity) l32 c32 k32
  have B32 := F32.binds (ps := ["strands"]) fun _ _ _ _ _ _ us hl => match us, hl with | [_], _ => rfl
  have F33 := fun_mk (st := s_is_trivial_perm) l33 c33 k33
  have B33 := F33.binds (ps := ["perm"]) fun _ _ _ _ _ _ us hl => match us, hl with | [_], _ => rfl
  have F34 := fun_mk (st := s__trimmed) l34 c34 k34
  have B34 := F34.binds (ps := ["strands", "power", "row"]) fun _ _ _ _ _ _ us hl => match us, hl with | [_, _, _], _ => rfl
  have F35 := fun_mk (st := s_put_in_front) l35 c35 k35
  have B35 := F35.binds (ps := ["strands", "perm", "form"]) fun _ _ _ _ _ _ us hl => match us, hl with | [_, _, _], _ => rfl
  have F36 := fun_mk (st := s__law_heads_of_form) l36 c36 k36
  have B36 := F36.binds (ps := ["n", "lowest", "found", "many"]) fun _ _ _ _ _ _ us hl => match us, hl with | [_, _, _, _], _ => rfl
  have F37 := fun_mk (st := s__law_most) l37 c37 k37
  have B37 := F37.binds (ps := ["box", "n"]) fun _ _ _ _ _ _ us hl => match us, hl with | [_, _], _ => rfl
  have F38 := fun_mk (st := s__law_form_of_heads) l38 c38 k38
  have B38 := F38.binds (ps := ["n", "lowest", "heads"]) fun _ _ _ _ _ _ us hl => match us, hl with | [_, _, _], _ => rfl
  have F39 := fun_mk (st := s__law_form_holds) l39 c39 k39
  have B39 := F39.binds (ps := ["n", "value"]) fun _ _ _ _ _ _ us hl => match us, hl with | [_, _], _ => rfl
  have F40 := fun_mk (st := s__law_front_holds) l40 c40 k40
  have B40 := F40.binds (ps := ["n", "shape", "found", "heads"]) fun _ _ _ _ _ _ us hl => match us, hl with | [_, _, _, _], _ => rfl
  have F41 := fun_mk (st := s__law_staircase) l41 c41 k41
  have B41 := F41.binds (ps := ["row"]) fun _ _ _ _ _ _ us hl => match us, hl with | [_], _ => rfl
  have F42 := fun_mk (st := s__law_form_letters) l42 c42 k42
  have B42 := F42.binds (ps := ["n", "shape"]) fun _ _ _ _ _ _ us hl => match us, hl with | [_, _], _ => rfl
  have F43 := fun_mk (st := s__law_sign_sum) l43 c43 k43
  have B43 := F43.binds (ps := ["line"]) fun _ _ _ _ _ _ us hl => match us, hl with | [_], _ => rfl
  have F44 := fun_mk (st := s__law_free) l44 c44 k44
  have B44 := F44.binds (ps := ["first", "second"]) fun _ _ _ _ _ _ us hl => match us, hl with | [_, _], _ => rfl
  have F45 := fun_mk (st := s__law_images) l45 c45 k45
  have B45 := F45.binds (ps := ["n", "line"]) fun _ _ _ _ _ _ us hl => match us, hl with | [_, _], _ => rfl
  have F46 := fun_mk (st := s__law_letters_hold) l46 c46 k46
  have B46 := F46.binds (ps := ["n", "perm", "shape", "found"]) fun _ _ _ _ _ _ us hl => match us, hl with | [_, _, _, _], _ => rfl
  have F47 := fun_mk (st := s_law) l47 c47 k47
  refine ⟨PySem.W.fnOf "law" "law" (defArgs s_law) (defBody s_law) (defScope s_law) .none kV47 dc47 pm47 an47 cd47 ct47, fun s v => .of_eq rfl, fun base _ _ => ?_⟩
  have G0 : Cal l.prog w K mg base "_law_cell" 1 ["script", "k"] [.sc, .bw] f__law_cell := ⟨p0, _, d__law_cell F0 T, PySem.W.mg_of X G a0, k0, B0⟩
  have G1 : Cal l.prog w K mg base "_law_box" 2 ["script", "k"] [.sc, .bw] f__law_box := ⟨p1, _, d__law_box F1 T G0, PySem.W.mg_of X G a1, k1, B1⟩
  have G2 : Cal l.prog w K mg base "_law_take" 1 ["box", "many"] [.mt, .bw] f__law_take := ⟨p2, _, d__law_take F2 T, PySem.W.mg_of X G a2, k2, B2⟩
  have G3 : Cal l.prog w K mg base "_law_strands" 2 ["box"] [.mt] f__law_strands := ⟨p3, _, d__law_strands F3 T G2, PySem.W.mg_of X G a3, k3, B3⟩
  have G4 : Cal l.prog w K mg base "_law_perm" 2 ["box", "n"] [.mt, .bw] f__law_perm := ⟨p4, _, d__law_perm F4 T G2, PySem.W.mg_of X G a4, k4, B4⟩
  have G5 : Cal l.prog w K mg base "_law_power" 2 ["box", "n"] [.mt, .bw] f__law_power := ⟨p5, _, d__law_power F5 T G2, PySem.W.mg_of X G a5, k5, B5⟩
  have G6 : Cal l.prog w K mg base "_law_starts" 1 ["row"] [.bw] f__law_starts := ⟨p6, _, d__law_starts F6 T, PySem.W.mg_of X G a6, k6, B6⟩
  have G7 : Cal l.prog w K mg base "_law_factor" 3 ["box", "n", "allowed"] [.mt, .bw, .bw] f__law_factor := ⟨p7, _, d__law_factor F7 T G4 G6 G2, PySem.W.mg_of X G a7, k7, B7⟩
  have G8 : Cal l.prog w K mg base "_law_inverse" 1 ["row"] [.bw] f__law_inverse := ⟨p8, _, d__law_inverse F8 T, PySem.W.mg_of X G a8, k8, B8⟩
  have G9 : Cal l.prog w K mg base "_law_row" 4 ["box", "n", "most", "allowed"] [.mt, .bw, .bw, .bw] f__law_row := ⟨p9, _, d__law_row F9 T G2 G7 G6 G8, PySem.W.mg_of X G a9, k9, B9⟩
  have G10 : Cal l.prog w K mg base "starts" 1 ["perm"] [.bw] f_starts := ⟨p10, _, d_starts F10 T, PySem.W.mg_of X G a10, k10, B10⟩
  have G11 : Cal l.prog w K mg base "inverse_perm" 1 ["perm"] [.bw] f_inverse_perm := ⟨p11, _, d_inverse_perm F11 T, PySem.W.mg_of X G a11, k11, B11⟩
  have G12 : Cal l.prog w K mg base "finishes" 2 ["perm"] [.bw] f_finishes := ⟨p12, _, d_finishes F12 T G10 G11, PySem.W.mg_of X G a12, k12, B12⟩
  have G13 : Cal l.prog w K mg base "weighted" 3 ["first", "second"] [.bw, .bw] f_weighted := ⟨p13, _, d_weighted F13 T G12 G10, PySem.W.mg_of X G a13, k13, B13⟩
  have G14 : Cal l.prog w K mg base "perm_of" 2 ["strands", "word"] [.bw, .bw] f_perm_of := ⟨p14, _, d_perm_of F14 T G11, PySem.W.mg_of X G a14, k14, B14⟩
  have G15 : Cal l.prog w K mg base "_common_divisor" 3 ["first", "second"] [.bw, .bw] f__common_divisor := ⟨p15, _, d__common_divisor F15 T G14, PySem.W.mg_of X G a15, k15, B15⟩
  have G16 : CalV l.prog w K mg base "meet_of" 4 f_meet_of := ⟨p16, d_meet_of F16 T G15, PySem.W.mg_of X G a16, k16⟩
  have G17 : Cal l.prog w K mg base "compose" 1 ["first", "second"] [.bw, .bw] f_compose := ⟨p17, _, d_compose F17 T, PySem.W.mg_of X G a17, k17, B17⟩
  have G18 : Cal l.prog w K mg base "_rest_behind" 2 ["first", "second"] [.bw, .bw] f__rest_behind := ⟨p18, _, d__rest_behind F18 T G17 G11, PySem.W.mg_of X G a18, k18, B18⟩
  have G19 : Cal l.prog w K mg base "half_turn" 1 ["strands"] [.bw] f_half_turn := ⟨p19, _, d_half_turn F19 T, PySem.W.mg_of X G a19, k19, B19⟩
  have G20 : Cal l.prog w K mg base "right_complement" 3 ["perm"] [.bw] f_right_complement := ⟨p20, _, d_right_complement F20 T G18 G19, PySem.W.mg_of X G a20, k20, B20⟩
  have G21 : Cal l.prog w K mg base "slide_pair" 5 ["first", "second"] [.fz, .fz] f_slide_pair := ⟨p21, _, d_slide_pair F21 T G13 G16 G20 G17 G18, PySem.W.mg_of X G a21, k21, B21⟩
  have G22 : Cal l.prog w K mg base "front_step" 6 ["carry", "factor"] [.fz, .fz] f_front_step := ⟨p22, _, d_front_step F22 T G21, PySem.W.mg_of X G a22, k22, B22⟩
  have G23 : Cal l.prog w K mg base "_law_rest" 1 ["first", "second"] [.bw, .bw] f__law_rest := ⟨p23, _, d__law_rest F23 T, PySem.W.mg_of X G a23, k23, B23⟩
  have G24 : Cal l.prog w K mg base "_law_divides" 1 ["first", "second"] [.bw, .bw] f__law_divides := ⟨p24, _, d__law_divides F24 T, PySem.W.mg_of X G a24, k24, B24⟩
  have G25 : Cal l.prog w K mg base "_law_is_integer" 1 ["value"] [.bw] f__law_is_integer := ⟨p25, _, d__law_is_integer F25 T, PySem.W.mg_of X G a25, k25, B25⟩
  have G26 : Cal l.prog w K mg base "_law_perm_holds" 2 ["n", "value"] [.bw, .bw] f__law_perm_holds := ⟨p26, _, d__law_perm_holds F26 T G25, PySem.W.mg_of X G a26, k26, B26⟩
  have G27 : Cal l.prog w K mg base "_law_step_holds" 3 ["n", "first", "second", "pair"] [.bw, .bw, .bw, .bw] f__law_step_holds := ⟨p27, _, d__law_step_holds F27 T G26 G24 G23 G6 G8, PySem.W.mg_of X G a27, k27, B27⟩
  have G28 : Cal l.prog w K mg base "_law_heads" 7 ["n", "perm", "shape"] [.bw, .fz, .bw] f__law_heads := ⟨p28, _, d__law_heads F28 T G22 G27, PySem.W.mg_of X G a28, k28, B28⟩
  have G29 : Cal l.prog w K mg base "twist" 1 ["perm"] [.bw] f_twist := ⟨p29, _, d_twist F29 T, PySem.W.mg_of X G a29, k29, B29⟩
  have G30 : Cal l.prog w K mg base "_twisted" 2 ["perm", "times"] [.fz, .bw] f__twisted := ⟨p30, _, d__twisted F30 T G29, PySem.W.mg_of X G a30, k30, B30⟩
  have G31 : Cal l.prog w K mg base "is_half_turn" 2 ["perm"] [.bw] f_is_half_turn := ⟨p31, _, d_is_half_turn F31 T G19, PySem.W.mg_of X G a31, k31, B31⟩
  have G32 : Cal l.prog w K mg base "identity" 1 ["strands"] [.bw] f_identity := ⟨p32, _, d_identity F32 T, PySem.W.mg_of X G a32, k32, B32⟩
  have G33 : Cal l.prog w K mg base "is_trivial_perm" 2 ["perm"] [.bw] f_is_trivial_perm := ⟨p33, _, d_is_trivial_perm F33 T G32, PySem.W.mg_of X G a33, k33, B33⟩
  have G34 : Cal l.prog w K mg base "_trimmed" 3 ["strands", "power", "row"] [.bw, .bw, .bw] f__trimmed := ⟨p34, _, d__trimmed F34 T G31 G33, PySem.W.mg_of X G a34, k34, B34⟩
  have G35 : Cal l.prog w K mg base "put_in_front" 7 ["strands", "perm", "form"] [.bw, .fz, .fz] f_put_in_front := ⟨p35, _, d_put_in_front F35 T G30 G22 G34, PySem.W.mg_of X G a35, k35, B35⟩
  have G36 : Cal l.prog w K mg base "_law_heads_of_form" 1 ["n", "lowest", "found", "many"] [.bw, .bw, .bw, .bw] f__law_heads_of_form := ⟨p36, _, d__law_heads_of_form F36 T, PySem.W.mg_of X G a36, k36, B36⟩
  have G37 : Cal l.prog w K mg base "_law_most" 2 ["box", "n"] [.mt, .bw] f__law_most := ⟨p37, _, d__law_most F37 T G2, PySem.W.mg_of X G a37, k37, B37⟩
  have G38 : Cal l.prog w K mg base "_law_form_of_heads" 2 ["n", "lowest", "heads"] [.bw, .bw, .bw] f__law_form_of_heads := ⟨p38, _, d__law_form_of_heads F38 T G6, PySem.W.mg_of X G a38, k38, B38⟩
  have G39 : Cal l.prog w K mg base "_law_form_holds" 3 ["n", "value"] [.bw, .bw] f__law_form_holds := ⟨p39, _, d__law_form_holds F39 T G25 G26 G6 G8, PySem.W.mg_of X G a39, k39, B39⟩
  have G40 : Cal l.prog w K mg base "_law_front_holds" 4 ["n", "shape", "found", "heads"] [.bw, .bw, .bw, .bw] f__law_front_holds := ⟨p40, _, d__law_front_holds F40 T G39 G38 G36, PySem.W.mg_of X G a40, k40, B40⟩
  have G41 : Cal l.prog w K mg base "_law_staircase" 1 ["row"] [.bw] f__law_staircase := ⟨p41, _, d__law_staircase F41 T, PySem.W.mg_of X G a41, k41, B41⟩
  have G42 : Cal l.prog w K mg base "_law_form_letters" 2 ["n", "shape"] [.bw, .bw] f__law_form_letters := ⟨p42, _, d__law_form_letters F42 T G41, PySem.W.mg_of X G a42, k42, B42⟩
  have G43 : Cal l.prog w K mg base "_law_sign_sum" 1 ["line"] [.bw] f__law_sign_sum := ⟨p43, _, d__law_sign_sum F43 T, PySem.W.mg_of X G a43, k43, B43⟩
  have G44 : Cal l.prog w K mg base "_law_free" 1 ["first", "second"] [.bw, .bw] f__law_free := ⟨p44, _, d__law_free F44 T, PySem.W.mg_of X G a44, k44, B44⟩
  have G45 : Cal l.prog w K mg base "_law_images" 2 ["n", "line"] [.bw, .bw] f__law_images := ⟨p45, _, d__law_images F45 T G44, PySem.W.mg_of X G a45, k45, B45⟩
  have G46 : Cal l.prog w K mg base "_law_letters_hold" 3 ["n", "perm", "shape", "found"] [.bw, .bw, .bw, .bw] f__law_letters_hold := ⟨p46, _, d__law_letters_hold F46 T G41 G42 G43 G45, PySem.W.mg_of X G a46, k46, B46⟩
  exact d_law F47 T G1 G3 G4 G5 G9 G37 G28 G35 G40 G46 G2 G6 G8 G36
end
end K12
open PySem PySem.W PyProof.Rows
set_option maxRecDepth 100000 in
set_option maxHeartbeats 0 in
theorem PySem.Challenge.cw_sennit_k12_whole_front_transducer_holds : PySem.Challenge.rw_sennit_k12_whole_front_transducer.Holds := by
  w_on; o_law; k_head; (case hw => w_witness2)
  k_fill
  refine J.jwalk (l := PySem.Challenge.rw_sennit_k12_whole_front_transducer) (k := 8) (x := "script") rfl rfl ⟨rfl, by decide, by decide⟩ (fun w h Y => PySem.W.kIn_of Y) K12.law_true ?F
  case F =>
    intro w mg fa h KX G hmg
    refine' K12.all_mk KX G hmg ?a0 ?l0 ?c0 ?k0 ?a1 ?l1 ?c1 ?k1 ?a2 ?l2 ?c2 ?k2 ?a3 ?l3 ?c3 ?k3 ?a4 ?l4 ?c4 ?k4 ?a5 ?l5 ?c5 ?k5 ?a6 ?l6 ?c6 ?k6 ?a7 ?l7 ?c7 ?k7 ?a8 ?l8 ?c8 ?k8 ?a9 ?l9 ?c9 ?k9 ?a10 ?l10 ?c10 ?k10 ?a11 ?l11 ?c11 ?k11 ?a12 ?l12 ?c12 ?k12 ?a13 ?l13 ?c13 ?k13 ?a14 ?l14 ?c14 ?k14 ?a15 ?l15 ?c15 ?k15 ?a16 ?l16 ?c16 ?k16 ?a17 ?l17 ?c17 ?k17 ?a18 ?l18 ?c18 ?k18 ?a19 ?l19 ?c19 ?k19 ?a20 ?l20 ?c20 ?k20 ?a21 ?l21 ?c21 ?k21 ?a22 ?l22 ?c22 ?k22 ?a23 ?l23 ?c23 ?k23 ?a24 ?l24 ?c24 ?k24 ?a25 ?l25 ?c25 ?k25 ?a26 ?l26 ?c26 ?k26 ?a27 ?l27 ?c27 ?k27 ?a28 ?l28 ?c28 ?k28 ?a29 ?l29 ?c29 ?k29 ?a30 ?l30 ?c30 ?k30 ?a31 ?l31 ?c31 ?k31 ?a32 ?l32 ?c32 ?k32 ?a33 ?l33 ?c33 ?k33 ?a34 ?l34 ?c34 ?k34 ?a35 ?l35 ?c35 ?k35 ?a36 ?l36 ?c36 ?k36 ?a37 ?l37 ?c37 ?k37 ?a38 ?l38 ?c38 ?k38 ?a39 ?l39 ?c39 ?k39 ?a40 ?l40 ?c40 ?k40 ?a41 ?l41 ?c41 ?k41 ?a42 ?l42 ?c42 ?k42 ?a43 ?l43 ?c43 ?k43 ?a44 ?l44 ?c44 ?k44 ?a45 ?l45 ?c45 ?k45 ?a46 ?l46 ?c46 ?k46 ?a47 ?l47 ?c47 ?k47 ?z_abs ?z_all ?z_bool ?z_enumerate ?z_int ?z_isinstance ?z_len ?z_list ?z_max ?z_min ?z_range ?z_sorted ?z_sum ?z_tuple
    (case a0 => k_is)
    (case l0 => k_is)
    (case c0 => k_is)
    (case k0 => k_is)
    (case a1 => k_is)
    (case l1 => k_is)
    (case c1 => k_is)
    (case k1 => k_is)
    (case a2 => k_is)
    (case l2 => k_is)
    (case c2 => k_is)
    (case k2 => k_is)
    (case a3 => k_is)
    (case l3 => k_is)
    (case c3 => k_is)
    (case k3 => k_is)
    (case a4 => k_is)
    (case l4 => k_is)
    (case c4 => k_is)
    (case k4 => k_is)
    (case a5 => k_is)
    (case l5 => k_is)
    (case c5 => k_is)
    (case k5 => k_is)
    (case a6 => k_is)
    (case l6 => k_is)
    (case c6 => k_is)
    (case k6 => k_is)
    (case a7 => k_is)
    (case l7 => k_is)
    (case c7 => k_is)
    (case k7 => k_is)
    (case a8 => k_is)
    (case l8 => k_is)
    (case c8 => k_is)
    (case k8 => k_is)
    (case a9 => k_is)
    (case l9 => k_is)
    (case c9 => k_is)
    (case k9 => k_is)
    (case a10 => k_is)
    (case l10 => k_is)
    (case c10 => k_is)
    (case k10 => k_is)
    (case a11 => k_is)
    (case l11 => k_is)
    (case c11 => k_is)
    (case k11 => k_is)
    (case a12 => k_is)
    (case l12 => k_is)
    (case c12 => k_is)
    (case k12 => k_is)
    (case a13 => k_is)
    (case l13 => k_is)
    (case c13 => k_is)
    (case k13 => k_is)
    (case a14 => k_is)
    (case l14 => k_is)
    (case c14 => k_is)
    (case k14 => k_is)
    (case a15 => k_is)
    (case l15 => k_is)
    (case c15 => k_is)
    (case k15 => k_is)
    (case a16 => k_is)
    (case l16 => k_is)
    (case c16 => k_is)
    (case k16 => k_is)
    (case a17 => k_is)
    (case l17 => k_is)
    (case c17 => k_is)
    (case k17 => k_is)
    (case a18 => k_is)
    (case l18 => k_is)
    (case c18 => k_is)
    (case k18 => k_is)
    (case a19 => k_is)
    (case l19 => k_is)
    (case c19 => k_is)
    (case k19 => k_is)
    (case a20 => k_is)
    (case l20 => k_is)
    (case c20 => k_is)
    (case k20 => k_is)
    (case a21 => k_is)
    (case l21 => k_is)
    (case c21 => k_is)
    (case k21 => k_is)
    (case a22 => k_is)
    (case l22 => k_is)
    (case c22 => k_is)
    (case k22 => k_is)
    (case a23 => k_is)
    (case l23 => k_is)
    (case c23 => k_is)
    (case k23 => k_is)
    (case a24 => k_is)
    (case l24 => k_is)
    (case c24 => k_is)
    (case k24 => k_is)
    (case a25 => k_is)
    (case l25 => k_is)
    (case c25 => k_is)
    (case k25 => k_is)
    (case a26 => k_is)
    (case l26 => k_is)
    (case c26 => k_is)
    (case k26 => k_is)
    (case a27 => k_is)
    (case l27 => k_is)
    (case c27 => k_is)
    (case k27 => k_is)
    (case a28 => k_is)
    (case l28 => k_is)
    (case c28 => k_is)
    (case k28 => k_is)
    (case a29 => k_is)
    (case l29 => k_is)
    (case c29 => k_is)
    (case k29 => k_is)
    (case a30 => k_is)
    (case l30 => k_is)
    (case c30 => k_is)
    (case k30 => k_is)
    (case a31 => k_is)
    (case l31 => k_is)
    (case c31 => k_is)
    (case k31 => k_is)
    (case a32 => k_is)
    (case l32 => k_is)
    (case c32 => k_is)
    (case k32 => k_is)
    (case a33 => k_is)
    (case l33 => k_is)
    (case c33 => k_is)
    (case k33 => k_is)
    (case a34 => k_is)
    (case l34 => k_is)
    (case c34 => k_is)
    (case k34 => k_is)
    (case a35 => k_is)
    (case l35 => k_is)
    (case c35 => k_is)
    (case k35 => k_is)
    (case a36 => k_is)
    (case l36 => k_is)
    (case c36 => k_is)
    (case k36 => k_is)
    (case a37 => k_is)
    (case l37 => k_is)
    (case c37 => k_is)
    (case k37 => k_is)
    (case a38 => k_is)
    (case l38 => k_is)
    (case c38 => k_is)
    (case k38 => k_is)
    (case a39 => k_is)
    (case l39 => k_is)
    (case c39 => k_is)
    (case k39 => k_is)
    (case a40 => k_is)
    (case l40 => k_is)
    (case c40 => k_is)
    (case k40 => k_is)
    (case a41 => k_is)
    (case l41 => k_is)
    (case c41 => k_is)
    (case k41 => k_is)
    (case a42 => k_is)
    (case l42 => k_is)
    (case c42 => k_is)
    (case k42 => k_is)
    (case a43 => k_is)
    (case l43 => k_is)
    (case c43 => k_is)
    (case k43 => k_is)
    (case a44 => k_is)
    (case l44 => k_is)
    (case c44 => k_is)
    (case k44 => k_is)
    (case a45 => k_is)
    (case l45 => k_is)
    (case c45 => k_is)
    (case k45 => k_is)
    (case a46 => k_is)
    (case l46 => k_is)
    (case c46 => k_is)
    (case k46 => k_is)
    (case a47 => k_is)
    (case l47 => k_is)
    (case c47 => k_is)
    (case k47 => k_is)
    (case z_abs => k_is)
    (case z_all => k_is)
    (case z_bool => k_is)
    (case z_enumerate => k_is)
    (case z_int => k_is)
    (case z_isinstance => k_is)
    (case z_len => k_is)
    (case z_list => k_is)
    (case z_max => k_is)
    (case z_min => k_is)
    (case z_range => k_is)
    (case z_sorted => k_is)
    (case z_sum => k_is)
    (case z_tuple => k_is)
