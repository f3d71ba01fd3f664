import PyProof.Rows.All
import Wide.All
import OpenK.AllK
import Wide.FinOn
import HandS.ForMost
import HandS.Wide
import HandS.Defaults
import HandS.Flow
import HandS.IsInst
import HandS.TupAny
import HandS.TupMul
import HandS.Zip
import HandS.Style
import HandS.Codes
import HandS.More
import HandS.Iter
import HandS.HeadHook4
import HandS.HeadEnd
import HandS.Head2
import KE.KStateDown
import PySem.Challenge.RW_toldandpaid_k36_sorting_four_digits
set_option Elab.async false
set_option linter.all false
set_option maxRecDepth 100000
set_option maxHeartbeats 0
set_option exponentiation.threshold 10000
section

/-! Rf: a small evaluator of compact code over plain values (own work). -/
namespace Rf
open PySem

/-- plain values: tuples are trees, lists are places in the list heap -/
inductive PV where
  | non | bl (b : Bool) | int (i : Int) | str (x : Str) | tup (xs : List PV) | ref (k : Nat) | scr (ns : List Int)
abbrev MH := List (List PV)
abbrev En := List (Option PV)
abbrev M := Option (PV × MH)

mutual
def PV.toD : PV → PyData
  | .non => .none | .bl b => .bool b | .int i => .int i | .str x => .str x | .tup xs => .tuple (toDs xs) | .ref _ => .none | .scr _ => .none
def toDs : List PV → List PyData
  | [] => []
  | x :: xs => x.toD :: toDs xs
end
mutual
def PV.noRef : PV → Bool
  | .tup xs => noRefs xs
  | .ref _ => false
  | .scr _ => false
  | _ => true
def noRefs : List PV → Bool
  | [] => true
  | x :: xs => x.noRef && noRefs xs
end
def eqOk (x : PV) : Bool := x.noRef && SeqAt.shaped x.toD
def eqv (x y : PV) : Option Bool := if eqOk x && eqOk y then some (PyData.eqv x.toD y.toD) else none

/-- the largest list -/
def big : Nat := 16777216
def rd (B T : MH) (k : Nat) : Option (List PV) := (B ++ T)[k]?
def wr (B T : MH) (k : Nat) (xs : List PV) : Option MH := if B.length ≤ k ∧ k - B.length < T.length ∧ xs.length ≤ big then some (T.set (k - B.length) xs) else none
def isNew (B T : MH) (k : Nat) : Bool := decide (B.length ≤ k)
def mk (B T : MH) (xs : List PV) : M := if xs.length ≤ big then some (.ref (B.length + T.length), T ++ [xs]) else none
def tup' (xs : List PV) (T : MH) : M := if xs.length ≤ big then some (.tup xs, T) else none


inductive BO where | add | sub | mul | fdiv | mod | pow
inductive CO where | eq | ne | lt | le | gt | ge | is | isnot | isin | notin
inductive BI where | len | abs | int | tuple | list | sum | all | any | max | min | divmod
inductive TY where | int | bool | str | tuple | list
inductive MT where | append | pop | popAt | insert | index
  deriving DecidableEq

def mulOk (i j : Int) : Bool := decide (i.natAbs.log2 + j.natAbs.log2 < 1000000)
def divOk (j : Int) : Bool := decide (0 < j) && decide (j.natAbs.log2 < 9000)
def repL (xs : List PV) (k : Int) : List PV := (List.replicate k.toNat xs).flatten
def bin (B T : MH) : BO → PV → PV → M
  | .add, .int i, .int j => some (.int (i + j), T)
  | .add, .tup xs, .tup ys => tup' (xs ++ ys) T
  | .add, .ref a, .ref b => if isNew B T a && isNew B T b then (rd B T a).bind fun xs => (rd B T b).bind fun ys => mk B T (xs ++ ys) else none
  | .sub, .int i, .int j => some (.int (i - j), T)
  | .mul, .int i, .int j => if mulOk i j then some (.int (i * j), T) else none
  | .mul, .tup xs, .int k => if decide (xs.length ≤ 1000) && (decide (k ≤ 1000) && (decide (1 ≤ k) && !xs.isEmpty)) then some (.tup (repL xs k), T) else none
  | .mul, .ref a, .int k => if isNew B T a && (decide (-(2 ^ 63) ≤ k) && decide (k < 2 ^ 63)) then (rd B T a).bind fun xs => if xs.length * k.toNat ≤ big then mk B T (repL xs k) else none else none
  | .fdiv, .int i, .int j => if divOk j then some (.int (i / j), T) else none
  | .mod, .int i, .int j => if decide (0 < j) then some (.int (i % j), T) else none
  | .pow, .int i, .int j => if decide (0 ≤ j) && (decide (j ≤ 1000000) && decide (i.natAbs < 2 ^ 64)) then some (.int (i ^ j.toNat), T) else none
  | _, _, _ => none
/-- scalars that a membership test compares -/
def flat : PV → Bool
  | .non => true | .bl _ => true | .int _ => true | .str _ => true | _ => false
def tyName : PV → Option String
  | .non => some "NoneType" | .bl _ => some "bool" | .int _ => some "int" | .str _ => some "str" | .tup _ => some "tuple" | .ref _ => some "list" | .scr _ => some "list"
def TY.nm : TY → String
  | .int => "int" | .bool => "bool" | .str => "str" | .tuple => "tuple" | .list => "list"
def isTy (o : TY) : PV → Bool
  | .bl _ => match o with | .bool => true | .int => true | _ => false
  | .int _ => match o with | .int => true | _ => false
  | .str _ => match o with | .str => true | _ => false
  | .tup _ => match o with | .tuple => true | _ => false
  | .ref _ => match o with | .list => true | _ => false
  | .scr _ => match o with | .list => true | _ => false
  | .non => false
def items (B T : MH) : PV → Option (List PV)
  | .tup xs => some xs
  | .ref k => rd B T k
  | .scr ns => some (ns.map .int)
  | _ => none
/-- membership of a scalar among scalars -/
def scEq : PV → PV → Bool
  | .non, .non => true
  | .bl a, .bl b => a == b
  | .bl a, .int j => (if a then 1 else 0) == j
  | .int i, .bl b => i == (if b then 1 else 0)
  | .int i, .int j => i == j
  | .str x, .str y => decide (x = y)
  | _, _ => false
def memb (B T : MH) (x y : PV) : Option Bool := (items B T y).bind fun ys => if flat x && ys.all flat then some (ys.any fun z => scEq z x) else none
def cmp (B T : MH) : CO → PV → PV → Option Bool
  | .eq, x, y => eqv x y
  | .ne, x, y => (eqv x y).map (!·)
  | .lt, .int i, .int j => some (decide (i < j))
  | .le, .int i, .int j => some (decide (i ≤ j))
  | .gt, .int i, .int j => some (decide (j < i))
  | .ge, .int i, .int j => some (decide (j ≤ i))
  | .is, .non, .non => some true
  | .is, .bl _, .non => some false | .is, .int _, .non => some false | .is, .str _, .non => some false | .is, .tup _, .non => some false | .is, .ref _, .non => some false
  | .isnot, .non, .non => some false
  | .isnot, .bl _, .non => some true | .isnot, .int _, .non => some true | .isnot, .str _, .non => some true | .isnot, .tup _, .non => some true | .isnot, .ref _, .non => some true
  | .isin, x, y => memb B T x y
  | .notin, x, y => (memb B T x y).map (!·)
  | _, _, _ => none
/-- truth -/
def tru (B T : MH) : PV → Option Bool
  | .non => some false
  | .bl b => some b
  | .int i => some (i != 0)
  | .tup xs => some (!xs.isEmpty)
  | .ref k => (rd B T k).map fun xs => !xs.isEmpty
  | _ => none
def asInts : List PV → Option (List Int)
  | [] => some []
  | .int i :: r => (asInts r).map (i :: ·)
  | _ :: _ => none
def asBls : List PV → Option (List Bool)
  | [] => some []
  | .bl i :: r => (asBls r).map (i :: ·)
  | _ :: _ => none
def bi (B T : MH) : BI → List PV → M
  | .len, [x] => (items B T x).map fun xs => (.int xs.length, T)
  | .abs, [.int i] => some (.int (if i < 0 then -i else i), T)
  | .int, [.int i] => some (.int i, T)
  | .tuple, [x] => (items B T x).map fun xs => (.tup xs, T)
  | .list, [x] => (items B T x).bind fun xs => mk B T xs
  | .sum, [.ref k] => (rd B T k).bind fun xs => (asInts xs).map fun ns => (.int ns.sum, T)
  | .all, [.ref k] => (rd B T k).bind fun xs => (asBls xs).map fun ns => (.bl (ns.all id), T)
  | .any, [.ref k] => (rd B T k).bind fun xs => (asBls xs).map fun ns => (.bl (ns.any id), T)
  | .max, [.int i, .int j] => some (.int (if j > i then j else i), T)
  | .min, [.int i, .int j] => some (.int (if j < i then j else i), T)
  | .divmod, [.int i, .int j] => if divOk j && decide (j < 1073741824) then some (.tup [.int (i / j), .int (i % j)], T) else none
  | _, _ => none
def insV (xs : List PV) (i : Int) (y : PV) : Option (List PV) := if 0 ≤ i ∧ i < 2 ^ 62 then some (xs.take i.toNat ++ y :: xs.drop i.toNat) else none
def findIx (x : PV) : List PV → Option Nat
  | [] => none
  | y :: r => if scEq y x then some 0 else (findIx x r).map (· + 1)
def mt (B T : MH) : MT → PV → List PV → M
  | .append, .ref k, [y] => (rd B T k).bind fun xs => if xs.length < big then (wr B T k (xs ++ [y])).map fun T' => (.non, T') else none
  | .pop, .ref k, [] => (rd B T k).bind fun xs => xs[xs.length - 1]?.bind fun y => (wr B T k xs.dropLast).map fun T' => (y, T')
  | .popAt, .ref k, [.int i] => (rd B T k).bind fun xs => (L2.ixN xs.length i).bind fun j => xs[j]?.bind fun y => (wr B T k (xs.eraseIdx j)).map fun T' => (y, T')
  | .insert, .ref k, [.int i, y] => (rd B T k).bind fun xs => if xs.length < big then (insV xs i y).bind fun ys => (wr B T k ys).map fun T' => (.non, T') else none
  | .index, .ref k, [y] => (rd B T k).bind fun xs => if flat y && xs.all flat then (findIx y xs).map fun (j : Nat) => (.int (j : Int), T) else none
  | _, _, _ => none
def getIx (B T : MH) (x i : PV) : Option PV := match i with
  | .int i => (items B T x).bind fun xs => (L2.ixN xs.length i).bind fun j => xs[j]?
  | _ => none
def cut (xs : List PV) (lo hi : Option Int) : List PV := (xs.drop (HT.sIx xs.length 0 lo)).take (HT.sIx xs.length xs.length hi - HT.sIx xs.length 0 lo)
def slc (B T : MH) (x : PV) (lo hi : Option Int) : M := match x with
  | .tup xs => some (.tup (cut xs lo hi), T)
  | .ref k => (rd B T k).bind fun xs => mk B T (cut xs lo hi)
  | _ => none

/-- what is walked -/
inductive It where
  | seq (xs : List PV) | lref (k : Nat) | rng (lo : Int) (n : Nat) | zipT (xs ys : List PV) | zipL (a b : Nat) | enumL (k : Nat)
def lenOf (B T : MH) (k : Nat) : Nat := ((rd B T k).getD []).length
/-- the i-th item; none: a fault -/
def It.at (B T : MH) (i : Nat) : It → Option (Option PV)
  | .seq xs => some xs[i]?
  | .lref k => (rd B T k).map fun xs => xs[i]?
  | .rng lo n => some (if i < n then some (.int (lo + i)) else none)
  | .zipT xs ys => some (match xs[i]?, ys[i]? with
    | some x, some y => some (.tup [x, y])
    | _, _ => none)
  | .zipL a b => (rd B T a).bind fun xs => (rd B T b).map fun ys => match xs[i]?, ys[i]? with
    | some x, some y => some (.tup [x, y])
    | _, _ => none
  | .enumL k => (rd B T k).map fun xs => match xs[i]? with
    | some x => some (.tup [.int i, x])
    | none => none

inductive Tg where | nm (i : Nat) | tp (is : List Nat)
def bindAll : List Nat → List PV → En → Option En
  | [], [], σ => some σ
  | i :: is, x :: xs, σ => bindAll is xs (σ.set i (some x))
  | _, _, _ => none
def Tg.bind : Tg → PV → En → Option En
  | .nm i, x, σ => some (σ.set i (some x))
  | .tp is, .tup xs, σ => bindAll is xs σ
  | _, _, _ => none
def Tg.slots : Tg → List Nat
  | .nm i => [i]
  | .tp is => is
def wipeE (σ : En) : List Nat → En
  | [] => σ
  | v :: vs => (wipeE σ vs).set v none

/-- compact code: expressions, their lists, what is walked, clauses -/
inductive C where
  | var (i : Nat) | cst (v : PV) | glb (j : Nat)
  | bin (o : BO) (a b : C) | neg (a : C)
  | vand (a b : C) | vor (a b : C) | vone (a : C) | vnot (a : C)
  | tand (a b : C) | tor (a b : C) | tone (a : C) | tnot (a : C) | tval (a : C)
  | cmp (o : CO) (a b : C) | chain (o o' : CO) (a b c : C)
  | ife (c a b : C)
  | idx (a b : C) | slc (a lo hi : C) | slcL (a lo : C) | slcH (a hi : C) | rev (a : C) | nop
  | tup (es : C) | lst (es : C) | nil | cons (e es : C)
  | call (f : Nat) (es : C) | callp (f : Nat) (es : C) | callk (f : Nat) (es ks : C) (pm : List Nat) (pure : Bool)
  | isi (o : TY) (a : C) | bi (o : BI) (es : C) | mt (o : MT) (a es : C)
  | comp (elt gs : C) (own : List (Str × Nat)) | gnil | gen (t : Tg) (it : C) (ifs gs : C)
  | itv (a : C) | itr (es : C) | itz (es : C) | ite (es : C)

/-- the slots that a clause and those behind it bind -/
def gslots : C → List Nat
  | .gen t _ _ gs => t.slots ++ gslots gs
  | _ => []
structure Sm where
  e : En → MH → MH → M
  it : En → MH → MH → Option (It × MH)
  g : (En → MH → List PV → Option (List PV × MH)) → En → MH → MH → List PV → Option (List PV × MH)

/-- the loop of a clause -/
def loopG (B : MH) (it : It) (tg : Tg) (test : En → MH → M) (k : En → MH → List PV → Option (List PV × MH)) (σ : En) : Nat → Nat → MH → List PV → Option (List PV × MH)
  | 0, _, _, _ => none
  | n + 1, i, T, acc => match it.at B T i with
    | none => none
    | some none => some (acc, T)
    | some (some x) => match tg.bind x σ with
      | none => none
      | some σ1 => match test σ1 T with
        | some (.bl true, T1) => match k σ1 T1 acc with
          | some (acc', T2) => loopG B it tg test k σ n (i + 1) T2 acc'
          | none => none
        | some (.bl false, T1) => loopG B it tg test k σ n (i + 1) T1 acc
        | _ => none
def noS : Sm := ⟨fun _ _ _ => none, fun _ _ _ => none, fun _ _ _ _ _ => none⟩
def eS (f : En → MH → MH → M) : Sm := { noS with e := f }
def iS (f : En → MH → MH → Option (It × MH)) : Sm := { noS with it := f }
def gS (f : (En → MH → List PV → Option (List PV × MH)) → En → MH → MH → List PV → Option (List PV × MH)) : Sm := { noS with g := f }
def getP {α : Type} (pm : List Nat) (vs : List α) : List α := pm.filterMap fun i => vs[i]?
/-- the value alone -/
def dropT (r : M) (T : MH) : M := r.bind fun (v, _) => if v.noRef then some (v, T) else none
def asTup : PV → Option (List PV)
  | .tup xs => some xs
  | _ => none

/-- CF: the callee's level; G: constants; L: the loops' fuel -/
def sem (CF : Nat → List PV → MH → MH → M) (G : List (Str × PV)) (L : Nat) : C → Sm
  | .var i => eS fun σ _ T => match σ[i]? with
    | some (some v) => some (v, T)
    | _ => none
  | .cst v => eS fun _ _ T => some (v, T)
  | .glb j => eS fun _ _ T => G[j]?.map fun p => (p.2, T)
  | .bin o a b => eS fun σ B T => ((sem CF G L a).e σ B T).bind fun (x, T1) => ((sem CF G L b).e σ B T1).bind fun (y, T2) => Rf.bin B T2 o x y
  | .neg a => eS fun σ B T => ((sem CF G L a).e σ B T).bind fun (x, T1) => match x with
    | .int i => some (.int (-i), T1)
    | _ => none
  | .vand a b => eS fun σ B T => ((sem CF G L a).e σ B T).bind fun (x, T1) => match x with
    | .bl true => (sem CF G L b).e σ B T1
    | .bl false => some (.bl false, T1)
    | _ => none
  | .vor a b => eS fun σ B T => ((sem CF G L a).e σ B T).bind fun (x, T1) => match x with
    | .bl true => some (.bl true, T1)
    | .bl false => (sem CF G L b).e σ B T1
    | _ => none
  | .vone a => eS (sem CF G L a).e
  | .vnot a => eS fun σ B T => ((sem CF G L a).e σ B T).bind fun (x, T1) => (tru B T1 x).map fun b => (.bl (!b), T1)
  | .tand a b => eS fun σ B T => ((sem CF G L a).e σ B T).bind fun (x, T1) => match x with
    | .bl true => (sem CF G L b).e σ B T1
    | .bl false => some (.bl false, T1)
    | _ => none
  | .tor a b => eS fun σ B T => ((sem CF G L a).e σ B T).bind fun (x, T1) => match x with
    | .bl true => some (.bl true, T1)
    | .bl false => (sem CF G L b).e σ B T1
    | _ => none
  | .tone a => eS (sem CF G L a).e
  | .tnot a => eS fun σ B T => ((sem CF G L a).e σ B T).bind fun (x, T1) => match x with
    | .bl b => some (.bl (!b), T1)
    | _ => none
  | .tval a => eS fun σ B T => ((sem CF G L a).e σ B T).bind fun (x, T1) => (tru B T1 x).map fun b => (.bl b, T1)
  | .cmp o a b => eS fun σ B T => ((sem CF G L a).e σ B T).bind fun (x, T1) => ((sem CF G L b).e σ B T1).bind fun (y, T2) => (Rf.cmp B T2 o x y).map fun r => (.bl r, T2)
  | .chain o o' a b c => eS fun σ B T => ((sem CF G L a).e σ B T).bind fun (x, T1) => ((sem CF G L b).e σ B T1).bind fun (y, T2) => (Rf.cmp B T2 o x y).bind fun r => if r then
      ((sem CF G L c).e σ B T2).bind fun (z, T3) => (Rf.cmp B T3 o' y z).map fun r => (.bl r, T3) else some (.bl false, T2)
  | .ife c a b => eS fun σ B T => ((sem CF G L c).e σ B T).bind fun (x, T1) => match x with
    | .bl true => (sem CF G L a).e σ B T1
    | .bl false => (sem CF G L b).e σ B T1
    | _ => none
  | .idx a b => eS fun σ B T => ((sem CF G L a).e σ B T).bind fun (x, T1) => ((sem CF G L b).e σ B T1).bind fun (y, T2) => (getIx B T2 x y).map fun v => (v, T2)
  | .slc a lo hi => eS fun σ B T => ((sem CF G L a).e σ B T).bind fun (x, T1) => ((sem CF G L lo).e σ B T1).bind fun (l, T2) => ((sem CF G L hi).e σ B T2).bind fun (h, T3) => match l, h with
    | .int l, .int h => Rf.slc B T3 x (some l) (some h)
    | _, _ => none
  | .slcL a lo => eS fun σ B T => ((sem CF G L a).e σ B T).bind fun (x, T1) => ((sem CF G L lo).e σ B T1).bind fun (l, T2) => match l with
    | .int l => Rf.slc B T2 x (some l) none
    | _ => none
  | .slcH a hi => eS fun σ B T => ((sem CF G L a).e σ B T).bind fun (x, T1) => ((sem CF G L hi).e σ B T1).bind fun (h, T2) => match h with
    | .int h => Rf.slc B T2 x none (some h)
    | _ => none
  | .rev a => eS fun σ B T => ((sem CF G L a).e σ B T).bind fun (x, T1) => match x with
    | .ref k => (rd B T1 k).bind fun xs => mk B T1 xs.reverse
    | _ => none
  | .nop => eS fun _ _ T => some (.bl true, T)
  | .tup es => eS fun σ B T => ((sem CF G L es).e σ B T).bind fun (x, T1) => (asTup x).bind fun xs => tup' xs T1
  | .lst es => eS fun σ B T => ((sem CF G L es).e σ B T).bind fun (x, T1) => (asTup x).bind fun xs => mk B T1 xs
  | .nil => eS fun _ _ T => some (.tup [], T)
  | .cons a es => eS fun σ B T => ((sem CF G L a).e σ B T).bind fun (x, T1) => ((sem CF G L es).e σ B T1).bind fun (y, T2) => (asTup y).map fun ys => (.tup (x :: ys), T2)
  | .call f es => eS fun σ B T => ((sem CF G L es).e σ B T).bind fun (x, T1) => (asTup x).bind fun xs => CF f xs B T1
  | .callp f es => eS fun σ B T => ((sem CF G L es).e σ B T).bind fun (x, T1) => (asTup x).bind fun xs => dropT (CF f xs (B ++ T1) []) T1
  | .callk f es ks pm pure => eS fun σ B T => ((sem CF G L es).e σ B T).bind fun (x, T1) => (asTup x).bind fun xs => ((sem CF G L ks).e σ B T1).bind fun (y, T2) => (asTup y).bind fun ys => 
      if pure then dropT (CF f (getP pm (xs ++ ys)) (B ++ T2) []) T2 else CF f (getP pm (xs ++ ys)) B T2
  | .isi o a => eS fun σ B T => ((sem CF G L a).e σ B T).map fun (x, T1) => (.bl (isTy o x), T1)
  | .bi o es => eS fun σ B T => ((sem CF G L es).e σ B T).bind fun (x, T1) => (asTup x).bind fun xs => Rf.bi B T1 o xs
  | .mt o a es => eS fun σ B T => ((sem CF G L a).e σ B T).bind fun (x, T1) => ((sem CF G L es).e σ B T1).bind fun (y, T2) => (asTup y).bind fun ys => Rf.mt B T2 o x ys
  | .comp elt gs own => eS fun σ B T => ((sem CF G L gs).g (fun σ1 T1 acc => ((sem CF G L elt).e σ1 B T1).bind fun (y, T2) => if acc.length < big then some (acc ++ [y], T2) else none) (wipeE σ (own.map (·.2))) B T []).bind fun (acc, T1) => mk B T1 acc
  | .gnil => gS fun k σ _ T acc => k σ T acc
  | .gen t it ifs gs => gS fun k σ B T acc => ((sem CF G L it).it σ B T).bind fun (j, T1) =>
      loopG B j t (fun σ1 T2 => (sem CF G L ifs).e σ1 B T2) (fun σ1 T2 acc => (sem CF G L gs).g k σ1 B T2 acc) (wipeE σ (t.slots ++ gslots gs)) L 0 T1 acc
  | .itv a => iS fun σ B T => ((sem CF G L a).e σ B T).bind fun (x, T1) => match x with
    | .tup xs => some (.seq xs, T1)
    | .scr ns => some (.seq (ns.map .int), T1)
    | .ref k => (rd B T1 k).map fun _ => (.lref k, T1)
    | _ => none
  | .itr es => iS fun σ B T => ((sem CF G L es).e σ B T).bind fun (x, T1) => match x with
    | .tup [.int j] => if decide (-(2 ^ 62) ≤ j) && decide (j < 2 ^ 62) then some (.rng 0 j.toNat, T1) else none
    | .tup [.int i, .int j] => if (decide (-(2 ^ 62) ≤ i) && decide (i < 2 ^ 62)) && (decide (-(2 ^ 62) ≤ j) && decide (j < 2 ^ 62)) then some (.rng i (j - i).toNat, T1) else none
    | _ => none
  | .itz es => iS fun σ B T => ((sem CF G L es).e σ B T).bind fun (x, T1) => match x with
    | .tup [.tup xs, .tup ys] => some (.zipT xs ys, T1)
    | .tup [.ref a, .ref b] => (rd B T1 a).bind fun _ => (rd B T1 b).map fun _ => (.zipL a b, T1)
    | _ => none
  | .ite es => iS fun σ B T => ((sem CF G L es).e σ B T).bind fun (x, T1) => match x with
    | .tup [.ref k] => (rd B T1 k).map fun _ => (.enumL k, T1)
    | _ => none

/-- statements -/
inductive S where
  | skip | seq (a b : S)
  | set (i : Nat) (e : C) | setC (i : Nat) (e : C) | setT (is : List Nat) (e : C)
  | par (is : List Nat) (es : C)
  | setI (o i v : C) | swp (o1 i1 o2 i2 : C) (v : C)
  | aug (i : Nat) (o : BO) (e : C)
  | exp (e : C) | ret (e : C) | ifs (c : C) (a b : S) | whl (c : C) (b : S) | for_ (t : Tg) (it : C) (b : S) | brk | cont | pass
inductive Rs where | nx | bk | ct | rt (v : PV)
abbrev MS := Option (Rs × En × MH)
def loopW (c : En → MH → M) (b : En → MH → MS) : Nat → En → MH → MS
  | 0, _, _ => none
  | n + 1, σ, T => match c σ T with
    | some (.bl true, T1) => match b σ T1 with
      | some (.nx, σ1, T2) => loopW c b n σ1 T2
      | some (.ct, σ1, T2) => loopW c b n σ1 T2
      | some (.bk, σ1, T2) => some (.nx, σ1, T2)
      | some (.rt v, σ1, T2) => some (.rt v, σ1, T2)
      | none => none
    | some (.bl false, T1) => some (.nx, σ, T1)
    | _ => none
def loopF (B : MH) (it : It) (tg : Tg) (b : En → MH → MS) : Nat → Nat → En → MH → MS
  | 0, _, _, _ => none
  | n + 1, i, σ, T => match it.at B T i with
    | none => none
    | some none => some (.nx, σ, T)
    | some (some x) => match tg.bind x σ with
      | none => none
      | some σ1 => match b σ1 T with
        | some (.nx, σ2, T2) => loopF B it tg b n (i + 1) σ2 T2
        | some (.ct, σ2, T2) => loopF B it tg b n (i + 1) σ2 T2
        | some (.bk, σ2, T2) => some (.nx, σ2, T2)
        | some (.rt v, σ2, T2) => some (.rt v, σ2, T2)
        | none => none
def setIx (B T : MH) (o i v : PV) : Option MH := match o, i with
  | .ref k, .int i => (rd B T k).bind fun xs => (L2.ixN xs.length i).bind fun j => wr B T k (xs.set j v)
  | _, _ => none
def semS (CF : Nat → List PV → MH → MH → M) (G : List (Str × PV)) (L : Nat) : S → En → MH → MH → MS
  | .skip, σ, _, T => some (.nx, σ, T)
  | .pass, σ, _, T => some (.nx, σ, T)
  | .seq a b, σ, B, T => match semS CF G L a σ B T with
    | some (.nx, σ1, T1) => semS CF G L b σ1 B T1
    | r => r
  | .set i e, σ, B, T => ((sem CF G L e).e σ B T).map fun (v, T1) => (.nx, σ.set i (some v), T1)
  | .setC i e, σ, B, T => ((sem CF G L e).e σ B T).map fun (v, T1) => (.nx, σ.set i (some v), T1)
  | .setT is e, σ, B, T => ((sem CF G L e).e σ B T).bind fun (v, T1) => ((Tg.tp is).bind v σ).map fun σ1 => (.nx, σ1, T1)
  | .par is es, σ, B, T => ((sem CF G L es).e σ B T).bind fun (v, T1) => ((Tg.tp is).bind v σ).map fun σ1 => (.nx, σ1, T1)
  | .setI o i v, σ, B, T => ((sem CF G L v).e σ B T).bind fun (x, T1) => ((sem CF G L o).e σ B T1).bind fun (y, T2) => ((sem CF G L i).e σ B T2).bind fun (z, T3) => (setIx B T3 y z x).map fun T4 => (.nx, σ, T4)
  | .swp o1 i1 o2 i2 v, σ, B, T => ((sem CF G L v).e σ B T).bind fun (w, T0) => match w with
    | .tup [x1, x2] => ((sem CF G L o1).e σ B T0).bind fun (y, T2) => ((sem CF G L i1).e σ B T2).bind fun (z, T3) => (setIx B T3 y z x1).bind fun T4 =>
      ((sem CF G L o2).e σ B T4).bind fun (y, T2) => ((sem CF G L i2).e σ B T2).bind fun (z, T3) => (setIx B T3 y z x2).map fun T4 => (.nx, σ, T4)
    | _ => none
  | .aug i o e, σ, B, T => match σ[i]? with
    | some (some x) => ((sem CF G L e).e σ B T).bind fun (y, T1) => match o, x, y with
      | .add, .int a, .int b => some (.nx, σ.set i (some (.int (a + b))), T1)
      | .sub, .int a, .int b => some (.nx, σ.set i (some (.int (a - b))), T1)
      | .mul, .int a, .int b => if mulOk a b then some (.nx, σ.set i (some (.int (a * b))), T1) else none
      | _, _, _ => none
    | _ => none
  | .exp e, σ, B, T => ((sem CF G L e).e σ B T).map fun (_, T1) => (.nx, σ, T1)
  | .ret e, σ, B, T => ((sem CF G L e).e σ B T).map fun (v, T1) => (.rt v, σ, T1)
  | .ifs c a b, σ, B, T => match (sem CF G L c).e σ B T with
    | some (.bl true, T1) => semS CF G L a σ B T1
    | some (.bl false, T1) => semS CF G L b σ B T1
    | _ => none
  | .whl c b, σ, B, T => loopW (fun σ T => (sem CF G L c).e σ B T) (fun σ T => semS CF G L b σ B T) L σ T
  | .for_ t it b, σ, B, T => ((sem CF G L it).it σ B T).bind fun (j, T1) => loopF B j t (fun σ T => semS CF G L b σ B T) L 0 σ T1
  | .brk, σ, _, T => some (.bk, σ, T)
  | .cont, σ, _, T => some (.ct, σ, T)

structure Fn where
  np : Nat
  ns : Nat
  body : S
def startE (n : Nat) (xs : List PV) : En := xs.map some ++ List.replicate (n - xs.length) none
/-- a call, k levels deep -/
def run (P : List Fn) (G : List (Str × PV)) (L : Nat) : Nat → Nat → List PV → MH → MH → M
  | 0, _, _, _, _ => none
  | k + 1, f, xs, B, T => match P[f]? with
    | none => none
    | some fn => if xs.length = fn.np then (match semS (run P G L k) G L fn.body (startE fn.ns xs) B T with
      | some (.rt v, _, T1) => some (v, T1)
      | some (.nx, _, T1) => some (.non, T1)
      | _ => none) else none
end Rf
end
section
/-! Rf: how plain values stand in the abstract heap. -/
namespace Rf
open PySem PySem.Spec PyProof.Rows L2

/-- a list that never changes -/
def SqF (K : PySem.W.Frag) (H : Hp) (a : Addr) (xs : List V) : Prop :=
  (∃ o, H a = some (.frz o (.lst xs))) ∨
    ∃ (o : Obj) (its : Array Value) (n : Nat), K.lookup a = some o ∧ o.cls = .type "list" ∧ o.dict = none ∧ o.data = .seq its n ∧ its.size ≤ sizeLine ∧ Vals xs its.toList
theorem SqF.sq {K : PySem.W.Frag} {H : Hp} {a : Addr} {xs : List V} (h : SqF K H a xs) : SqL K H a xs := by
  rcases h with ⟨o, h⟩ | h
  · exact .inl (.inr ⟨o, h⟩)
  · exact .inr h
mutual
inductive Rep (K : PySem.W.Frag) (ρ : List Addr) (H : Hp) : V → PV → Prop
  | non : Rep K ρ H .non .non
  | bl (b : Bool) : Rep K ρ H (.bl b) (.bl b)
  | int (i : Int) : Rep K ρ H (.int i) (.int i)
  | str (x : Str) : Rep K ρ H (.str x) (.str x)
  | tup {a : Addr} {vs : List V} {xs : List PV} (h : SqT K H a vs) (r : Reps K ρ H vs xs) : Rep K ρ H (.ref a) (.tup xs)
  | ref {a : Addr} {k : Nat} (h : ρ[k]? = some a) : Rep K ρ H (.ref a) (.ref k)
  | scr {a : Addr} {ns : List Int} (h : SqF K H a (ns.map V.int)) : Rep K ρ H (.ref a) (.scr ns)
inductive Reps (K : PySem.W.Frag) (ρ : List Addr) (H : Hp) : List V → List PV → Prop
  | nil : Reps K ρ H [] []
  | cons {v : V} {x : PV} {vs : List V} {xs : List PV} (h : Rep K ρ H v x) (r : Reps K ρ H vs xs) : Reps K ρ H (v :: vs) (x :: xs)
end

section
variable {K : PySem.W.Frag} {ρ ρ' : List Addr} {H H' : Hp}
theorem Reps.length : ∀ {vs : List V} {xs : List PV}, Reps K ρ H vs xs → vs.length = xs.length
  | _, _, .nil => rfl
  | _, _, .cons _ r => congrArg Nat.succ (Reps.length r)
theorem Reps.get : ∀ {vs : List V} {xs : List PV} {i : Nat} {x : PV}, Reps K ρ H vs xs → xs[i]? = some x → ∃ v, vs[i]? = some v ∧ Rep K ρ H v x
  | _, _, _, _, .nil, e => by simp at e
  | _, _, 0, _, .cons h _, e => by simp at e; subst e; exact ⟨_, rfl, h⟩
  | _, _, i + 1, x, .cons _ r, e => by
    obtain ⟨v, h1, h2⟩ := Reps.get (i := i) r (by simpa using e)
    exact ⟨v, by simpa using h1, h2⟩
theorem Reps.getV : ∀ {vs : List V} {xs : List PV} {i : Nat} {v : V}, Reps K ρ H vs xs → vs[i]? = some v → ∃ x, xs[i]? = some x ∧ Rep K ρ H v x
  | _, _, _, _, .nil, e => by simp at e
  | _, _, 0, _, .cons h _, e => by simp at e; subst e; exact ⟨_, rfl, h⟩
  | _, _, i + 1, x, .cons _ r, e => by
    obtain ⟨v, h1, h2⟩ := Reps.getV (i := i) r (by simpa using e)
    exact ⟨v, by simpa using h1, h2⟩
theorem Reps.of_get : ∀ {vs : List V} {xs : List PV}, vs.length = xs.length → (∀ (i : Nat) (v : V) (x : PV), vs[i]? = some v → xs[i]? = some x → Rep K ρ H v x) → Reps K ρ H vs xs
  | [], [], _, _ => .nil
  | [], _ :: _, h, _ => by simp at h
  | _ :: _, [], h, _ => by simp at h
  | v :: vs, x :: xs, h, g => .cons (g 0 v x rfl rfl) (Reps.of_get (by simpa using h) fun i w y e1 e2 => g (i + 1) w y (by simpa using e1) (by simpa using e2))
theorem Reps.append {vs ws : List V} {xs ys : List PV} : Reps K ρ H vs xs → Reps K ρ H ws ys → Reps K ρ H (vs ++ ws) (xs ++ ys)
  | .nil, s => s
  | .cons h r, s => .cons h (Reps.append r s)
theorem Reps.at {vs : List V} {xs : List PV} (r : Reps K ρ H vs xs) {i : Nat} {v : V} {x : PV} (e1 : vs[i]? = some v) (e2 : xs[i]? = some x) : Rep K ρ H v x := by
  obtain ⟨w, h1, h2⟩ := r.get e2
  rw [e1] at h1; cases h1; exact h2
theorem Reps.take {vs : List V} {xs : List PV} : ∀ (n : Nat), Reps K ρ H vs xs → Reps K ρ H (vs.take n) (xs.take n)
  | 0, _ => by simp; exact .nil
  | n + 1, .nil => by simp; exact .nil
  | n + 1, .cons h r => by simpa using Reps.cons h (Reps.take n r)
theorem Reps.drop {vs : List V} {xs : List PV} : ∀ (n : Nat), Reps K ρ H vs xs → Reps K ρ H (vs.drop n) (xs.drop n)
  | 0, r => by simpa using r
  | n + 1, .nil => by simp; exact .nil
  | n + 1, .cons h r => by simpa using Reps.drop n r
theorem Reps.set {vs : List V} {xs : List PV} {v : V} {x : PV} (q : Rep K ρ H v x) : ∀ (n : Nat), Reps K ρ H vs xs → Reps K ρ H (vs.set n v) (xs.set n x)
  | _, .nil => .nil
  | 0, .cons h r => .cons q r
  | n + 1, .cons h r => .cons h (Reps.set q n r)
theorem Reps.eraseIdx {vs : List V} {xs : List PV} : ∀ (n : Nat), Reps K ρ H vs xs → Reps K ρ H (vs.eraseIdx n) (xs.eraseIdx n)
  | _, .nil => .nil
  | 0, .cons h r => r
  | n + 1, .cons h r => .cons h (Reps.eraseIdx n r)
theorem Reps.dropLast {vs : List V} {xs : List PV} (r : Reps K ρ H vs xs) : Reps K ρ H vs.dropLast xs.dropLast := by
  rw [List.dropLast_eq_take, List.dropLast_eq_take, r.length]
  exact r.take _
theorem Reps.flat_rep {vs : List V} {xs : List PV} (r : Reps K ρ H vs xs) : ∀ n : Nat, Reps K ρ H (List.replicate n vs).flatten (List.replicate n xs).flatten
  | 0 => by simp; exact .nil
  | n + 1 => by rw [List.replicate_succ, List.replicate_succ, List.flatten_cons, List.flatten_cons]; exact r.append (Reps.flat_rep r n)
theorem Reps.snoc {vs : List V} {xs : List PV} {v : V} {x : PV} (r : Reps K ρ H vs xs) (h : Rep K ρ H v x) : Reps K ρ H (vs ++ [v]) (xs ++ [x]) := r.append (.cons h .nil)
theorem Reps.reverse {vs : List V} {xs : List PV} : Reps K ρ H vs xs → Reps K ρ H vs.reverse xs.reverse
  | .nil => .nil
  | .cons h r => by rw [List.reverse_cons, List.reverse_cons]; exact (Reps.reverse r).snoc h
theorem Reps.cut {vs : List V} {xs : List PV} (r : Reps K ρ H vs xs) (lo hi : Option Int) : Reps K ρ H (cutV vs lo hi) (Rf.cut xs lo hi) := by
  unfold cutV Rf.cut
  rw [r.length]
  exact (r.drop _).take _

/-- what is kept, what is new: nB places of the heap are not written -/
structure Ext (nB : Nat) (ρ : List Addr) (H : Hp) (ρ' : List Addr) (H' : Hp) : Prop where
  pre : ρ <+: ρ'
  fr : ∀ b o, H b = some o → (b ∉ ρ.drop nB ∨ ∀ xs, o ≠ .lst xs) → H' b = some o
  new : ∀ a ∈ ρ', a ∈ ρ ∨ H a = none
  al : ∀ b, H b ≠ none → H' b ≠ none

theorem pre_get {ρ ρ' : List Addr} (h : ρ <+: ρ') {k : Nat} {a : Addr} (e : ρ[k]? = some a) : ρ'[k]? = some a := by
  obtain ⟨t, rfl⟩ := h
  rw [List.getElem?_append_left]
  · exact e
  · exact (List.getElem?_eq_some_iff.mp e).1
theorem Ext.sqF {nB : Nat} (x : Ext nB ρ H ρ' H') {a : Addr} {vs : List V} (h : SqF K H a vs) : SqF K H' a vs := by
  rcases h with ⟨o, h⟩ | h
  · exact .inl ⟨o, x.fr _ _ h (.inr fun _ z => nomatch z)⟩
  · exact .inr h
theorem Ext.sqT {nB : Nat} (x : Ext nB ρ H ρ' H') {a : Addr} {vs : List V} (h : SqT K H a vs) : SqT K H' a vs := by
  rcases h with (h | ⟨o, h⟩) | h
  · exact .inl (.inl (x.fr _ _ h (.inr fun _ z => nomatch z)))
  · exact .inl (.inr ⟨o, x.fr _ _ h (.inr fun _ z => nomatch z)⟩)
  · exact .inr h
mutual
theorem Ext.rep {nB : Nat} (x : Ext nB ρ H ρ' H') : ∀ {v : V} {y : PV}, Rep K ρ H v y → Rep K ρ' H' v y
  | _, _, .non => .non
  | _, _, .bl b => .bl b
  | _, _, .int i => .int i
  | _, _, .str z => .str z
  | _, _, .tup h r => .tup (x.sqT h) (Ext.reps x r)
  | _, _, .ref h => .ref (pre_get x.pre h)
  | _, _, .scr h => .scr (x.sqF h)
theorem Ext.reps {nB : Nat} (x : Ext nB ρ H ρ' H') : ∀ {vs : List V} {ys : List PV}, Reps K ρ H vs ys → Reps K ρ' H' vs ys
  | _, _, .nil => .nil
  | _, _, .cons h r => .cons (Ext.rep x h) (Ext.reps x r)
end
mutual
theorem repPre (h : ρ <+: ρ') : ∀ {v : V} {y : PV}, Rep K ρ H v y → Rep K ρ' H v y
  | _, _, .non => .non
  | _, _, .bl b => .bl b
  | _, _, .int i => .int i
  | _, _, .str z => .str z
  | _, _, .tup q r => .tup q (repsPre h r)
  | _, _, .ref e => .ref (pre_get h e)
  | _, _, .scr e => .scr e
theorem repsPre (h : ρ <+: ρ') : ∀ {vs : List V} {ys : List PV}, Reps K ρ H vs ys → Reps K ρ' H vs ys
  | _, _, .nil => .nil
  | _, _, .cons q r => .cons (repPre h q) (repsPre h r)
end
theorem Ext.refl {nB : Nat} : Ext nB ρ H ρ H := ⟨List.prefix_refl _, fun _ _ e _ => e, fun _ h => .inl h, fun _ h => h⟩
theorem Ext.trans {nB : Nat} {ρ1 ρ2 : List Addr} {H1 H2 : Hp} (nd : ρ1.Nodup) (a : Ext nB ρ H ρ1 H1) (b : Ext nB ρ1 H1 ρ2 H2) : Ext nB ρ H ρ2 H2 where
  pre := a.pre.trans b.pre
  fr := fun c o e h => b.fr c o (a.fr c o e h) (by
    rcases h with h | h
    · refine .inl fun z => h ?_
      rcases a.new c (List.mem_of_mem_drop z) with q | q
      · obtain ⟨t, ht⟩ := a.pre
        rw [← ht] at z nd
        rw [List.drop_append] at z
        rcases List.mem_append.mp z with z | z
        · exact z
        · exact absurd (List.mem_of_mem_drop z) ((List.nodup_append.mp nd).2.2 c q c · rfl)
      · rw [e] at q; cases q
    · exact .inr h)
  new := fun c hc => by
    rcases b.new c hc with q | q
    · exact a.new c q
    · right
      cases z : H c with
      | none => rfl
      | some o => exact absurd q (a.al c (by rw [z]; simp))
  al := fun c h => b.al c (a.al c h)

/-- the list heap in the abstract heap -/
structure HR (K : PySem.W.Frag) (ρ : List Addr) (mh : MH) (H : Hp) : Prop where
  len : ρ.length = mh.length
  nd : ρ.Nodup
  at_ : ∀ (k : Nat) (xs : List PV), mh[k]? = some xs → ∃ a vs, ρ[k]? = some a ∧ Reps K ρ H vs xs ∧ H a = some (.lst vs)
/-- the slots -/
structure SR (K : PySem.W.Frag) (ρ : List Addr) (H : Hp) (σ : En) (τ : L2.St) : Prop where
  len : σ.length = τ.length
  at_ : ∀ (i : Nat) (x : PV), σ[i]? = some (some x) → ∃ v, τ[i]? = some (some v) ∧ Rep K ρ H v x
theorem SR.ext {nB : Nat} {σ : En} {τ : L2.St} (s : SR K ρ H σ τ) (x : Ext nB ρ H ρ' H') : SR K ρ' H' σ τ :=
  ⟨s.len, fun i y e => let ⟨v, h1, h2⟩ := s.at_ i y e; ⟨v, h1, x.rep h2⟩⟩
theorem SR.set {σ : En} {τ : L2.St} (s : SR K ρ H σ τ) {v : V} {x : PV} (r : Rep K ρ H v x) (i : Nat) : SR K ρ H (σ.set i (some x)) (τ.set i (some v)) := by
  refine ⟨by simp [s.len], fun j y e => ?_⟩
  by_cases h : i = j
  · subst h
    have hl : i < σ.length := by
      have := (List.getElem?_eq_some_iff.mp e).1
      simpa using this
    rw [List.getElem?_set_self hl] at e
    cases e
    exact ⟨v, List.getElem?_set_self (by rw [← s.len]; exact hl), r⟩
  · rw [List.getElem?_set_ne h] at e ⊢
    exact s.at_ j y e
theorem SR.wipe {σ : En} {τ : L2.St} (s : SR K ρ H σ τ) : ∀ vs : List Nat, SR K ρ H (wipeE σ vs) (wipe τ vs)
  | [] => s
  | v :: vs => by
    have ih := SR.wipe s vs
    unfold wipeE L2.wipe
    refine ⟨by simp [ih.len], fun j y e => ?_⟩
    by_cases h : v = j
    · subst h
      have hl := (List.getElem?_eq_some_iff.mp e).1
      rw [List.getElem?_set_self (by simpa using hl)] at e
      cases e
    · rw [List.getElem?_set_ne h] at e ⊢
      exact ih.at_ j y e
/-- fewer known slots -/
theorem SR.weak {σ σ' : En} {τ τ' : L2.St} (s : SR K ρ H σ τ) (hl : σ'.length = τ'.length) (h : ∀ (i : Nat) (x : PV), σ'[i]? = some (some x) → σ[i]? = some (some x)) (h' : ∀ (i : Nat) v, τ[i]? = some (some v) → σ'[i]? ≠ some none → σ'[i]? ≠ none → τ'[i]? = some (some v)) : SR K ρ H σ' τ' :=
  ⟨hl, fun i x e => let ⟨v, h1, h2⟩ := s.at_ i x (h i x e); ⟨v, h' i v h1 (by rw [e]; simp) (by rw [e]; simp), h2⟩⟩

theorem HR.rd {B T : MH} (r : HR K ρ (B ++ T) H) {k : Nat} {xs : List PV} (e : Rf.rd B T k = some xs) : ∃ a vs, ρ[k]? = some a ∧ Reps K ρ H vs xs ∧ H a = some (.lst vs) := r.at_ k xs e
/-- a new object that is no list of ours -/
theorem Ext.fresh {nB : Nat} {p : Addr} {o : HO} (h : H p = none) : Ext nB ρ H ρ (upd H p o) :=
  ⟨List.prefix_refl _, fun b u e _ => by rw [upd_ne (ne_of_none e h)]; exact e, fun _ h => .inl h, fun b e => by
    by_cases z : b = p
    · rw [z, upd_same]; simp
    · rw [upd_ne z]; exact e⟩
theorem HR.mem {mh : MH} (r : HR K ρ mh H) {a : Addr} (ha : a ∈ ρ) : ∃ (k : Nat) (xs : List PV) (vs : List V), ρ[k]? = some a ∧ mh[k]? = some xs ∧ Reps K ρ H vs xs ∧ H a = some (.lst vs) := by
  obtain ⟨k, hk, e⟩ := List.mem_iff_getElem.mp ha
  have hk2 : k < mh.length := by rw [← r.len]; exact hk
  obtain ⟨b, vs, h1, h2, h3⟩ := r.at_ k mh[k] (List.getElem?_eq_getElem hk2)
  have e1 : ρ[k]? = some a := by rw [List.getElem?_eq_getElem hk, e]
  rw [e1] at h1; cases h1
  exact ⟨k, _, vs, e1, List.getElem?_eq_getElem hk2, h2, h3⟩
/-- the same list heap where all that stood stands -/
theorem HR.same {mh : MH} (r : HR K ρ mh H) (hs : ∀ b o, H b = some o → H' b = some o) (x : Ext nB ρ H ρ H') : HR K ρ mh H' :=
  ⟨r.len, r.nd, fun k xs e => let ⟨a, vs, h1, h2, h3⟩ := r.at_ k xs e; ⟨a, vs, h1, x.reps h2, hs _ _ h3⟩⟩
theorem same_fresh {p : Addr} {o : HO} (h : H p = none) : ∀ b u, H b = some u → upd H p o b = some u := fun b u e => by rw [upd_ne (ne_of_none e h)]; exact e
theorem HR.fresh {mh : MH} {p : Addr} {o : HO} (r : HR K ρ mh H) (h : H p = none) : HR K ρ mh (upd H p o) := r.same (nB := 0) (same_fresh h) (Ext.fresh h)
theorem HR.out {mh : MH} {p : Addr} (r : HR K ρ mh H) (h : H p = none) : p ∉ ρ := fun z => by
  obtain ⟨_, _, _, _, _, _, e⟩ := r.mem z
  rw [h] at e; cases e
/-- a new list of ours at p -/
theorem HR.push {mh : MH} {p : Addr} {vs : List V} {xs : List PV} (r : HR K ρ mh H) (hn : H p = some (.lst vs)) (hp : p ∉ ρ) (rx : Reps K ρ H vs xs) : HR K (ρ ++ [p]) (mh ++ [xs]) H := by
  have rr : ∀ {ws : List V} {ys : List PV}, Reps K ρ H ws ys → Reps K (ρ ++ [p]) H ws ys := fun q => repsPre (List.prefix_append _ _) q
  refine ⟨by simp [r.len], ?_, fun k ys e => ?_⟩
  · rw [List.nodup_append]
    exact ⟨r.nd, by simp, fun a ha b hb => by
      have : b = p := by simpa using hb
      subst this
      exact fun z => hp (z ▸ ha)⟩
  · by_cases hk : k < mh.length
    · rw [List.getElem?_append_left hk] at e
      obtain ⟨a, ws, h1, h2, h3⟩ := r.at_ k ys e
      exact ⟨a, ws, pre_get (List.prefix_append _ _) h1, rr h2, h3⟩
    · rw [List.getElem?_append_right (Nat.le_of_not_lt hk)] at e
      have hk0 : k - mh.length = 0 := by
        rcases Nat.eq_zero_or_pos (k - mh.length) with z | z
        · exact z
        · rw [List.getElem?_eq_none (by simp only [List.length_cons, List.length_nil]; omega)] at e; cases e
      rw [hk0] at e
      have ey : xs = ys := by simpa using e
      subst ey
      refine ⟨p, vs, ?_, rr rx, hn⟩
      have : k = ρ.length := by rw [r.len]; omega
      subst this
      simp
/-- a list of ours is written -/
theorem Ext.write {nB k : Nat} {a : Addr} {vs : List V} {ws : List V} (nd : ρ.Nodup) (hk : ρ[k]? = some a) (hb : nB ≤ k) (ha : H a = some (.lst vs)) : Ext nB ρ H ρ (upd H a (.lst ws)) := by
  refine ⟨List.prefix_refl _, fun b o e h => ?_, fun _ h => .inl h, fun b e => ?_⟩
  · by_cases z : b = a
    · subst z
      rcases h with h | h
      · refine absurd (List.mem_iff_getElem?.mpr ⟨k - nB, ?_⟩) h
        rw [List.getElem?_drop, show nB + (k - nB) = k by omega]
        exact hk
      · rw [ha] at e; cases e; exact absurd rfl (h vs)
    · rw [upd_ne z]; exact e
  · by_cases z : b = a
    · rw [z, upd_same]; simp
    · rw [upd_ne z]; exact e
theorem HR.write {mh : MH} {k : Nat} {a : Addr} {vs ws : List V} {ys : List PV} (r : HR K ρ mh H) (hk : ρ[k]? = some a) (ha : H a = some (.lst vs)) (rw' : Reps K ρ H ws ys) : HR K ρ (mh.set k ys) (upd H a (.lst ws)) := by
  have x : Ext 0 ρ H ρ (upd H a (.lst ws)) := Ext.write r.nd hk (Nat.zero_le _) ha
  refine ⟨by simp [r.len], r.nd, fun j zs e => ?_⟩
  by_cases h : k = j
  · subst h
    have hl : k < mh.length := by
      have := (List.getElem?_eq_some_iff.mp e).1
      simpa using this
    rw [List.getElem?_set_self hl] at e
    cases e
    exact ⟨a, ws, hk, x.reps rw', upd_same⟩
  · rw [List.getElem?_set_ne h] at e
    obtain ⟨b, us, h1, h2, h3⟩ := r.at_ j zs e
    refine ⟨b, us, h1, x.reps h2, ?_⟩
    have ne : b ≠ a := fun z => by
      subst z
      obtain ⟨i1, i2⟩ := (List.getElem?_eq_some_iff.mp hk)
      obtain ⟨j1, j2⟩ := (List.getElem?_eq_some_iff.mp h1)
      have hp := List.pairwise_iff_getElem.mp r.nd
      rcases Nat.lt_trichotomy k j with q | q | q
      · exact hp k j i1 j1 q (i2.trans j2.symm)
      · exact h q
      · exact hp j k j1 i1 q (j2.trans i2.symm)
    rw [upd_ne ne]; exact h3
end
end Rf
end
section
/-! Rf: the operations on values. -/
namespace Rf
open PySem PySem.Spec PyProof.Rows L2

/-- what is wanted of a value -/
def PQ (K : PySem.W.Frag) (ρ : List Addr) (H : Hp) (B T' : MH) (v : PV) (Q : VK) : Prop :=
  ∀ ρ' H' x, Ext B.length ρ H ρ' H' → HR K ρ' (B ++ T') H' → Rep K ρ' H' x v → Q x H'
section
variable {K : PySem.W.Frag} {ρ : List Addr} {H : Hp} {B T : MH} {v : PV} {Q : VK} {x : V} {vs : List V} {xs : List PV}
theorem PQ.same (q : PQ K ρ H B T v Q) (h : HR K ρ (B ++ T) H) (r : Rep K ρ H x v) : Q x H := q ρ H x Ext.refl h r
theorem PQ.tup (q : PQ K ρ H B T (.tup xs) Q) (h : HR K ρ (B ++ T) H) (r : Reps K ρ H vs xs) : ∀ p, H p = none → Q (.ref p) (upd H p (.tup vs)) :=
  fun p np => q ρ _ _ (Ext.fresh np) (h.fresh np) (.tup (SqT.of upd_same) ((Ext.fresh (nB := 0) np).reps r))
theorem Ext.push {nB : Nat} {p : Addr} {o : HO} (h : H p = none) : Ext nB ρ H (ρ ++ [p]) (upd H p o) where
  pre := List.prefix_append _ _
  fr := (Ext.fresh (nB := nB) h).fr
  new := fun a ha => by
    rcases List.mem_append.mp ha with z | z
    · exact .inl z
    · have : a = p := by simpa using z
      subst this
      exact .inr h
  al := (Ext.fresh (nB := nB) (ρ := ρ) h).al
theorem PQ.lst (q : PQ K ρ H B (T ++ [xs]) (.ref (B.length + T.length)) Q) (h : HR K ρ (B ++ T) H) (r : Reps K ρ H vs xs) : ∀ p, H p = none → Q (.ref p) (upd H p (.lst vs)) := fun p np => by
  have hp : p ∉ ρ := h.out np
  have h2 : HR K (ρ ++ [p]) (B ++ (T ++ [xs])) (upd H p (.lst vs)) := by
    rw [← List.append_assoc]
    exact (h.fresh (o := .lst vs) np).push upd_same hp ((Ext.fresh (nB := 0) np).reps r)
  refine q (ρ ++ [p]) _ _ (Ext.push np) h2 (.ref ?_)
  have : B.length + T.length = ρ.length := by rw [h.len, List.length_append]
  rw [this]
  simp
theorem PQ.mk {w : PV} {T' : MH} (e : Rf.mk B T xs = some (w, T')) (q : PQ K ρ H B T' w Q) (h : HR K ρ (B ++ T) H) (r : Reps K ρ H vs xs) : vs.length ≤ sizeLine ∧ ∀ p, H p = none → Q (.ref p) (upd H p (.lst vs)) := by
  unfold Rf.mk at e
  split at e
  · rename_i hb
    cases e
    refine ⟨?_, q.lst h r⟩
    rw [r.length, sizeLine_eq]; exact hb
  · cases e
/-- a list of ours is written -/
theorem PQ.wr {k : Nat} {a : Addr} {us : List V} {ys : List PV} {w : PV} {T' : MH} {y : V} (q : PQ K ρ H B T' w Q) (e : Rf.wr B T k ys = some T') (h : HR K ρ (B ++ T) H) (hk : ρ[k]? = some a) (ha : H a = some (.lst us)) (r : Reps K ρ H vs ys) (ry : Rep K ρ H y w) : Q y (upd H a (.lst vs)) := by
  unfold Rf.wr at e
  split at e
  · rename_i hb
    cases e
    have x : Ext B.length ρ H ρ (upd H a (.lst vs)) := Ext.write h.nd hk hb.1 ha
    refine q ρ _ _ x ?_ (x.rep ry)
    have := h.write hk ha r
    rw [List.set_append_right _ _ hb.1] at this
    exact this
  · cases e
theorem big_eq : big = sizeLine := by rw [sizeLine_eq]; rfl
end

/-- a two-place operation on plain values -/
def rO (K : PySem.W.Frag) (f : MH → MH → PV → PV → M) : R2 := fun x y H Q => ∃ ρ B T vx vy v T', HR K ρ (B ++ T) H ∧ Rep K ρ H x vx ∧ Rep K ρ H y vy ∧ f B T vx vy = some (v, T') ∧ PQ K ρ H B T' v Q

def opOf : BO → Operator
  | .add => .Add | .sub => .Sub | .mul => .Mult | .fdiv => .FloorDiv | .mod => .Mod | .pow => .Pow
section
variable {X : Cx}
theorem Reps.ne_nil {K : PySem.W.Frag} {ρ : List Addr} {H : Hp} {vs : List V} {xs : List PV} (r : Reps K ρ H vs xs) : vs = [] ↔ xs = [] := by
  cases r <;> simp
theorem mulOk_ok {i j : Int} (h : mulOk i j = true) : CMulW i j := by
  unfold CMulW
  unfold mulOk at h
  exact of_decide_eq_true h
theorem divOk_ok {j : Int} (h : divOk j = true) (i : Int) : CDivW i j := by
  unfold divOk at h
  rw [Bool.and_eq_true] at h
  exact ⟨of_decide_eq_true h.1, of_decide_eq_true h.2⟩

/-! ### tuple * 1 -/
theorem tuple_mul1 (l : Addr) (items : Array Value) (n : Nat) (dd : Option Addr) (sl : Array (Option Value)) (x : Int) (u : Tok) (c0 : (decide (x < -(2 ^ 63)) || decide (x ≥ 2 ^ 63)) = false) (c1 : (items.isEmpty || x == 1) = true) :
    Meets (Builtin.«tuple.__mul__» ⟨[.ref l, .int x u], []⟩) (fun _ R s => s.heap.get? l = some { cls := .type "tuple", dict := dd, data := .seq items n, slots := sl } ∧
      R (.ok (.ret (Value.ref l))) s) :=
  .of_wp fun prog w A R s h => by
    obtain ⟨hp, g, d, tk, os⟩ := s
    obtain ⟨hl, h⟩ := h
    have f1 := AutoSeq1.idx_int
    wp_walk using wpAny_loadPart' hl
    repeat (first
      | (refine wpAny_ite_false (decide_eq_false (by rw [c0]; exact Bool.false_ne_true)) ?_; wp_walk using wpAny_loadPart' hl)
      | (refine wpAny_ite_true (decide_eq_true (by rw [c1])) ?_; wp_walk using wpAny_loadPart' hl))
    all_goals first | exact ⟨_, rfl, h⟩ | skip
theorem op_rep1 : OpR X (binaryOp .Mult) (fun x y H Q => ∃ l xs, x = .ref l ∧ y = .int 1 ∧ SqT X.K H l xs ∧ Q (.ref l) H) := by
  intro pins s σ H x y v u Q I rx ry h
  obtain ⟨l, xs, rfl, rfl, hT, q⟩ := h
  cases rx
  obtain ⟨t, rfl⟩ := ry
  obtain ⟨its, r, ⟨⟨cls, dd, data, sl⟩, ho, hc, n, hd⟩, hs⟩ := I.tuple hT
  simp only at hc hd
  subst hc hd
  refine wpAny_binaryOp_repeat_ref (T := "tuple") (U := "int") (by decide) ⟨_, ho, rfl⟩ (fun s' => typeIs_int s' 1 t) noFill_tuple_mul F.fills_int_mul F.slot_int_rmul repeat_tuple F.slot_int_index.lookup
    (call_meets F.slot_int_rmul (typeIs_int s 1 t) F.entry_int_rmul (F.args_int_rmul_2 _ _) (int_rmul_tuple 1 t l its.toArray n dd sl)
      ⟨ho, rfl, ⟨_, ho, rfl⟩, call_meets F.slot_tuple_mul ⟨_, ho, rfl⟩ F.entry_tuple_mul (F.args_tuple_mul_2 _ _) (tuple_mul1 l its.toArray n dd sl 1 t (by decide) (by simp)) ⟨ho, ?_⟩⟩)
  exact ⟨.ref l, H, I, rfl, q⟩
theorem op_bin (o : BO) : OpR X (binaryOp (opOf o)) (rO X.K fun B T => bin B T o) := by
  intro pins s σ H x y v u Q I rx ry h
  obtain ⟨ρ, B, T, vx, vy, w, T', hr, r1, r2, e, q⟩ := h
  change bin B T o vx vy = some (w, T') at e
  unfold bin at e
  split at e
  · cases r1; cases r2; cases e
    exact op_add pins s σ H _ _ v u Q I rx ry ⟨_, _, rfl, rfl, q.same hr (.int _)⟩
  · rename_i xs ys
    cases r1 with
    | tup h1 s1 =>
      cases r2 with
      | tup h2 s2 =>
        unfold tup' at e
        split at e
        · rename_i hb
          cases e
          refine op_catA pins s σ H _ _ v u Q I rx ry ⟨_, _, _, _, rfl, rfl, h1, h2, ?_, fun z => ?_, fun _ z => ?_, fun _ _ => q.tup hr (s1.append s2)⟩
          · rw [s1.length, s2.length, sizeLine_eq]
            rw [List.length_append] at hb
            exact hb
          · have z2 := s1.ne_nil.mp z
            subst z2
            exact q.same hr (.tup h2 s2)
          · have z2 := s2.ne_nil.mp z
            subst z2
            rw [List.append_nil] at q
            exact q.same hr (.tup h1 s1)
        · cases e
  · rename_i a b
    cases r1 with
    | ref h1 =>
      cases r2 with
      | ref h2 =>
        split at e
        · obtain ⟨xs, e1, e⟩ := Option.bind_eq_some_iff.mp e
          obtain ⟨ys, e2, e⟩ := Option.bind_eq_some_iff.mp e
          obtain ⟨a1, v1, k1, s1, t1⟩ := hr.rd e1
          obtain ⟨a2, v2, k2, s2, t2⟩ := hr.rd e2
          rw [h1] at k1; cases k1
          rw [h2] at k2; cases k2
          obtain ⟨z, q⟩ := PQ.mk e q hr (s1.append s2)
          exact op_cat pins s σ H _ _ v u Q I rx ry ⟨_, _, _, _, rfl, rfl, t1, t2, by simpa using z, q⟩
        · cases e
  · cases r1; cases r2; cases e
    exact op_sub pins s σ H _ _ v u Q I rx ry ⟨_, _, rfl, rfl, q.same hr (.int _)⟩
  · cases r1; cases r2
    split at e
    · rename_i hm
      cases e
      exact op_mulW pins s σ H _ _ v u Q I rx ry ⟨_, _, rfl, rfl, mulOk_ok hm, q.same hr (.int _)⟩
    · cases e
  · rename_i xs k
    cases r1 with
    | tup h1 s1 =>
      cases r2
      split at e
      · rename_i hb
        cases e
        rw [Bool.and_eq_true, Bool.and_eq_true, Bool.and_eq_true] at hb
        obtain ⟨b1, b2, b3, b4⟩ := hb
        have b1 := of_decide_eq_true b1
        have b2 := of_decide_eq_true b2
        have b3 := of_decide_eq_true b3
        by_cases hk : k = 1
        · subst hk
          refine op_rep1 pins s σ H _ _ v u Q I rx ry ⟨_, _, rfl, rfl, h1, ?_⟩
          have er : repL xs 1 = xs := by unfold repL; simp
          rw [er] at q
          exact q.same hr (.tup h1 s1)
        · refine op_repT pins s σ H _ _ v u Q I rx ry ⟨_, _, _, rfl, rfl, h1, fun z => ?_, by omega, b2, by rw [s1.length]; exact b1, q.tup hr (s1.flat_rep _)⟩
          rw [s1.ne_nil.mp z] at b4
          cases b4
      · cases e
  · rename_i a k
    cases r1 with
    | ref h1 =>
      cases r2
      split at e
      · rename_i hb
        rw [Bool.and_eq_true, Bool.and_eq_true] at hb
        obtain ⟨b1, b2, b3⟩ := hb
        obtain ⟨xs, e1, e⟩ := Option.bind_eq_some_iff.mp e
        split at e
        · rename_i hz
          obtain ⟨a1, v1, k1, s1, t1⟩ := hr.rd e1
          rw [h1] at k1; cases k1
          obtain ⟨z, q⟩ := PQ.mk e q hr (s1.flat_rep _)
          exact op_rep pins s σ H _ _ v u Q I rx ry ⟨_, _, _, rfl, rfl, t1, of_decide_eq_true b2, of_decide_eq_true b3, by rw [s1.length, ← big_eq]; exact hz, q⟩
        · cases e
      · cases e
  · cases r1; cases r2
    split at e
    · rename_i hm
      cases e
      exact op_fdivW pins s σ H _ _ v u Q I rx ry ⟨_, _, rfl, rfl, divOk_ok hm _, q.same hr (.int _)⟩
    · cases e
  · cases r1; cases r2
    split at e
    · rename_i hm
      cases e
      exact op_mod pins s σ H _ _ v u Q I rx ry ⟨_, _, rfl, rfl, of_decide_eq_true hm, q.same hr (.int _)⟩
    · cases e
  · cases r1; cases r2
    split at e
    · rename_i hm
      cases e
      rw [Bool.and_eq_true, Bool.and_eq_true] at hm
      exact op_pow pins s σ H _ _ v u Q I rx ry ⟨_, _, rfl, rfl, ⟨of_decide_eq_true hm.1, of_decide_eq_true hm.2.1, of_decide_eq_true hm.2.2⟩, q.same hr (.int _)⟩
    · cases e
  · cases e

/-! ### comparisons -/
mutual
theorem rep_dp {K : PySem.W.Frag} {ρ : List Addr} {H : Hp} : ∀ {v : V} {x : PV}, Rep K ρ H v x → x.noRef = true → Dp K H v x.toD
  | _, _, .non, _ => .non
  | _, _, .bl b, _ => .bl b
  | _, _, .int i, _ => .int i
  | _, _, .str z, _ => .str z
  | _, _, .tup h r, e => .tup h (reps_dp r e)
  | _, _, .ref _, e => by cases e
  | _, _, .scr _, e => by cases e
theorem reps_dp {K : PySem.W.Frag} {ρ : List Addr} {H : Hp} : ∀ {vs : List V} {xs : List PV}, Reps K ρ H vs xs → noRefs xs = true → DpAll K H vs (toDs xs)
  | _, _, .nil, _ => .nil
  | _, _, .cons h r, e => by
    have e' := Bool.and_eq_true_iff.mp (show (_ && _) = true from e)
    exact .cons (rep_dp h e'.1) (reps_dp r e'.2)
end
theorem flat_ok {K : PySem.W.Frag} {ρ : List Addr} {H : Hp} {v : V} {x : PV} (r : Rep K ρ H v x) (f : flat x = true) : flatV v = true := by
  cases r <;> first | rfl | (exact absurd f Bool.false_ne_true)
theorem scEq_ok {K : PySem.W.Frag} {ρ : List Addr} {H : Hp} {v w : V} {x y : PV} (r : Rep K ρ H v x) (s : Rep K ρ H w y) (f : flat x = true) (g : flat y = true) : scEq x y = eqV v w := by
  cases r <;> first | (exact absurd f Bool.false_ne_true) | (cases s <;> first | (exact absurd g Bool.false_ne_true) | rfl | (rename_i a b; exact (Bool.beq_eq_decide_eq _ _).symm))
theorem flats_ok {K : PySem.W.Frag} {ρ : List Addr} {H : Hp} : ∀ {vs : List V} {xs : List PV}, Reps K ρ H vs xs → xs.all flat = true → vs.all flatV = true
  | _, _, .nil, _ => rfl
  | _, _, .cons h r, e => by
    rw [List.all_cons, Bool.and_eq_true] at e ⊢
    exact ⟨flat_ok h e.1, flats_ok r e.2⟩
theorem inV_ok {K : PySem.W.Frag} {ρ : List Addr} {H : Hp} {w : V} {y : PV} (s : Rep K ρ H w y) (g : flat y = true) : ∀ {vs : List V} {xs : List PV}, Reps K ρ H vs xs → xs.all flat = true → inV w vs = xs.any fun z => scEq z y
  | _, _, .nil, _ => rfl
  | _, _, .cons h r, e => by
    rw [List.all_cons, Bool.and_eq_true] at e
    have ih := inV_ok s g r e.2
    unfold inV at ih ⊢
    rw [List.any_cons, List.any_cons, ih, scEq_ok h s e.1 g]
theorem items_ok {K : PySem.W.Frag} {ρ : List Addr} {H : Hp} {B T : MH} {v : V} {x : PV} {xs : List PV} (hr : HR K ρ (B ++ T) H) (r : Rep K ρ H v x) (e : items B T x = some xs) :
    ∃ a vs, v = .ref a ∧ (SqL K H a vs ∨ SqT K H a vs) ∧ Reps K ρ H vs xs := by
  cases r with
  | tup h s => cases e; exact ⟨_, _, rfl, .inr h, s⟩
  | ref h =>
    obtain ⟨a, vs, k, s, t⟩ := hr.rd e
    rw [h] at k; cases k
    exact ⟨_, _, rfl, .inl (.of t), s⟩
  | @scr a ns h =>
    cases e
    refine ⟨_, _, rfl, .inl h.sq, ?_⟩
    have : ∀ ns : List Int, Reps K ρ H (ns.map V.int) (ns.map PV.int) := fun ns => by
      induction ns with
      | nil => exact .nil
      | cons i r ih => exact .cons (.int i) ih
    exact this ns
  | _ => cases e
def cmpOf : CO → CmpOp
  | .eq => .Eq | .ne => .NotEq | .lt => .Lt | .le => .LtE | .gt => .Gt | .ge => .GtE | .is => .Is | .isnot => .IsNot | .isin => .In | .notin => .NotIn
theorem op_cmp (hu : X.A.units + 64 < cLine) (o : CO) : OpR X (compareOp (cmpOf o)) (rO X.K fun B T x y => (cmp B T o x y).map fun r => (.bl r, T)) := by
  intro pins s σ H x y v u Q I rx ry h
  obtain ⟨ρ, B, T, vx, vy, w, T', hr, r1, r2, e, q⟩ := h
  obtain ⟨c, e2, ew⟩ := Option.map_eq_some_iff.mp e
  clear e
  have e := e2
  clear e2
  cases ew
  have fin : Q (.bl c) H := q.same hr (.bl c)
  clear q
  have mem : ∀ {m : Bool}, memb B T vx vy = some m → ∃ p zs, y = .ref p ∧ (SqL X.K H p zs ∨ SqT X.K H p zs) ∧ flatV x = true ∧ zs.all flatV = true ∧ inV x zs = m := fun {m} e => by
    unfold memb at e
    obtain ⟨ys, e1, e⟩ := Option.bind_eq_some_iff.mp e
    split at e
    · rename_i hf
      rw [Bool.and_eq_true] at hf
      cases e
      obtain ⟨a, zs, e2, sq, rs⟩ := items_ok hr r2 e1
      exact ⟨a, zs, e2, sq, flat_ok r1 hf.1, flats_ok rs hf.2, inV_ok r1 hf.1 rs hf.2⟩
    · cases e
  have eqd : ∀ {m : Bool}, eqv vx vy = some m → Dp X.K H x vx.toD ∧ Dp X.K H y vy.toD ∧ SeqAt.shaped vx.toD = true ∧ SeqAt.shaped vy.toD = true ∧ PyData.eqv vx.toD vy.toD = m := fun {m} e => by
    unfold eqv at e
    split at e
    · rename_i hf
      unfold eqOk at hf
      simp only [Bool.and_eq_true] at hf
      cases e
      exact ⟨rep_dp r1 hf.1.1, rep_dp r2 hf.2.1, hf.1.2, hf.2.2, rfl⟩
    · cases e
  unfold cmp at e
  split at e
  · obtain ⟨d1, d2, s1, s2, e⟩ := eqd e
    subst e
    exact op_eqD hu pins s σ H x y v u Q I rx ry ⟨_, _, d1, d2, s1, s2, fin⟩
  · obtain ⟨m, e, ec⟩ := Option.map_eq_some_iff.mp e
    obtain ⟨d1, d2, s1, s2, e⟩ := eqd e
    subst e ec
    exact op_neD hu pins s σ H x y v u Q I rx ry ⟨_, _, d1, d2, s1, s2, fin⟩
  · cases r1; cases r2; cases e
    exact op_lt pins s σ H _ _ v u Q I rx ry ⟨_, _, rfl, rfl, fin⟩
  · cases r1; cases r2; cases e
    exact op_le pins s σ H _ _ v u Q I rx ry ⟨_, _, rfl, rfl, fin⟩
  · cases r1; cases r2; cases e
    exact op_gt pins s σ H _ _ v u Q I rx ry ⟨_, _, rfl, rfl, fin⟩
  · cases r1; cases r2; cases e
    exact op_ge pins s σ H _ _ v u Q I rx ry ⟨_, _, rfl, rfl, fin⟩
  all_goals first
    | (cases r1; cases r2; cases e; exact op_isN pins s σ H _ _ v u Q I rx ry ⟨rfl, fin⟩)
    | (cases r1; cases r2; cases e; exact op_notN pins s σ H _ _ v u Q I rx ry ⟨rfl, fin⟩)
    | skip
  · obtain ⟨p, zs, e1, sq, f1, f2, e2⟩ := mem e
    exact op_in_seq pins s σ H _ _ v u Q I rx ry ⟨p, zs, e1, sq, f1, f2, by rw [e2]; exact fin⟩
  · obtain ⟨m, e, ec⟩ := Option.map_eq_some_iff.mp e
    obtain ⟨p, zs, e1, sq, f1, f2, e2⟩ := mem e
    subst ec
    exact op_notIn_seq pins s σ H _ _ v u Q I rx ry ⟨p, zs, e1, sq, f1, f2, by rw [e2]; exact fin⟩
  · cases e
end
end Rf
end
section
/-! Rf: built-ins, methods, subscripts on values. -/
namespace Rf
open PySem PySem.Spec PyProof.Rows L2
section
variable {K : PySem.W.Frag} {ρ : List Addr} {H : Hp} {B T : MH}
theorem tru_v {v : V} {x : PV} {b : Bool} (hr : HR K ρ (B ++ T) H) (r : Rep K ρ H v x) (e : tru B T x = some b) : TruV K v H b := by
  cases r with
  | non => cases e; rfl
  | bl c => cases e; rfl
  | int i => cases e; rfl
  | str z => cases e
  | tup h s =>
    cases e
    refine .inr (.inl ⟨_, h, ?_⟩)
    cases s <;> rfl
  | ref h =>
    obtain ⟨xs, e1, e2⟩ := Option.map_eq_some_iff.mp (show (rd B T _).map _ = _ from e)
    obtain ⟨a, vs, k, s, t⟩ := hr.rd e1
    rw [h] at k; cases k
    refine .inl ⟨_, .of t, ?_⟩
    rw [← e2]
    cases s <;> rfl
  | scr h => cases e
theorem asInts_ok : ∀ {vs : List V} {xs : List PV} {ns : List Int}, Reps K ρ H vs xs → asInts xs = some ns → vs = ns.map V.int
  | _, _, _, .nil, e => by cases e; rfl
  | _, _, _, .cons h r, e => by
    cases h with
    | int i =>
      obtain ⟨ms, e1, e2⟩ := Option.map_eq_some_iff.mp (show (asInts _).map _ = _ from e)
      subst e2
      rw [List.map_cons, asInts_ok r e1]
    | _ => cases e
theorem asBls_ok : ∀ {vs : List V} {xs : List PV} {ns : List Bool}, Reps K ρ H vs xs → asBls xs = some ns → vs = ns.map V.bl
  | _, _, _, .nil, e => by cases e; rfl
  | _, _, _, .cons h r, e => by
    cases h with
    | bl i =>
      obtain ⟨ms, e1, e2⟩ := Option.map_eq_some_iff.mp (show (asBls _).map _ = _ from e)
      subst e2
      rw [List.map_cons, asBls_ok r e1]
    | _ => cases e
theorem Reps.one {vs : List V} {x : PV} (r : Reps K ρ H vs [x]) : ∃ v, vs = [v] ∧ Rep K ρ H v x := by
  cases r with
  | cons h r => cases r; exact ⟨_, rfl, h⟩
theorem Reps.two {vs : List V} {x y : PV} (r : Reps K ρ H vs [x, y]) : ∃ v w, vs = [v, w] ∧ Rep K ρ H v x ∧ Rep K ρ H w y := by
  cases r with
  | cons h r =>
    obtain ⟨w, e, q⟩ := r.one
    subst e
    exact ⟨_, _, rfl, h, q⟩
end
/-- a call on plain values -/
def rA (K : PySem.W.Frag) (f : MH → MH → List PV → M) : List V → Hp → VK → Prop := fun vs H Q => ∃ ρ B T xs v T', HR K ρ (B ++ T) H ∧ Reps K ρ H vs xs ∧ f B T xs = some (v, T') ∧ PQ K ρ H B T' v Q
def biNm : BI → Str
  | .len => "len" | .abs => "abs" | .int => "int" | .tuple => "tuple" | .list => "list" | .sum => "sum" | .all => "all" | .any => "any" | .max => "max" | .min => "min" | .divmod => "divmod"
def biV : BI → Value
  | .len => .builtin "len" | .abs => .builtin "abs" | .int => .type "int" | .tuple => .type "tuple" | .list => .type "list" | .sum => .builtin "sum" | .all => .builtin "all" | .any => .builtin "any" | .max => .builtin "max" | .min => .builtin "min" | .divmod => .builtin "divmod"
section
variable {X : Cx}
theorem bi_ok (hc : X.calm = true) (o : BI) : CallR X (biV o) (rA X.K fun B T => bi B T o) := by
  intro pins s σ H vs us Q I rv h
  obtain ⟨ρ, B, T, xs, w, T', hr, rx, e, q⟩ := h
  change bi B T o xs = some (w, T') at e
  unfold bi at e
  split at e
  · obtain ⟨ys, e1, e2⟩ := Option.map_eq_some_iff.mp e
    cases e2
    obtain ⟨v, ev, r⟩ := rx.one
    subst ev
    obtain ⟨a, zs, ea, sq, rs⟩ := items_ok hr r e1
    subst ea
    exact call_len_seq pins s σ H _ us Q I rv ⟨a, zs, rfl, sq, by rw [rs.length]; exact q.same hr (.int _)⟩
  · cases e
    obtain ⟨v, ev, r⟩ := rx.one
    cases r; subst ev
    exact call_abs pins s σ H _ us Q I rv ⟨_, rfl, q.same hr (.int _)⟩
  · cases e
    obtain ⟨v, ev, r⟩ := rx.one
    cases r; subst ev
    exact call_int1 pins s σ H _ us Q I rv (.inl ⟨_, rfl, q.same hr (.int _)⟩)
  · obtain ⟨ys, e1, e2⟩ := Option.map_eq_some_iff.mp e
    cases e2
    obtain ⟨v, ev, r⟩ := rx.one
    subst ev
    obtain ⟨a, zs, ea, sq, rs⟩ := items_ok hr r e1
    subst ea
    refine call_tuple_of pins s σ H _ us Q I rv ⟨a, zs, rfl, ?_⟩
    rcases sq with sq | sq
    · exact .inl ⟨sq, q.tup hr rs⟩
    · exact .inr ⟨sq, q.same hr (.tup sq rs)⟩
  · obtain ⟨ys, e1, e2⟩ := Option.bind_eq_some_iff.mp e
    obtain ⟨v, ev, r⟩ := rx.one
    subst ev
    obtain ⟨a, zs, ea, sq, rs⟩ := items_ok hr r e1
    subst ea
    exact call_list_of pins s σ H _ us Q I rv ⟨a, zs, rfl, sq, (PQ.mk e2 q hr rs).2⟩
  · obtain ⟨ys, e1, e2⟩ := Option.bind_eq_some_iff.mp e
    obtain ⟨ns, e4, e3⟩ := Option.map_eq_some_iff.mp e2
    cases e3
    obtain ⟨v, ev, r⟩ := rx.one
    cases r with
    | ref hk =>
      subst ev
      obtain ⟨a, zs, k, rs, t⟩ := hr.rd e1
      rw [hk] at k; cases k
      have ez := asInts_ok rs e4
      subst ez
      exact cr_sum hc pins s σ H _ us Q I rv ⟨_, ns, rfl, .of t, q.same hr (.int _)⟩
  · obtain ⟨ys, e1, e2⟩ := Option.bind_eq_some_iff.mp e
    obtain ⟨ns, e4, e3⟩ := Option.map_eq_some_iff.mp e2
    cases e3
    obtain ⟨v, ev, r⟩ := rx.one
    cases r with
    | ref hk =>
      subst ev
      obtain ⟨a, zs, k, rs, t⟩ := hr.rd e1
      rw [hk] at k; cases k
      have ez := asBls_ok rs e4
      subst ez
      exact cr_all hc pins s σ H _ us Q I rv ⟨_, ns, rfl, .of t, q.same hr (.bl _)⟩
  · obtain ⟨ys, e1, e2⟩ := Option.bind_eq_some_iff.mp e
    obtain ⟨ns, e4, e3⟩ := Option.map_eq_some_iff.mp e2
    cases e3
    obtain ⟨v, ev, r⟩ := rx.one
    cases r with
    | ref hk =>
      subst ev
      obtain ⟨a, zs, k, rs, t⟩ := hr.rd e1
      rw [hk] at k; cases k
      have ez := asBls_ok rs e4
      subst ez
      exact cr_any hc pins s σ H _ us Q I rv ⟨_, ns, rfl, .of t, q.same hr (.bl _)⟩
  · cases e
    obtain ⟨v, v2, ev, r, r2⟩ := rx.two
    cases r; cases r2; subst ev
    exact call_max2 hc pins s σ H _ us Q I rv ⟨_, _, rfl, q.same hr (.int _)⟩
  · cases e
    obtain ⟨v, v2, ev, r, r2⟩ := rx.two
    cases r; cases r2; subst ev
    exact call_min2 hc pins s σ H _ us Q I rv ⟨_, _, rfl, q.same hr (.int _)⟩
  · split at e
    · rename_i hb
      cases e
      rw [Bool.and_eq_true] at hb
      obtain ⟨v, v2, ev, r, r2⟩ := rx.two
      cases r; cases r2; subst ev
      exact call_divmod pins s σ H _ us Q I rv ⟨_, _, rfl, ⟨(divOk_ok hb.1 0).1, of_decide_eq_true hb.2⟩, q.tup hr (.cons (.int _) (.cons (.int _) .nil))⟩
    · cases e
  · cases e
theorem bi_boot (o : BI) : bootBuiltins (biNm o) = some (biV o) := by
  cases o <;> decide +kernel
theorem bi_dbg (o : BI) : (biNm o == ("__debug__" : Str)) = false ∧ biNm o ≠ "__name__" := by
  cases o <;> decide +kernel

/-! ### isinstance -/
def TY.v (o : TY) : V := .ty o.nm
theorem isTy_ok {K : PySem.W.Frag} {ρ : List Addr} {H : Hp} {B T : MH} {v : V} {x : PV} (hr : HR K ρ (B ++ T) H) (hx : ∀ k, x = .ref k → ∃ xs, rd B T k = some xs) (r : Rep K ρ H v x) (o : TY) : ∃ t, TyX K H v (.type t) ∧ kitB t o.nm = some (isTy o x) := by
  cases r with
  | non => exact ⟨_, .base .non, by cases o <;> (simp only [isTy, TY.nm]; decide +kernel)⟩
  | bl b => exact ⟨_, .base (.bl b), by cases o <;> (simp only [isTy, TY.nm]; decide +kernel)⟩
  | int b => exact ⟨_, .base (.int b), by cases o <;> (simp only [isTy, TY.nm]; decide +kernel)⟩
  | str b => exact ⟨_, .base (.str b), by cases o <;> (simp only [isTy, TY.nm]; decide +kernel)⟩
  | tup h s =>
    refine ⟨"tuple", ?_, by cases o <;> (simp only [isTy, TY.nm]; decide +kernel)⟩
    rcases h with (h | ⟨u, h⟩) | ⟨u, its, n, h1, h2, _⟩
    · exact .base (.tup h)
    · exact .fTuple h
    · exact .kTuple h1 h2
  | ref h =>
    refine ⟨"list", ?_, by cases o <;> (simp only [isTy, TY.nm]; decide +kernel)⟩
    obtain ⟨xs, e⟩ := hx _ rfl
    obtain ⟨a, vs, k, s, t⟩ := hr.rd e
    rw [h] at k; cases k
    exact .base (.lst t)
  | scr h =>
    refine ⟨"list", ?_, by cases o <;> (simp only [isTy, TY.nm]; decide +kernel)⟩
    rcases h with ⟨u, h⟩ | ⟨u, its, n, h1, h2, _⟩
    · exact .base (.frz h)
    · exact .kList h1 h2
theorem ref_in {K : PySem.W.Frag} {ρ : List Addr} {H : Hp} {B T : MH} {v : V} {x : PV} (hr : HR K ρ (B ++ T) H) (r : Rep K ρ H v x) : ∀ k, x = .ref k → ∃ xs, rd B T k = some xs := fun k e => by
  subst e
  cases r with
  | ref h =>
    have hl := (List.getElem?_eq_some_iff.mp h).1
    rw [hr.len] at hl
    exact ⟨_, List.getElem?_eq_getElem hl⟩
theorem ty_boot (o : TY) : bootBuiltins (Str.ofString o.nm) = some (.type o.nm) := by
  cases o <;> decide +kernel
theorem ty_dbg (o : TY) : (Str.ofString o.nm == ("__debug__" : Str)) = false ∧ Str.ofString o.nm ≠ "__name__" := by
  cases o <;> decide +kernel

/-! ### subscripts -/
theorem ix_ok : IxR X (rO X.K fun B T x i => (getIx B T x i).map fun v => (v, T)) := by
  intro value slice pins s σ H x y v u Q I rx ry h hs
  obtain ⟨ρ, B, T, vx, vy, w, T', hr, r1, r2, e0, q⟩ := h
  obtain ⟨z, e, ew⟩ := Option.map_eq_some_iff.mp e0
  cases ew
  unfold getIx at e
  split at e
  · rename_i i
    cases r2
    obtain ⟨xs, e1, e⟩ := Option.bind_eq_some_iff.mp e
    obtain ⟨j, e2, e3⟩ := Option.bind_eq_some_iff.mp e
    obtain ⟨a, vs, ea, sq, rs⟩ := items_ok hr r1 e1
    subst ea
    obtain ⟨zv, e4, rz⟩ := rs.get e3
    have at1 : atI vs i = some zv := by
      unfold atI
      rw [rs.length, e2]
      exact e4
    rcases sq with sq | sq
    · exact ix_list value slice pins s σ H _ _ v u Q I rx ry ⟨a, vs, i, zv, rfl, rfl, sq, at1, q.same hr rz⟩ hs
    · exact ix_tup value slice pins s σ H _ _ v u Q I rx ry ⟨a, vs, i, zv, rfl, rfl, sq, at1, q.same hr rz⟩ hs
  · cases e
def rSl (K : PySem.W.Frag) : V → Option Int → Option Int → Hp → VK → Prop := fun x lo hi H Q => ∃ ρ B T vx w T', HR K ρ (B ++ T) H ∧ Rep K ρ H x vx ∧ slc B T vx lo hi = some (w, T') ∧ PQ K ρ H B T' w Q
theorem cut_whole (xs : List PV) {lo hi : Option Int} (h : HT.sIx xs.length 0 lo = 0 ∧ HT.sIx xs.length xs.length hi = xs.length) : cut xs lo hi = xs := by
  unfold cut
  rw [h.1, h.2]
  simp
theorem sl_ok : SlR X (rSl X.K) := by
  intro pins s σ H x v vl vu lo hi sl Q I rx hs pl pu h
  obtain ⟨ρ, B, T, vx, w, T', hr, r1, e, q⟩ := h
  unfold slc at e
  split at e
  · cases e
    cases r1 with
    | tup h s1 =>
      refine sl_tupA pins s σ H _ v vl vu lo hi sl Q I rx hs pl pu ⟨_, _, rfl, h, fun z => ?_, fun _ => q.tup hr (s1.cut lo hi)⟩
      rw [s1.length] at z
      rw [cut_whole _ z] at q
      exact q.same hr (.tup h s1)
  · obtain ⟨xs, e1, e⟩ := Option.bind_eq_some_iff.mp e
    cases r1 with
    | ref h =>
      obtain ⟨a, vs, k, s1, t⟩ := hr.rd e1
      rw [h] at k; cases k
      exact sl_list pins s σ H _ v vl vu lo hi sl Q I rx hs pl pu ⟨_, _, rfl, .of t, (PQ.mk e q hr (s1.cut lo hi)).2⟩
  · cases e

/-! ### methods of lists -/
def mtNm : MT → Str
  | .append => "append" | .pop => "pop" | .popAt => "pop" | .insert => "insert" | .index => "index"
def mtId : MT → String
  | .append => "list.append" | .pop => "list.pop" | .popAt => "list.pop" | .insert => "list.insert" | .index => "list.index"
def rM (K : PySem.W.Frag) (f : MH → MH → PV → List PV → M) : V → List V → Hp → VK → Prop := fun x vs H Q => ∃ ρ B T vx xs v T', HR K ρ (B ++ T) H ∧ Rep K ρ H x vx ∧ Reps K ρ H vs xs ∧ f B T vx xs = some (v, T') ∧ PQ K ρ H B T' v Q
theorem ixN_some {n : Nat} {i : Int} {j : Nat} (h : L2.ixN n i = some j) : seqIndex? i n = some j ∧ j < n ∧ -(n : Int) ≤ i ∧ i < n := ixN_seq h
theorem findIx_ok {K : PySem.W.Frag} {ρ : List Addr} {H : Hp} {w : V} {y : PV} (s : Rep K ρ H w y) (g : flat y = true) : ∀ {vs : List V} {xs : List PV} {j : Nat}, Reps K ρ H vs xs → xs.all flat = true → findIx y xs = some j →
    ∃ z, vs[j]? = some z ∧ eqV z w = true ∧ ∀ (m : Nat) (z' : V), m < j → vs[m]? = some z' → eqV z' w = false
  | _, _, _, .nil, _, e => by cases e
  | v :: vs, x :: xs, j, .cons h r, f, e => by
    rw [List.all_cons, Bool.and_eq_true] at f
    unfold findIx at e
    split at e
    · rename_i hb
      cases e
      exact ⟨v, rfl, by rw [← scEq_ok h s f.1 g]; exact hb, fun m z' hm => absurd hm (Nat.not_lt_zero _)⟩
    · rename_i hb
      obtain ⟨k, e1, e2⟩ := Option.map_eq_some_iff.mp e
      subst e2
      obtain ⟨z, h1, h2, h3⟩ := findIx_ok s g r f.2 e1
      refine ⟨z, by simpa using h1, h2, fun m z' hm ez => ?_⟩
      cases m with
      | zero =>
        cases ez
        rw [← scEq_ok h s f.1 g]
        exact Bool.eq_false_iff.mpr hb
      | succ m => exact h3 m z' (by omega) (by simpa using ez)
theorem mt_ok (o : MT) : MtR X (mtId o) (rM X.K fun B T => mt B T o) := by
  intro pins s σ H x vs v us Q I rx rv h
  obtain ⟨ρ, B, T, vx, xs, w, T', hr, r1, rs, e, q⟩ := h
  have hI := I
  change mt B T o vx xs = some (w, T') at e
  unfold mt at e
  split at e
  · rename_i k y
    cases r1 with
    | @ref a _ hk =>
      obtain ⟨ys, e1, e⟩ := Option.bind_eq_some_iff.mp e
      obtain ⟨a', zs, k', s1, t⟩ := hr.rd e1
      rw [hk] at k'; cases k'
      obtain ⟨vy, ev, ry⟩ := rs.one
      subst ev
      split at e
      · rename_i hb
        obtain ⟨T2, e2, e3⟩ := Option.map_eq_some_iff.mp e
        cases e3
        exact mt_append pins s σ H _ _ v us Q I rx rv ⟨a, zs, vy, rfl, rfl, t, by rw [s1.length, ← big_eq]; exact hb, q.wr e2 hr hk t (s1.snoc ry) .non⟩
      · cases e
  · rename_i k
    cases r1 with
    | @ref a _ hk =>
      obtain ⟨ys, e1, e⟩ := Option.bind_eq_some_iff.mp e
      obtain ⟨a', zs, k', s1, t⟩ := hr.rd e1
      rw [hk] at k'; cases k'
      cases rs
      obtain ⟨y, e2, e⟩ := Option.bind_eq_some_iff.mp e
      obtain ⟨T2, e3, e4⟩ := Option.map_eq_some_iff.mp e
      cases e4
      obtain ⟨vy, e5, ry⟩ := s1.get e2
      exact mt_pop pins s σ H _ _ v us Q I rx rv ⟨a, zs, vy, rfl, rfl, t, by rw [s1.length]; exact e5, q.wr e3 hr hk t s1.dropLast ry⟩
  · rename_i k i
    cases r1 with
    | @ref a _ hk =>
      obtain ⟨ys, e1, e⟩ := Option.bind_eq_some_iff.mp e
      obtain ⟨a', zs, k', s1, t⟩ := hr.rd e1
      rw [hk] at k'; cases k'
      obtain ⟨vi, ev, ri⟩ := rs.one
      cases ri
      subst ev
      obtain ⟨j, e2, e⟩ := Option.bind_eq_some_iff.mp e
      obtain ⟨y, e3, e⟩ := Option.bind_eq_some_iff.mp e
      obtain ⟨T2, e4, e5⟩ := Option.map_eq_some_iff.mp e
      cases e5
      obtain ⟨vy, e6, ry⟩ := s1.get e3
      obtain ⟨n1, n2, n3, n4⟩ := ixN_some e2
      have hz : ys.length ≤ sizeLine := by
        rw [← s1.length]
        exact (I.lstM t).1
      rw [sizeLine_eq] at hz
      exact mt_popAt pins s σ H _ _ v us Q I rx rv ⟨a, zs, i, j, vy, rfl, rfl, t, by omega, by omega, by rw [s1.length]; exact n1, e6, q.wr e4 hr hk t (s1.eraseIdx j) ry⟩
  · rename_i k i y
    cases r1 with
    | @ref a _ hk =>
      obtain ⟨ys, e1, e⟩ := Option.bind_eq_some_iff.mp e
      obtain ⟨a', zs, k', s1, t⟩ := hr.rd e1
      rw [hk] at k'; cases k'
      obtain ⟨vi, vy, ev, ri, ry⟩ := rs.two
      cases ri
      subst ev
      split at e
      · rename_i hb
        obtain ⟨ws, e2, e⟩ := Option.bind_eq_some_iff.mp e
        obtain ⟨T2, e3, e4⟩ := Option.map_eq_some_iff.mp e
        cases e4
        unfold insV at e2
        split at e2
        · rename_i hi
          cases e2
          refine mt_insert pins s σ H _ _ v us Q I rx rv ⟨a, zs, i, vy, rfl, rfl, t, by rw [s1.length, ← big_eq]; exact hb, hi.1, by omega, ?_⟩
          rw [List.append_assoc]
          exact q.wr e3 hr hk t ((s1.take _).append (.cons ry (s1.drop _))) .non
        · cases e2
      · cases e
  · rename_i k y
    cases r1 with
    | @ref a _ hk =>
      obtain ⟨ys, e1, e⟩ := Option.bind_eq_some_iff.mp e
      obtain ⟨a', zs, k', s1, t⟩ := hr.rd e1
      rw [hk] at k'; cases k'
      obtain ⟨vy, ev, ry⟩ := rs.one
      subst ev
      split at e
      · rename_i hf
        rw [Bool.and_eq_true] at hf
        obtain ⟨j, e4, e3⟩ := Option.map_eq_some_iff.mp e
        cases e3
        obtain ⟨z, h1, h2, h3⟩ := findIx_ok ry hf.1 s1 hf.2 e4
        exact mt_index pins s σ H _ _ v us Q I rx rv ⟨a, zs, vy, j, z, rfl, rfl, .of t, flat_ok ry hf.1, flats_ok s1 hf.2, h1, h2, h3, q.same hr (.int _)⟩
      · cases e
  · cases e
/-! ### o[i] = v -/
def rS (K : PySem.W.Frag) : TSet := fun o i v H Q => ∃ ρ B T vo vi vv T', HR K ρ (B ++ T) H ∧ Rep K ρ H o vo ∧ Rep K ρ H i vi ∧ Rep K ρ H v vv ∧ setIx B T vo vi vv = some T' ∧ ∀ H', Ext B.length ρ H ρ H' → HR K ρ (B ++ T') H' → Q H'
theorem set_ok : PSet X (rS X.K) := by
  intro pins s σ H o i v ov iv u Q I ro ri rv h
  obtain ⟨ρ, B, T, vo, vi, vv, T', hr, r1, r2, r3, e, q⟩ := h
  unfold setIx at e
  split at e
  · rename_i k j
    cases r2
    cases r1 with
    | @ref a _ hk =>
      obtain ⟨ys, e1, e⟩ := Option.bind_eq_some_iff.mp e
      obtain ⟨a', zs, k', s1, t⟩ := hr.rd e1
      rw [hk] at k'; cases k'
      obtain ⟨n, e2, e⟩ := Option.bind_eq_some_iff.mp e
      refine set_list pins s σ H _ _ v ov iv u Q I ro ri rv ⟨a, zs, j, n, rfl, rfl, t, by rw [s1.length]; exact e2, ?_⟩
      unfold wr at e
      split at e
      · rename_i hb
        cases e
        refine q _ (Ext.write hr.nd hk hb.1 t) ?_
        have := hr.write hk t (s1.set r3 n)
        rw [List.set_append_right _ _ hb.1] at this
        exact this
      · cases e
  · cases e
end
end Rf
end
section
/-! Rf: which Python text a compact code stands for. -/
namespace Rf
open PySem PySem.Spec PyProof.Rows L2

/-- what the looks know of a def: its slots' names, the constants, the functions' names, the calls by keywords -/
structure Fx where
  N : List Str
  G : List (Str × PV)
  F : List Str
  KW : List (Nat × Nat × List Str × List Nat)

def visB (sc : Scope) (x : Str) : Bool := match sc.names.lookup x with
  | some .local => true | some .cell => true | some .free => true | _ => false
def locB (sc : Scope) (x : Str) : Bool := match sc.names.lookup x with
  | some .local => true | some .cell => true | _ => false
def isLocal (sc : Scope) (x : Str) : Bool := match sc.names.lookup x with
  | some .local => true | _ => false
def glB (sc : Scope) (x : Str) : Bool := match sc.names.lookup x with
  | some .globalImplicit => true | _ => false
def plB (x : Str) : Bool := !(x == ("__debug__" : Str)) && !(x == ("__classdict__" : Str))
def noStar : Expr → Bool
  | .Starred .. => false
  | _ => true
/-- forms whose test is their value's truth -/
def plainT : Expr → Bool
  | .Name .. => true | .Call .. => true | .Subscript .. => true | .BinOp .. => true | .Constant .. => true | _ => false
def plainI : Expr → Bool
  | .Slice .. => false | _ => true
def noSet : Expr → Bool
  | .Set .. => false | _ => true
/-- the builtin method forms' receiver: no call of super -/
def attrB : Expr → Bool
  | .Name .. => true | .Subscript .. => true | .Call (.Name _ _) (_ :: _) _ _ => true | _ => false
def relS' := @relS

structure Ck where
  e : Scope → (Str → Bool) → Expr → Bool
  t : Scope → (Str → Bool) → Expr → Bool
  w : Scope → (Str → Bool) → Expr → Bool
  a : Scope → (Str → Bool) → List Expr → Bool
  k : Scope → (Str → Bool) → List Keyword → Bool
  i : Scope → (Str → Bool) → Expr → Expr → Bool
  g : Scope → (Str → Bool) → List Comprehension → Bool
  h : Scope → (Str → Bool) → List Comprehension → Bool
  h0 : Scope → (Str → Bool) → List Comprehension → Bool
  s : Scope → (Str → Bool) → List Expr → Bool
def no1 : Scope → (Str → Bool) → Expr → Bool := fun _ _ _ => false
def noC : Ck := ⟨no1, no1, no1, fun _ _ _ => false, fun _ _ _ => false, fun _ _ _ _ => false, fun _ _ _ => false, fun _ _ _ => false, fun _ _ _ => false, fun _ _ _ => false⟩
def eC (f : Scope → (Str → Bool) → Expr → Bool) : Ck := { noC with e := f }
def tC' (f : Scope → (Str → Bool) → Expr → Bool) : Ck := { noC with t := f, s := fun sc fn es => match es with
  | [e] => f sc fn e
  | _ => false }
def wC (f : Scope → (Str → Bool) → Expr → Bool) : Ck := { noC with t := f, w := f, s := fun sc fn es => match es with
  | [e] => f sc fn e
  | _ => false }
def cC (f : Scope → (Str → Bool) → Expr → Bool) : Ck := { eC f with t := f, s := (wC f).s }
def aC (f : Scope → (Str → Bool) → List Expr → Bool) (g : Scope → (Str → Bool) → List Keyword → Bool) : Ck := { noC with a := f, k := g }
def gC (f h h0 : Scope → (Str → Bool) → List Comprehension → Bool) : Ck := { noC with g := f, h := h, h0 := h0 }
def sC (g : Scope → (Str → Bool) → List Expr → Bool) : Ck := { noC with s := g }
def iC (f : Scope → (Str → Bool) → Expr → Expr → Bool) : Ck := { noC with i := f }
def opB : BO → Operator → Bool
  | .add, .Add => true | .sub, .Sub => true | .mul, .Mult => true | .fdiv, .FloorDiv => true | .mod, .Mod => true | .pow, .Pow => true | _, _ => false
def cmpB : CO → CmpOp → Bool
  | .eq, .Eq => true | .ne, .NotEq => true | .lt, .Lt => true | .le, .LtE => true | .gt, .Gt => true | .ge, .GtE => true | .is, .Is => true | .isnot, .IsNot => true | .isin, .In => true | .notin, .NotIn => true | _, _ => false
def slotB (N : List Str) (sc : Scope) (fn : Str → Bool) (i : Nat) (x : Str) : Bool := decide (N[i]? = some x) && (locB sc x && (fn x || isLocal sc x))
def tgAll (N : List Str) (sc : Scope) (fn : Str → Bool) : List Nat → List Expr → Bool
  | [], [] => true
  | i :: is, .Name x _ :: es => slotB N sc fn i x && tgAll N sc fn is es
  | _, _ => false
def tgB (N : List Str) (sc : Scope) (fn : Str → Bool) : Tg → Expr → Bool
  | .nm i, .Name x _ => slotB N sc fn i x
  | .tp is, .Tuple es _ _ => tgAll N sc fn is es
  | _, _ => false
def isTupE : Expr → Bool
  | .Tuple .. => true
  | _ => false

def chk (C0 : Fx) : C → Ck
  | .var i => eC fun sc fn e => match e with
    | .Name x _ => decide (C0.N[i]? = some x) && (visB sc x && plB x)
    | _ => false
  | .cst v => eC fun sc fn e => match e, v with
    | .Constant (.int i) _ _, .int j => decide (i = j)
    | .Constant (.bool i) _ _, .bl j => i == j
    | .Constant .none _ _, .non => true
    | .Constant (.str i) _ _, .str j => decide (i = j)
    | _, _ => false
  | .glb j => eC fun sc fn e => match e with
    | .Name x _ => (match C0.G[j]? with
      | some p => decide (p.1 = x)
      | none => false) && (glB sc x && plB x)
    | _ => false
  | .bin o a b => eC fun sc fn e => match e with
    | .BinOp x op y _ => opB o op && ((chk C0 a).e sc fn x && (chk C0 b).e sc fn y)
    | _ => false
  | .neg a => eC fun sc fn e => match e with
    | .UnaryOp .USub x _ => (chk C0 a).e sc fn x
    | _ => false
  | .vone a => eC fun sc fn e => match e with
    | .BoolOp _ [x] _ => (chk C0 a).e sc fn x
    | _ => false
  | .vand a b => eC fun sc fn e => match e with
    | .BoolOp .And (x :: y :: r) pos => (chk C0 a).e sc fn x && (chk C0 b).e sc fn (.BoolOp .And (y :: r) pos)
    | _ => false
  | .vor a b => eC fun sc fn e => match e with
    | .BoolOp .Or (x :: y :: r) pos => (chk C0 a).e sc fn x && (chk C0 b).e sc fn (.BoolOp .Or (y :: r) pos)
    | _ => false
  | .vnot a => eC fun sc fn e => match e with
    | .UnaryOp .Not x _ => (chk C0 a).e sc fn x
    | _ => false
  | .tone a => wC fun sc fn e => match e with
    | .BoolOp _ [x] _ => (chk C0 a).t sc fn x
    | _ => false
  | .tand a b => wC fun sc fn e => match e with
    | .BoolOp .And (x :: y :: r) pos => (chk C0 a).t sc fn x && (chk C0 b).w sc fn (.BoolOp .And (y :: r) pos)
    | _ => false
  | .tor a b => wC fun sc fn e => match e with
    | .BoolOp .Or (x :: y :: r) pos => (chk C0 a).t sc fn x && (chk C0 b).w sc fn (.BoolOp .Or (y :: r) pos)
    | _ => false
  | .tnot a => tC' fun sc fn e => match e with
    | .UnaryOp .Not x _ => (chk C0 a).t sc fn x
    | _ => false
  | .tval a => tC' fun sc fn e => plainT e && (chk C0 a).e sc fn e
  | .cmp o a b => cC fun sc fn e => match e with
    | .Compare x [op] [y] _ => (cmpB o op && noSet y) && ((chk C0 a).e sc fn x && (chk C0 b).e sc fn y)
    | _ => false
  | .chain o o' a b c => cC fun sc fn e => match e with
    | .Compare x [op, op'] [y, z] _ => (cmpB o op && (cmpB o' op' && noSet z)) && ((chk C0 a).e sc fn x && ((chk C0 b).e sc fn y && (chk C0 c).e sc fn z))
    | _ => false
  | .ife c a b => eC fun sc fn e => match e with
    | .IfExp x y z _ => (chk C0 c).t sc fn x && ((chk C0 a).e sc fn y && (chk C0 b).e sc fn z)
    | _ => false
  | .idx a b => eC fun sc fn e => match e with
    | .Subscript x y _ => plainI y && ((chk C0 a).e sc fn x && (chk C0 b).e sc fn y)
    | _ => false
  | .slc a lo hi => eC fun sc fn e => match e with
    | .Subscript x (.Slice (some l) (some h) none _) _ => (chk C0 a).e sc fn x && ((chk C0 lo).e sc fn l && (chk C0 hi).e sc fn h)
    | _ => false
  | .slcL a lo => eC fun sc fn e => match e with
    | .Subscript x (.Slice (some l) none none _) _ => (chk C0 a).e sc fn x && (chk C0 lo).e sc fn l
    | _ => false
  | .slcH a hi => eC fun sc fn e => match e with
    | .Subscript x (.Slice none (some h) none _) _ => (chk C0 a).e sc fn x && (chk C0 hi).e sc fn h
    | _ => false
  | .rev a => eC fun sc fn e => match e with
    | .Subscript x (.Slice none none (some (.UnaryOp .USub (.Constant (.int 1) _ _) _)) _) _ => (chk C0 a).e sc fn x
    | _ => false
  | .nop => sC fun _ _ es => es.isEmpty
  | .tup es => eC fun sc fn e => match e with
    | .Tuple xs _ _ => (chk C0 es).a sc fn xs
    | _ => false
  | .lst es => eC fun sc fn e => match e with
    | .List xs _ => (chk C0 es).a sc fn xs
    | _ => false
  | .nil => aC (fun _ _ xs => xs.isEmpty) (fun _ _ xs => xs.isEmpty)
  | .cons a es => aC (fun sc fn xs => match xs with
      | x :: r => noStar x && ((chk C0 a).e sc fn x && (chk C0 es).a sc fn r)
      | _ => false) (fun sc fn xs => match xs with
      | ⟨some _, x, _⟩ :: r => (chk C0 a).e sc fn x && (chk C0 es).k sc fn r
      | _ => false)
  | .call f es => eC fun sc fn e => match e with
    | .Call (.Name x _) (y :: ys) [] _ => (decide (C0.F[f]? = some x) && (glB sc x && plB x)) && (chk C0 es).a sc fn (y :: ys)
    | _ => false
  | .callp f es => eC fun sc fn e => match e with
    | .Call (.Name x _) (y :: ys) [] _ => (decide (C0.F[f]? = some x) && (glB sc x && plB x)) && (chk C0 es).a sc fn (y :: ys)
    | _ => false
  | .callk f es ks pm pure => eC fun sc fn e => match e with
    | .Call (.Name x _) ys kws _ => (decide (C0.F[f]? = some x) && (glB sc x && plB x)) && ((decide ((f, ys.length, kws.filterMap (·.arg), pm) ∈ C0.KW) && !kws.isEmpty) && ((chk C0 es).a sc fn ys && (chk C0 ks).k sc fn kws))
    | _ => false
  | .isi o a => eC fun sc fn e => match e with
    | .Call (.Name x _) [y, .Name z _] [] _ => (decide (x = "isinstance") && (decide (z = Str.ofString o.nm) && (glB sc x && (glB sc z && noStar y)))) && (chk C0 a).e sc fn y
    | _ => false
  | .bi o es => eC fun sc fn e => match e with
    | .Call (.Name x _) (y :: ys) [] _ => (decide (x = biNm o) && glB sc x) && (chk C0 es).a sc fn (y :: ys)
    | _ => false
  | .mt o a es => eC fun sc fn e => match e with
    | .Call (.Attribute x m apos) ys [] pos => (decide (m = mtNm o) && ((apos.endLine == pos.line) && (attrB x && (decide (ys.length < 10) && (decide (o = .pop) == ys.isEmpty))))) && ((chk C0 a).e sc fn x && (chk C0 es).a sc fn ys)
    | _ => false
  | .comp elt gs own => eC fun sc fn e => match e with
    | .ListComp x gens scope _ => (blkC C0.N sc scope own && (chk C0 gs).h0 sc fn gens) && ((chk C0 gs).h (relS scope sc) (fun y => scope.names.lookup y == some .cell) gens && (chk C0 elt).e (relS scope sc) (fun y => scope.names.lookup y == some .cell) x)
    | _ => false
  | .gnil => gC (fun _ _ gs => gs.isEmpty) (fun _ _ _ => false) (fun _ _ _ => false)
  | .gen t it ifs gs => gC (fun sc fn gens => match gens with
    | ⟨tg, ite, ifse, asy⟩ :: r => (decide (asy = 0) && (noSet ite && tgB C0.N sc fn t tg)) && ((chk C0 it).i sc fn tg ite && ((chk C0 ifs).s sc fn ifse && (chk C0 gs).g sc fn r))
    | [] => false) (fun sc fn gens => match gens with
    | ⟨tg, ite, ifse, asy⟩ :: r => (decide (asy = 0) && (noSet ite && tgB C0.N sc fn t tg)) && ((chk C0 ifs).s sc fn ifse && (chk C0 gs).g sc fn r)
    | [] => false) (fun sc fn gens => match gens with
    | ⟨tg, ite, _, _⟩ :: _ => (chk C0 it).i sc fn tg ite
    | [] => false)
  | .itv a => iC fun sc fn tg e => noStar e && (chk C0 a).e sc fn e
  | .itr es => iC fun sc fn tg e => match e with
    | .Call (.Name x _) (y :: ys) [] _ => (decide (x = "range") && (glB sc x && decide (ys.length ≤ 1))) && (chk C0 es).a sc fn (y :: ys)
    | _ => false
  | .itz es => iC fun sc fn tg e => match e with
    | .Call (.Name x _) [y, z] [] _ => (decide (x = "zip") && (glB sc x && isTupE tg)) && (chk C0 es).a sc fn [y, z]
    | _ => false
  | .ite es => iC fun sc fn tg e => match e with
    | .Call (.Name x _) [y] [] _ => (decide (x = "enumerate") && (glB sc x && isTupE tg)) && (chk C0 es).a sc fn [y]
    | _ => false
end Rf
end
section
/-! Rf: expressions do what their compact codes say. -/
namespace Rf
open PySem PySem.Spec PyProof.Rows L2

structure Amb where
  K : PySem.W.Frag
  CF : Nat → List PV → MH → MH → M
  G : List (Str × PV)
  L : Nat
/-- a function's promise -/
def spI (A : Amb) (ps : List Str) (f : Nat) : Sp := fun vs H Q _ => vs.length = ps.length ∧ ∃ ρ B T xs v T', HR A.K ρ (B ++ T) H ∧ Reps A.K ρ H vs xs ∧ A.CF f xs B T = some (v, T') ∧ PQ A.K ρ H B T' v Q
def bltNames : List Str := ["len", "abs", "int", "tuple", "list", "sum", "all", "any", "max", "min", "divmod", "isinstance", "bool", "str", "range", "zip", "enumerate"]
def FnG (A : Amb) (C0 : Fx) (kk : Nat) (P : Program) (w : World) (mg : Str → Option Value) (base : Heap) (f : Nat) (x : Str) : Prop :=
  ∃ a fd ps, mg x = some (.ref a) ∧ PySem.W.keepIn A.K (.ref a) = true ∧ Binds A.K fd ps [] ∧ FnOk P w A.K mg base CX0 kk a fd ps (spI A ps f) ∧ (∀ xs B T r, A.CF f xs B T = some r → xs.length = ps.length) ∧ ∀ n ks pm, (f, n, ks, pm) ∈ C0.KW → KBn A.K fd ps n ks (getP pm <| · ++ ·) (getP pm <| · ++ ·)
structure Gd (A : Amb) (C0 : Fx) (kk : Nat) (X : Cx) (sc : Scope) (fn : Str → Bool) : Prop where
  sc : X.env.scope = sc
  fn : X.fn = fn
  N : X.N = C0.N
  nd : C0.N.Nodup
  calm : X.calm = true
  xe : X.xe = fun _ _ => False
  K : X.K = A.K
  G : A.G = C0.G
  room : Room kk X.A
  blt : ∀ x ∈ bltNames, X.mg x = none
  glb : ∀ p ∈ A.G, ∃ a, X.mg p.1 = some (.ref a) ∧ ∀ ρ H, Rep A.K ρ H (.ref a) p.2
  fns : ∀ f x, C0.F[f]? = some x → FnG A C0 kk X.prog X.w X.mg X.base f x

structure SS (A : Amb) (ρ : List Addr) (B T : MH) (σ : En) (τ : L2.St) (H : Hp) : Prop where
  hr : HR A.K ρ (B ++ T) H
  sr : SR A.K ρ H σ τ
def tE (A : Amb) (c : C) : TE := fun τ H Q => ∃ ρ B T σ v T', SS A ρ B T σ τ H ∧ (sem A.CF A.G A.L c).e σ B T = some (v, T') ∧ PQ A.K ρ H B T' v Q
def tT (A : Amb) (c : C) : TT := fun τ H Q => ∃ ρ B T σ b T', SS A ρ B T σ τ H ∧ (sem A.CF A.G A.L c).e σ B T = some (.bl b, T') ∧ ∀ ρ' H', Ext B.length ρ H ρ' H' → HR A.K ρ' (B ++ T') H' → Q b H'
def tA (A : Amb) (c : C) : TA := fun τ H Q => ∃ ρ B T σ xs T', SS A ρ B T σ τ H ∧ (sem A.CF A.G A.L c).e σ B T = some (.tup xs, T') ∧ ∀ ρ' H' vs, Ext B.length ρ H ρ' H' → HR A.K ρ' (B ++ T') H' → Reps A.K ρ' H' vs xs → Q vs H'

section
variable {A : Amb} {ρ : List Addr} {B T T' : MH} {σ : En} {τ : L2.St} {H : Hp} {c : C} {v : PV}
theorem SS.ext {ρ1 : List Addr} {H1 : Hp} {T1 : MH} (s : SS A ρ B T σ τ H) (x : Ext B.length ρ H ρ1 H1) (h : HR A.K ρ1 (B ++ T1) H1) : SS A ρ1 B T1 σ τ H1 := ⟨h, s.sr.ext x⟩
theorem PQ.next {K : PySem.W.Frag} {Q : VK} {ρ1 : List Addr} {H1 : Hp} (q : PQ K ρ H B T' v Q) (nd : ρ1.Nodup) (x : Ext B.length ρ H ρ1 H1) : PQ K ρ1 H1 B T' v Q := fun ρ' H' y x2 h r => q ρ' H' y (x.trans nd x2) h r
theorem tE.mk {Q : VK} (ss : SS A ρ B T σ τ H) (e : (sem A.CF A.G A.L c).e σ B T = some (v, T')) (k : ∀ ρ1 H1 x, Ext B.length ρ H ρ1 H1 → SS A ρ1 B T' σ τ H1 → Rep A.K ρ1 H1 x v → Q x H1) : tE A c τ H Q :=
  ⟨ρ, B, T, σ, v, T', ss, e, fun ρ' H' x x1 h r => k ρ' H' x x1 (ss.ext x1 h) r⟩
theorem tT.mk {b : Bool} {Q : Bool → Hp → Prop} (ss : SS A ρ B T σ τ H) (e : (sem A.CF A.G A.L c).e σ B T = some (.bl b, T')) (k : ∀ ρ1 H1, Ext B.length ρ H ρ1 H1 → SS A ρ1 B T' σ τ H1 → Q b H1) : tT A c τ H Q :=
  ⟨ρ, B, T, σ, b, T', ss, e, fun ρ' H' x1 h => k ρ' H' x1 (ss.ext x1 h)⟩
theorem tA.mk {xs : List PV} {Q : List V → Hp → Prop} (ss : SS A ρ B T σ τ H) (e : (sem A.CF A.G A.L c).e σ B T = some (.tup xs, T')) (k : ∀ ρ1 H1 vs, Ext B.length ρ H ρ1 H1 → SS A ρ1 B T' σ τ H1 → Reps A.K ρ1 H1 vs xs → Q vs H1) : tA A c τ H Q :=
  ⟨ρ, B, T, σ, xs, T', ss, e, fun ρ' H' x x1 h r => k ρ' H' x x1 (ss.ext x1 h) r⟩
theorem asTup_some {x : PV} {xs : List PV} (h : asTup x = some xs) : x = .tup xs := by
  cases x <;> first | (cases h; rfl) | cases h
end

/-! ### weakening -/
section
variable {X : Cx}
theorem _root_.L2.PE.imp {e : Expr} {t t' : TE} (h : PE X e t) (f : ∀ σ H Q, t' σ H Q → t σ H Q) : PE X e t' := ⟨fun pins s σ H Q I q => h.run pins s σ H Q I (f _ _ _ q)⟩
theorem _root_.L2.PT.imp {e : Expr} {t t' : TT} (h : PT X e t) (f : ∀ σ H Q, t' σ H Q → t σ H Q) : PT X e t' := ⟨fun pins s σ H Q I q => h.run pins s σ H Q I (f _ _ _ q)⟩
theorem _root_.L2.PW.imp {e : Expr} {t t' : TT} (h : PW X e t) (f : ∀ σ H Q, t' σ H Q → t σ H Q) : PW X e t' := ⟨fun wh pins s σ H Q I q => h.run wh pins s σ H Q I (f _ _ _ q)⟩
theorem _root_.L2.PA.imp {e : List Expr} {t t' : TA} (h : PA X e t) (f : ∀ σ H Q, t' σ H Q → t σ H Q) : PA X e t' := ⟨fun pos pins s σ H Q I q => h.run pos pins s σ H Q I (f _ _ _ q)⟩
theorem _root_.L2.PK.imp {e : List Keyword} {t t' : TA} (h : PK X e t) (f : ∀ σ H Q, t' σ H Q → t σ H Q) : PK X e t' := ⟨fun pos pins s σ H Q I q => h.run pos pins s σ H Q I (f _ _ _ q)⟩
theorem _root_.L2.PO.imp {e : Option Expr} {t t' : TO} (h : PO X e t) (f : ∀ σ H Q, t' σ H Q → t σ H Q) : PO X e t' := ⟨fun pins s σ H Q I q => h.run pins s σ H Q I (f _ _ _ q)⟩
theorem _root_.L2.PI.imp {tg e : Expr} {t t' : TI} (h : PI X tg e t) (f : ∀ σ H Q, t' σ H Q → t σ H Q) : PI X tg e t' := ⟨fun pins s σ H Q I q => h.run pins s σ H Q I (f _ _ _ q)⟩
theorem _root_.L2.PS.imp {e : Stmt} {t t' : TS} (h : PS X e t) (f : ∀ D σ H, t' D σ H → t D σ H) : PS X e t' := ⟨fun pins s σ H Q I q => h.run pins s σ H Q I (f _ _ _ q)⟩
theorem _root_.L2.PTs.imp {e : List Expr} {t t' : TT} (h : PTs X e t) (f : ∀ σ H Q, t' σ H Q → t σ H Q) : PTs X e t' := ⟨fun pins s σ H Q I q => h.run pins s σ H Q I (f _ _ _ q)⟩
end

/-! ### the static looks -/
section
variable {A : Amb} {C0 : Fx} {kk : Nat} {X : Cx} {sc : Scope} {fn : Str → Bool}
theorem Gd.hu (g : Gd A C0 kk X sc fn) : X.A.units + 64 < cLine := g.room.units
theorem vis_ok (g : Gd A C0 kk X sc fn) {x : Str} (h : visB sc x = true) : Vis X.env.scope x := by
  unfold visB at h
  rw [g.sc]
  split at h
  · exact .inl (by assumption)
  · exact .inr (.inl (by assumption))
  · exact .inr (.inr (by assumption))
  · cases h
theorem gl_ok (g : Gd A C0 kk X sc fn) {x : Str} (h : glB sc x = true) : Gl X x := by
  unfold glB at h
  show X.env.scope.names.lookup x = _
  rw [g.sc]
  split at h
  · assumption
  · cases h
theorem pl_ok {x : Str} (h : plB x = true) : (x == ("__debug__" : Str)) = false ∧ (x == ("__classdict__" : Str)) = false := by
  unfold plB at h
  rw [Bool.and_eq_true] at h
  exact ⟨by simpa using h.1, by simpa using h.2⟩
theorem star_ok {e : Expr} {es : List Expr} {env : Env} (h : noStar e = true) : starEach (e :: es) env = (false, eval e env) :: starEach es env := by
  cases e <;> first | rfl | cases h
theorem any_star {pos : Pos} {env : Env} : ∀ {es : List Expr}, es.all noStar = true → (backTo pos (starEach es env)).any (·.1) = false
  | [], _ => rfl
  | e :: es, h => by
    rw [List.all_cons, Bool.and_eq_true] at h
    rw [star_ok h.1]
    exact any_star (es := es) h.2
theorem all_star {pos : Pos} {env : Env} : ∀ {es : List Expr}, es.all noStar = true → (backTo pos (starEach es env)).all (fun x => !x.1) = true
  | [], _ => rfl
  | e :: es, h => by
    rw [List.all_cons, Bool.and_eq_true] at h
    rw [star_ok h.1]
    exact all_star (es := es) h.2
theorem chkA_star {c : C} : ∀ {es : List Expr}, (chk C0 c).a sc fn es = true → es.all noStar = true := by
  induction c with
  | cons a es _ ih =>
    intro xs h
    cases xs with
    | nil => rfl
    | cons x r =>
      have h : (noStar x && ((chk C0 a).e sc fn x && (chk C0 es).a sc fn r)) = true := h
      rw [Bool.and_eq_true, Bool.and_eq_true] at h
      rw [List.all_cons, h.1, ih h.2.2]
      rfl
  | nil =>
    intro xs h
    cases xs with
    | nil => rfl
    | cons x r => cases h
  | _ => intro xs h; cases h
theorem noSet_behind {e : Expr} {op : CmpOp} (h : noSet e = true) : behindInMarks op e = false := by
  cases e <;> first | rfl | cases h
theorem noSet_fold {e : Expr} {env : Env} (h : noSet e = true) : ∀ x, foldedSetIterable e env x = pure x := by
  intro x
  cases e <;> first | rfl | cases h
theorem plainT_ok {e : Expr} {env : Env} (h : plainT e = true) : ∀ whole, isTrue e env whole = (do let v ← whole; standAt e.pos; holding [v] (truthy v)) := by
  intro w
  cases e <;> first | rfl | cases h
theorem plainI_ok {e : Expr} (h : plainI e = true) : PlainIx e := by
  intro o i
  cases e <;> first | rfl | cases h
theorem attrB_ok {e : Expr} {m : Str} {env : Env} {whole : Sem Value} (h : attrB e = true) : attributeBase e m env whole = whole := by
  cases e with
  | Name => rfl
  | Subscript => rfl
  | Call f as kws p =>
    cases f with
    | Name x q =>
      cases as with
      | nil => cases h
      | cons a r => rfl
    | _ => cases h
  | _ => cases h
theorem opB_ok {o : BO} {op : Operator} (h : opB o op = true) : op = opOf o := by
  cases o <;> cases op <;> first | rfl | cases h
theorem cmpB_ok {o : CO} {op : CmpOp} (h : cmpB o op = true) : op = cmpOf o := by
  cases o <;> cases op <;> first | rfl | cases h
theorem slotB_ok (g : Gd A C0 kk X sc fn) {i : Nat} {x : Str} (h : slotB C0.N sc fn i x = true) : X.N[i]? = some x ∧ Loc X.env.scope x ∧ (X.fn x = true ∨ X.env.scope.names.lookup x = some .local) := by
  unfold slotB at h
  rw [Bool.and_eq_true, Bool.and_eq_true, Bool.or_eq_true] at h
  obtain ⟨h1, h2, h3⟩ := h
  refine ⟨by rw [g.N]; exact of_decide_eq_true h1, ?_, ?_⟩
  · unfold locB at h2
    rw [g.sc]
    split at h2
    · exact .inl (by assumption)
    · exact .inr (by assumption)
    · cases h2
  · rw [g.fn, g.sc]
    rcases h3 with h3 | h3
    · exact .inl h3
    · right
      unfold isLocal at h3
      split at h3
      · assumption
      · cases h3

/-! ### the judgements of a code -/
structure Snd (A : Amb) (C0 : Fx) (kk : Nat) (X : Cx) (sc : Scope) (fn : Str → Bool) (c : C) : Prop where
  e : ∀ e, (chk C0 c).e sc fn e = true → PE X e (tE A c)
  t : ∀ e, (chk C0 c).t sc fn e = true → PT X e (tT A c)
  w : ∀ e, (chk C0 c).w sc fn e = true → PW X e (tT A c)
  a : ∀ es, (chk C0 c).a sc fn es = true → PA X es (tA A c)
  k : ∀ es, (chk C0 c).k sc fn es = true → PK X es (tA A c)
  s : ∀ es, (chk C0 c).s sc fn es = true → PTs X es (tT A c)
variable {c : C}
theorem pts_of {f : Scope → (Str → Bool) → Expr → Bool} (h : ∀ e, f sc fn e = true → PT X e (tT A c)) : ∀ es, (wC f).s sc fn es = true → PTs X es (tT A c) := fun es he => by
  cases es with
  | nil => cases he
  | cons e r =>
    cases r with
    | nil => exact pts_one (h e he)
    | cons _ _ => cases he
theorem Snd.ofE {f : Scope → (Str → Bool) → Expr → Bool} (hc : chk C0 c = eC f) (h : ∀ e, f sc fn e = true → PE X e (tE A c)) : Snd A C0 kk X sc fn c := by
  constructor <;> rw [hc]
  · exact h
  all_goals (intro _ z; cases z)
theorem Snd.ofT {f : Scope → (Str → Bool) → Expr → Bool} (hc : chk C0 c = tC' f) (h : ∀ e, f sc fn e = true → PT X e (tT A c)) : Snd A C0 kk X sc fn c := by
  constructor <;> rw [hc]
  · intro _ z; cases z
  · exact h
  · intro _ z; cases z
  · intro _ z; cases z
  · intro _ z; cases z
  · exact pts_of h
theorem Snd.ofW {f : Scope → (Str → Bool) → Expr → Bool} (hc : chk C0 c = wC f) (h : ∀ e, f sc fn e = true → PW X e (tT A c)) : Snd A C0 kk X sc fn c := by
  constructor <;> rw [hc]
  · intro _ z; cases z
  · exact fun e z => (h e z).pt
  · exact h
  · intro _ z; cases z
  · intro _ z; cases z
  · exact pts_of fun e z => (h e z).pt
theorem Snd.ofC {f : Scope → (Str → Bool) → Expr → Bool} (hc : chk C0 c = cC f) (h : ∀ e, f sc fn e = true → PE X e (tE A c)) (h2 : ∀ e, f sc fn e = true → PT X e (tT A c)) : Snd A C0 kk X sc fn c := by
  constructor <;> rw [hc]
  · exact h
  · exact h2
  · intro _ z; cases z
  · intro _ z; cases z
  · intro _ z; cases z
  · exact pts_of h2
theorem Snd.ofA {f : Scope → (Str → Bool) → List Expr → Bool} {g : Scope → (Str → Bool) → List Keyword → Bool} (hc : chk C0 c = aC f g) (h : ∀ e, f sc fn e = true → PA X e (tA A c)) (h2 : ∀ e, g sc fn e = true → PK X e (tA A c)) : Snd A C0 kk X sc fn c := by
  constructor <;> rw [hc]
  · intro _ z; cases z
  · intro _ z; cases z
  · intro _ z; cases z
  · exact h
  · exact h2
  · intro _ z; cases z
theorem Snd.ofS {f : Scope → (Str → Bool) → List Expr → Bool} (hc : chk C0 c = sC f) (h : ∀ e, f sc fn e = true → PTs X e (tT A c)) : Snd A C0 kk X sc fn c := by
  constructor <;> rw [hc]
  · intro _ z; cases z
  · intro _ z; cases z
  · intro _ z; cases z
  · intro _ z; cases z
  · intro _ z; cases z
  · exact h
theorem Snd.ofI {f : Scope → (Str → Bool) → Expr → Expr → Bool} (hc : chk C0 c = iC f) : Snd A C0 kk X sc fn c := by
  constructor <;> rw [hc] <;> (intro _ z; cases z)
theorem Snd.ofG {f g h : Scope → (Str → Bool) → List Comprehension → Bool} (hc : chk C0 c = gC f g h) : Snd A C0 kk X sc fn c := by
  constructor <;> rw [hc] <;> (intro _ z; cases z)
theorem bn {a b : Bool} (h : (a && b) = true) : a = true ∧ b = true := Bool.and_eq_true_iff.mp h

/-! ### expressions -/
variable {a b d : C} {x y z : Expr} {pos : Pos}
theorem s_var (g : Gd A C0 kk X sc fn) (i : Nat) : Snd A C0 kk X sc fn (.var i) := .ofE rfl fun e h => by
  cases e <;> first | cases h | skip
  rename_i nm p
  obtain ⟨h1, h2⟩ := bn h
  obtain ⟨h2, h3⟩ := bn h2
  refine (pe_var (i := i) (by rw [g.N]; exact of_decide_eq_true h1) (vis_ok g h2) (pl_ok h3).1 (pl_ok h3).2).imp fun τ H Q q => ?_
  obtain ⟨ρ, B, T, σ, v, T', ss, e, k⟩ := q
  change (match σ[i]? with | some (some v) => some (v, T) | _ => none) = some (v, T') at e
  split at e
  · rename_i w hw
    cases e
    obtain ⟨u, h4, h5⟩ := ss.sr.at_ i _ hw
    exact ⟨u, h4, k.same ss.hr h5⟩
  · cases e
theorem s_cst (v : PV) : Snd A C0 kk X sc fn (.cst v) := .ofE rfl fun e h => by
  cases e <;> first | cases h | skip
  rename_i cst n p
  have fin : ∀ {u : V}, (∀ ρ H, Rep A.K ρ H u v) → ∀ σ H Q, tE A (.cst v) σ H Q → tC u σ H Q := fun r σ H Q q => by
    obtain ⟨ρ, B, T, σ, w, T', ss, e, k⟩ := q
    cases e
    exact k.same ss.hr (r _ _)
  cases cst <;> cases v <;> first | cases h | skip
  · exact pe_non.imp (fin fun _ _ => .non)
  · have e : _ = _ := eq_of_beq h
    subst e
    exact pe_bl.imp (fin fun _ _ => .bl _)
  · have e := of_decide_eq_true h
    subst e
    exact pe_int.imp (fin fun _ _ => .int _)
  · have e := of_decide_eq_true h
    subst e
    exact pe_str.imp (fin fun _ _ => .str _)
theorem s_glb (g : Gd A C0 kk X sc fn) (j : Nat) : Snd A C0 kk X sc fn (.glb j) := .ofE rfl fun e h => by
  cases e <;> first | cases h | skip
  rename_i nm p
  obtain ⟨h1, h2⟩ := bn h
  obtain ⟨h2, h3⟩ := bn h2
  split at h1
  · rename_i p' hp
    have e1 := of_decide_eq_true h1
    subst e1
    have hp' : A.G[j]? = some p' := by rw [g.G]; exact hp
    obtain ⟨ad, m, r⟩ := g.glb p' (List.mem_of_getElem? hp')
    refine (pe_glob (v := .ref ad) (gl_ok g h2) m rfl (pl_ok h3).1).imp fun τ H Q q => ?_
    obtain ⟨ρ, B, T, σ, v, T', ss, e, k⟩ := q
    change A.G[j]?.map (fun p => (p.2, T)) = some (v, T') at e
    rw [hp'] at e
    cases e
    exact k.same ss.hr (r _ _)
  · cases h1
theorem s_bin (g : Gd A C0 kk X sc fn) (o : BO) (ha : Snd A C0 kk X sc fn a) (hb : Snd A C0 kk X sc fn b) : Snd A C0 kk X sc fn (.bin o a b) := .ofE rfl fun e h => by
  cases e <;> first | cases h | skip
  rename_i x op y p
  obtain ⟨h1, h2⟩ := bn h
  obtain ⟨h2, h3⟩ := bn h2
  have e1 := opB_ok h1
  subst e1
  refine (pe_op (op_bin o) (ha.e x h2) (hb.e y h3)).imp fun τ H Q q => ?_
  obtain ⟨ρ, B, T, σ, v, T', ss, e, k⟩ := q
  obtain ⟨⟨v1, T1⟩, e1, e⟩ := Option.bind_eq_some_iff.mp e
  obtain ⟨⟨v2, T2⟩, e2, e3⟩ := Option.bind_eq_some_iff.mp e
  refine tE.mk ss e1 fun ρ1 H1 x1 x1e s1 r1 => tE.mk s1 e2 fun ρ2 H2 x2 x2e s2 r2 => ?_
  rw [g.K]
  exact ⟨ρ2, B, T2, v1, v2, v, T', s2.hr, x2e.rep r1, r2, e3, k.next s2.hr.nd (x1e.trans s1.hr.nd x2e)⟩
theorem s_neg (g : Gd A C0 kk X sc fn) (ha : Snd A C0 kk X sc fn a) : Snd A C0 kk X sc fn (.neg a) := .ofE rfl fun e h => by
  cases e <;> first | cases h | skip
  rename_i op x p
  cases op <;> first | cases h | skip
  refine (pe_un un_neg (ha.e x h)).imp fun τ H Q q => ?_
  obtain ⟨ρ, B, T, σ, v, T', ss, e, k⟩ := q
  obtain ⟨⟨v1, T1⟩, e1, e⟩ := Option.bind_eq_some_iff.mp e
  refine tE.mk ss e1 fun ρ1 H1 x1 x1e s1 r1 => ?_
  cases v1 <;> first | cases e | skip
  cases r1
  exact ⟨_, rfl, (k.next s1.hr.nd x1e).same s1.hr (.int _)⟩
theorem s_vone (ha : Snd A C0 kk X sc fn a) : Snd A C0 kk X sc fn (.vone a) := .ofE rfl fun e h => by
  cases e <;> first | cases h | skip
  rename_i op es p
  cases es with
  | nil => cases h
  | cons x r =>
    cases r with
    | nil => exact (pe_one (ha.e x h)).imp fun τ H Q q => q
    | cons _ _ => cases h
theorem s_vand (ha : Snd A C0 kk X sc fn a) (hb : Snd A C0 kk X sc fn b) : Snd A C0 kk X sc fn (.vand a b) := .ofE rfl fun e h => by
  cases e <;> first | cases h | skip
  rename_i op es p
  cases op <;> first | cases h | skip
  cases es with
  | nil => cases h
  | cons x r =>
    cases r with
    | nil => cases h
    | cons y r =>
      obtain ⟨h1, h2⟩ := bn h
      refine (pe_and (ha.e x h1) (hb.e _ h2)).imp fun τ H Q q => ?_
      obtain ⟨ρ, B, T, σ, v, T', ss, e, k⟩ := q
      obtain ⟨⟨v1, T1⟩, e1, e⟩ := Option.bind_eq_some_iff.mp e
      refine tE.mk ss e1 fun ρ1 H1 x1 x1e s1 r1 => ?_
      cases v1 <;> first | cases e | skip
      rename_i bb
      cases r1
      cases bb with
      | true => exact ⟨true, rfl, ⟨ρ1, B, T1, σ, v, T', s1, e, k.next s1.hr.nd x1e⟩⟩
      | false => cases e; exact ⟨false, rfl, (k.next s1.hr.nd x1e).same s1.hr (.bl _)⟩
theorem s_vor (ha : Snd A C0 kk X sc fn a) (hb : Snd A C0 kk X sc fn b) : Snd A C0 kk X sc fn (.vor a b) := .ofE rfl fun e h => by
  cases e <;> first | cases h | skip
  rename_i op es p
  cases op <;> first | cases h | skip
  cases es with
  | nil => cases h
  | cons x r =>
    cases r with
    | nil => cases h
    | cons y r =>
      obtain ⟨h1, h2⟩ := bn h
      refine (pe_or (ha.e x h1) (hb.e _ h2)).imp fun τ H Q q => ?_
      obtain ⟨ρ, B, T, σ, v, T', ss, e, k⟩ := q
      obtain ⟨⟨v1, T1⟩, e1, e⟩ := Option.bind_eq_some_iff.mp e
      refine tE.mk ss e1 fun ρ1 H1 x1 x1e s1 r1 => ?_
      cases v1 <;> first | cases e | skip
      rename_i bb
      cases r1
      cases bb with
      | true => cases e; exact ⟨true, rfl, (k.next s1.hr.nd x1e).same s1.hr (.bl _)⟩
      | false => exact ⟨false, rfl, ⟨ρ1, B, T1, σ, v, T', s1, e, k.next s1.hr.nd x1e⟩⟩
theorem s_vnot (g : Gd A C0 kk X sc fn) (ha : Snd A C0 kk X sc fn a) : Snd A C0 kk X sc fn (.vnot a) := .ofE rfl fun e h => by
  cases e <;> first | cases h | skip
  rename_i op x p
  cases op <;> first | cases h | skip
  refine (pe_notT (ha.e x h)).imp fun τ H Q q => ?_
  obtain ⟨ρ, B, T, σ, v, T', ss, e, k⟩ := q
  obtain ⟨⟨v1, T1⟩, e1, e⟩ := Option.bind_eq_some_iff.mp e
  obtain ⟨bb, e2, e3⟩ := Option.map_eq_some_iff.mp e
  cases e3
  refine tE.mk ss e1 fun ρ1 H1 x1 x1e s1 r1 => ?_
  refine ⟨bb, ?_, (k.next s1.hr.nd x1e).same s1.hr (.bl _)⟩
  rw [g.K]
  exact tru_v s1.hr r1 e2

/-! ### tests -/
theorem tT.next {ρ1 : List Addr} {H H1 : Hp} {ρ : List Addr} {B T1 T' : MH} {σ : En} {τ : L2.St} {bb : Bool} {Q : Bool → Hp → Prop} (s1 : SS A ρ1 B T1 σ τ H1) (x1e : Ext B.length ρ H ρ1 H1) (e : (sem A.CF A.G A.L c).e σ B T1 = some (.bl bb, T'))
    (k : ∀ ρ' H', Ext B.length ρ H ρ' H' → HR A.K ρ' (B ++ T') H' → Q bb H') : tT A c τ H1 Q := ⟨ρ1, B, T1, σ, bb, T', s1, e, fun ρ' H' x2 h => k ρ' H' (x1e.trans s1.hr.nd x2) h⟩
theorem s_tone (ha : Snd A C0 kk X sc fn a) : Snd A C0 kk X sc fn (.tone a) := .ofW rfl fun e h => by
  cases e <;> first | cases h | skip
  rename_i op es p
  cases es with
  | nil => cases h
  | cons x r =>
    cases r with
    | nil =>
      cases op with
      | And => exact (pw_and1 (ha.t x h)).imp fun τ H Q q => q
      | Or => exact (pw_or1 (ha.t x h)).imp fun τ H Q q => q
    | cons _ _ => cases h
theorem s_tand (ha : Snd A C0 kk X sc fn a) (hb : Snd A C0 kk X sc fn b) : Snd A C0 kk X sc fn (.tand a b) := .ofW rfl fun e h => by
  cases e <;> first | cases h | skip
  rename_i op es p
  cases op <;> first | cases h | skip
  cases es with
  | nil => cases h
  | cons x r =>
    cases r with
    | nil => cases h
    | cons y r =>
      obtain ⟨h1, h2⟩ := bn h
      refine (pw_and (ha.t x h1) (hb.w _ h2)).imp fun τ H Q q => ?_
      obtain ⟨ρ, B, T, σ, bb, T', ss, e, k⟩ := q
      obtain ⟨⟨v1, T1⟩, e1, e⟩ := Option.bind_eq_some_iff.mp e
      cases v1 <;> first | cases e | skip
      rename_i b1
      refine tT.mk ss e1 fun ρ1 H1 x1e s1 => ?_
      cases b1 with
      | true => rw [if_pos rfl]; exact tT.next s1 x1e e k
      | false => cases e; rw [if_neg Bool.false_ne_true]; exact k _ _ x1e s1.hr
theorem s_tor (ha : Snd A C0 kk X sc fn a) (hb : Snd A C0 kk X sc fn b) : Snd A C0 kk X sc fn (.tor a b) := .ofW rfl fun e h => by
  cases e <;> first | cases h | skip
  rename_i op es p
  cases op <;> first | cases h | skip
  cases es with
  | nil => cases h
  | cons x r =>
    cases r with
    | nil => cases h
    | cons y r =>
      obtain ⟨h1, h2⟩ := bn h
      refine (pw_or (ha.t x h1) (hb.w _ h2)).imp fun τ H Q q => ?_
      obtain ⟨ρ, B, T, σ, bb, T', ss, e, k⟩ := q
      obtain ⟨⟨v1, T1⟩, e1, e⟩ := Option.bind_eq_some_iff.mp e
      cases v1 <;> first | cases e | skip
      rename_i b1
      refine tT.mk ss e1 fun ρ1 H1 x1e s1 => ?_
      cases b1 with
      | true => cases e; rw [if_pos rfl]; exact k _ _ x1e s1.hr
      | false => rw [if_neg Bool.false_ne_true]; exact tT.next s1 x1e e k
theorem s_tnot (ha : Snd A C0 kk X sc fn a) : Snd A C0 kk X sc fn (.tnot a) := .ofT rfl fun e h => by
  cases e <;> first | cases h | skip
  rename_i op x p
  cases op <;> first | cases h | skip
  refine (pt_not (ha.t x h)).imp fun τ H Q q => ?_
  obtain ⟨ρ, B, T, σ, bb, T', ss, e, k⟩ := q
  obtain ⟨⟨v1, T1⟩, e1, e⟩ := Option.bind_eq_some_iff.mp e
  cases v1 <;> first | cases e | skip
  exact tT.mk ss e1 fun ρ1 H1 x1e s1 => k _ _ x1e s1.hr
theorem s_tval (g : Gd A C0 kk X sc fn) (ha : Snd A C0 kk X sc fn a) : Snd A C0 kk X sc fn (.tval a) := .ofT rfl fun e h => by
  obtain ⟨h1, h2⟩ := bn h
  refine (pt_truth (ha.e e h2) (plainT_ok h1)).imp fun τ H Q q => ?_
  obtain ⟨ρ, B, T, σ, bb, T', ss, e, k⟩ := q
  obtain ⟨⟨v1, T1⟩, e1, e⟩ := Option.bind_eq_some_iff.mp e
  obtain ⟨b1, e2, e3⟩ := Option.map_eq_some_iff.mp e
  cases e3
  refine tE.mk ss e1 fun ρ1 H1 x1 x1e s1 r1 => ⟨_, ?_, k _ _ x1e s1.hr⟩
  rw [g.K]
  exact tru_v s1.hr r1 e2

/-! ### comparisons -/
theorem s_cmp (g : Gd A C0 kk X sc fn) (o : CO) (ha : Snd A C0 kk X sc fn a) (hb : Snd A C0 kk X sc fn b) : Snd A C0 kk X sc fn (.cmp o a b) := by
  have key : ∀ {τ : L2.St} {H : Hp} {Q : VK}, tE A (.cmp o a b) τ H Q → tOp (rO X.K fun B T x y => (cmp B T o x y).map fun r => (.bl r, T)) (tE A a) (tE A b) τ H Q := fun {τ H Q} q => by
    obtain ⟨ρ, B, T, σ, v, T', ss, e, k⟩ := q
    obtain ⟨⟨v1, T1⟩, e1, e⟩ := Option.bind_eq_some_iff.mp e
    obtain ⟨⟨v2, T2⟩, e2, e3⟩ := Option.bind_eq_some_iff.mp e
    refine tE.mk ss e1 fun ρ1 H1 x1 x1e s1 r1 => tE.mk s1 e2 fun ρ2 H2 x2 x2e s2 r2 => ?_
    rw [g.K]
    exact ⟨ρ2, B, T2, v1, v2, v, T', s2.hr, x2e.rep r1, r2, e3, k.next s2.hr.nd (x1e.trans s1.hr.nd x2e)⟩
  refine .ofC rfl (fun e h => ?_) fun e h => ?_
  · cases e <;> first | cases h | skip
    rename_i x ops ys p
    cases ops with
    | nil => cases h
    | cons op r =>
      cases r with
      | cons _ _ => cases ys with
        | nil => cases h
        | cons y r => cases r <;> cases h
      | nil => cases ys with
        | nil => cases h
        | cons y r => cases r with
          | cons _ _ => cases h
          | nil =>
            obtain ⟨h1, h2⟩ := bn h
            obtain ⟨h1, h3⟩ := bn h1
            obtain ⟨h2, h4⟩ := bn h2
            have e1 := cmpB_ok h1
            subst e1
            exact (pe_cmpR (op_cmp g.hu o) (ha.e x h2) (hb.e y h4) (noSet_behind h3)).imp fun τ H Q q => key q
  · cases e <;> first | cases h | skip
    rename_i x ops ys p
    cases ops with
    | nil => cases h
    | cons op r =>
      cases r with
      | cons _ _ => cases ys with
        | nil => cases h
        | cons y r => cases r <;> cases h
      | nil => cases ys with
        | nil => cases h
        | cons y r => cases r with
          | cons _ _ => cases h
          | nil =>
            obtain ⟨h1, h2⟩ := bn h
            obtain ⟨h1, h3⟩ := bn h1
            obtain ⟨h2, h4⟩ := bn h2
            have e1 := cmpB_ok h1
            subst e1
            refine (pt_cmpR (op_cmp g.hu o) (ha.e x h2) (hb.e y h4) (noSet_behind h3)).imp fun τ H Q q => ?_
            obtain ⟨ρ, B, T, σ, bb, T', ss, e, k⟩ := q
            refine key ⟨ρ, B, T, σ, .bl bb, T', ss, e, fun ρ' H' z x h r => ?_⟩
            cases r
            exact ⟨_, rfl, k _ _ x h⟩
theorem last2 {op op' : CmpOp} {y z : Expr} (h : noSet z = true) : lastMarks [op, op'] [y, z] = false := by
  show behindInMarks op' z = false
  exact noSet_behind h
theorem s_chain (g : Gd A C0 kk X sc fn) (o o' : CO) (ha : Snd A C0 kk X sc fn a) (hb : Snd A C0 kk X sc fn b) (hd : Snd A C0 kk X sc fn d) : Snd A C0 kk X sc fn (.chain o o' a b d) := by
  have key : ∀ {τ : L2.St} {H : Hp} {Q : VK}, tE A (.chain o o' a b d) τ H Q →
      tChain (rO X.K fun B T x y => (cmp B T o x y).map fun r => (.bl r, T)) (rO X.K fun B T x y => (cmp B T o' x y).map fun r => (.bl r, T)) (tE A a) (tE A b) (tE A d) τ H Q := fun {τ H Q} q => by
    obtain ⟨ρ, B, T, σ, v, T', ss, e, k⟩ := q
    obtain ⟨⟨v1, T1⟩, e1, e⟩ := Option.bind_eq_some_iff.mp e
    obtain ⟨⟨v2, T2⟩, e2, e⟩ := Option.bind_eq_some_iff.mp e
    obtain ⟨rr, e3, e⟩ := Option.bind_eq_some_iff.mp e
    refine tE.mk ss e1 fun ρ1 H1 x1 x1e s1 r1 => tE.mk s1 e2 fun ρ2 H2 x2 x2e s2 r2 => ?_
    rw [g.K]
    refine ⟨ρ2, B, T2, v1, v2, .bl rr, T2, s2.hr, x2e.rep r1, r2, by show Option.map _ (cmp B T2 o v1 v2) = _; rw [e3]; rfl, fun ρ3 H3 z x3e h3 r3 => ?_⟩
    cases r3
    have x03 := ((x1e.trans s1.hr.nd x2e).trans s2.hr.nd x3e)
    refine ⟨rr, rfl, ?_⟩
    cases rr with
    | false =>
      rw [if_neg Bool.false_ne_true]
      cases e
      exact (k.next h3.nd x03).same h3 (.bl _)
    | true =>
      rw [if_pos rfl]
      obtain ⟨⟨v4, T4⟩, e4, e5⟩ := Option.bind_eq_some_iff.mp e
      refine tE.mk (s2.ext x3e h3) e4 fun ρ4 H4 x4 x4e s4 r4 => ?_
      exact ⟨ρ4, B, T4, v2, v4, v, T', s4.hr, x4e.rep (x3e.rep r2), r4, e5, k.next s4.hr.nd (x03.trans h3.nd x4e)⟩
  have form : ∀ e : Expr, (match e with
      | .Compare x [op, op'] [y, z] _ => (cmpB o op && (cmpB o' op' && noSet z)) && ((chk C0 a).e sc fn x && ((chk C0 b).e sc fn y && (chk C0 d).e sc fn z))
      | _ => false) = true → ∃ x y z p, e = .Compare x [cmpOf o, cmpOf o'] [y, z] p ∧ noSet z = true ∧ PE X x (tE A a) ∧ PE X y (tE A b) ∧ PE X z (tE A d) := fun e h => by
    split at h
    · obtain ⟨h1, h2⟩ := bn h
      obtain ⟨h1, h3⟩ := bn h1
      obtain ⟨h3, h4⟩ := bn h3
      obtain ⟨h2, h5⟩ := bn h2
      obtain ⟨h5, h6⟩ := bn h5
      have e1 := cmpB_ok h1
      have e2 := cmpB_ok h3
      subst e1 e2
      exact ⟨_, _, _, _, rfl, h4, ha.e _ h2, hb.e _ h5, hd.e _ h6⟩
    · cases h
  refine .ofC rfl (fun e h => ?_) fun e h => ?_
  · obtain ⟨x, y, z, p, rfl, h1, q1, q2, q3⟩ := form e h
    exact (pe_chain (op_cmp g.hu o) (op_cmp g.hu o') q1 q2 q3 (last2 h1)).imp fun τ H Q q => key q
  · obtain ⟨x, y, z, p, rfl, h1, q1, q2, q3⟩ := form e h
    refine (pt_chain (op_cmp g.hu o) (op_cmp g.hu o') q1 q2 q3 (last2 h1)).imp fun τ H Q q => ?_
    obtain ⟨ρ, B, T, σ, bb, T', ss, e, k⟩ := q
    refine key ⟨ρ, B, T, σ, .bl bb, T', ss, e, fun ρ' H' z x h r => ?_⟩
    cases r
    exact ⟨_, rfl, k _ _ x h⟩
theorem s_ife (ha : Snd A C0 kk X sc fn a) (hb : Snd A C0 kk X sc fn b) (hd : Snd A C0 kk X sc fn d) : Snd A C0 kk X sc fn (.ife d a b) := .ofE rfl fun e h => by
  cases e <;> first | cases h | skip
  rename_i x y z p
  obtain ⟨h1, h2⟩ := bn h
  obtain ⟨h2, h3⟩ := bn h2
  refine (pe_ifExp (hd.t x h1) (ha.e y h2) (hb.e z h3)).imp fun τ H Q q => ?_
  obtain ⟨ρ, B, T, σ, v, T', ss, e, k⟩ := q
  obtain ⟨⟨v1, T1⟩, e1, e⟩ := Option.bind_eq_some_iff.mp e
  cases v1 <;> first | cases e | skip
  rename_i b1
  refine tT.mk ss e1 fun ρ1 H1 x1e s1 => ?_
  cases b1 with
  | true => rw [if_pos rfl]; exact ⟨ρ1, B, T1, σ, v, T', s1, e, k.next s1.hr.nd x1e⟩
  | false => rw [if_neg Bool.false_ne_true]; exact ⟨ρ1, B, T1, σ, v, T', s1, e, k.next s1.hr.nd x1e⟩
end
end Rf
end
section
/-! Rf: subscripts, displays, calls do what their compact codes say. -/
namespace Rf
open PySem PySem.Spec PyProof.Rows L2
section
variable {A : Amb} {C0 : Fx} {kk : Nat} {X : Cx} {sc : Scope} {fn : Str → Bool} {a b d c : C}
theorem s_idx (g : Gd A C0 kk X sc fn) (ha : Snd A C0 kk X sc fn a) (hb : Snd A C0 kk X sc fn b) : Snd A C0 kk X sc fn (.idx a b) := .ofE rfl fun e h => by
  cases e <;> first | cases h | skip
  rename_i x y p
  obtain ⟨h1, h2⟩ := bn h
  obtain ⟨h2, h3⟩ := bn h2
  refine (pe_ix ix_ok (ha.e x h2) (hb.e y h3) (plainI_ok h1)).imp fun τ H Q q => ?_
  obtain ⟨ρ, B, T, σ, v, T', ss, e, k⟩ := q
  obtain ⟨⟨v1, T1⟩, e1, e⟩ := Option.bind_eq_some_iff.mp e
  obtain ⟨⟨v2, T2⟩, e2, e3⟩ := Option.bind_eq_some_iff.mp e
  refine tE.mk ss e1 fun ρ1 H1 x1 x1e s1 r1 => tE.mk s1 e2 fun ρ2 H2 x2 x2e s2 r2 => ?_
  rw [g.K]
  exact ⟨ρ2, B, T2, v1, v2, v, T', s2.hr, x2e.rep r1, r2, e3, k.next s2.hr.nd (x1e.trans s1.hr.nd x2e)⟩
theorem s_slc (g : Gd A C0 kk X sc fn) (ha : Snd A C0 kk X sc fn a) (hb : Snd A C0 kk X sc fn b) (hd : Snd A C0 kk X sc fn d) : Snd A C0 kk X sc fn (.slc a b d) := .ofE rfl fun e h => by
  split at h
  · rename_i x l hh p1 p2
    obtain ⟨h1, h2⟩ := bn h
    obtain ⟨h2, h3⟩ := bn h2
    refine (pe_slice sl_ok (ha.e x h1) (po_some (hb.e l h2)) (po_some (hd.e hh h3))).imp fun τ H Q q => ?_
    obtain ⟨ρ, B, T, σ, v, T', ss, e, k⟩ := q
    obtain ⟨⟨v1, T1⟩, e1, e⟩ := Option.bind_eq_some_iff.mp e
    obtain ⟨⟨v2, T2⟩, e2, e⟩ := Option.bind_eq_some_iff.mp e
    obtain ⟨⟨v3, T3⟩, e3, e⟩ := Option.bind_eq_some_iff.mp e
    refine tE.mk ss e1 fun ρ1 H1 x1 x1e s1 r1 => tE.mk s1 e2 fun ρ2 H2 x2 x2e s2 r2 => ?_
    dsimp only at e
    split at e
    · rename_i l h
      cases r2
      refine ⟨_, rfl, tE.mk s2 e3 fun ρ3 H3 x3 x3e s3 r3 => ?_⟩
      cases r3
      rw [g.K]
      exact ⟨_, rfl, ρ3, B, T3, v1, v, T', s3.hr, x3e.rep (x2e.rep r1), e, k.next s3.hr.nd ((x1e.trans s1.hr.nd x2e).trans s2.hr.nd x3e)⟩
    · cases e
  · cases h
theorem s_slcL (g : Gd A C0 kk X sc fn) (ha : Snd A C0 kk X sc fn a) (hb : Snd A C0 kk X sc fn b) : Snd A C0 kk X sc fn (.slcL a b) := .ofE rfl fun e h => by
  split at h
  · rename_i x l p1 p2
    obtain ⟨h1, h2⟩ := bn h
    refine (pe_slice sl_ok (ha.e x h1) (po_some (hb.e l h2)) po_none).imp fun τ H Q q => ?_
    obtain ⟨ρ, B, T, σ, v, T', ss, e, k⟩ := q
    obtain ⟨⟨v1, T1⟩, e1, e⟩ := Option.bind_eq_some_iff.mp e
    obtain ⟨⟨v2, T2⟩, e2, e⟩ := Option.bind_eq_some_iff.mp e
    refine tE.mk ss e1 fun ρ1 H1 x1 x1e s1 r1 => tE.mk s1 e2 fun ρ2 H2 x2 x2e s2 r2 => ?_
    dsimp only at e
    split at e
    · cases r2
      rw [g.K]
      exact ⟨_, rfl, ρ2, B, T2, v1, v, T', s2.hr, x2e.rep r1, e, k.next s2.hr.nd (x1e.trans s1.hr.nd x2e)⟩
    · cases e
  · cases h
theorem s_slcH (g : Gd A C0 kk X sc fn) (ha : Snd A C0 kk X sc fn a) (hb : Snd A C0 kk X sc fn b) : Snd A C0 kk X sc fn (.slcH a b) := .ofE rfl fun e h => by
  split at h
  · rename_i x l p1 p2
    obtain ⟨h1, h2⟩ := bn h
    refine (pe_slice sl_ok (ha.e x h1) po_none (po_some (hb.e l h2))).imp fun τ H Q q => ?_
    obtain ⟨ρ, B, T, σ, v, T', ss, e, k⟩ := q
    obtain ⟨⟨v1, T1⟩, e1, e⟩ := Option.bind_eq_some_iff.mp e
    obtain ⟨⟨v2, T2⟩, e2, e⟩ := Option.bind_eq_some_iff.mp e
    refine tE.mk ss e1 fun ρ1 H1 x1 x1e s1 r1 => tE.mk s1 e2 fun ρ2 H2 x2 x2e s2 r2 => ?_
    dsimp only at e
    split at e
    · cases r2
      rw [g.K]
      exact ⟨_, rfl, ρ2, B, T2, v1, v, T', s2.hr, x2e.rep r1, e, k.next s2.hr.nd (x1e.trans s1.hr.nd x2e)⟩
    · cases e
  · cases h
theorem s_rev (g : Gd A C0 kk X sc fn) (ha : Snd A C0 kk X sc fn a) : Snd A C0 kk X sc fn (.rev a) := .ofE rfl fun e h => by
  split at h
  · rename_i x _ _ _ _ _
    refine (pe_revL (ha.e x h)).imp fun τ H Q q => ?_
    obtain ⟨ρ, B, T, σ, v, T', ss, e, k⟩ := q
    obtain ⟨⟨v1, T1⟩, e1, e⟩ := Option.bind_eq_some_iff.mp e
    refine tE.mk ss e1 fun ρ1 H1 x1 x1e s1 r1 => ?_
    dsimp only at e
    split at e
    · obtain ⟨xs, e2, e3⟩ := Option.bind_eq_some_iff.mp e
      cases r1 with
      | ref hk =>
        obtain ⟨ad, vs, k', rs, t⟩ := s1.hr.rd e2
        rw [hk] at k'; cases k'
        exact ⟨_, vs, rfl, .of t, (PQ.mk e3 (k.next s1.hr.nd x1e) s1.hr rs.reverse).2⟩
    · cases e
  · cases h
theorem s_nil : Snd A C0 kk X sc fn .nil := .ofA rfl (fun es h => by
  cases es with
  | nil =>
    refine pa_nil.imp fun τ H Q q => ?_
    obtain ⟨ρ, B, T, σ, xs, T', ss, e, k⟩ := q
    cases e
    exact k _ _ _ Ext.refl ss.hr .nil
  | cons _ _ => cases h) (fun es h => by
  cases es with
  | nil =>
    refine pk_nil.imp fun τ H Q q => ?_
    obtain ⟨ρ, B, T, σ, xs, T', ss, e, k⟩ := q
    cases e
    exact k _ _ _ Ext.refl ss.hr .nil
  | cons _ _ => cases h)
theorem s_cons (ha : Snd A C0 kk X sc fn a) (hb : Snd A C0 kk X sc fn b) : Snd A C0 kk X sc fn (.cons a b) := by
  have key : ∀ {τ : L2.St} {H : Hp} {Q : List V → Hp → Prop}, tA A (.cons a b) τ H Q → tCons (tE A a) (tA A b) τ H Q := fun {τ H Q} q => by
    obtain ⟨ρ, B, T, σ, xs, T', ss, e, k⟩ := q
    obtain ⟨⟨v1, T1⟩, e1, e⟩ := Option.bind_eq_some_iff.mp e
    obtain ⟨⟨v2, T2⟩, e2, e⟩ := Option.bind_eq_some_iff.mp e
    obtain ⟨ys, e3, e4⟩ := Option.map_eq_some_iff.mp e
    have e5 := asTup_some e3
    subst e5
    cases e4
    refine tE.mk ss e1 fun ρ1 H1 x1 x1e s1 r1 => tA.mk s1 e2 fun ρ2 H2 x2 x2e s2 r2 => ?_
    exact k _ _ _ (x1e.trans s1.hr.nd x2e) s2.hr (.cons (x2e.rep r1) r2)
  refine .ofA rfl (fun es h => ?_) (fun es h => ?_)
  · cases es with
    | nil => cases h
    | cons x r =>
      obtain ⟨h1, h2⟩ := bn h
      obtain ⟨h2, h3⟩ := bn h2
      exact (pa_cons (ha.e x h2) (hb.a r h3) (star_ok h1)).imp fun τ H Q q => key q
  · cases es with
    | nil => cases h
    | cons x r =>
      obtain ⟨nm, x, p⟩ := x
      cases nm with
      | none => cases h
      | some z =>
        obtain ⟨h2, h3⟩ := bn h
        exact (pk_cons (ha.e x h2) (hb.k r h3)).imp fun τ H Q q => key q
theorem s_tup (ha : Snd A C0 kk X sc fn a) : Snd A C0 kk X sc fn (.tup a) := .ofE rfl fun e h => by
  cases e <;> first | cases h | skip
  rename_i es k' p
  refine (pe_tup (ha.a es h)).imp fun τ H Q q => ?_
  obtain ⟨ρ, B, T, σ, v, T', ss, e, k⟩ := q
  obtain ⟨⟨v1, T1⟩, e1, e⟩ := Option.bind_eq_some_iff.mp e
  obtain ⟨xs, e2, e3⟩ := Option.bind_eq_some_iff.mp e
  have e5 := asTup_some e2
  subst e5
  unfold tup' at e3
  split at e3
  · rename_i hb
    cases e3
    refine tA.mk ss e1 fun ρ1 H1 vs x1e s1 r1 => ⟨?_, (k.next s1.hr.nd x1e).tup s1.hr r1⟩
    rw [r1.length, ← big_eq]; exact hb
  · cases e3
theorem s_lst (ha : Snd A C0 kk X sc fn a) : Snd A C0 kk X sc fn (.lst a) := .ofE rfl fun e h => by
  cases e <;> first | cases h | skip
  rename_i es p
  refine (pe_lst (ha.a es h)).imp fun τ H Q q => ?_
  obtain ⟨ρ, B, T, σ, v, T', ss, e, k⟩ := q
  obtain ⟨⟨v1, T1⟩, e1, e⟩ := Option.bind_eq_some_iff.mp e
  obtain ⟨xs, e2, e3⟩ := Option.bind_eq_some_iff.mp e
  have e5 := asTup_some e2
  subst e5
  exact tA.mk ss e1 fun ρ1 H1 vs x1e s1 r1 => PQ.mk e3 (k.next s1.hr.nd x1e) s1.hr r1

/-! ### calls -/
theorem pure_ret {K : PySem.W.Frag} {ρ : List Addr} {H : Hp} {B T : MH} {v : PV} {T' : MH} {Q : VK} (hr : HR K ρ (B ++ T) H) (nr : v.noRef = true) (k : PQ K ρ H B T v Q) : PQ K ρ H (B ++ T) T' v Q := fun ρ' H' x xe h r => by
  have same : ∀ b o, H b = some o → H' b = some o := fun b o e => xe.fr b o e (.inl (by
    have hl : (B ++ T).length = ρ.length := hr.len.symm
    rw [hl, List.drop_length]
    simp))
  have x0 : Ext B.length ρ H ρ H' := ⟨List.prefix_refl _, fun b o e _ => same b o e, fun _ h => .inl h, xe.al⟩
  refine k ρ H' x x0 (hr.same same x0) ?_
  exact repBack r nr
where
  repBack {K : PySem.W.Frag} {ρ ρ' : List Addr} {H : Hp} : ∀ {v : V} {y : PV}, Rep K ρ' H v y → y.noRef = true → Rep K ρ H v y
  | _, _, .non, _ => .non
  | _, _, .bl b, _ => .bl b
  | _, _, .int i, _ => .int i
  | _, _, .str z, _ => .str z
  | _, _, .tup h r, e => .tup h (repsBack r e)
  | _, _, .ref _, e => by cases e
  | _, _, .scr _, e => by cases e
  repsBack {K : PySem.W.Frag} {ρ ρ' : List Addr} {H : Hp} : ∀ {vs : List V} {ys : List PV}, Reps K ρ' H vs ys → noRefs ys = true → Reps K ρ H vs ys
  | _, _, .nil, _ => .nil
  | _, _, .cons h r, e => by
    have e' := Bool.and_eq_true_iff.mp (show (_ && _) = true from e)
    exact .cons (repBack h e'.1) (repsBack r e'.2)
theorem s_call (g : Gd A C0 kk X sc fn) (f : Nat) (ha : Snd A C0 kk X sc fn a) : Snd A C0 kk X sc fn (.call f a) := .ofE rfl fun e h => by
  split at h
  · rename_i x p1 y ys p2
    obtain ⟨h1, h2⟩ := bn h
    obtain ⟨h1, h3⟩ := bn h1
    obtain ⟨h3, h4⟩ := bn h3
    obtain ⟨ad, fd, ps, m, hk, hb, F, hl, _⟩ := g.fns f x (of_decide_eq_true h1)
    rw [← g.K] at hk hb F
    have st := chkA_star h2
    rw [List.all_cons, Bool.and_eq_true] at st
    refine (pe_call F g.room (gl_ok g h3) m hk hb .nil pass0 (ha.a _ h2) (pl_ok h4).1 (star_ok st.1) (any_star st.2)).imp fun τ H Q q => ?_
    obtain ⟨ρ, B, T, σ, v, T', ss, e, k⟩ := q
    obtain ⟨⟨v1, T1⟩, e1, e⟩ := Option.bind_eq_some_iff.mp e
    obtain ⟨xs, e2, e3⟩ := Option.bind_eq_some_iff.mp e
    have e5 := asTup_some e2
    subst e5
    refine tA.mk ss e1 fun ρ1 H1 vs x1e s1 r1 => ?_
    rw [List.append_nil]
    exact ⟨r1.length.trans (hl _ _ _ _ e3), ρ1, B, T1, xs, v, T', s1.hr, r1, e3, k.next s1.hr.nd x1e⟩
  · cases h
theorem s_callp (g : Gd A C0 kk X sc fn) (f : Nat) (ha : Snd A C0 kk X sc fn a) : Snd A C0 kk X sc fn (.callp f a) := .ofE rfl fun e h => by
  split at h
  · rename_i x p1 y ys p2
    obtain ⟨h1, h2⟩ := bn h
    obtain ⟨h1, h3⟩ := bn h1
    obtain ⟨h3, h4⟩ := bn h3
    obtain ⟨ad, fd, ps, m, hk, hb, F, hl, _⟩ := g.fns f x (of_decide_eq_true h1)
    rw [← g.K] at hk hb F
    have st := chkA_star h2
    rw [List.all_cons, Bool.and_eq_true] at st
    refine (pe_call F g.room (gl_ok g h3) m hk hb .nil pass0 (ha.a _ h2) (pl_ok h4).1 (star_ok st.1) (any_star st.2)).imp fun τ H Q q => ?_
    obtain ⟨ρ, B, T, σ, v, T', ss, e, k⟩ := q
    obtain ⟨⟨v1, T1⟩, e1, e⟩ := Option.bind_eq_some_iff.mp e
    obtain ⟨xs, e2, e⟩ := Option.bind_eq_some_iff.mp e
    obtain ⟨⟨v3, T3⟩, e3, e4⟩ := Option.bind_eq_some_iff.mp e
    have e5 := asTup_some e2
    subst e5
    change (if v3.noRef = true then some (v3, T1) else none) = some (v, T') at e4
    split at e4
    · rename_i nr
      have ea : v3 = v := by injection e4 with e4; injection e4
      have eb : T1 = T' := by injection e4 with e4; injection e4
      subst ea eb
      refine tA.mk ss e1 fun ρ1 H1 vs x1e s1 r1 => ?_
      rw [List.append_nil]
      have hr1 : HR A.K ρ1 ((B ++ T1) ++ []) H1 := by rw [List.append_nil]; exact s1.hr
      exact ⟨r1.length.trans (hl _ _ _ _ e3), ρ1, B ++ T1, [], xs, v3, T3, hr1, r1, e3, pure_ret s1.hr nr (k.next s1.hr.nd x1e)⟩
    · cases e4
  · cases h
theorem kw_all {pos : Pos} {env : Env} {c : C} : ∀ {kws : List Keyword}, (chk C0 c).k sc fn kws = true → (backToKw pos (keywordEach kws env)).all (·.1.isSome) = true ∧ (backToKw pos (keywordEach kws env)).filterMap (·.1) = kws.filterMap (·.arg) ∧ (backToKw pos (keywordEach kws env)).any (·.1.isNone) = false := by
  induction c with
  | cons a es _ ih =>
    intro kws h
    cases kws with
    | nil => exact ⟨rfl, rfl, rfl⟩
    | cons x r =>
      obtain ⟨nm, x, p⟩ := x
      cases nm with
      | none => cases h
      | some z =>
        obtain ⟨h2, h3⟩ := bn h
        obtain ⟨i1, i2, i3⟩ := ih h3
        refine ⟨i1, ?_, i3⟩
        show z :: _ = z :: _
        exact congrArg (z :: ·) i2
  | nil =>
    intro kws h
    cases kws with
    | nil => exact ⟨rfl, rfl, rfl⟩
    | cons x r => cases h
  | _ => intro kws h; cases h
/-- f(k = v, ..) -/
theorem pe_callW0 {CX : CXT} {k : Nat} {f : Addr} {fd : FuncData} {ps ks : List Str} {sp : Sp} {E : XK} {x : Str} {p pos : Pos} {kws : List Keyword} {tk : TA} {g : List Value → List Value → List Value} {gV : List V → List V → List V}
    (F : FnOk X.prog X.w X.K X.mg X.base CX k f fd ps sp) (hr : Room k X.A) (hg : Gl X x) (hm : X.mg x = some (.ref f)) (hk : PySem.W.keepIn X.K (.ref f) = true) (hb : KBn X.K fd ps 0 ks g gV) (hx : Passes CX X E)
    (hkw : PK X kws tk) (hall : (backToKw pos (keywordEach kws X.env)).all (·.1.isSome) = true) (hks : (backToKw pos (keywordEach kws X.env)).filterMap (·.1) = ks)
    (hdb : (x == ("__debug__" : Str)) = false) (hno : (backToKw pos (keywordEach kws X.env)).any (·.1.isNone) = false) :
    PE X (.Call (.Name x p) [] kws pos) (tCallN 0 ks.length sp gV E tNil tk) := by
  have hpl : ((backTo pos (starEach [] X.env)).any (·.1) || (backToKw pos (keywordEach kws X.env)).any (·.1.isNone)) = false := by rw [hno]; rfl
  refine ⟨fun pins s σ H Q I h => ?_⟩
  refine wpAny_Call_Name_kw (ld_glob I hg hm ?_ hdb)
  refine PySem.W.callWith_KW0 (h₀ := X.base) (first := []) I.ok.mod.kin hk hall ?_ hpl
  refine thn (hkw.run pos pins s σ H _ I h) fun ws s2 ⟨zs, H2, I2, rz, l1, l2, q2⟩ => ⟨I2.kIn, ?_⟩
  rw [hks]
  exact run_fnN (us := []) (vs := []) F hr hb hx I2 .nil rz l1 l2 q2
theorem pe_callW {CX : CXT} {k n : Nat} {f : Addr} {fd : FuncData} {ps ks : List Str} {sp : Sp} {E : XK} {x : Str} {p pos : Pos} {e : Expr} {es : List Expr} {kws : List Keyword} {t tk : TA} {g : List Value → List Value → List Value} {gV : List V → List V → List V}
    (F : FnOk X.prog X.w X.K X.mg X.base CX k f fd ps sp) (hr : Room k X.A) (hg : Gl X x) (hm : X.mg x = some (.ref f)) (hk : PySem.W.keepIn X.K (.ref f) = true) (hb : KBn X.K fd ps n ks g gV) (hx : Passes CX X E)
    (ha : PA X (e :: es) t) (hkw : PK X kws tk) (hall : (backToKw pos (keywordEach kws X.env)).all (·.1.isSome) = true) (hks : (backToKw pos (keywordEach kws X.env)).filterMap (·.1) = ks)
    (hdb : (x == ("__debug__" : Str)) = false) (hns : (e :: es).all noStar = true) (hno : (backToKw pos (keywordEach kws X.env)).any (·.1.isNone) = false) :
    PE X (.Call (.Name x p) (e :: es) kws pos) (tCallN n ks.length sp gV E t tk) := by
  have hpl : ((backTo pos (starEach (e :: es) X.env)).any (·.1) || (backToKw pos (keywordEach kws X.env)).any (·.1.isNone)) = false := by rw [any_star hns, hno]; rfl
  rw [List.all_cons, Bool.and_eq_true] at hns
  exact pe_callN F hr hg hm hk hb hx ha hkw hall hks hdb (star_ok hns.1) hpl
theorem chkA_nil {c : C} (h : (chk C0 c).a sc fn [] = true) : c = .nil := by
  cases c <;> first | rfl | cases h
theorem getP_reps {K : PySem.W.Frag} {ρ : List Addr} {H : Hp} {vs : List V} {xs : List PV} (r : Reps K ρ H vs xs) : ∀ pm : List Nat, Reps K ρ H (getP pm vs) (getP pm xs)
  | [] => .nil
  | i :: pm => by
    have ih := getP_reps r pm
    unfold getP at ih ⊢
    rw [List.filterMap_cons, List.filterMap_cons]
    cases e : xs[i]? with
    | none =>
      have e2 : vs[i]? = none := by
        rw [List.getElem?_eq_none_iff] at e ⊢
        rw [r.length]; exact e
      rw [e2]; exact ih
    | some x =>
      obtain ⟨v, e2, rx⟩ := r.get e
      rw [e2]; exact .cons rx ih
theorem s_callk (g : Gd A C0 kk X sc fn) (f : Nat) (pm : List Nat) (pu : Bool) (ha : Snd A C0 kk X sc fn a) (hb : Snd A C0 kk X sc fn b) : Snd A C0 kk X sc fn (.callk f a b pm pu) := .ofE rfl fun e h => by
  split at h
  · rename_i x p1 ys kws p2
    obtain ⟨h1, h2⟩ := bn h
    obtain ⟨h1, h3⟩ := bn h1
    obtain ⟨h3, h4⟩ := bn h3
    obtain ⟨h5, h6⟩ := bn h2
    obtain ⟨h5, _⟩ := bn h5
    obtain ⟨h6, h7⟩ := bn h6
    obtain ⟨ad, fd, ps, m, hk, hb', F, hl, hkb⟩ := g.fns f x (of_decide_eq_true h1)
    have KB := hkb _ _ _ (of_decide_eq_true h5)
    rw [← g.K] at hk hb' F KB
    have st := chkA_star h6
    obtain ⟨k1, k2, k3⟩ := kw_all (pos := p2) (env := X.env) h7
    -- what the call itself asks
    have key : ∀ {ρ : List Addr} {B T2 : MH} {H2 : Hp} {xs zs : List PV} {vs ws : List V} {v : PV} {T' : MH} {Q : VK}, HR A.K ρ (B ++ T2) H2 → Reps A.K ρ H2 vs xs → Reps A.K ρ H2 ws zs → PQ A.K ρ H2 B T' v Q →
        (if pu then (A.CF f (getP pm (xs ++ zs)) (B ++ T2) []).bind fun (v, _) => if v.noRef then some (v, T2) else none else A.CF f (getP pm (xs ++ zs)) B T2) = some (v, T') →
        spI A ps f (getP pm (vs ++ ws)) H2 Q E0 := fun {ρ B T2 H2 xs zs vs ws v T' Q} hr r1 r2 k e => by
      have r3 := getP_reps (r1.append r2) pm
      split at e
      · obtain ⟨⟨v3, T3⟩, e3, e4⟩ := Option.bind_eq_some_iff.mp e
        change (if v3.noRef = true then some (v3, T2) else none) = some (v, T') at e4
        split at e4
        · rename_i nr
          have ea : v3 = v := by injection e4 with e4; injection e4
          have eb : T2 = T' := by injection e4 with e4; injection e4
          subst ea eb
          have hr1 : HR A.K ρ ((B ++ T2) ++ []) H2 := by rw [List.append_nil]; exact hr
          exact ⟨r3.length.trans (hl _ _ _ _ e3), ρ, B ++ T2, [], _, v3, T3, hr1, r3, e3, pure_ret hr nr k⟩
        · cases e4
      · exact ⟨r3.length.trans (hl _ _ _ _ e), ρ, B, T2, _, v, T', hr, r3, e, k⟩
    cases ys with
    | nil =>
      have ec := chkA_nil h6
      subst ec
      refine (pe_callW0 F g.room (gl_ok g h3) m hk KB pass0 (hb.k _ h7) k1 k2 (pl_ok h4).1 k3).imp fun τ H Q q => ?_
      obtain ⟨ρ, B, T, σ, v, T', ss, e, k⟩ := q
      obtain ⟨⟨v2, T2⟩, e3, e⟩ := Option.bind_eq_some_iff.mp e
      obtain ⟨zs, e4, e⟩ := Option.bind_eq_some_iff.mp e
      have e5 := asTup_some e4
      subst e5
      refine tA.mk ss e3 fun ρ2 H2 ws x2e s2 r2 => ?_
      have kl : ws.length = (kws.filterMap (·.arg)).length := by
        rw [r2.length]
        exact kwLen h7 e3
      exact ⟨rfl, kl, key s2.hr .nil r2 (k.next s2.hr.nd x2e) e⟩
    | cons y ys =>
      refine (pe_callW F g.room (gl_ok g h3) m hk KB pass0 (ha.a _ h6) (hb.k _ h7) k1 k2 (pl_ok h4).1 st k3).imp fun τ H Q q => ?_
      obtain ⟨ρ, B, T, σ, v, T', ss, e, k⟩ := q
      obtain ⟨⟨v1, T1⟩, e1, f1⟩ := Option.bind_eq_some_iff.mp e
      clear e
      obtain ⟨xs, e2, f2⟩ := Option.bind_eq_some_iff.mp f1
      clear f1
      have e6 := asTup_some e2
      subst e6
      obtain ⟨⟨v2, T2⟩, e3, f3⟩ := Option.bind_eq_some_iff.mp f2
      clear f2
      obtain ⟨zs, e4, e⟩ := Option.bind_eq_some_iff.mp f3
      clear f3
      have e5 := asTup_some e4
      subst e5
      refine tA.mk ss e1 fun ρ1 H1 vs x1e s1 r1 => tA.mk s1 e3 fun ρ2 H2 ws x2e s2 r2 => ?_
      have kl : ws.length = (kws.filterMap (·.arg)).length := by
        rw [r2.length]
        exact kwLen h7 e3
      have vl : vs.length = (y :: ys).length := by
        rw [r1.length]
        exact arLen h6 e1
      exact ⟨vl, kl, key s2.hr (x2e.reps r1) r2 (k.next s2.hr.nd (x1e.trans s1.hr.nd x2e)) e⟩
  · cases h
where
  kwLen {c : C} {kws : List Keyword} {σ : En} {B T T' : MH} {xs : List PV} (h : (chk C0 c).k sc fn kws = true) (e : (sem A.CF A.G A.L c).e σ B T = some (.tup xs, T')) : xs.length = (kws.filterMap (·.arg)).length := by
    induction c generalizing kws T xs T' with
    | cons a es _ ih =>
      cases kws with
      | nil => cases h
      | cons x r =>
        obtain ⟨nm, x, p⟩ := x
        cases nm with
        | none => cases h
        | some z =>
          obtain ⟨h2, h3⟩ := bn h
          obtain ⟨⟨v1, T1⟩, e1, e⟩ := Option.bind_eq_some_iff.mp e
          obtain ⟨⟨v2, T2⟩, e2, e⟩ := Option.bind_eq_some_iff.mp e
          obtain ⟨ys, e3, e4⟩ := Option.map_eq_some_iff.mp e
          have e5 := asTup_some e3
          subst e5
          cases e4
          exact congrArg Nat.succ (ih h3 e2)
    | nil =>
      cases kws with
      | nil => cases e; rfl
      | cons x r => cases h
    | _ => cases h
  arLen {c : C} {es : List Expr} {σ : En} {B T T' : MH} {xs : List PV} (h : (chk C0 c).a sc fn es = true) (e : (sem A.CF A.G A.L c).e σ B T = some (.tup xs, T')) : xs.length = es.length := by
    induction c generalizing es T xs T' with
    | cons a es' _ ih =>
      cases es with
      | nil => cases h
      | cons x r =>
        obtain ⟨_, h2⟩ := bn h
        obtain ⟨h2, h3⟩ := bn h2
        obtain ⟨⟨v1, T1⟩, e1, e⟩ := Option.bind_eq_some_iff.mp e
        obtain ⟨⟨v2, T2⟩, e2, e⟩ := Option.bind_eq_some_iff.mp e
        obtain ⟨ys, e3, e4⟩ := Option.map_eq_some_iff.mp e
        have e5 := asTup_some e3
        subst e5
        cases e4
        exact congrArg Nat.succ (ih h3 e2)
    | nil =>
      cases es with
      | nil => cases e; rfl
      | cons x r => cases h
    | _ => cases h

/-! ### built-ins -/
theorem s_bi (g : Gd A C0 kk X sc fn) (o : BI) (ha : Snd A C0 kk X sc fn a) : Snd A C0 kk X sc fn (.bi o a) := .ofE rfl fun e h => by
  split at h
  · rename_i x p1 y ys p2
    obtain ⟨h1, h2⟩ := bn h
    obtain ⟨h1, h3⟩ := bn h1
    have ex := of_decide_eq_true h1
    subst ex
    have st := chkA_star h2
    rw [List.all_cons, Bool.and_eq_true] at st
    have hm : X.mg (biNm o) = none := g.blt _ (by cases o <;> decide +kernel)
    have imp : ∀ {τ : L2.St} {H : Hp} {Q : VK}, tE A (.bi o a) τ H Q → tCB (rA X.K fun B T => bi B T o) (tA A a) τ H Q := fun {τ H Q} q => by
      obtain ⟨ρ, B, T, σ, v, T', ss, e, k⟩ := q
      obtain ⟨⟨v1, T1⟩, e1, e⟩ := Option.bind_eq_some_iff.mp e
      obtain ⟨xs, e2, e3⟩ := Option.bind_eq_some_iff.mp e
      have e5 := asTup_some e2
      subst e5
      refine tA.mk ss e1 fun ρ1 H1 vs x1e s1 r1 => ?_
      rw [g.K]
      exact ⟨ρ1, B, T1, xs, v, T', s1.hr, r1, e3, k.next s1.hr.nd x1e⟩
    have bo := bi_boot o
    have bk := bi_ok (X := X) g.calm o
    have form : (∃ id, biV o = .builtin id) ∨ ∃ T, biV o = .type T := by
      cases o <;> first | exact .inl ⟨_, rfl⟩ | exact .inr ⟨_, rfl⟩
    rcases form with ⟨id, e⟩ | ⟨id, e⟩
    · rw [e] at bo bk
      exact (pe_callB bk (gl_ok g h3) hm bo (ha.a _ h2) (bi_dbg o).2 (bi_dbg o).1 (star_ok st.1) (any_star st.2)).imp fun τ H Q q => imp q
    · rw [e] at bo bk
      exact (pe_callTy bk (gl_ok g h3) hm bo (ha.a _ h2) (bi_dbg o).2 (bi_dbg o).1 (star_ok st.1) (any_star st.2)).imp fun τ H Q q => imp q
  · cases h
theorem boot_isi : bootBuiltins "isinstance" = some (.builtin "isinstance") := by decide +kernel
theorem s_isi (g : Gd A C0 kk X sc fn) (o : TY) (ha : Snd A C0 kk X sc fn a) : Snd A C0 kk X sc fn (.isi o a) := .ofE rfl fun e h => by
  split at h
  · rename_i x p1 y z p2 p3
    obtain ⟨q1, h2⟩ := bn h
    obtain ⟨h1, q2⟩ := bn q1
    obtain ⟨h3, q3⟩ := bn q2
    obtain ⟨h4, q4⟩ := bn q3
    obtain ⟨h5, h6⟩ := bn q4
    have ex := of_decide_eq_true h1
    have ez := of_decide_eq_true h3
    clear h q1 q2 q3 q4
    subst ex ez
    have hm : X.mg (Str.ofString o.nm) = none := g.blt _ (by cases o <;> decide +kernel)
    have pz : PE X (.Name (Str.ofString o.nm) p2) (tC (.ty o.nm)) := pe_bltn (gl_ok g h5) hm (ty_boot o) rfl (ty_dbg o).2 (ty_dbg o).1
    refine (pe_callB call_isi (gl_ok g h4) (g.blt "isinstance" (by decide +kernel)) boot_isi (pa_cons (ha.e y h2) (pa_cons pz pa_nil (by rfl)) (star_ok h6)) (by decide +kernel) (by decide +kernel) (star_ok h6) (by rfl)).imp fun τ H Q q => ?_
    obtain ⟨ρ, B, T, σ, v, T', ss, e, k⟩ := q
    obtain ⟨⟨v1, T1⟩, e1, e2⟩ := Option.map_eq_some_iff.mp e
    cases e2
    refine tE.mk ss e1 fun ρ1 H1 x1 x1e s1 r1 => ?_
    obtain ⟨t, ty, kb⟩ := isTy_ok s1.hr (ref_in s1.hr r1) r1 o
    rw [← g.K] at ty
    exact ⟨x1, .ty o.nm, .type t, .type o.nm, isTy o v1, rfl, .ty _, ty, kb, (k.next s1.hr.nd x1e).same s1.hr (.bl _)⟩
  · cases h
end
end Rf
end
section
/-! Rf: methods of lists; what is walked. -/
namespace Rf
open PySem PySem.Spec PyProof.Rows L2
section
variable {A : Amb} {C0 : Fx} {kk : Nat} {X : Cx} {sc : Scope} {fn : Str → Bool} {a b d c : C}
theorem mt_slot (o : MT) : Slot "list" (mtNm o) (mtId o) := by
  cases o
  · exact PySem.F.slot_list_append
  · exact PySem.F.slot_list_pop
  · exact PySem.F.slot_list_pop
  · exact PySem.F.slot_list_insert
  · exact PySem.F.slot_list_index
theorem mt_type (o : MT) : typeOf (.builtin (mtId o)) = pure (.type "method_descriptor") := by
  cases o
  · exact PySem.F.type_list_append
  · exact PySem.F.type_list_pop
  · exact PySem.F.type_list_pop
  · exact PySem.F.type_list_insert
  · exact PySem.F.type_list_index
theorem mt_ref {B T T' : MH} {o : MT} {x : PV} {xs : List PV} {v : PV} (e : mt B T o x xs = some (v, T')) : ∃ k, x = .ref k := by
  unfold mt at e
  split at e <;> first | exact ⟨_, rfl⟩ | cases e
theorem s_mt (g : Gd A C0 kk X sc fn) (o : MT) (ha : Snd A C0 kk X sc fn a) (hb : Snd A C0 kk X sc fn b) : Snd A C0 kk X sc fn (.mt o a b) := .ofE rfl fun e h => by
  split at h
  · rename_i x m apos ys pos
    obtain ⟨q1, h2⟩ := bn h
    obtain ⟨h1, q2⟩ := bn q1
    obtain ⟨h3, q3⟩ := bn q2
    obtain ⟨h4, q4⟩ := bn q3
    obtain ⟨h5, h6⟩ := bn q4
    obtain ⟨h7, h8⟩ := bn h2
    have em := of_decide_eq_true h1
    subst em
    have st := chkA_star h8
    have imp : ∀ {τ : L2.St} {H : Hp} {Q : VK}, tE A (.mt o a b) τ H Q → tBM X.K "list" (rM X.K fun B T => mt B T o) (tE A a) (tA A b) τ H Q := fun {τ H Q} q => by
      obtain ⟨ρ, B, T, σ, v, T', ss, e, k⟩ := q
      obtain ⟨⟨v1, T1⟩, e1, f1⟩ := Option.bind_eq_some_iff.mp e
      clear e
      obtain ⟨⟨v2, T2⟩, e2, f2⟩ := Option.bind_eq_some_iff.mp f1
      clear f1
      obtain ⟨xs, e3, f3⟩ := Option.bind_eq_some_iff.mp f2
      clear f2
      have e5 := asTup_some e3
      subst e5
      refine tE.mk ss e1 fun ρ1 H1 x1 x1e s1 r1 => ?_
      obtain ⟨kx, ek⟩ := mt_ref f3
      subst ek
      obtain ⟨zs, ez⟩ := ref_in s1.hr r1 kx rfl
      have ty : tyV X.K "list" x1 H1 := by
        cases r1 with
        | ref hk =>
          obtain ⟨ad, vs, k', rs, t⟩ := s1.hr.rd ez
          rw [hk] at k'; cases k'
          exact .inl ⟨rfl, vs, .of t⟩
      refine ⟨ty, tA.mk s1 e2 fun ρ2 H2 vs x2e s2 r2 => ?_⟩
      rw [g.K]
      exact ⟨ρ2, B, T2, _, xs, v, T', s2.hr, x2e.rep r1, r2, f3, k.next s2.hr.nd (x1e.trans s1.hr.nd x2e)⟩
    cases ys with
    | nil =>
      have ec := chkA_nil h8
      subst ec
      refine (pe_bm0 PySem.F.plainAttrs_list (mt_slot o) (mt_type o) (mt_ok o) (ha.e x h7) (attrB_ok h4) h3).imp fun τ H Q q => ?_
      have q' := imp q
      obtain ⟨ρ, B, T, σ, v, T', ss, e, k⟩ := q'
      refine ⟨ρ, B, T, σ, v, T', ss, e, fun ρ' H' x1 xe h r => ?_⟩
      obtain ⟨ty, q2⟩ := k ρ' H' x1 xe h r
      refine ⟨ty, ?_⟩
      obtain ⟨ρ2, B2, T2, σ2, xs2, T2', ss2, e2, k2⟩ := q2
      cases e2
      exact k2 _ _ _ Ext.refl ss2.hr .nil
    | cons y ys =>
      rw [List.all_cons, Bool.and_eq_true] at st
      have hl : (y :: ys).length < 10 := of_decide_eq_true h5
      refine (pe_bm PySem.F.plainAttrs_list (mt_slot o) (mt_type o) (mt_ok o) (ha.e x h7) (hb.a _ h8) (attrB_ok h4) ?_ h3 (star_ok st.1) (any_star st.2)).imp fun τ H Q q => imp q
      rw [Bool.and_eq_true, Bool.and_eq_true]
      refine ⟨⟨all_star (es := y :: ys) (by rw [List.all_cons, st.1, st.2]; rfl), rfl⟩, decide_eq_true ?_⟩
      show (y :: ys).length + 0 + 0 < 30
      omega
  · cases h

/-! ### what is walked -/
/-- what a loop keeps of the state at its start -/
structure Kp (ρ : List Addr) (H : Hp) (ρ' : List Addr) (H' : Hp) : Prop where
  pre : ρ <+: ρ'
  kp : ∀ b o, H b = some o → (∀ xs, o ≠ .lst xs) → H' b = some o
def Ke (H H' : Hp) : Prop := ∀ b o, H b = some o → H' b = some o
section
variable {K : PySem.W.Frag} {ρ ρ' : List Addr} {H H' : Hp}
theorem Ext.kp {nB : Nat} (x : Ext nB ρ H ρ' H') : Kp ρ H ρ' H' := ⟨x.pre, fun b o e n => x.fr b o e (.inr n)⟩
theorem Kp.sqT (x : Kp ρ H ρ' H') {a : Addr} {vs : List V} (h : SqT K H a vs) : SqT K H' a vs := by
  rcases h with (h | ⟨o, h⟩) | h
  · exact .inl (.inl (x.kp _ _ h fun _ z => nomatch z))
  · exact .inl (.inr ⟨o, x.kp _ _ h fun _ z => nomatch z⟩)
  · exact .inr h
theorem Kp.sqF (x : Kp ρ H ρ' H') {a : Addr} {vs : List V} (h : SqF K H a vs) : SqF K H' a vs := by
  rcases h with ⟨o, h⟩ | h
  · exact .inl ⟨o, x.kp _ _ h fun _ z => nomatch z⟩
  · exact .inr h
mutual
theorem Kp.rep (x : Kp ρ H ρ' H') : ∀ {v : V} {y : PV}, Rep K ρ H v y → Rep K ρ' H' v y
  | _, _, .non => .non
  | _, _, .bl b => .bl b
  | _, _, .int i => .int i
  | _, _, .str z => .str z
  | _, _, .tup h r => .tup (x.sqT h) (Kp.reps x r)
  | _, _, .ref h => .ref (pre_get x.pre h)
  | _, _, .scr h => .scr (x.sqF h)
theorem Kp.reps (x : Kp ρ H ρ' H') : ∀ {vs : List V} {ys : List PV}, Reps K ρ H vs ys → Reps K ρ' H' vs ys
  | _, _, .nil => .nil
  | _, _, .cons h r => .cons (Kp.rep x h) (Kp.reps x r)
end
theorem Ke.ext {nB : Nat} (s : Ke H H') : Ext nB ρ H ρ H' := ⟨List.prefix_refl _, fun b o e _ => s b o e, fun _ h => .inl h, fun b h => by
  cases e : H b with
  | none => exact absurd e h
  | some o => rw [s b o e]; simp⟩
theorem Kp.trans {ρ1 ρ2 : List Addr} {H1 H2 : Hp} (a : Kp ρ H ρ1 H1) (b : Kp ρ1 H1 ρ2 H2) : Kp ρ H ρ2 H2 := ⟨a.pre.trans b.pre, fun c o e n => b.kp c o (a.kp c o e n) n⟩
theorem Kp.refl : Kp ρ H ρ H := ⟨List.prefix_refl _, fun _ _ e _ => e⟩
/-- the machine's iterator J walks j -/
def JOk (K : PySem.W.Frag) (B : MH) (ρ0 : List Addr) (H0 : Hp) (j : Rf.It) (J : L2.It) : Prop := ∀ (ρ : List Addr) (T : MH) (H : Hp), Kp ρ0 H0 ρ H → HR K ρ (B ++ T) H → ∀ i : Nat,
  (∀ x, j.at B T i = some (some x) → J.go i H ∧ ∀ y H', J.yld i H y H' → Ke H H' ∧ Rep K ρ H' y x) ∧ (j.at B T i = some none → J.stop i H)
theorem sqT_fun {v w : List V} {a : Addr} {xs : List PV} (h : SqT K H a v) (h2 : SqT K H a w) : True := trivial
end
def tI (A : Amb) (c : C) : TI := fun τ H R => ∃ ρ B T σ j T', SS A ρ B T σ τ H ∧ (sem A.CF A.G A.L c).it σ B T = some (j, T') ∧ ∀ ρ' H' J, Ext B.length ρ H ρ' H' → HR A.K ρ' (B ++ T') H' → JOk A.K B ρ' H' j J → R J H'
theorem sm_refl {H : Hp} : Ke H H := fun _ _ e => e
theorem j_seq {K : PySem.W.Frag} {B : MH} {ρ : List Addr} {H : Hp} {ad : Addr} {vs : List V} {xs : List PV} (h : SqT K H ad vs) (r : Reps K ρ H vs xs) : JOk K B ρ H (.seq xs) (Itt K ad) := fun ρ1 T H1 kp hr i => by
  have h1 := kp.sqT h
  have r1 := kp.reps r
  refine ⟨fun x e => ?_, fun e => ?_⟩
  · have e : xs[i]? = some x := Option.some.inj e
    obtain ⟨v, hv, rv⟩ := r1.get e
    refine ⟨⟨vs, v, h1, hv⟩, fun y H' hy => ?_⟩
    obtain ⟨rfl, hy⟩ := hy
    have := hy vs h1
    rw [hv] at this; cases this
    exact ⟨sm_refl, rv⟩
  · have e : xs[i]? = none := Option.some.inj e
    refine ⟨vs, h1, ?_⟩
    rw [r1.length]
    exact List.getElem?_eq_none_iff.mp e
theorem j_scr {K : PySem.W.Frag} {B : MH} {ρ : List Addr} {H : Hp} {ad : Addr} {ns : List Int} (h : SqF K H ad (ns.map V.int)) : JOk K B ρ H (.seq (ns.map .int)) (Itl K ad) := fun ρ1 T H1 kp hr i => by
  have h1 := (kp.sqF h).sq
  refine ⟨fun x e => ?_, fun e => ?_⟩
  · have e : (ns.map PV.int)[i]? = some x := Option.some.inj e
    rw [List.getElem?_map] at e
    obtain ⟨n, hn, e2⟩ := Option.map_eq_some_iff.mp e
    subst e2
    have hv : (ns.map V.int)[i]? = some (.int n) := by rw [List.getElem?_map, hn]; rfl
    refine ⟨⟨_, _, h1, hv⟩, fun y H' hy => ?_⟩
    obtain ⟨rfl, hy⟩ := hy
    have := hy _ h1
    rw [hv] at this; cases this
    exact ⟨sm_refl, .int n⟩
  · have e : (ns.map PV.int)[i]? = none := Option.some.inj e
    refine ⟨_, h1, ?_⟩
    have := List.getElem?_eq_none_iff.mp e
    simpa using this
theorem j_lref {K : PySem.W.Frag} {B : MH} {ρ : List Addr} {H : Hp} {ad : Addr} {k : Nat} (h : ρ[k]? = some ad) : JOk K B ρ H (.lref k) (Itl K ad) := fun ρ1 T H1 kp hr i => by
  refine ⟨fun x e => ?_, fun e => ?_⟩
  · obtain ⟨xs, e1, e2⟩ := Option.map_eq_some_iff.mp e
    obtain ⟨a', vs, k', rs, t⟩ := hr.rd e1
    rw [pre_get kp.pre h] at k'; cases k'
    obtain ⟨v, hv, rv⟩ := rs.get e2
    refine ⟨⟨vs, v, .of t, hv⟩, fun y H' hy => ?_⟩
    obtain ⟨rfl, hy⟩ := hy
    have := hy vs (.of t)
    rw [hv] at this; cases this
    exact ⟨sm_refl, rv⟩
  · obtain ⟨xs, e1, e2⟩ := Option.map_eq_some_iff.mp e
    obtain ⟨a', vs, k', rs, t⟩ := hr.rd e1
    rw [pre_get kp.pre h] at k'; cases k'
    refine ⟨vs, .of t, ?_⟩
    rw [rs.length]
    exact List.getElem?_eq_none_iff.mp e2
theorem j_rng {K : PySem.W.Frag} {B : MH} {ρ : List Addr} {H : Hp} {lo : Int} {n : Nat} : JOk K B ρ H (.rng lo n) (Itr lo n) := fun ρ1 T H1 kp hr i => by
  refine ⟨fun x e => ?_, fun e => ?_⟩
  · have e : (if i < n then some (PV.int (lo + i)) else none) = some x := Option.some.inj e
    split at e
    · rename_i hi
      cases e
      refine ⟨hi, fun y H' hy => ?_⟩
      obtain ⟨rfl, rfl⟩ := hy
      exact ⟨sm_refl, .int _⟩
    · cases e
  · have e : (if i < n then some (PV.int (lo + i)) else none) = none := Option.some.inj e
    split at e
    · cases e
    · rename_i hi
      exact Nat.le_of_not_lt hi
theorem rep_pair {K : PySem.W.Frag} {ρ : List Addr} {H : Hp} {Tq : Addr} {v w : V} {x y : PV} (np : H Tq = none) (r1 : Rep K ρ H v x) (r2 : Rep K ρ H w y) : Ke H (upd H Tq (.tup [v, w])) ∧ Rep K ρ (upd H Tq (.tup [v, w])) (.ref Tq) (.tup [x, y]) :=
  have s : Ke H (upd H Tq (.tup [v, w])) := same_fresh np
  ⟨s, .tup (.of upd_same) ((s.ext (nB := 0) (ρ := ρ)).reps (.cons r1 (.cons r2 .nil)))⟩
theorem j_zipT {K : PySem.W.Frag} {B : MH} {ρ : List Addr} {H : Hp} {a1 a2 : Addr} {vs ws : List V} {xs ys : List PV} (h : SqT K H a1 vs) (r : Reps K ρ H vs xs) (h' : SqT K H a2 ws) (r' : Reps K ρ H ws ys) : JOk K B ρ H (.zipT xs ys) (RZ.ItzT K a1 a2) := fun ρ1 T H1 kp hr i => by
  have h1 := kp.sqT h
  have r1 := kp.reps r
  have h2 := kp.sqT h'
  have r2 := kp.reps r'
  refine ⟨fun x e => ?_, fun e => ?_⟩
  · have e := Option.some.inj e
    split at e
    · rename_i x y ex ey
      cases e
      obtain ⟨v, hv, rv⟩ := r1.get ex
      obtain ⟨w, hw, rw'⟩ := r2.get ey
      refine ⟨⟨vs, ws, v, w, h1, h2, hv, hw⟩, fun z H' hz => ?_⟩
      obtain ⟨Tq, p, q, rfl, np, rfl, hp, hq⟩ := hz
      have := hp vs h1
      rw [hv] at this; cases this
      have := hq ws h2
      rw [hw] at this; cases this
      exact rep_pair np rv rw'
    · cases e
  · have e := Option.some.inj e
    refine ⟨vs, ws, h1, h2, ?_⟩
    split at e
    · cases e
    · rename_i hn
      rw [r1.length, r2.length]
      rcases Nat.lt_or_ge i xs.length with q | q
      · rcases Nat.lt_or_ge i ys.length with q' | q'
        · exact absurd (List.getElem?_eq_getElem q') (hn _ _ (List.getElem?_eq_getElem q))
        · exact .inr q'
      · exact .inl q
theorem j_zipL {K : PySem.W.Frag} {B : MH} {ρ : List Addr} {H : Hp} {a1 a2 : Addr} {k1 k2 : Nat} (h : ρ[k1]? = some a1) (h' : ρ[k2]? = some a2) : JOk K B ρ H (.zipL k1 k2) (Itz K a1 a2) := fun ρ1 T H1 kp hr i => by
  have go : ∀ {r : Option PV}, (Rf.It.zipL k1 k2).at B T i = some r → ∃ xs ys vs ws, Reps K ρ1 H1 vs xs ∧ H1 a1 = some (.lst vs) ∧ Reps K ρ1 H1 ws ys ∧ H1 a2 = some (.lst ws) ∧ (match xs[i]?, ys[i]? with | some x, some y => some (PV.tup [x, y]) | _, _ => none) = r := fun {r} e => by
    obtain ⟨xs, e1, e⟩ := Option.bind_eq_some_iff.mp e
    obtain ⟨ys, e2, e3⟩ := Option.map_eq_some_iff.mp e
    obtain ⟨a', vs, k', rs, t⟩ := hr.rd e1
    rw [pre_get kp.pre h] at k'; cases k'
    obtain ⟨a', ws, k', rs', t'⟩ := hr.rd e2
    rw [pre_get kp.pre h'] at k'; cases k'
    exact ⟨xs, ys, vs, ws, rs, t, rs', t', e3⟩
  refine ⟨fun x e => ?_, fun e => ?_⟩
  · obtain ⟨xs, ys, vs, ws, r1, t1, r2, t2, e⟩ := go e
    split at e
    · rename_i x y ex ey
      cases e
      obtain ⟨v, hv, rv⟩ := r1.get ex
      obtain ⟨w, hw, rw'⟩ := r2.get ey
      refine ⟨⟨vs, ws, v, w, .of t1, .of t2, hv, hw⟩, fun z H' hz => ?_⟩
      obtain ⟨Tq, p, q, rfl, np, rfl, hp, hq⟩ := hz
      have := hp vs (.of t1)
      rw [hv] at this; cases this
      have := hq ws (.of t2)
      rw [hw] at this; cases this
      exact rep_pair np rv rw'
    · cases e
  · obtain ⟨xs, ys, vs, ws, r1, t1, r2, t2, e⟩ := go e
    refine ⟨vs, ws, .of t1, .of t2, ?_⟩
    split at e
    · cases e
    · rename_i hn
      rw [r1.length, r2.length]
      rcases Nat.lt_or_ge i xs.length with q | q
      · rcases Nat.lt_or_ge i ys.length with q' | q'
        · exact absurd (List.getElem?_eq_getElem q') (hn _ _ (List.getElem?_eq_getElem q))
        · exact .inr q'
      · exact .inl q
theorem j_enum {K : PySem.W.Frag} {B : MH} {ρ : List Addr} {H : Hp} {ad : Addr} {k : Nat} (h : ρ[k]? = some ad) : JOk K B ρ H (.enumL k) (Ite K ad) := fun ρ1 T H1 kp hr i => by
  refine ⟨fun x e => ?_, fun e => ?_⟩
  · obtain ⟨xs, e1, e2⟩ := Option.map_eq_some_iff.mp e
    obtain ⟨a', vs, k', rs, t⟩ := hr.rd e1
    rw [pre_get kp.pre h] at k'; cases k'
    split at e2
    · rename_i x ex
      cases e2
      obtain ⟨v, hv, rv⟩ := rs.get ex
      refine ⟨⟨vs, v, .of t, hv⟩, fun y H' hy => ?_⟩
      obtain ⟨Tq, p, rfl, np, rfl, hp⟩ := hy
      have := hp vs (.of t)
      rw [hv] at this; cases this
      exact rep_pair np (.int _) rv
    · cases e2
  · obtain ⟨xs, e1, e2⟩ := Option.map_eq_some_iff.mp e
    obtain ⟨a', vs, k', rs, t⟩ := hr.rd e1
    rw [pre_get kp.pre h] at k'; cases k'
    refine ⟨vs, .of t, ?_⟩
    split at e2
    · cases e2
    · rename_i hn
      rw [rs.length]
      exact List.getElem?_eq_none_iff.mp hn
/-- iterables -/
theorem i_itv (g : Gd A C0 kk X sc fn) (ha : Snd A C0 kk X sc fn a) {tg e : Expr} (h : (chk C0 (.itv a)).i sc fn tg e = true) : PI X tg e (tI A (.itv a)) := by
  obtain ⟨h1, h2⟩ := bn h
  have pa := ha.e e h2
  refine ⟨fun pins s σ H R I q => ?_⟩
  obtain ⟨ρ, B, T, τ, j, T', ss, e0, k⟩ := q
  obtain ⟨⟨v1, T1⟩, e1, e2⟩ := Option.bind_eq_some_iff.mp e0
  clear e0
  cases v1 with
  | tup xs =>
    cases e2
    refine (pi_tup pa).run pins s σ H R I (tE.mk ss e1 fun ρ1 H1 x x1e s1 r1 => ?_)
    cases r1 with
    | tup hT rs =>
      rw [g.K]
      exact ⟨_, rfl, ⟨_, hT⟩, k ρ1 H1 _ x1e s1.hr (j_seq hT rs)⟩
  | scr ns =>
    cases e2
    refine (pi_list pa).run pins s σ H R I (tE.mk ss e1 fun ρ1 H1 x x1e s1 r1 => ?_)
    cases r1 with
    | scr hT =>
      rw [g.K]
      exact ⟨_, rfl, ⟨_, hT.sq⟩, k ρ1 H1 _ x1e s1.hr (j_scr hT)⟩
  | ref kx =>
    obtain ⟨xs, e3, e4⟩ := Option.map_eq_some_iff.mp (show (rd B T1 kx).map _ = _ from e2)
    cases e4
    refine (pi_list pa).run pins s σ H R I (tE.mk ss e1 fun ρ1 H1 x x1e s1 r1 => ?_)
    cases r1 with
    | ref hk =>
      obtain ⟨a', vs, k', rs, t⟩ := s1.hr.rd e3
      rw [hk] at k'; cases k'
      rw [g.K]
      exact ⟨_, rfl, ⟨_, .of t⟩, k ρ1 H1 _ x1e s1.hr (j_lref hk)⟩
  | _ => cases e2
theorem i_itr (g : Gd A C0 kk X sc fn) (ha : Snd A C0 kk X sc fn a) {tg e : Expr} (h : (chk C0 (.itr a)).i sc fn tg e = true) : PI X tg e (tI A (.itr a)) := by
  cases e <;> first | cases h | skip
  rename_i f as kws pos
  cases f <;> first | cases h | skip
  rename_i x p1
  cases as with
  | nil => cases h
  | cons y ys => cases kws with
    | cons _ _ => cases h
    | nil =>
      obtain ⟨q1, h2⟩ := bn h
      obtain ⟨h1, q2⟩ := bn q1
      obtain ⟨h3, h4⟩ := bn q2
      have ex := of_decide_eq_true h1
      subst ex
      have st := chkA_star h2
      have pa := ha.a _ h2
      have hm := g.blt "range" (by decide +kernel)
      have key : ∀ {τ : L2.St} {H : Hp} {R : L2.It → Hp → Prop}, tI A (.itr a) τ H R → ∃ ρ B T σ xs j T', SS A ρ B T σ τ H ∧ (sem A.CF A.G A.L a).e σ B T = some (.tup xs, T') ∧
          ((∃ n : Int, xs = [.int n] ∧ (-(2 ^ 62) ≤ n ∧ n < 2 ^ 62) ∧ j = .rng 0 n.toNat) ∨ ∃ m n : Int, xs = [.int m, .int n] ∧ (-(2 ^ 62) ≤ m ∧ m < 2 ^ 62 ∧ -(2 ^ 62) ≤ n ∧ n < 2 ^ 62) ∧ j = .rng m (n - m).toNat) ∧
          ∀ ρ' H' J, Ext B.length ρ H ρ' H' → HR A.K ρ' (B ++ T') H' → JOk A.K B ρ' H' j J → R J H' := fun {τ H R} q => by
        obtain ⟨ρ, B, T, σ, j, T', ss, e0, k⟩ := q
        obtain ⟨⟨v1, T1⟩, e1, e2⟩ := Option.bind_eq_some_iff.mp e0
        clear e0
        dsimp only at e2
        split at e2
        · rename_i n
          split at e2
          · rename_i hb
            obtain ⟨b1, b2⟩ := bn hb
            have ej : It.rng 0 n.toNat = j := by injection e2 with e2; injection e2
            have eT : T1 = T' := by injection e2 with e2; injection e2
            subst ej eT
            exact ⟨ρ, B, T, σ, _, _, _, ss, e1, .inl ⟨n, rfl, ⟨of_decide_eq_true b1, of_decide_eq_true b2⟩, rfl⟩, k⟩
          · cases e2
        · rename_i m n
          split at e2
          · rename_i hb
            obtain ⟨b1, b2⟩ := bn hb
            obtain ⟨b1, b3⟩ := bn b1
            obtain ⟨b2, b4⟩ := bn b2
            have ej : It.rng m (n - m).toNat = j := by injection e2 with e2; injection e2
            have eT : T1 = T' := by injection e2 with e2; injection e2
            subst ej eT
            exact ⟨ρ, B, T, σ, _, _, _, ss, e1, .inr ⟨m, n, rfl, ⟨of_decide_eq_true b1, of_decide_eq_true b3, of_decide_eq_true b2, of_decide_eq_true b4⟩, rfl⟩, k⟩
          · cases e2
        · cases e2
      cases ys with
      | nil =>
        refine (pi_range1 (gl_ok g h3) hm pa (star_ok (by rw [List.all_cons, Bool.and_eq_true] at st; exact st.1))).imp fun τ H R q => ?_
        obtain ⟨ρ, B, T, σ, xs, j, T', ss, e1, cs, k⟩ := key q
        refine tA.mk ss e1 fun ρ1 H1 vs x1e s1 r1 => ?_
        have l1 : xs.length = 1 := s_callk.arLen h2 e1
        rcases cs with ⟨n, rfl, b, rfl⟩ | ⟨m, n, rfl, b, rfl⟩
        · obtain ⟨v, rfl, rv⟩ := r1.one
          cases rv
          exact ⟨n, rfl, b.1, b.2, k ρ1 H1 _ x1e s1.hr j_rng⟩
        · cases l1
      | cons z zs =>
        have h4 : (z :: zs).length ≤ 1 := of_decide_eq_true h4
        have ez : zs = [] := by
          cases zs with
          | nil => rfl
          | cons _ _ => simp at h4
        subst ez
        rw [List.all_cons, List.all_cons, Bool.and_eq_true, Bool.and_eq_true] at st
        refine (pi_range2 (gl_ok g h3) hm pa (by rw [star_ok st.1, star_ok st.2.1]; rfl) (by rw [star_ok st.2.1]; rfl)).imp fun τ H R q => ?_
        obtain ⟨ρ, B, T, σ, xs, j, T', ss, e1, cs, k⟩ := key q
        refine tA.mk ss e1 fun ρ1 H1 vs x1e s1 r1 => ?_
        have l1 : xs.length = 2 := s_callk.arLen h2 e1
        rcases cs with ⟨n, rfl, b, rfl⟩ | ⟨m, n, rfl, b, rfl⟩
        · cases l1
        · obtain ⟨v, w, rfl, rv, rw'⟩ := r1.two
          cases rv; cases rw'
          exact ⟨m, n, rfl, b, k ρ1 H1 _ x1e s1.hr j_rng⟩
theorem isTup_ok {tg : Expr} (h : isTupE tg = true) : ∃ es k p, tg = .Tuple es k p := by
  cases tg <;> first | exact ⟨_, _, _, rfl⟩ | cases h
theorem i_itz (g : Gd A C0 kk X sc fn) (ha : Snd A C0 kk X sc fn a) {tg e : Expr} (h : (chk C0 (.itz a)).i sc fn tg e = true) : PI X tg e (tI A (.itz a)) := by
  cases e <;> first | cases h | skip
  rename_i f as kws pos
  cases f <;> first | cases h | skip
  rename_i x p1
  cases as with
  | nil => cases h
  | cons y ys => cases ys with
    | nil => cases h
    | cons z zs => cases zs with
      | cons _ _ => cases h
      | nil => cases kws with
        | cons _ _ => cases h
        | nil =>
          obtain ⟨q1, h2⟩ := bn h
          obtain ⟨h1, q2⟩ := bn q1
          obtain ⟨h3, h4⟩ := bn q2
          have ex := of_decide_eq_true h1
          subst ex
          obtain ⟨es, k1, p3, et⟩ := isTup_ok h4
          subst et
          have st := chkA_star h2
          have pa := ha.a _ h2
          have hm := g.blt "zip" (by decide +kernel)
          rw [List.all_cons, List.all_cons, Bool.and_eq_true, Bool.and_eq_true] at st
          refine (RZ.pi_zipA (gl_ok g h3) hm pa (star_ok st.1) (any_star (es := [z]) (by rw [List.all_cons, st.2.1]; rfl))).imp fun τ H R q => ?_
          obtain ⟨ρ, B, T, σ, j, T', ss, e0, k⟩ := q
          obtain ⟨⟨v1, T1⟩, e1, e2⟩ := Option.bind_eq_some_iff.mp e0
          clear e0
          dsimp only at e2
          split at e2
          · rename_i xs ys
            have ej : It.zipT xs ys = j := by injection e2 with e2; injection e2
            have eT : T1 = T' := by injection e2 with e2; injection e2
            subst ej eT
            refine tA.mk ss e1 fun ρ1 H1 vs x1e s1 r1 => ?_
            obtain ⟨v, w, rfl, rv, rw'⟩ := r1.two
            cases rv with
            | tup t1 q1 => cases rw' with
              | tup t2 q2 =>
                rw [g.K]
                exact ⟨_, _, _, _, rfl, .inr ⟨t1, t2, k ρ1 H1 _ x1e s1.hr (j_zipT t1 q1 t2 q2)⟩⟩
          · rename_i ka kb
            obtain ⟨xs, e3, e4⟩ := Option.bind_eq_some_iff.mp e2
            obtain ⟨ys, e5, e6⟩ := Option.map_eq_some_iff.mp e4
            have ej : It.zipL ka kb = j := by injection e6
            have eT : T1 = T' := by injection e6
            subst ej eT
            refine tA.mk ss e1 fun ρ1 H1 vs x1e s1 r1 => ?_
            obtain ⟨v, w, rfl, rv, rw'⟩ := r1.two
            cases rv with
            | ref t1 => cases rw' with
              | ref t2 =>
                obtain ⟨a', vs, k', rs, t⟩ := s1.hr.rd e3
                rw [t1] at k'; cases k'
                obtain ⟨a', ws, k', rs', t'⟩ := s1.hr.rd e5
                rw [t2] at k'; cases k'
                rw [g.K]
                exact ⟨_, _, _, _, rfl, .inl ⟨.of t, .of t', k ρ1 H1 _ x1e s1.hr (j_zipL t1 t2)⟩⟩
          · cases e2
theorem i_ite (g : Gd A C0 kk X sc fn) (ha : Snd A C0 kk X sc fn a) {tg e : Expr} (h : (chk C0 (.ite a)).i sc fn tg e = true) : PI X tg e (tI A (.ite a)) := by
  cases e <;> first | cases h | skip
  rename_i f as kws pos
  cases f <;> first | cases h | skip
  rename_i x p1
  cases as with
  | nil => cases h
  | cons y ys => cases ys with
    | cons _ _ => cases h
    | nil => cases kws with
      | cons _ _ => cases h
      | nil =>
        obtain ⟨q1, h2⟩ := bn h
        obtain ⟨h1, q2⟩ := bn q1
        obtain ⟨h3, h4⟩ := bn q2
        have ex := of_decide_eq_true h1
        subst ex
        obtain ⟨es, k1, p3, et⟩ := isTup_ok h4
        subst et
        have st := chkA_star h2
        have pa := ha.a _ h2
        have hm := g.blt "enumerate" (by decide +kernel)
        rw [List.all_cons, Bool.and_eq_true] at st
        refine (pi_enum (gl_ok g h3) hm pa (star_ok st.1)).imp fun τ H R q => ?_
        obtain ⟨ρ, B, T, σ, j, T', ss, e0, k⟩ := q
        obtain ⟨⟨v1, T1⟩, e1, e2⟩ := Option.bind_eq_some_iff.mp e0
        clear e0
        dsimp only at e2
        split at e2
        · rename_i ka
          obtain ⟨xs, e3, e6⟩ := Option.map_eq_some_iff.mp e2
          have ej : It.enumL ka = j := by injection e6
          have eT : T1 = T' := by injection e6
          subst ej eT
          refine tA.mk ss e1 fun ρ1 H1 vs x1e s1 r1 => ?_
          obtain ⟨v, rfl, rv⟩ := r1.one
          cases rv with
          | ref t1 =>
            obtain ⟨a', vs, k', rs, t⟩ := s1.hr.rd e3
            rw [t1] at k'; cases k'
            rw [g.K]
            exact ⟨_, _, rfl, .of t, k ρ1 H1 _ x1e s1.hr (j_enum t1)⟩
        · cases e2
end
end Rf
end
section
/-! Rf: targets; no tests. -/
namespace Rf
open PySem PySem.Spec PyProof.Rows L2
section
variable {A : Amb} {C0 : Fx} {kk : Nat} {X : Cx} {sc : Scope} {fn : Str → Bool} {a b d c : C}
theorem s_nop : Snd A C0 kk X sc fn .nop := .ofS rfl fun es h => by
  cases es with
  | cons _ _ => cases h
  | nil =>
    refine pts_nil.imp fun τ H Q q => ?_
    obtain ⟨ρ, B, T, σ, b, T', ss, e, k⟩ := q
    cases e
    exact k _ _ Ext.refl ss.hr
/-- slots outside vs stay -/
def Out (vs : List Nat) (τ τ' : L2.St) : Prop := τ.length = τ'.length ∧ ∀ (j : Nat) v, j ∉ vs → τ[j]? = some (some v) → τ'[j]? = some (some v)
theorem Out.refl {vs : List Nat} {τ : L2.St} : Out vs τ τ := ⟨rfl, fun _ _ _ h => h⟩
theorem Out.trans {vs ws : List Nat} {τ τ1 τ2 : L2.St} (a : Out vs τ τ1) (b : Out ws τ1 τ2) : Out (vs ++ ws) τ τ2 :=
  ⟨a.1.trans b.1, fun j v h e => b.2 j v (fun z => h (List.mem_append_right _ z)) (a.2 j v (fun z => h (List.mem_append_left _ z)) e)⟩
theorem Out.set {τ : L2.St} {i : Nat} {w : Option V} : Out [i] τ (τ.set i w) := ⟨by simp, fun j v h e => by
  rw [List.getElem?_set_ne (fun z => h (by simp [z]))]; exact e⟩
theorem Out.mono {vs ws : List Nat} {τ τ' : L2.St} (a : Out vs τ τ') (h : ∀ j ∈ vs, j ∈ ws) : Out ws τ τ' := ⟨a.1, fun j v n e => a.2 j v (fun z => n (h j z)) e⟩
theorem Out.wipe {vs : List Nat} {τ : L2.St} : Out vs τ (L2.wipe τ vs) := ⟨(wipe_length _ _).symm, fun j v h e => by rw [wipe_out h]; exact e⟩
def gT (A : Amb) (t : Tg) : TG := fun v τ H Q => ∃ ρ x σ σ', SR A.K ρ H σ τ ∧ Rep A.K ρ H v x ∧ t.bind x σ = some σ' ∧ ∀ τ', SR A.K ρ H σ' τ' → Out t.slots τ τ' → Q τ' H
def gTs (A : Amb) (is : List Nat) : TGs := fun vs τ H Q => ∃ ρ xs σ σ', SR A.K ρ H σ τ ∧ Reps A.K ρ H vs xs ∧ bindAll is xs σ = some σ' ∧ ∀ τ', SR A.K ρ H σ' τ' → Out is τ τ' → Q τ' H
theorem pg_nm (g : Gd A C0 kk X sc fn) {i : Nat} {x : Str} {p : Pos} (h : slotB C0.N sc fn i x = true) : PG X (.Name x p) (gName i) := by
  obtain ⟨h1, h2, h3⟩ := slotB_ok g h
  exact pg_name (by rw [g.N]; exact g.nd) h1 h2 h3
theorem _root_.L2.PG.imp {e : Expr} {t t' : TG} (h : PG X e t) (f : ∀ v σ H Q, t' v σ H Q → t v σ H Q) : PG X e t' := ⟨fun pins s σ H v u Q I r q => h.run pins s σ H v u Q I r (f _ _ _ _ q)⟩
theorem _root_.L2.PGs.imp {e : List Expr} {t t' : TGs} (h : PGs X e t) (f : ∀ v σ H Q, t' v σ H Q → t v σ H Q) : PGs X e t' := ⟨fun pins s σ H v u Q I r q => h.run pins s σ H v u Q I r (f _ _ _ _ q)⟩
theorem pgs_all (g : Gd A C0 kk X sc fn) : ∀ (is : List Nat) (es : List Expr), tgAll C0.N sc fn is es = true →
    PGs X es (gTs A is) ∧ (assignEach es X.env).length = is.length ∧ ∀ q ∈ assignEach es X.env, q.1 = false
  | [], [], _ => by
    refine ⟨pgs_nil.imp fun vs σ H Q q => ?_, rfl, fun q h => by cases h⟩
    obtain ⟨ρ, xs, τ, σ', s, r, e, k⟩ := q
    cases xs with
    | nil => cases r; cases e; exact ⟨rfl, k _ s .refl⟩
    | cons x xs => cases e
  | i :: is, e :: es, h => by
    cases e <;> first | cases h | skip
    obtain ⟨h1, h2⟩ := bn h
    obtain ⟨q1, q2, q3⟩ := pgs_all g is es h2
    refine ⟨(pgs_cons (pg_nm g h1) q1).imp fun vs σ H Q q => ?_, congrArg Nat.succ q2, fun q hq => ?_⟩
    · obtain ⟨ρ, xs, τ, σ', s, r, e, k⟩ := q
      cases xs with
      | nil => cases e
      | cons x xs =>
        cases r with
        | cons rv rs => exact ⟨_, _, rfl, ρ, xs, _, σ', s.set rv i, rs, e, fun τ' s' o => k τ' s' ((Out.trans (Out.set (i := i)) o).mono fun j hj => by simpa using hj)⟩
    · rcases List.mem_cons.mp hq with z | z
      · rw [z]
      · exact q3 q z
  | [], _ :: _, h => by cases h
  | _ :: _, [], h => by cases h
theorem bindAll_len : ∀ {is : List Nat} {xs : List PV} {σ σ' : En}, bindAll is xs σ = some σ' → xs.length = is.length
  | [], [], _, _, _ => rfl
  | [], _ :: _, _, _, e => by cases e
  | _ :: _, [], _, _, e => by cases e
  | i :: is, x :: xs, σ, _, e => congrArg Nat.succ (bindAll_len (is := is) (xs := xs) (σ := σ.set i (some x)) e)
theorem pg_t (g : Gd A C0 kk X sc fn) {t : Tg} {e : Expr} (h : tgB C0.N sc fn t e = true) : PG X e (gT A t) := by
  cases t with
  | nm i =>
    cases e <;> first | cases h | skip
    refine (pg_nm g h).imp fun v σ H Q q => ?_
    obtain ⟨ρ, x, τ, σ', s, r, e, k⟩ := q
    cases e
    exact k _ (s.set r i) Out.set
  | tp is =>
    cases e <;> first | cases h | skip
    obtain ⟨q1, q2, q3⟩ := pgs_all g is _ h
    refine (pg_tup g.calm q1 q2 ?_).imp fun v σ H Q q => ?_
    · rw [List.findIdx?_eq_none_iff]
      exact q3
    · obtain ⟨ρ, x, τ, σ', s, r, e, k⟩ := q
      cases x with
      | tup xs =>
        cases r with
        | tup hT rs =>
          rw [g.K]
          have hl : xs.length = is.length := by
            exact bindAll_len e
          exact ⟨_, _, rfl, hT, rs.length.trans hl, ρ, xs, τ, σ', s, rs, e, k⟩
      | _ => cases e
end
end Rf
end
section
/-! Rf: list comprehensions of any number of clauses. -/
namespace Rf
open PySem PySem.Spec PyProof.Rows L2
theorem compTurn_mid {gens : List Comprehension} {d : Nat} (elt t0 i0 t1 i1 : Expr) (ifs0 ifs1 : List Expr) (scope : Scope) (pos : Pos) (it acc : Value) (env : Env)
    (hd : gens[d]? = some ⟨t0, i0, ifs0, 0⟩) (hd1 : gens[d + 1]? = some ⟨t1, i1, ifs1, 0⟩) :
    compTurn (.ListComp elt gens scope pos) d it acc env = (do
      standAt i0.pos
      match ← pyNext it with
      | none => pure (.done .next)
      | some v =>
        letOwnedTupleGo t0 it v
        assign t0 env v
        let mut ok := true
        for c in ifs0 do
          if ok then ok ← isTrue c env (eval c env)
        if ok then
          let x ← eval i1 env
          standAt i1.pos
          let x ← foldedSetIterable i1 env x
          let _ ← runOwn (.compStart (.ListComp elt gens scope pos) (d + 1) (← holding [x] (pyIter x)) acc env) env
        again (.compLoop (.ListComp elt gens scope pos) d it acc env)) := by
  unfold compTurn
  simp only [hd, hd1]
  rfl
theorem compTurn_last {gens : List Comprehension} {d : Nat} (elt t1 i1 : Expr) (ifs1 : List Expr) (scope : Scope) (pos : Pos) (it acc : Value) (env : Env)
    (hd : gens[d]? = some ⟨t1, i1, ifs1, 0⟩) (hd1 : gens[d + 1]? = none) :
    compTurn (.ListComp elt gens scope pos) d it acc env = (do
      standAt i1.pos
      match ← pyNext it with
      | none => pure (.done .next)
      | some v =>
        letOwnedTupleGo t1 it v
        assign t1 env v
        let mut ok := true
        for c in ifs1 do
          if ok then ok ← isTrue c env (eval c env)
        if ok then
          (do let _ ← call (.builtin "list.append") [acc, ← eval elt env])
        again (.compLoop (.ListComp elt gens scope pos) d it acc env)) := by
  unfold compTurn
  simp only [hd, hd1]
  rfl
/-- what comes behind the tests of the clause ahead: the next clause, or the item -/
def tailW (M : Model) (A : Around) (gens : List Comprehension) (elt : Expr) (scope : Scope) (pos : Pos) (d : Nat) (acc : Value) (env : Env) (Q : Shared → Prop) (E : Value → Shared → Prop) (s : Shared) : Prop :=
  match gens[d]? with
  | some g => wpAny M A (eval g.iter env) (fun x s₄ => wpAny M A (pyIter x) (fun it1 s₅ =>
      codeAny M A (.compStart (.ListComp elt gens scope pos) d it1 acc env) (fun r s' => match r with
        | .ok _ => Q s'
        | .error _ => False) s₅) E s₄) E s
  | none => wpAny M A (eval elt env) (fun x s₄ => wpAny M A (call (.builtin "list.append") [acc, x]) (fun _ s₅ => Q s₅) E s₄) E s
section
variable {prog : Program} {w : World} {A : Around} {R : Result → Shared → Prop} {s : Shared} {gens : List Comprehension} {elt t0 i0 : Expr} {ifs0 : List Expr} {scope : Scope} {pos : Pos} {it acc : Value} {env : Env} {d : Nat}
theorem compLoop_gen (hd : gens[d]? = some ⟨t0, i0, ifs0, 0⟩) (hs : ∀ g, gens[d + 1]? = some g → g.is_async = 0 ∧ ∀ x, foldedSetIterable g.iter env x = pure x) (I : Nat → Shared → Prop)
    (turn : ∀ n s, I n s → wpAny (model prog w) A (pyNext it) (fun r s₁ => match r with
      | none => R (.ok .next) s₁
      | some v => wpAny (model prog w) A (letOwnedTupleGo t0 it v) (fun _ s₁' => wpAny (model prog w) A (assign t0 env v) (fun _ s₂ =>
          wpAny (model prog w) A (forIn ifs0 true fun c r => if r = true then do let ok ← isTrue c env (eval c env); pure (ForInStep.yield ok) else pure (ForInStep.yield r)) (fun ok s₃ =>
            if ok = true then tailW (model prog w) A gens elt scope pos (d + 1) acc env (fun s' => ∃ m, m < n ∧ I m s') (notedBy (model prog w) A env fun e s' => R (.error e) s') s₃
            else ∃ m, m < n ∧ I m s₃) (notedBy (model prog w) A env fun e s' => R (.error e) s') s₂) (notedBy (model prog w) A env fun e s' => R (.error e) s') s₁') (notedBy (model prog w) A env fun e s' => R (.error e) s') s₁) (notedBy (model prog w) A env fun e s' => R (.error e) s') s)
    (n : Nat) (h : I n s) :
    codeAny (model prog w) A (.compLoop (.ListComp elt gens scope pos) d it acc env) R s := by
  refine codeAny_loop rfl I (fun n s hI => ?_) n h
  show wpAny _ A ((compTurn (.ListComp elt gens scope pos) d it acc env).onRaise (fun x => do noteFrame x env; theTreesLotGoes x)) _ _ s
  refine wpAny_noted ?_
  have tn := turn n s hI
  clear turn
  cases hd1 : gens[d + 1]? with
  | some g =>
    obtain ⟨ha, hf⟩ := hs g hd1
    obtain ⟨t1, i1, ifs1, as⟩ := g
    have ha : as = 0 := ha
    subst ha
    unfold tailW at tn
    simp only [hd1] at tn
    rw [compTurn_mid _ _ _ _ _ _ _ _ _ _ _ _ hd hd1]
    refine wpAny_bind (wpAny_standAt (wpAny_bind (wpAny_mono tn (fun r s₁ h₁ => ?_) fun _ _ h' => h')))
    cases r with
    | none => exact wpAny_pure h₁
    | some v =>
      refine wpAny_bind (wpAny_mono h₁ (fun _ s₁' h₁' => ?_) fun _ _ h' => h')
      refine wpAny_bind (wpAny_mono h₁' (fun _ s₂ h₂ => wpAny_bind (wpAny_mono h₂ (fun ok s₃ h₃ => ?_) fun _ _ h' => h')) fun _ _ h' => h')
      cases ok with
      | false => exact wpAny_pure ⟨rfl, h₃⟩
      | true =>
        refine wpAny_bind (wpAny_mono h₃ (fun x s₄ h₄ => ?_) fun _ _ h' => h')
        refine wpAny_bind (wpAny_standAt (wpAny_bind (wpAny_of_eq (hf x) (wpAny_bind (wpAny_holding (wpAny_mono h₄ (fun it1 s₅ h₅ => ?_) fun _ _ h' => h'))))))
        refine wpAny_bind (wpAny_runOwn ?_)
        rw [Around.mark_none]
        refine codeAny_mono h₅ fun r s' hr => ?_
        cases r with
        | ok f =>
          first
            | exact wpAny_pure ⟨rfl, hr⟩
            | exact wpAny_bind (wpAny_pure (wpAny_pure ⟨rfl, hr⟩))
        | error e => exact hr.elim
  | none =>
    unfold tailW at tn
    simp only [hd1] at tn
    rw [compTurn_last _ _ _ _ _ _ _ _ _ hd hd1]
    refine wpAny_bind (wpAny_standAt (wpAny_bind (wpAny_mono tn (fun r s₁ h₁ => ?_) fun _ _ h' => h')))
    cases r with
    | none => exact wpAny_pure h₁
    | some v =>
      refine wpAny_bind (wpAny_mono h₁ (fun _ s₁' h₁' => ?_) fun _ _ h' => h')
      refine wpAny_bind (wpAny_mono h₁' (fun _ s₂ h₂ => wpAny_bind (wpAny_mono h₂ (fun ok s₃ h₃ => ?_) fun _ _ h' => h')) fun _ _ h' => h')
      cases ok with
      | false => exact wpAny_pure ⟨rfl, h₃⟩
      | true =>
        exact wpAny_bind (wpAny_bind (wpAny_mono h₃ (fun x s₄ h₄ => wpAny_bind (wpAny_mono h₄ (fun _ s₅ h₅ => wpAny_pure (wpAny_pure ⟨rfl, h₅⟩)) fun _ _ h' => h')) fun _ _ h' => h'))
/-- a clause's start -/
theorem compStart_gen (hd : gens[d]? = some ⟨t0, i0, ifs0, 0⟩) (h0 : codeAny (model prog w) A (.compLoop (.ListComp elt gens scope pos) d it acc env) R s)
    (h : wpAny (model prog w) A (pyIter it) (fun it' s' => codeAny (model prog w) A (.compLoop (.ListComp elt gens scope pos) d it' acc env) R s')
      (notedBy (model prog w) A env fun x s' => R (.error x) s') s) :
    codeAny (model prog w) A (.compStart (.ListComp elt gens scope pos) d it acc env) R s := by
  refine codeAny_of_tree ?_
  show wpAny _ _ ((compStart (.ListComp elt gens scope pos) d it acc env).onRaise (fun x => do noteFrame x env; standAt theWindowsPlace)) _ _ s
  refine wpAny_notedAt ?_
  unfold compStart
  have hc : (clausesOf (.ListComp elt gens scope pos))[d]? = some ⟨t0, i0, ifs0, 0⟩ := hd
  simp only [hc]
  show wpAny _ _ (ask >>= _) _ _ s
  refine wpAny_bind (wpAny_askSetting (wpAny_ite ?_))
  split
  · first
      | exact wpAny_bind (wpAny_pure (wpAny_pure (And.intro rfl h0)))
      | exact wpAny_pure (And.intro rfl h0)
  · first
      | exact wpAny_bind (wpAny_rule (wpAny_bind (wpAny_standAt (wpAny_bind (wpAny_mono h (fun it' s' h' => wpAny_pure (And.intro rfl h')) fun _ _ x => x)))))
      | (refine wpAny_bind (wpAny_rule ?_); show wpAny _ _ (standAt i0.pos >>= _) _ _ s; exact wpAny_bind (wpAny_standAt (wpAny_bind (wpAny_mono h (fun it' s' h' => wpAny_pure (And.intro rfl h')) fun _ _ x => x))))
end
end Rf
end
section
/-! Rf: the loops of a comprehension's block. -/
namespace Rf
open PySem PySem.Spec PyProof.Rows L2
/-- the state within a comprehension: its list is at D, no list of ours; (ρ0, H0) stood ahead of it -/
structure DS (A : Amb) (B : MH) (ρ0 : List Addr) (H0 : Hp) (D : Addr) (ρ : List Addr) (T : MH) (H : Hp) (acc : List PV) : Prop where
  x : Ext B.length ρ0 H0 ρ H
  hr : HR A.K ρ (B ++ T) H
  dn : D ∉ ρ
  da : ∃ vs, H D = some (.lst vs) ∧ Reps A.K ρ H vs acc
section
variable {A : Amb} {B T T' : MH} {ρ0 ρ ρ' : List Addr} {H0 H H' : Hp} {D : Addr} {acc : List PV}
theorem Ext.dn {nB : Nat} (x : Ext nB ρ H ρ' H') (h : D ∉ ρ) (e : H D ≠ none) : D ∉ ρ' := fun z => (x.new D z).elim h e
theorem DS.ext (s : DS A B ρ0 H0 D ρ T H acc) (x : Ext B.length ρ H ρ' H') (h : HR A.K ρ' (B ++ T') H') : DS A B ρ0 H0 D ρ' T' H' acc := by
  obtain ⟨vs, e, r⟩ := s.da
  exact ⟨s.x.trans s.hr.nd x, h, x.dn s.dn (by rw [e]; simp), vs, x.fr _ _ e (.inl fun z => s.dn (List.mem_of_mem_drop z)), x.reps r⟩
theorem Ext.updD {nB : Nat} (x : Ext nB ρ0 H0 ρ H) (h0 : H0 D = none) (o : HO) : Ext nB ρ0 H0 ρ (upd H D o) :=
  ⟨x.pre, fun b u e h => by rw [upd_ne (ne_of_none e h0)]; exact x.fr b u e h, x.new, fun b h => by
    by_cases z : b = D
    · rw [z, upd_same]; simp
    · rw [upd_ne z]; exact x.al b h⟩
theorem Kp.updD {vs : List V} (e : H D = some (.lst vs)) (o : HO) : Kp ρ H ρ (upd H D o) := ⟨List.prefix_refl _, fun b u e' n => by
  by_cases z : b = D
  · subst z; rw [e] at e'; cases e'; exact absurd rfl (n vs)
  · rw [upd_ne z]; exact e'⟩
theorem HR.updD {mh : MH} (h : HR A.K ρ mh H) (dn : D ∉ ρ) {vs : List V} (e : H D = some (.lst vs)) (o : HO) : HR A.K ρ mh (upd H D o) :=
  ⟨h.len, h.nd, fun k xs ek => by
    obtain ⟨a, us, h1, h2, h3⟩ := h.at_ k xs ek
    exact ⟨a, us, h1, (Kp.updD e o).reps h2, by
      have ne : a ≠ D := fun z => dn (by rw [← z]; exact List.mem_of_getElem? h1)
      rw [upd_ne ne]; exact h3⟩⟩
theorem DS.app (s : DS A B ρ0 H0 D ρ T H acc) (h0 : H0 D = none) {vs : List V} {y : V} {v : PV} (e : H D = some (.lst vs)) (r : Reps A.K ρ H vs acc) (ry : Rep A.K ρ H y v) : DS A B ρ0 H0 D ρ T (upd H D (.lst (vs ++ [y]))) (acc ++ [v]) :=
  ⟨s.x.updD h0 _, s.hr.updD s.dn e _, s.dn, _, upd_same, (Kp.updD e _).reps (r.snoc ry)⟩
end
/-- the item's step -/
def kE (A : Amb) (B : MH) (el : C) : En → MH → List PV → Option (List PV × MH) := fun σ1 T1 acc => ((sem A.CF A.G A.L el).e σ1 B T1).bind fun (y, T2) => if acc.length < big then some (acc ++ [y], T2) else none
/-- clauses gs from depth d on -/
def Tl (A : Amb) (X : Cx) (gens : List Comprehension) (elt : Expr) (el : C) (scope : Scope) (pos : Pos) (d : Nat) (gs : C) : Prop :=
  ∀ (pins : List (Addr × Obj)) (s : Shared) (τ : L2.St) (H : Hp) (ρ0 : List Addr) (H0 : Hp) (D : Addr) (B T : MH) (σ : En) (ρ : List Addr) (acc acc' : List PV) (T' : MH) (E : Value → Shared → Prop), H0 D = none → Inv X pins τ H s → DS A B ρ0 H0 D ρ T H acc → SR A.K ρ H σ τ →
    (sem A.CF A.G A.L gs).g (kE A B el) σ B T acc = some (acc', T') →
    tailW (model X.prog X.w) X.A gens elt scope pos d (.ref D) X.env (fun s' => ∃ τ' ρ' H', Inv X pins τ' H' s' ∧ Out (gslots gs) τ τ' ∧ Kp ρ H ρ' H' ∧ DS A B ρ0 H0 D ρ' T' H' acc') E s
theorem tailW_mono {M : Model} {A : Around} {gens : List Comprehension} {elt : Expr} {scope : Scope} {pos : Pos} {d : Nat} {acc : Value} {env : Env} {Q Q' : Shared → Prop} {E : Value → Shared → Prop} {s : Shared} (h : tailW M A gens elt scope pos d acc env Q E s) (f : ∀ s, Q s → Q' s) : tailW M A gens elt scope pos d acc env Q' E s := by
  unfold tailW at *
  split at h
  · refine thn h fun x s4 h4 => thn h4 fun it s5 h5 => codeAny_mono h5 fun r s' hr => ?_
    cases r with
    | ok z => exact f _ hr
    | error e => exact hr
  · exact thn h fun x s4 h4 => thn h4 fun _ s5 h5 => f _ h5
theorem SR.kp {K : PySem.W.Frag} {ρ ρ' : List Addr} {H H' : Hp} {σ : En} {τ : L2.St} (s : SR K ρ H σ τ) (x : Kp ρ H ρ' H') : SR K ρ' H' σ τ :=
  ⟨s.len, fun i y e => let ⟨v, h1, h2⟩ := s.at_ i y e; ⟨v, h1, x.rep h2⟩⟩
section
variable {A : Amb} {C0 : Fx} {kk : Nat} {X : Cx} {sc : Scope} {fn : Str → Bool} {gens : List Comprehension} {elt : Expr} {el : C} {scope : Scope} {pos : Pos} {d : Nat}
theorem tl_nil (g : Gd A C0 kk X sc fn) (he : PE X elt (tE A el)) (hd : gens[d]? = none) : Tl A X gens elt el scope pos d .gnil := by
  intro pins s τ H ρ0 H0 D B T σ ρ acc acc' T' E h0 I ds sr e
  unfold tailW
  simp only [hd]
  obtain ⟨⟨y, T2⟩, e1, e2⟩ := Option.bind_eq_some_iff.mp (show kE A B el σ T acc = _ from e)
  clear e
  have e2 : (if acc.length < big then some (acc ++ [y], T2) else none) = some (acc', T') := e2
  split at e2
  · rename_i hlt
    cases e2
    have h := he.run pins s τ H (fun x H' => ∃ ρ', Kp ρ H ρ' H' ∧ DS A B ρ0 H0 D ρ' T' H' acc ∧ Rep A.K ρ' H' x y) I (tE.mk ⟨ds.hr, sr⟩ e1 fun ρ1 H1 x x1e s1 r1 => ⟨ρ1, x1e.kp, ds.ext x1e s1.hr, r1⟩)
    rw [g.xe] at h
    refine thnF h fun v s' q => ?_
    obtain ⟨x, H', I', rv, ρ', kp, ds', r⟩ := q
    obtain ⟨vs, eD, rD⟩ := ds'.da
    refine app_ok I' eD (by rw [rD.length, ← big_eq]; exact hlt) rv fun s'' I'' => ?_
    exact ⟨τ, ρ', _, I'', .refl, kp.trans (Kp.updD eD _), ds'.app h0 eD rD r⟩
  · cases e2
theorem loop_ok (g : Gd A C0 kk X sc fn) {tg ite : Expr} {ifse : List Expr} {t : Tg} {ifs gs : C} {J : L2.It} {fp : List Addr} {ita : Addr} {tn : Nat → Heap → Prop} {pins : List (Addr × Obj)} {B : MH} {j : Rf.It} {ρJ ρ0 : List Addr} {HJ H0 : Hp} {D : Addr} {τ : L2.St} {σw : En} {T' : MH} {acc' : List PV} {R : Result → Shared → Prop}
    (hd : gens[d]? = some ⟨tg, ite, ifse, 0⟩) (hs : ∀ g, gens[d + 1]? = some g → g.is_async = 0 ∧ ∀ x, foldedSetIterable g.iter X.env x = pure x)
    (pg : PG X tg (gT A t)) (pt : PTs X ifse (tT A ifs)) (tl : Tl A X gens elt el scope pos (d + 1) gs) (Tn : Turn X.prog X.w X.K tg J fp ita tn)
    (hf : ∀ {τ' : L2.St} {H' : Hp} {s' : Shared}, Inv X pins τ' H' s' → (∀ b ∈ fp, H' b = none) → ∀ b ∈ fp, FpOk X pins H' b) (jok : JOk A.K B ρJ HJ j J) (h0 : H0 D = none)
    (hR : ∀ s' ρ' H', Inv X pins (wipe τ (t.slots ++ gslots gs)) H' s' → Kp ρJ HJ ρ' H' → DS A B ρ0 H0 D ρ' T' H' acc' → R (.ok .next) s')
    {n i : Nat} {T : MH} {acc : List PV} {ρ : List Addr} {H : Hp} {s : Shared}
    (I : Inv X pins (wipe τ (t.slots ++ gslots gs)) H s) (st : tn i s.heap) (hn : ∀ b ∈ fp, H b = none) (ds : DS A B ρ0 H0 D ρ T H acc) (sr : SR A.K ρ H σw (wipe τ (t.slots ++ gslots gs))) (kp : Kp ρJ HJ ρ H)
    (e : loopG B j t (fun σ1 T2 => (sem A.CF A.G A.L ifs).e σ1 B T2) (fun σ1 T2 acc => (sem A.CF A.G A.L gs).g (kE A B el) σ1 B T2 acc) σw n i T acc = some (acc', T')) :
    codeAny (model X.prog X.w) X.A (.compLoop (.ListComp elt gens scope pos) d (.ref ita) (.ref D) X.env) R s := by
  refine compLoop_gen hd hs (fun n s' => ∃ i ρ T H acc, Inv X pins (wipe τ (t.slots ++ gslots gs)) H s' ∧ tn i s'.heap ∧ (∀ b ∈ fp, H b = none) ∧ DS A B ρ0 H0 D ρ T H acc ∧ SR A.K ρ H σw (wipe τ (t.slots ++ gslots gs)) ∧ Kp ρJ HJ ρ H ∧
    loopG B j t (fun σ1 T2 => (sem A.CF A.G A.L ifs).e σ1 B T2) (fun σ1 T2 acc => (sem A.CF A.G A.L gs).g (kE A B el) σ1 B T2 acc) σw n i T acc = some (acc', T')) ?_ n ⟨i, ρ, T, H, acc, I, st, hn, ds, sr, kp, e⟩
  clear I st hn ds sr kp e
  rintro n s5 ⟨i, ρ, T, H5, acc, I5, st5, n5, ds, sr, kp, e⟩
  cases n with
  | zero => cases e
  | succ n =>
    unfold loopG at e
    have jk := jok ρ T H5 kp ds.hr i
    split at e
    · cases e
    · rename_i ea
      cases e
      refine thnF (Tn.done X rfl rfl rfl g.calm i pins s5 _ H5 (fun _ _ => False) I5 (hf I5 n5) st5 (jk.2 ea)) fun r s6 ⟨hr, I6⟩ => ?_
      subst hr
      exact hR s6 ρ H5 I6 kp ds
    · rename_i xv ea
      obtain ⟨go, yl⟩ := jk.1 xv ea
      split at e
      · cases e
      · rename_i σ1 eb
        refine thnF (Tn.item X rfl rfl rfl g.calm i pins s5 _ H5 (fun _ _ => False) I5 (hf I5 n5) st5 go) fun r s6 ⟨u, hr, h6⟩ => ?_
        subst hr
        refine thnF h6 fun _ s7 ⟨x, H7, I7, r7, y7, st7, n7⟩ => ?_
        obtain ⟨ke, rx⟩ := yl x H7 y7
        have x7 : Ext B.length ρ H5 ρ H7 := ke.ext
        have ds7 : DS A B ρ0 H0 D ρ T H7 acc := ds.ext x7 (ds.hr.same ke x7)
        have I7' := I7.pinned (hf I7 n7) (Tn.obj _ _ st7)
        have hg := pg.run _ s7 _ H7 x u (fun τ8 H8 => H8 = H7 ∧ SR A.K ρ H7 σ1 τ8 ∧ Out t.slots (wipe τ (t.slots ++ gslots gs)) τ8) I7' r7 ⟨ρ, xv, σw, σ1, sr.ext x7, rx, eb, fun τ' s' o => ⟨rfl, s', o⟩⟩
        rw [g.xe] at hg
        refine thnF hg fun _ s8 ⟨τ8, H8, I8, eH, sr8, o8⟩ => ?_
        subst eH
        -- the turn's end
        have fin : ∀ {τ' : L2.St} {ρ' : List Addr} {H' : Hp} {s' : Shared} {T'' : MH} {acc'' : List PV}, Inv X (pins ++ pinsAt fp s7.heap) τ' H' s' → Out (t.slots ++ gslots gs) (wipe τ (t.slots ++ gslots gs)) τ' → Kp ρ H8 ρ' H' → DS A B ρ0 H0 D ρ' T'' H' acc'' →
            loopG B j t (fun σ1 T2 => (sem A.CF A.G A.L ifs).e σ1 B T2) (fun σ1 T2 acc => (sem A.CF A.G A.L gs).g (kE A B el) σ1 B T2 acc) σw n (i + 1) T'' acc'' = some (acc', T') →
            ∃ m, m < n + 1 ∧ ∃ i ρ T H acc, Inv X pins (wipe τ (t.slots ++ gslots gs)) H s' ∧ tn i s'.heap ∧ (∀ b ∈ fp, H b = none) ∧ DS A B ρ0 H0 D ρ T H acc ∧ SR A.K ρ H σw (wipe τ (t.slots ++ gslots gs)) ∧ Kp ρJ HJ ρ H ∧
              loopG B j t (fun σ1 T2 => (sem A.CF A.G A.L ifs).e σ1 B T2) (fun σ1 T2 acc => (sem A.CF A.G A.L gs).g (kE A B el) σ1 B T2 acc) σw m i T acc = some (acc', T') := fun {τ' ρ' H' s' T'' acc''} I' o' kp' ds' e' => by
          have pin' : ∀ b ∈ fp, ∀ o, s7.heap.get? b = some o → s'.heap.get? b = some o ∧ H' b = none := fun b hb o e =>
            let z := I'.pin (b, o) (List.mem_append_right _ (List.mem_append_right _ (mem_pinsAt hb e)))
            ⟨z.1, z.2.1⟩
          have k0 : Kp ρ H5 ρ' H' := x7.kp.trans kp'
          refine ⟨n, Nat.lt_succ_self _, i + 1, ρ', T'', H', acc'', I'.unpinned.weak o'.1 (fun j v e => ?_), Tn.keep _ _ _ st7 fun b hb o e => (pin' b hb o e).1, fun b hb => ?_, ds', sr.kp k0, kp.trans k0, e'⟩
          · exact o'.2 j v (wipe_some e).2 e
          · obtain ⟨o, e, _⟩ := Tn.obj _ _ st7 b hb
            exact (pin' b hb o e).2
        have oo : Out (t.slots ++ gslots gs) (wipe τ (t.slots ++ gslots gs)) τ8 := o8.mono fun j hj => List.mem_append_left _ hj
        split at e
        · rename_i T1 et
          have ht := pt.run _ s8 τ8 H8 (fun b H9 => b = true ∧ ∃ ρ9, Ext B.length ρ H8 ρ9 H9 ∧ HR A.K ρ9 (B ++ T1) H9) I8 (tT.mk ⟨ds7.hr, sr8⟩ et fun ρ9 H9 x9 s9 => ⟨rfl, ρ9, x9, s9.hr⟩)
          rw [g.xe] at ht
          refine thnF ht fun b s9 ⟨H9, I9, eb', ρ9, x9, hr9⟩ => ?_
          subst eb'
          rw [if_pos rfl]
          split at e
          · rename_i acc2 T2 ek
            refine tailW_mono (tl _ s9 τ8 H9 ρ0 H0 D B T1 σ1 ρ9 acc acc2 T2 _ h0 I9 (ds7.ext x9 hr9) (sr8.ext x9) ek) fun s' q => ?_
            obtain ⟨τ', ρ', H', I', o', kp', ds'⟩ := q
            exact fin I' (o8.trans o') (x9.kp.trans kp') ds' e
          · cases e
        · rename_i T1 et
          have ht := pt.run _ s8 τ8 H8 (fun b H9 => b = false ∧ ∃ ρ9, Ext B.length ρ H8 ρ9 H9 ∧ HR A.K ρ9 (B ++ T1) H9) I8 (tT.mk ⟨ds7.hr, sr8⟩ et fun ρ9 H9 x9 s9 => ⟨rfl, ρ9, x9, s9.hr⟩)
          rw [g.xe] at ht
          refine thnF ht fun b s9 ⟨H9, I9, eb', ρ9, x9, hr9⟩ => ?_
          subst eb'
          rw [if_neg Bool.false_ne_true]
          exact fin I9 oo x9.kp (ds7.ext x9 hr9) e
        · cases e
theorem tl_gen (g : Gd A C0 kk X sc fn) {tg ite : Expr} {ifse : List Expr} {t : Tg} {it ifs gs : C} (hd : gens[d]? = some ⟨tg, ite, ifse, 0⟩) (hs : ∀ g, gens[d + 1]? = some g → g.is_async = 0 ∧ ∀ x, foldedSetIterable g.iter X.env x = pure x)
    (pi : PI X tg ite (tI A it)) (pg : PG X tg (gT A t)) (pt : PTs X ifse (tT A ifs)) (tl : Tl A X gens elt el scope pos (d + 1) gs) : Tl A X gens elt el scope pos d (.gen t it ifs gs) := by
  intro pins s τ H ρ0 H0 D B T σ ρ acc acc' T' E h0 I ds sr e
  obtain ⟨⟨j, T1⟩, e1, e2⟩ := Option.bind_eq_some_iff.mp (show ((sem A.CF A.G A.L it).it σ B T).bind _ = _ from e)
  clear e
  unfold tailW
  simp only [hd]
  have hi := pi.run pins s τ H (fun J H1 => ∃ ρ1, Ext B.length ρ H ρ1 H1 ∧ HR A.K ρ1 (B ++ T1) H1 ∧ JOk A.K B ρ1 H1 j J) I ⟨ρ, B, T, σ, j, T1, ⟨ds.hr, sr⟩, e1, fun ρ1 H1 J x1 h1 jo => ⟨ρ1, x1, h1, jo⟩⟩
  rw [g.xe] at hi
  refine thnF hi fun x s4 h4 => thnF h4 fun itv s5 h5 => ?_
  obtain ⟨ita, fp, tn, J, H1, e3, I5, Tn, st, f5, ρ1, x1, hr1, jok⟩ := h5
  subst e3
  have ds1 := ds.ext x1 hr1
  have I5' : Inv X pins (wipe τ (t.slots ++ gslots gs)) H1 s5 := I5.weak (wipe_length _ _) fun j v e => (wipe_some e).1
  have lp : codeAny (model X.prog X.w) X.A (.compLoop (.ListComp elt gens scope pos) d (.ref ita) (.ref D) X.env) (fun r s' => match r with
        | .ok _ => ∃ τ' ρ' H', Inv X pins τ' H' s' ∧ Out (gslots (.gen t it ifs gs)) τ τ' ∧ Kp ρ H ρ' H' ∧ DS A B ρ0 H0 D ρ' T' H' acc'
        | .error _ => False) s5 :=
    loop_ok g hd hs pg pt tl Tn (fun {τ' H' s'} I' hn b hb => ⟨hn b hb, (f5 b hb).2⟩) jok h0 (fun s' ρ' H' I' kp' ds' => ⟨_, ρ', H', I', Out.wipe, x1.kp.trans kp', ds'⟩) I5' st (fun b hb => (f5 b hb).1) ds1 ((sr.ext x1).wipe _) .refl e2
  exact compStart_gen hd lp (Tn.self X.A 0 _ _ _ st lp)
end
end Rf
end
section
/-! Rf: comprehensions. -/
namespace Rf
open PySem PySem.Spec PyProof.Rows L2
section
variable {A : Amb} {C0 : Fx} {kk : Nat} {X : Cx} {sc : Scope} {fn : Str → Bool} {gens : List Comprehension} {elt : Expr} {el : C} {scope : Scope} {pos : Pos}
theorem Ext.snoc {nB : Nat} {ρ ρ' : List Addr} {H H' : Hp} {D : Addr} (x : Ext nB ρ H ρ' H') (h0 : H D = none) : Ext nB ρ H (ρ' ++ [D]) H' :=
  ⟨x.pre.trans (List.prefix_append _ _), x.fr, fun a ha => by
    rcases List.mem_append.mp ha with z | z
    · exact x.new a z
    · have : a = D := by simpa using z
      subst this
      exact .inr h0, x.al⟩
theorem SR.less {K : PySem.W.Frag} {ρ : List Addr} {H : Hp} {σ : En} {τ : L2.St} (s : SR K ρ H σ τ) (vs : List Nat) : SR K ρ H (wipeE σ vs) τ := by
  induction vs with
  | nil => exact s
  | cons v vs ih =>
    unfold wipeE
    refine ⟨by rw [List.length_set]; exact ih.len, fun i x e => ?_⟩
    by_cases h : v = i
    · subst h
      have hl := (List.getElem?_eq_some_iff.mp e).1
      rw [List.getElem?_set_self (by simpa using hl)] at e
      cases e
    · rw [List.getElem?_set_ne h] at e
      exact ih.at_ i x e
/-- what the block of a comprehension is to be -/
structure Blk (A : Amb) (X : Cx) (gens : List Comprehension) (elt : Expr) (el : C) (scope : Scope) (pos : Pos) (tg : Expr) (ifse : List Expr) (t : Tg) (ifs gs : C) : Prop where
  pg : PG X tg (gT A t)
  pt : PTs X ifse (tT A ifs)
  tl : Tl A X gens elt el scope pos 1 gs
  hs : ∀ g, gens[1]? = some g → g.is_async = 0 ∧ ∀ x, foldedSetIterable g.iter X.env x = pure x
theorem lcn_core (g : Gd A C0 kk X sc fn) {pins : List (Addr × Obj)} {s : Shared} {τ : L2.St} {H : Hp} {Q : VK} {tg ite : Expr} {ifse : List Expr} {r : List Comprehension} {own : List (Str × Nat)} {pos' : Pos} {t : Tg} {it ifs gs : C} {use : Option (Value → Sem Unit)} {Qf : Value → Shared → Prop} {ρ : List Addr} {B T T' : MH} {σ : En} {v : PV}
    (eg : gens = ⟨tg, ite, ifse, 0⟩ :: r) (I : Inv X pins τ H s) (pi : PI X tg ite (tI A it)) (ok : BlkOk X.N X.env.scope scope own) (hs : ∀ x, foldedSetIterable ite X.env x = pure x)
    (bl : ∀ (s : Shared) (H : Hp) (C : Addr) (cl : List (Str × Addr)) (fp : List Addr), Gd A C0 kk (X.blk s H scope (compEnvC scope cl C X.env) fp) (relS scope sc) (fun y => scope.names.lookup y == some .cell) ∧ Blk A (X.blk s H scope (compEnvC scope cl C X.env) fp) gens elt el scope pos tg ifse t ifs gs)
    (ss : SS A ρ B T σ τ H) (e : (sem A.CF A.G A.L (.comp el (.gen t it ifs gs) own)).e σ B T = some (v, T')) (k : PQ A.K ρ H B T' v Q)
    (hRR : ∀ D C s' m H', Inv X pins τ H' s' → Q (.ref D) H' → s'.heap.Ns C m → FpOk X pins H' C → compPost (model X.prog X.w) X.A X.xe use Qf (.ref D) C (.ok .next) s') :
    wpAny (model X.prog X.w) X.A (comprehension (.ListComp elt gens scope pos) scope X.env pos' (newList []) false (eval ite X.env) use) Qf X.xe s := by
  have hN : X.N.Nodup := by rw [g.N]; exact g.nd
  have hfree : ∀ y ∈ scope.names, y.2 = .free → ∃ c, X.env.cells.lookup y.1 = some c := fun y hy e => by
    rcases ok.free y hy e with k | k
    · exact I.ok.has _ (.inl k)
    · exact I.ok.has _ (.inr k)
  obtain ⟨⟨acc', T1⟩, e1, e2⟩ := Option.bind_eq_some_iff.mp e
  clear e
  obtain ⟨⟨j, T2⟩, e3, e4⟩ := Option.bind_eq_some_iff.mp (show ((sem A.CF A.G A.L it).it (wipeE σ (own.map (·.2))) B T).bind _ = _ from e1)
  clear e1
  have e2 : Rf.mk B T1 acc' = some (v, T') := e2
  refine wpAny_comprehension_free (use := use) (e := .ListComp elt gens scope pos) (g := ⟨tg, ite, ifse, 0⟩) (gs := r) (by rw [eg]; rfl) hs (closure_ok hfree) ok.kind (fun y hy e => by rw [ok.uniq y hy, e])
    (thn (pi.run pins s τ H (fun J H1 => ∃ ρ1, Ext B.length ρ H ρ1 H1 ∧ HR A.K ρ1 (B ++ T2) H1 ∧ JOk A.K B ρ1 H1 j J) I ⟨ρ, B, T, _, j, T2, ⟨ss.hr, ss.sr.less _⟩, e3, fun ρ1 H1 J x1 h1 jo => ⟨ρ1, x1, h1, jo⟩⟩) fun xv s1 hx => thn hx fun itv s2 h2 => ?_)
  obtain ⟨ita, fp, tn, J, H2, e5, I2, Tn, st2, f2, ρ1, x1, hr1, jok⟩ := h2
  subst e5
  refine wpAny_newObj_type (newEnv_comp ?_) (by show 0 ≤ sizeLine; decide)
  generalize hD : s2.heap.objs.size = D
  have hDn : H2 D = none := I2.hok.fresh (Nat.le_of_eq hD)
  -- the new list
  generalize hs3 : ({ s2 with heap := s2.heap.push { cls := .type "list", data := .seq ([] : List Value).toArray } } : Shared) = s3
  have I3 : Inv X pins τ (upd H2 D (.lst [])) s3 := by
    rw [← hs3]
    refine I2.laid (t' := s2.toks) (fun b o e => Heap.get?_push_of_some _ e) (Nat.le_of_eq hD) ⟨Nat.zero_le _, [], 0, .nil, ?_⟩
    rw [← hD]
    exact Heap.get?_push_size _ rfl
  have h3 : s3.heap = s2.heap.push { cls := .type "list", data := .seq ([] : List Value).toArray } := by rw [← hs3]
  have sz : ∀ b ∈ fp, b < s2.heap.objs.size := fun b hb => by
    obtain ⟨o, e, _⟩ := Tn.obj _ _ st2 b hb
    exact Heap.lt_size e
  have f3 : ∀ b ∈ fp, FpOk X pins (upd H2 D (.lst [])) b ∧ b < s3.heap.objs.size := fun b hb => by
    have hlt := sz b hb
    refine ⟨⟨?_, (f2 b hb).2⟩, by rw [h3, Heap.size_push]; exact Nat.lt_succ_of_lt hlt⟩
    rw [upd_ne (by rw [← hD]; exact Nat.ne_of_lt hlt)]
    exact (f2 b hb).1
  have st3 : tn 0 s3.heap := Tn.keep _ _ _ st2 fun b _ o e => by rw [h3]; exact Heap.get?_push_of_some _ e
  have I4 := block_start I3 ok hN f3
  obtain ⟨gb, bk⟩ := bl s3 (upd H2 D (.lst [])) s3.heap.objs.size (cellsFrom (s3.heap.objs.size + 1) scope.names (cloFrom X.env.cells scope.names [])) fp
  show codeAny _ _ (.compStart (.ListComp elt gens scope pos) 0 (.ref ita) (.ref D) (compEnvC scope (cellsFrom (s3.heap.objs.size + 1) scope.names (cloFrom X.env.cells scope.names [])) s3.heap.objs.size X.env)) (compPost (model X.prog X.w) X.A X.xe use Qf (.ref D) s3.heap.objs.size) { s3 with heap := pushCells (s3.heap.push { cls := .type "dict", data := .dict #[] }) scope.names }
  have nfp : ∀ b ∈ fp, (upd H2 D (.lst [])) b = none := fun b hb => (f3 b hb).1.1
  have ds0 : DS A B ρ1 H2 D ρ1 T2 (upd H2 D (.lst [])) [] := ⟨Ext.fresh hDn, hr1.fresh hDn, hr1.out hDn, [], upd_same, .nil⟩
  have kp0 : Kp ρ1 H2 ρ1 (upd H2 D (.lst [])) := (Ext.fresh (nB := 0) hDn).kp
  have sr0 : SR A.K ρ1 (upd H2 D (.lst [])) (wipeE σ (own.map (·.2))) (wipe τ (own.map (·.2))) := ((ss.sr.ext x1).ext (Ext.fresh (nB := 0) hDn)).wipe _
  generalize hce : compEnvC scope (cellsFrom (s3.heap.objs.size + 1) scope.names (cloFrom X.env.cells scope.names [])) s3.heap.objs.size X.env = ce at I4 gb bk ⊢
  have cL : ce.locals = s3.heap.objs.size := by subst hce; rfl
  generalize hH3 : upd H2 D (.lst []) = H3 at I3 I4 gb bk nfp f3 ds0 kp0 sr0
  generalize hs4 : ({ s3 with heap := pushCells (s3.heap.push { cls := .type "dict", data := .dict #[] }) scope.names } : Shared) = s4 at I4 ⊢
  have st4 : tn 0 s4.heap := Tn.keep _ _ _ st3 fun b _ o e => by rw [← hs4]; exact pushCells_keeps _ _ _ _ (Heap.get?_push_of_some _ e)
  have stat : ∀ {σ' : L2.St} {H' : Hp} {s' : Shared}, Inv (X.blk s3 H3 scope ce fp) [] σ' H' s' → (∀ b ∈ fp, H' b = none) → ∀ b ∈ fp, FpOk (X.blk s3 H3 scope ce fp) [] H' b := fun {σ' H' s'} I' hn b hb =>
    ⟨hn b hb, (I'.ok.exf b hb).1, I'.ok.exfs b hb, .inl hb, fun x c e => (I'.ok.exf b hb).2 x c e, fun p hp => absurd (show p ∈ ([] : List (Addr × Obj)) ++ [] from hp) (by simp)⟩
  have hd0 : gens[0]? = some ⟨tg, ite, ifse, 0⟩ := by rw [eg]; rfl
  have I4' : Inv (X.blk s3 H3 scope ce fp) [] (wipe (wipe τ (own.map (·.2))) (t.slots ++ gslots gs)) H3 s4 := I4.weak (wipe_length _ _) fun j v e => (wipe_some e).1
  have loop : codeAny (model X.prog X.w) X.A (.compLoop (.ListComp elt gens scope pos) 0 (.ref ita) (.ref D) ce) (compPost (model X.prog X.w) X.A X.xe use Qf (.ref D) s3.heap.objs.size) s4 := by
    refine loop_ok (X := X.blk s3 H3 scope ce fp) gb hd0 bk.hs bk.pg bk.pt bk.tl Tn stat jok hDn (fun s6 ρ' H' I6 kp ds => ?_) I4' st4 nfp ds0 (sr0.wipe _) kp0 e4
    -- back in the def's context
    have I7 : Inv X pins τ H' s6 := I3.call' (ch := fp) I6.os I6.base I6.hok I6.bare fun b hb => ⟨(f3 b hb).1.2.2.2.1, (f3 b hb).1.2.1, (f3 b hb).1.2.2.2.2.1, (f3 b hb).1.2.2.2.2.2⟩
    have nC : H' s3.heap.objs.size = none := by
      have z : H' ce.locals = none := I6.free
      rw [cL] at z
      exact z
    obtain ⟨m, hn, _⟩ := I6.loc
    have hn : s6.heap.Ns ce.locals m := hn
    rw [cL] at hn
    have qq : Q (.ref D) H' := by
      unfold Rf.mk at e2
      split at e2
      · cases e2
        obtain ⟨vs, eD, rD⟩ := ds.da
        have hr' : HR A.K (ρ' ++ [D]) (B ++ (T1 ++ [acc'])) H' := by
          rw [← List.append_assoc]
          exact ds.hr.push eD ds.dn rD
        refine k (ρ' ++ [D]) H' _ (x1.trans hr1.nd (ds.x.snoc hDn)) hr' (.ref ?_)
        have : B.length + T1.length = ρ'.length := by rw [ds.hr.len, List.length_append]
        rw [this]
        simp
      · cases e2
    exact hRR D s3.heap.objs.size s6 m H' I7 qq hn (I3.fpOk (Nat.le_refl _) nC)
  exact compStart_gen hd0 loop (Tn.self X.A 0 _ _ _ st4 loop)
theorem Gd.blk (g : Gd A C0 kk X sc fn) (s : Shared) (H : Hp) (C : Addr) (cl : List (Str × Addr)) (fp : List Addr) (scope : Scope) : Gd A C0 kk (X.blk s H scope (compEnvC scope cl C X.env) fp) (relS scope sc) (fun y => scope.names.lookup y == some .cell) where
  sc := by
    show relS scope X.env.scope = _
    rw [g.sc]
  fn := rfl
  N := g.N
  nd := g.nd
  calm := g.calm
  xe := rfl
  K := g.K
  G := g.G
  room := g.room
  blt := g.blt
  glb := g.glb
  fns := g.fns
/-- as a value -/
theorem comp_pe (g : Gd A C0 kk X sc fn) {tg ite : Expr} {ifse : List Expr} {r : List Comprehension} {own : List (Str × Nat)} {t : Tg} {it ifs gs : C} 
    (eg : gens = ⟨tg, ite, ifse, 0⟩ :: r) (pi : PI X tg ite (tI A it)) (ok : BlkOk X.N X.env.scope scope own) (hs : ∀ x, foldedSetIterable ite X.env x = pure x)
    (bl : ∀ (s : Shared) (H : Hp) (C : Addr) (cl : List (Str × Addr)) (fp : List Addr), Gd A C0 kk (X.blk s H scope (compEnvC scope cl C X.env) fp) (relS scope sc) (fun y => scope.names.lookup y == some .cell) ∧ Blk A (X.blk s H scope (compEnvC scope cl C X.env) fp) gens elt el scope pos tg ifse t ifs gs) :
    PE X (.ListComp elt gens scope pos) (tE A (.comp el (.gen t it ifs gs) own)) := by
  subst eg
  refine ⟨fun pins s σ H Q I h => ?_⟩
  obtain ⟨ρ, B, T, τ, v, T', ss, e, k⟩ := h
  rw [eval_ListComp]
  refine lcn_core g rfl I pi ok hs bl ss e k fun D C s' m H' I' q hn f => ⟨m, hn, fun h'' sb => ?_⟩
  obtain ⟨f0, f1, f2, f3, f4, f5⟩ := f
  exact ⟨.ref D, H', I'.turned (t' := s'.toks) (fun b o hb e => (sb.2 b hb).trans e) f0 f1 f3 f4 f5, rfl, q⟩
/-- name = [..] on one line, the name a local -/
theorem comp_set (g : Gd A C0 kk X sc fn) {i : Nat} {y : Str} {py spos : Pos} {tg ite : Expr} {ifse : List Expr} {r : List Comprehension} {own : List (Str × Nat)} {t : Tg} {it ifs gs : C} 
    (hy : X.N[i]? = some y) (hyl : X.env.scope.names.lookup y = some .local)
    (hsw : swapsWith (.ListComp elt gens scope pos) (some (.Name y py)) spos.line X.env = pure true)
    (eg : gens = ⟨tg, ite, ifse, 0⟩ :: r) (pi : PI X tg ite (tI A it)) (ok : BlkOk X.N X.env.scope scope own) (hs : ∀ x, foldedSetIterable ite X.env x = pure x)
    (bl : ∀ (s : Shared) (H : Hp) (C : Addr) (cl : List (Str × Addr)) (fp : List Addr), Gd A C0 kk (X.blk s H scope (compEnvC scope cl C X.env) fp) (relS scope sc) (fun y => scope.names.lookup y == some .cell) ∧ Blk A (X.blk s H scope (compEnvC scope cl C X.env) fp) gens elt el scope pos tg ifse t ifs gs) :
    PS X (.Assign [.Name y py] (.ListComp elt gens scope pos) spos) (tAsg (tE A (.comp el (.gen t it ifs gs) own)) (gName i)) := by
  subst eg
  have hN : X.N.Nodup := by rw [g.N]; exact g.nd
  refine ⟨fun pins s σ H D I h => ?_⟩
  rw [exec_Assign_Name_used _ _ _ _ hsw]
  refine wpAny_bind (wpAny_standAt (wpAny_bind ?_))
  show wpAny _ X.A (do let _ ← comprehension (.ListComp elt (⟨tg, ite, ifse, 0⟩ :: r) scope pos) scope X.env (firstIterPos (⟨tg, ite, ifse, 0⟩ :: r) pos) (newList []) false (eval ite X.env) (some (assign (.Name y py) X.env))) _ _ s
  obtain ⟨ρ, B, T, τ, v, T', ss, e, k⟩ := (show tE A (.comp el (.gen t it ifs gs) own) σ H (fun x H1 => gName i x σ H1 D.nx) from h)
  refine wpAny_bind (thn (lcn_core (Qf := fun _ s' => SP X pins D .next s') g rfl I pi ok hs bl ss e k fun L C s' m H' I' q hn f => ?_) fun _ s' hq => wpAny_pure (wpAny_pure hq))
  show wpAny _ _ (assign (.Name y py) X.env (.ref L)) _ _ _
  refine wpAny_assign_Name (store_ok2 (v := V.ref L) I' hN hy (.inl hyl) rfl (fun s2 I2 ⟨a, sb, ha⟩ => ?_) (.inr hyl))
  obtain ⟨f0, f1, f2, f3, f4, f5⟩ := f
  have haC : C ≠ a := by
    rcases ha with z | z
    · rw [z]; exact f1
    · exact fun e => f4 y a z e.symm
  refine ⟨m, hn.sameBut sb haC, fun h3 sb3 => ?_⟩
  exact ⟨_, H', I2.turned (t' := s2.toks) (fun b o hb e => (sb3.2 b hb).trans e) f0 f1 f3 f4 f5, q⟩
end
end Rf
end
section
/-! Rf: every expression. -/
namespace Rf
open PySem PySem.Spec PyProof.Rows L2
structure Full (A : Amb) (C0 : Fx) (kk : Nat) (X : Cx) (sc : Scope) (fn : Str → Bool) (c : C) : Prop where
  snd : Snd A C0 kk X sc fn c
  it : ∀ tg e, (chk C0 c).i sc fn tg e = true → PI X tg e (tI A c)
  h0 : ∀ gens, (chk C0 c).h0 sc fn gens = true → ∃ t it ifs gs tg ite ifse asy r, c = .gen t it ifs gs ∧ gens = ⟨tg, ite, ifse, asy⟩ :: r ∧ PI X tg ite (tI A it)
  g : ∀ (gens : List Comprehension) (elt : Expr) (el : C) (scope : Scope) (pos : Pos) (d : Nat), (chk C0 c).g sc fn (gens.drop d) = true → PE X elt (tE A el) → Tl A X gens elt el scope pos d c
  h : ∀ (gens : List Comprehension) (elt : Expr) (el : C) (scope : Scope) (pos : Pos), (chk C0 c).h sc fn gens = true → PE X elt (tE A el) → ∃ t it ifs gs tg ite ifse r, c = .gen t it ifs gs ∧ gens = ⟨tg, ite, ifse, 0⟩ :: r ∧ noSet ite = true ∧ Blk A X gens elt el scope pos tg ifse t ifs gs
section
variable {A : Amb} {C0 : Fx} {kk : Nat}
theorem hs_of {X : Cx} {sc : Scope} {fn : Str → Bool} {c : C} {gens : List Comprehension} {d : Nat} (h : (chk C0 c).g sc fn (gens.drop d) = true) : ∀ g, gens[d]? = some g → g.is_async = 0 ∧ ∀ x, foldedSetIterable g.iter X.env x = pure x := fun g hg => by
  have hd : gens.drop d = g :: gens.drop (d + 1) := by
    have hl := (List.getElem?_eq_some_iff.mp hg)
    obtain ⟨h1, h2⟩ := hl
    rw [List.drop_eq_getElem_cons h1, h2]
  rw [hd] at h
  obtain ⟨tg, ite, ifse, asy⟩ := g
  cases c <;> first | cases h | skip
  obtain ⟨q1, _⟩ := bn h
  obtain ⟨h1, q2⟩ := bn q1
  exact ⟨of_decide_eq_true h1, noSet_fold (bn q2).1⟩
theorem Full.of {X : Cx} {sc : Scope} {fn : Str → Bool} {c : C} (h : Snd A C0 kk X sc fn c) (h1 : ∀ tg e, (chk C0 c).i sc fn tg e = true → PI X tg e (tI A c)) (h2 : (chk C0 c).g = fun _ _ _ => false) (h3 : (chk C0 c).h = fun _ _ _ => false) (h4 : (chk C0 c).h0 = fun _ _ _ => false) : Full A C0 kk X sc fn c where
  snd := h
  it := h1
  h0 := fun gens h => by rw [h4] at h; cases h
  g := fun gens elt el scope pos d h => by rw [h2] at h; cases h
  h := fun gens elt el scope pos h => by rw [h3] at h; cases h
theorem Full.ex {X : Cx} {sc : Scope} {fn : Str → Bool} {c : C} (h : Snd A C0 kk X sc fn c) (h1 : (chk C0 c).i = fun _ _ _ _ => false) (h2 : (chk C0 c).g = fun _ _ _ => false) (h3 : (chk C0 c).h = fun _ _ _ => false) (h4 : (chk C0 c).h0 = fun _ _ _ => false) : Full A C0 kk X sc fn c :=
  Full.of h (fun tg e h => by rw [h1] at h; cases h) h2 h3 h4
theorem f_gnil {X : Cx} {sc : Scope} {fn : Str → Bool} (g : Gd A C0 kk X sc fn) : Full A C0 kk X sc fn .gnil where
  snd := .ofG rfl
  it := fun tg e h => by cases h
  h0 := fun gens h => by cases h
  g := fun gens elt el scope pos d h he => tl_nil g he (by
    cases e : gens[d]? with
    | none => rfl
    | some z =>
      have hd : gens.drop d = z :: gens.drop (d + 1) := by
        obtain ⟨h1, h2⟩ := (List.getElem?_eq_some_iff.mp e)
        rw [List.drop_eq_getElem_cons h1, h2]
      rw [hd] at h
      cases h)
  h := fun gens elt el scope pos h => by cases h
theorem f_gen {X : Cx} {sc : Scope} {fn : Str → Bool} (g : Gd A C0 kk X sc fn) {t : Tg} {it ifs gs : C} (f1 : Full A C0 kk X sc fn it) (f2 : Full A C0 kk X sc fn ifs) (f3 : Full A C0 kk X sc fn gs) : Full A C0 kk X sc fn (.gen t it ifs gs) where
  snd := .ofG rfl
  it := fun tg e h => by cases h
  h0 := fun gens h => by
    cases gens with
    | nil => cases h
    | cons z r =>
      obtain ⟨tg, ite, ifse, asy⟩ := z
      exact ⟨_, _, _, _, _, _, _, _, _, rfl, rfl, f1.it _ _ h⟩
  g := fun gens elt el scope pos d h he => by
    cases hd : gens.drop d with
    | nil => rw [hd] at h; cases h
    | cons z r =>
      have hl : d < gens.length := by
        rcases Nat.lt_or_ge d gens.length with q | q
        · exact q
        · rw [List.drop_eq_nil_of_le q] at hd; cases hd
      have e0 := List.drop_eq_getElem_cons hl
      rw [hd] at e0
      have ez : gens[d]? = some z := by rw [List.getElem?_eq_getElem hl]; injection e0 with a b; rw [a]
      have er : gens.drop (d + 1) = r := by injection e0 with a b; exact b.symm
      rw [hd] at h
      obtain ⟨tg, ite, ifse, asy⟩ := z
      obtain ⟨q1, q2⟩ := bn h
      obtain ⟨h1, q3⟩ := bn q1
      obtain ⟨h2, h3⟩ := bn q3
      obtain ⟨h4, q4⟩ := bn q2
      obtain ⟨h5, h6⟩ := bn q4
      have ea := of_decide_eq_true h1
      subst ea
      rw [← er] at h6
      exact tl_gen g ez (hs_of h6) (f1.it _ _ h4) (pg_t g h3) (f2.snd.s _ h5) (f3.g gens elt el scope pos (d + 1) h6 he)
  h := fun gens elt el scope pos h he => by
    cases gens with
    | nil => cases h
    | cons z r =>
      obtain ⟨tg, ite, ifse, asy⟩ := z
      obtain ⟨q1, q2⟩ := bn h
      obtain ⟨h1, q3⟩ := bn q1
      obtain ⟨h2, h3⟩ := bn q3
      obtain ⟨h5, h6⟩ := bn q2
      have ea := of_decide_eq_true h1
      subst ea
      have h6' : (chk C0 gs).g sc fn (List.drop 1 (⟨tg, ite, ifse, 0⟩ :: r)) = true := h6
      exact ⟨_, _, _, _, _, _, _, _, rfl, rfl, h2, pg_t g h3, f2.snd.s _ h5, f3.g _ elt el scope pos 1 h6' he, hs_of h6'⟩
/-- what a comprehension's look gives -/
theorem comp_parts {X : Cx} {sc : Scope} {fn : Str → Bool} (g : Gd A C0 kk X sc fn) {el gs : C} {own : List (Str × Nat)} (f1 : ∀ X sc fn, Gd A C0 kk X sc fn → Full A C0 kk X sc fn el) (f2 : ∀ X sc fn, Gd A C0 kk X sc fn → Full A C0 kk X sc fn gs)
    {x : Expr} {gens : List Comprehension} {scope : Scope} {pos : Pos} (h : (chk C0 (.comp el gs own)).e sc fn (.ListComp x gens scope pos) = true) :
    ∃ t it ifs gs' tg ite ifse r, gs = .gen t it ifs gs' ∧ gens = ⟨tg, ite, ifse, 0⟩ :: r ∧ PI X tg ite (tI A it) ∧ BlkOk X.N X.env.scope scope own ∧ (∀ x, foldedSetIterable ite X.env x = pure x) ∧
      ∀ (s : Shared) (H : Hp) (C : Addr) (cl : List (Str × Addr)) (fp : List Addr), Gd A C0 kk (X.blk s H scope (compEnvC scope cl C X.env) fp) (relS scope sc) (fun y => scope.names.lookup y == some .cell) ∧ Blk A (X.blk s H scope (compEnvC scope cl C X.env) fp) gens x el scope pos tg ifse t ifs gs' := by
  obtain ⟨q1, q2⟩ := bn h
  obtain ⟨h1, h2⟩ := bn q1
  obtain ⟨h3, h4⟩ := bn q2
  have ok := blkOk_by h1
  obtain ⟨t, it, ifs, gs', tg, ite, ifse, asy, r, e1, e2, pi⟩ := (f2 X sc fn g).h0 gens h2
  subst e1 e2
  have key : ∀ (s : Shared) (H : Hp) (C : Addr) (cl : List (Str × Addr)) (fp : List Addr), Gd A C0 kk (X.blk s H scope (compEnvC scope cl C X.env) fp) (relS scope sc) (fun y => scope.names.lookup y == some .cell) ∧ asy = 0 ∧ noSet ite = true ∧ Blk A (X.blk s H scope (compEnvC scope cl C X.env) fp) (⟨tg, ite, ifse, asy⟩ :: r) x el scope pos tg ifse t ifs gs' := fun s H C cl fp => by
    have gb := g.blk s H C cl fp scope
    obtain ⟨t', it', ifs', gs'', tg', ite', ifse', r', e1, e2, ns, bk⟩ := (f2 _ _ _ gb).h _ x el scope pos h3 ((f1 _ _ _ gb).snd.e x h4)
    cases e1
    cases e2
    exact ⟨gb, rfl, ns, bk⟩
  have k0 := key X.s_0 (fun _ => none) 0 [] []
  obtain ⟨_, ea, ns, _⟩ := k0
  subst ea
  rw [← g.N, ← g.sc] at ok
  exact ⟨t, it, ifs, gs', tg, ite, ifse, r, rfl, rfl, pi, ok, noSet_fold ns, fun s H C cl fp => ⟨(key s H C cl fp).1, (key s H C cl fp).2.2.2⟩⟩
theorem s_comp {X : Cx} {sc : Scope} {fn : Str → Bool} (g : Gd A C0 kk X sc fn) {el gs : C} {own : List (Str × Nat)} (f1 : ∀ X sc fn, Gd A C0 kk X sc fn → Full A C0 kk X sc fn el) (f2 : ∀ X sc fn, Gd A C0 kk X sc fn → Full A C0 kk X sc fn gs) : Snd A C0 kk X sc fn (.comp el gs own) := .ofE rfl fun e h => by
  cases e <;> first | cases h | skip
  obtain ⟨t, it, ifs, gs', tg, ite, ifse, r, e1, e2, pi, ok, hs, bl⟩ := comp_parts g f1 f2 h
  subst e1
  exact comp_pe g e2 pi ok hs bl
theorem full (c : C) : ∀ (X : Cx) (sc : Scope) (fn : Str → Bool), Gd A C0 kk X sc fn → Full A C0 kk X sc fn c := by
  induction c with
  | var i => exact fun X sc fn g => .ex (s_var g i) rfl rfl rfl rfl
  | cst v => exact fun X sc fn g => .ex (s_cst v) rfl rfl rfl rfl
  | glb j => exact fun X sc fn g => .ex (s_glb g j) rfl rfl rfl rfl
  | bin o a b f1 f2 => exact fun X sc fn g => .ex (s_bin g o (f1 X sc fn g).snd (f2 X sc fn g).snd) rfl rfl rfl rfl
  | neg a f1 => exact fun X sc fn g => .ex (s_neg g (f1 X sc fn g).snd) rfl rfl rfl rfl
  | vand a b f1 f2 => exact fun X sc fn g => .ex (s_vand (f1 X sc fn g).snd (f2 X sc fn g).snd) rfl rfl rfl rfl
  | vor a b f1 f2 => exact fun X sc fn g => .ex (s_vor (f1 X sc fn g).snd (f2 X sc fn g).snd) rfl rfl rfl rfl
  | vone a f1 => exact fun X sc fn g => .ex (s_vone (f1 X sc fn g).snd) rfl rfl rfl rfl
  | vnot a f1 => exact fun X sc fn g => .ex (s_vnot g (f1 X sc fn g).snd) rfl rfl rfl rfl
  | tand a b f1 f2 => exact fun X sc fn g => .ex (s_tand (f1 X sc fn g).snd (f2 X sc fn g).snd) rfl rfl rfl rfl
  | tor a b f1 f2 => exact fun X sc fn g => .ex (s_tor (f1 X sc fn g).snd (f2 X sc fn g).snd) rfl rfl rfl rfl
  | tone a f1 => exact fun X sc fn g => .ex (s_tone (f1 X sc fn g).snd) rfl rfl rfl rfl
  | tnot a f1 => exact fun X sc fn g => .ex (s_tnot (f1 X sc fn g).snd) rfl rfl rfl rfl
  | tval a f1 => exact fun X sc fn g => .ex (s_tval g (f1 X sc fn g).snd) rfl rfl rfl rfl
  | cmp o a b f1 f2 => exact fun X sc fn g => .ex (s_cmp g o (f1 X sc fn g).snd (f2 X sc fn g).snd) rfl rfl rfl rfl
  | chain o o' a b c f1 f2 f3 => exact fun X sc fn g => .ex (s_chain g o o' (f1 X sc fn g).snd (f2 X sc fn g).snd (f3 X sc fn g).snd) rfl rfl rfl rfl
  | ife c a b f1 f2 f3 => exact fun X sc fn g => .ex (s_ife (f2 X sc fn g).snd (f3 X sc fn g).snd (f1 X sc fn g).snd) rfl rfl rfl rfl
  | idx a b f1 f2 => exact fun X sc fn g => .ex (s_idx g (f1 X sc fn g).snd (f2 X sc fn g).snd) rfl rfl rfl rfl
  | slc a lo hi f1 f2 f3 => exact fun X sc fn g => .ex (s_slc g (f1 X sc fn g).snd (f2 X sc fn g).snd (f3 X sc fn g).snd) rfl rfl rfl rfl
  | slcL a lo f1 f2 => exact fun X sc fn g => .ex (s_slcL g (f1 X sc fn g).snd (f2 X sc fn g).snd) rfl rfl rfl rfl
  | slcH a hi f1 f2 => exact fun X sc fn g => .ex (s_slcH g (f1 X sc fn g).snd (f2 X sc fn g).snd) rfl rfl rfl rfl
  | rev a f1 => exact fun X sc fn g => .ex (s_rev g (f1 X sc fn g).snd) rfl rfl rfl rfl
  | nop => exact fun X sc fn g => .ex s_nop rfl rfl rfl rfl
  | tup es f1 => exact fun X sc fn g => .ex (s_tup (f1 X sc fn g).snd) rfl rfl rfl rfl
  | lst es f1 => exact fun X sc fn g => .ex (s_lst (f1 X sc fn g).snd) rfl rfl rfl rfl
  | nil => exact fun X sc fn g => .ex s_nil rfl rfl rfl rfl
  | cons a b f1 f2 => exact fun X sc fn g => .ex (s_cons (f1 X sc fn g).snd (f2 X sc fn g).snd) rfl rfl rfl rfl
  | call f es f1 => exact fun X sc fn g => .ex (s_call g f (f1 X sc fn g).snd) rfl rfl rfl rfl
  | callp f es f1 => exact fun X sc fn g => .ex (s_callp g f (f1 X sc fn g).snd) rfl rfl rfl rfl
  | callk f es ks pm pure f1 f2 => exact fun X sc fn g => .ex (s_callk g f pm pure (f1 X sc fn g).snd (f2 X sc fn g).snd) rfl rfl rfl rfl
  | isi o a f1 => exact fun X sc fn g => .ex (s_isi g o (f1 X sc fn g).snd) rfl rfl rfl rfl
  | bi o es f1 => exact fun X sc fn g => .ex (s_bi g o (f1 X sc fn g).snd) rfl rfl rfl rfl
  | mt o a es f1 f2 => exact fun X sc fn g => .ex (s_mt g o (f1 X sc fn g).snd (f2 X sc fn g).snd) rfl rfl rfl rfl
  | comp elt gs own f1 f2 => exact fun X sc fn g => .ex (s_comp g f1 f2) rfl rfl rfl rfl
  | gnil => exact fun X sc fn g => f_gnil g
  | gen t it ifs gs f1 f2 f3 => exact fun X sc fn g => f_gen g (f1 X sc fn g) (f2 X sc fn g) (f3 X sc fn g)
  | itv a f1 => exact fun X sc fn g => .of (.ofI rfl) (fun tg e h => i_itv g (f1 X sc fn g).snd h) rfl rfl rfl
  | itr es f1 => exact fun X sc fn g => .of (.ofI rfl) (fun tg e h => i_itr g (f1 X sc fn g).snd h) rfl rfl rfl
  | itz es f1 => exact fun X sc fn g => .of (.ofI rfl) (fun tg e h => i_itz g (f1 X sc fn g).snd h) rfl rfl rfl
  | ite es f1 => exact fun X sc fn g => .of (.ofI rfl) (fun tg e h => i_ite g (f1 X sc fn g).snd h) rfl rfl rfl
end
end Rf
end
section
/-! Rf: statements. -/
namespace Rf
open PySem PySem.Spec PyProof.Rows L2
structure Sk where
  s : Stmt → Bool
  l : List Stmt → Bool
def oneS (f : Stmt → Bool) : Sk := ⟨f, fun _ => false⟩
/-- the list is stored within its block -/
def swB (sc : Scope) (x : Str) (p : Pos) : Expr → Bool
  | .ListComp _ _ scope pos => isLocal sc x && (p.line == pos.line) && !(scope.names.any fun (n, k) => n == x && (k == .local || k == .cell))
  | _ => false
def noComp : Expr → Bool
  | .ListComp .. => false | .SetComp .. => false | .DictComp .. => false
  | _ => true
/-- the value of a store that goes from left to right -/
def ordB (n : Nat) : Expr → Bool
  | .Tuple vs _ _ => !(n == 2 || n == 3) || (vs.length != n || vs.all (foldedForSure 8))
  | _ => true
/-- a target is no plain local -/
def cellAny (sc : Scope) (ts : List Expr) : Bool := ts.any fun t => match t with
  | .Name x _ => !isLocal sc x
  | _ => false
def locs (N : List Str) (sc : Scope) : List Nat → List Expr → Option (List Str)
  | [], [] => some []
  | i :: is, .Name x p :: es => if isLocal sc x && decide (N[i]? = some x) then (locs N sc is es).map (x :: ·) else none
  | _, _ => none
def lineAll (l : Nat) : List Expr → Bool
  | [] => true
  | .Name x p :: es => (p.line == l) && lineAll l es
  | _ => false
def isDoc : Stmt → Bool
  | .Pass _ => true
  | .Expr (.Constant (.str _) _ _) _ => true
  | _ => false

def chkS (C0 : Fx) (sc : Scope) (fn : Str → Bool) : S → Sk
  | .skip => ⟨fun _ => false, fun l => l.isEmpty⟩
  | .seq a b => ⟨fun _ => false, fun l => match l with
    | s :: r => (chkS C0 sc fn a).s s && (chkS C0 sc fn b).l r
    | [] => false⟩
  | .pass => oneS isDoc
  | .set i e => oneS fun st => match st with
    | .Assign [.Name x p] v _ => slotB C0.N sc fn i x && ((chk C0 e).e sc fn v && (!swB sc x p v && (noComp v || (match v with | .ListComp .. => true | _ => false))))
    | _ => false
  | .setC i e => oneS fun st => match st with
    | .Assign [.Name x p] (.ListComp elt gens scope pos) _ => (decide (C0.N[i]? = some x) && (isLocal sc x && ((p.line == pos.line) && !(scope.names.any fun (n, k) => n == x && (k == .local || k == .cell))))) && (chk C0 e).e sc fn (.ListComp elt gens scope pos)
    | _ => false
  | .setT is e => oneS fun st => match st with
    | .Assign [.Tuple ts _ _] v _ => (tgAll C0.N sc fn is ts && (ordB ts.length v || cellAny sc ts)) && (chk C0 e).e sc fn v
    | _ => false
  | .par is es => oneS fun st => match st with
    | .Assign [.Tuple [.Name x p, .Name y q] _ _] (.Tuple [a, b] _ _) _ => match is with
      | [i, j] => (((decide (C0.N[i]? = some x) && decide (C0.N[j]? = some y)) && (decide (i ≠ j) && (p.line == q.line))) && ((isLocal sc x && isLocal sc y) && (noStar a && noStar b))) && ((!([a, b].all (foldedForSure 8)) && !([a, b].all (constantsAlone 8))) && (chk C0 es).a sc fn [a, b])
      | _ => false
    | .Assign [.Tuple [.Name x p, .Name y q, .Name z r] _ _] (.Tuple [a, b, c] _ _) _ => match is with
      | [i, j, l] => (((decide (C0.N[i]? = some x) && (decide (C0.N[j]? = some y) && decide (C0.N[l]? = some z))) && ((decide (i ≠ j) && (decide (i ≠ l) && decide (j ≠ l))) && ((p.line == q.line) && (p.line == r.line)))) && ((isLocal sc x && (isLocal sc y && isLocal sc z)) && (noStar a && (noStar b && noStar c)))) && ((!([a, b, c].all (foldedForSure 8)) && !([a, b, c].all (constantsAlone 8))) && (chk C0 es).a sc fn [a, b, c])
      | _ => false
    | _ => false
  | .setI o i v => oneS fun st => match st with
    | .Assign [.Subscript x y _] z _ => plainI y && ((chk C0 v).e sc fn z && ((chk C0 o).e sc fn x && (chk C0 i).e sc fn y))
    | _ => false
  | .swp o1 i1 o2 i2 v => oneS fun st => match st with
    | .Assign [.Tuple [.Subscript x1 y1 _, .Subscript x2 y2 _] _ _] z _ => (plainI y1 && plainI y2) && ((chk C0 v).e sc fn z && (((chk C0 o1).e sc fn x1 && (chk C0 i1).e sc fn y1) && ((chk C0 o2).e sc fn x2 && (chk C0 i2).e sc fn y2)))
    | _ => false
  | .aug i o e => oneS fun st => match st with
    | .AugAssign (.Name x _) op v _ => opB o op && (slotB C0.N sc fn i x && (chk C0 e).e sc fn v)
    | _ => false
  | .exp e => oneS fun st => match st with
    | .Expr v _ => noComp v && (chk C0 e).e sc fn v
    | _ => false
  | .ret e => oneS fun st => match st with
    | .Return (some v) _ => (chk C0 e).e sc fn v
    | .Return none _ => match e with
      | .cst .non => true
      | _ => false
    | _ => false
  | .ifs c a b => oneS fun st => match st with
    | .If x l r _ => (chk C0 c).t sc fn x && ((chkS C0 sc fn a).l l && (chkS C0 sc fn b).l r)
    | _ => false
  | .whl c b => oneS fun st => match st with
    | .While x l [] _ => (chk C0 c).t sc fn x && (chkS C0 sc fn b).l l
    | _ => false
  | .for_ t it b => oneS fun st => match st with
    | .For tg ite l [] _ => (noSet ite && tgB C0.N sc fn t tg) && ((chk C0 it).i sc fn tg ite && (chkS C0 sc fn b).l l)
    | _ => false
  | .brk => oneS fun st => match st with
    | .Break _ => true
    | _ => false
  | .cont => oneS fun st => match st with
    | .Continue _ => true
    | _ => false

def PostS (A : Amb) (ρ : List Addr) (H : Hp) (B : MH) (D : Ends) : Rs × En × MH → Prop
  | (.nx, σ', T') => ∀ ρ' H' τ', Ext B.length ρ H ρ' H' → SS A ρ' B T' σ' τ' H' → D.nx τ' H'
  | (.bk, σ', T') => ∀ ρ' H' τ', Ext B.length ρ H ρ' H' → SS A ρ' B T' σ' τ' H' → D.bk τ' H'
  | (.ct, σ', T') => ∀ ρ' H' τ', Ext B.length ρ H ρ' H' → SS A ρ' B T' σ' τ' H' → D.ct τ' H'
  | (.rt v, _, T') => PQ A.K ρ H B T' v D.rt
def tS (A : Amb) (s : S) : TS := fun D τ H => ∃ ρ B T σ r, SS A ρ B T σ τ H ∧ semS A.CF A.G A.L s σ B T = some r ∧ PostS A ρ H B D r
section
variable {A : Amb} {ρ ρ1 : List Addr} {B T : MH} {σ : En} {τ : L2.St} {H H1 : Hp} {D D' : Ends} {r : Rs × En × MH}
theorem PostS.next (q : PostS A ρ H B D r) (nd : ρ1.Nodup) (x : Ext B.length ρ H ρ1 H1) : PostS A ρ1 H1 B D r := by
  obtain ⟨k, σ', T'⟩ := r
  cases k with
  | nx => exact fun ρ' H' τ' x2 s => q ρ' H' τ' (x.trans nd x2) s
  | bk => exact fun ρ' H' τ' x2 s => q ρ' H' τ' (x.trans nd x2) s
  | ct => exact fun ρ' H' τ' x2 s => q ρ' H' τ' (x.trans nd x2) s
  | rt v => exact PQ.next q nd x
end
structure SndS (A : Amb) (C0 : Fx) (X : Cx) (sc : Scope) (fn : Str → Bool) (a : S) : Prop where
  s : ∀ st, (chkS C0 sc fn a).s st = true → PS X st (tS A a)
  l : ∀ l, (chkS C0 sc fn a).l l = true → PSs X l (tS A a)
section
variable {A : Amb} {C0 : Fx} {kk : Nat} {X : Cx} {sc : Scope} {fn : Str → Bool} {a b : S} {c d e : C}
theorem SndS.one {f : Stmt → Bool} (hc : chkS C0 sc fn a = oneS f) (h : ∀ st, f st = true → PS X st (tS A a)) : SndS A C0 X sc fn a := ⟨by rw [hc]; exact h, by rw [hc]; intro l z; cases z⟩
theorem sw_eq {env : Env} {x : Str} {p : Pos} {v : Expr} {l : Nat} (hk : env.scope.kind = .function) (h : (noComp v || (match v with | .ListComp .. => true | _ => false)) = true) : swapsWith v (some (.Name x p)) l env = pure (swB env.scope x p v) := by
  cases v <;> first | rfl | cases h | skip
  rename_i elt gens scope pos
  have hb : env.blockKind = .function := by unfold Env.blockKind; rw [hk]; rfl
  unfold swapsWith swB isLocal
  simp only [hb, Expr.pos]
  cases hx : env.scope.names.lookup x with
  | none =>
    have : env.kindOf x = none := hx
    rw [this]; rfl
  | some k =>
    have : env.kindOf x = some k := hx
    rw [this]
    cases k <;> rfl
theorem sw_noComp {env : Env} {v : Expr} {l : Nat} (h : noComp v = true) : swapsWith v none l env = pure false := by
  cases v <;> first | rfl | cases h
theorem sw_other {env : Env} {v t : Expr} {l : Nat} (h : ∀ x p, t ≠ .Name x p) : swapsWith v (some t) l env = pure false := by
  cases v <;> first | rfl | skip
  all_goals (cases t <;> first | rfl | exact absurd rfl (h _ _))
theorem sw_sole {env : Env} {v t : Expr} {l : Nat} (h : ∀ x p, t ≠ .Name x p) : swapsWithSole [t] v l env = pure false := sw_other h
theorem ss_skip : SndS A C0 X sc fn .skip := by
  refine ⟨fun _ h => (by cases h), fun l h => ?_⟩
  cases l with
  | cons _ _ => cases h
  | nil =>
    refine ⟨fun pins s τ H D I q => pss_nil.run pins s τ H D I ?_⟩
    obtain ⟨ρ, B, T, σ, r, ss, e, k⟩ := q
    cases e
    exact k _ _ _ .refl ss
theorem _root_.L2.PSs.imp {e : List Stmt} {t t' : TS} (h : PSs X e t) (f : ∀ D σ H, t' D σ H → t D σ H) : PSs X e t' := ⟨fun pins s σ H Q I q => h.run pins s σ H Q I (f _ _ _ q)⟩
theorem ss_seq (ha : SndS A C0 X sc fn a) (hb : SndS A C0 X sc fn b) : SndS A C0 X sc fn (.seq a b) := by
  refine ⟨fun _ h => (by cases h), fun l h => ?_⟩
  cases l with
  | nil => cases h
  | cons x r =>
    obtain ⟨h1, h2⟩ := bn h
    refine (pss_cons (ha.s x h1) (hb.l r h2)).imp fun D τ H q => ?_
    obtain ⟨ρ, B, T, σ, r, ss, e, k⟩ := q
    show tS A a { D with nx := tS A b D } τ H
    unfold semS at e
    split at e
    · rename_i σ1 T1 e1
      exact ⟨ρ, B, T, σ, _, ss, e1, fun ρ1 H1 τ1 x1 s1 => ⟨ρ1, B, T1, σ1, r, s1, e, k.next s1.hr.nd x1⟩⟩
    · rename_i hn
      refine ⟨ρ, B, T, σ, r, ss, e, ?_⟩
      obtain ⟨kd, σ', T'⟩ := r
      cases kd with
      | nx => exact absurd e (hn _ _)
      | bk => exact k
      | ct => exact k
      | rt v => exact k
theorem ss_pass : SndS A C0 X sc fn .pass := .one rfl fun st h => by
  have fin : ∀ D τ H, tS A .pass D τ H → tNext D τ H := fun D τ H q => by
    obtain ⟨ρ, B, T, σ, r, ss, e, k⟩ := q
    cases e
    exact k _ _ _ .refl ss
  unfold isDoc at h
  split at h
  · exact ps_pass.imp fin
  · exact ps_doc.imp fin
  · cases h
theorem asg_imp {i : Nat} {D : Ends} {τ : L2.St} {H : Hp} (q : tS A (.set i e) D τ H) : tAsg (tE A e) (gName i) D τ H := by
  obtain ⟨ρ, B, T, σ, r, ss, e0, k⟩ := q
  obtain ⟨⟨v, T1⟩, e1, e2⟩ := Option.map_eq_some_iff.mp (show ((sem A.CF A.G A.L e).e σ B T).map _ = some r from e0)
  clear e0
  cases e2
  exact tE.mk ss e1 fun ρ1 H1 x x1 s1 r1 => k ρ1 H1 _ x1 ⟨s1.hr, s1.sr.set r1 i⟩
theorem ss_set (g : Gd A C0 kk X sc fn) (i : Nat) (he : Full A C0 kk X sc fn e) : SndS A C0 X sc fn (.set i e) := .one rfl fun st h => by
  split at h
  · rename_i x p v pos
    obtain ⟨h1, q1⟩ := bn h
    obtain ⟨h2, q2⟩ := bn q1
    obtain ⟨h3, h4⟩ := bn q2
    obtain ⟨k1, k2, k3⟩ := slotB_ok g h1
    have hN : X.N.Nodup := by rw [g.N]; exact g.nd
    refine ⟨fun pins s τ H D I q => ?_⟩
    refine (ps_set hN k1 k2 (he.snd.e v h2) (hs := ?_) k3).run pins s τ H D I (asg_imp q)
    rw [sw_eq I.ok.kind h4, g.sc]
    rw [Bool.not_eq_true'] at h3
    rw [h3]
  · cases h
theorem ss_setC (g : Gd A C0 kk X sc fn) (i : Nat) {el gs : C} {own : List (Str × Nat)} (f1 : ∀ X sc fn, Gd A C0 kk X sc fn → Full A C0 kk X sc fn el) (f2 : ∀ X sc fn, Gd A C0 kk X sc fn → Full A C0 kk X sc fn gs) : SndS A C0 X sc fn (.setC i (.comp el gs own)) := .one rfl fun st h => by
  split at h
  · rename_i x p elt gens scope pos spos
    obtain ⟨q1, h2⟩ := bn h
    obtain ⟨h1, q2⟩ := bn q1
    obtain ⟨h3, q3⟩ := bn q2
    obtain ⟨h4, h5⟩ := bn q3
    obtain ⟨t, it, ifs, gs', tg, ite, ifse, r, e1, e2, pi, ok, hs, bl⟩ := comp_parts g f1 f2 h2
    subst e1
    have hl : X.env.scope.names.lookup x = some .local := by
      rw [g.sc]
      unfold isLocal at h3
      split at h3
      · assumption
      · cases h3
    refine ⟨fun pins s τ H D I q => ?_⟩
    refine (comp_set g (by rw [g.N]; exact of_decide_eq_true h1) hl (sw_true I.ok.kind hl h4 (by rw [Bool.not_eq_true'] at h5; exact h5)) e2 pi ok hs bl).run pins s τ H D I (asg_imp q)
  · cases h
theorem ord_ok {ts vs : List Expr} {k : Nat} {p : Pos} {v : Expr} {env : Env} (h : ordB ts.length v = true) : swappedStores [.Tuple ts k p] v env = pure none := by
  cases v <;> first | rfl | skip
  rename_i vs k2 p2
  have h : (!(ts.length == 2 || ts.length == 3) || (vs.length != ts.length || vs.all (foldedForSure 8))) = true := h
  unfold swappedStores
  dsimp only
  cases hA : (!(ts.length == 2 || ts.length == 3) || vs.length != ts.length || env.blockKind != .function) with
  | true => rfl
  | false =>
    rw [Bool.or_eq_false_iff, Bool.or_eq_false_iff] at hA
    rw [hA.1.1, hA.1.2, Bool.false_or, Bool.false_or] at h
    simp only [hA.1.1, hA.1.2, hA.2, Bool.false_or, Bool.false_eq_true, if_false, h, if_true]
    split <;> first | rfl | skip
    split <;> rfl
theorem filter_lt {f : Expr → Option Str} : ∀ {ts : List Expr}, (∃ t ∈ ts, f t = none) → (ts.filterMap f).length < ts.length
  | [], ⟨_, h, _⟩ => by cases h
  | t :: ts, h => by
    cases e : f t with
    | none =>
      rw [List.filterMap_cons_none e]
      exact Nat.lt_succ_of_le (List.length_filterMap_le _ _)
    | some x =>
      rw [List.filterMap_cons_some e]
      obtain ⟨u, hu, e2⟩ := h
      rcases List.mem_cons.mp hu with z | z
      · subst z; rw [e] at e2; cases e2
      · exact Nat.succ_lt_succ (filter_lt ⟨u, z, e2⟩)
theorem cell_ok {ts : List Expr} {k : Nat} {p : Pos} {v : Expr} {env : Env} (h : cellAny env.scope ts = true) : swappedStores [.Tuple ts k p] v env = pure none := by
  cases v <;> first | rfl | skip
  rename_i vs k2 p2
  obtain ⟨t, ht, e⟩ := List.any_eq_true.mp h
  unfold swappedStores
  dsimp only
  split
  · rfl
  · split
    · rfl
    · have lt : ∀ f : Expr → Option Str, f t = none → ((ts.filterMap f).length != ts.length) = true := fun f hf => by
        have := filter_lt (ts := ts) ⟨t, ht, hf⟩
        exact bne_iff_ne.mpr (Nat.ne_of_lt this)
      split
      · rfl
      · rename_i hn
        refine absurd ?_ hn
        rw [Bool.or_eq_true]
        left
        refine lt _ ?_
        cases t <;> first | rfl | skip
        rename_i x q
        have e : (!isLocal env.scope x) = true := e
        unfold isLocal at e
        have : (env.kindOf x == some .local) = false := by
          cases hk : env.kindOf x with
          | none => rfl
          | some kd =>
            have hk : env.scope.names.lookup x = some kd := hk
            rw [hk] at e
            cases kd <;> first | rfl | cases e
        simp only [this, Bool.false_and]
        rfl
theorem tp_asg {is : List Nat} {D : Ends} {τ : L2.St} {H : Hp} (q : tS A (.setT is e) D τ H) : tAsg (tE A e) (gT A (.tp is)) D τ H := by
  obtain ⟨ρ, B, T, σ, r, ss, e0, k⟩ := q
  obtain ⟨⟨v, T1⟩, e1, e2⟩ := Option.bind_eq_some_iff.mp (show ((sem A.CF A.G A.L e).e σ B T).bind _ = some r from e0)
  clear e0
  obtain ⟨σ1, e3, e4⟩ := Option.map_eq_some_iff.mp e2
  cases e4
  exact tE.mk ss e1 fun ρ1 H1 x x1 s1 r1 => ⟨ρ1, v, σ, σ1, s1.sr, r1, e3, fun τ' s' o => k ρ1 H1 _ x1 ⟨s1.hr, s'⟩⟩
theorem ss_setT (g : Gd A C0 kk X sc fn) (is : List Nat) (he : Full A C0 kk X sc fn e) : SndS A C0 X sc fn (.setT is e) := .one rfl fun st h => by
  split at h
  · rename_i ts k p v pos
    obtain ⟨q1, h2⟩ := bn h
    obtain ⟨h1, h3⟩ := bn q1
    have pg : PG X (.Tuple ts k p) (gT A (.tp is)) := pg_t g (t := .tp is) h1
    refine (ps_asg (he.snd.e v h2) pg (hs := sw_sole (by intro _ _ z; cases z)) (hw := ?_)).imp fun D τ H q => tp_asg q
    rw [Bool.or_eq_true] at h3
    rcases h3 with h3 | h3
    · exact ord_ok (vs := ts) h3
    · exact cell_ok (by rw [g.sc]; exact h3)
  · cases h
end
end Rf
end
section
/-! Rf: more statements. -/
namespace Rf
open PySem PySem.Spec PyProof.Rows L2
section
variable {A : Amb} {C0 : Fx} {kk : Nat} {X : Cx} {sc : Scope} {fn : Str → Bool} {a b : S} {c d e : C}
theorem loc_ok (g : Gd A C0 kk X sc fn) {x : Str} (h : isLocal sc x = true) : X.env.scope.names.lookup x = some .local := by
  rw [g.sc]
  unfold isLocal at h
  split at h
  · assumption
  · cases h
theorem ne_beq {i j : Nat} {N : List Str} {x y : Str} (nd : N.Nodup) (hi : N[i]? = some x) (hj : N[j]? = some y) (h : i ≠ j) : x ≠ y := fun e => by
  subst e
  exact h (nodup_ix nd hi hj)
def isS : Expr → Bool
  | .Starred .. => true
  | _ => false
theorem isS_no {e : Expr} (h : noStar e = true) : isS e = false := by
  cases e <;> first | rfl | cases h
theorem swap2 {env : Env} {x y : Str} {p q pt pt2 : Pos} {kt k2} {a b : Expr} (hk : env.scope.kind = .function) (hx : env.scope.names.lookup x = some .local) (hy : env.scope.names.lookup y = some .local) (hne : x ≠ y) (hl : (p.line == q.line) = true) (sa : noStar a = true) (sb : noStar b = true)
    (h1 : [a, b].all (foldedForSure 8) = false) (h2 : [a, b].all (constantsAlone 8) = false) : swappedStores [.Tuple [.Name x p, .Name y q] kt pt] (.Tuple [a, b] k2 pt2) env = pure (some [x, y]) := by
  have hb : env.blockKind = .function := by unfold Env.blockKind; rw [hk]; rfl
  have kx : env.kindOf x = some .local := hx
  have ky : env.kindOf y = some .local := hy
  have ha : isS a = false := isS_no sa
  have hb' : isS b = false := isS_no sb
  have hl2 : (q.line == p.line) = true := by rw [eq_of_beq hl]; exact beq_self_eq_true _
  have hxy : (y == x) = false := by
    cases z : y == x with
    | false => rfl
    | true => exact absurd (eq_of_beq z).symm hne
  unfold swappedStores
  simp only [hb, kx, ky, h1, h2, Expr.pos, List.head?_cons, Option.map_some, Option.getD_some, List.filterMap_cons, List.filterMap_nil, hl2, beq_self_eq_true, Bool.and_true, Bool.true_and, if_true]
  simp [List.eraseDups_cons, hxy]
  intro h
  rcases h with h | h
  · exact absurd (ha.symm.trans h) (by decide)
  · exact absurd (hb'.symm.trans h) (by decide)
theorem swap3 {env : Env} {x y z : Str} {p q r pt pt2 : Pos} {kt k2} {a b c : Expr} (hk : env.scope.kind = .function) (hx : env.scope.names.lookup x = some .local) (hy : env.scope.names.lookup y = some .local) (hz : env.scope.names.lookup z = some .local) (hxy : x ≠ y) (hxz : x ≠ z) (hyz : y ≠ z)
    (hl : (p.line == q.line) = true) (hl' : (p.line == r.line) = true) (sa : noStar a = true) (sb : noStar b = true) (sc : noStar c = true)
    (h1 : [a, b, c].all (foldedForSure 8) = false) (h2 : [a, b, c].all (constantsAlone 8) = false) : swappedStores [.Tuple [.Name x p, .Name y q, .Name z r] kt pt] (.Tuple [a, b, c] k2 pt2) env = pure (some [x, y, z]) := by
  have hb : env.blockKind = .function := by unfold Env.blockKind; rw [hk]; rfl
  have kx : env.kindOf x = some .local := hx
  have ky : env.kindOf y = some .local := hy
  have kz : env.kindOf z = some .local := hz
  have ha : isS a = false := isS_no sa
  have hb' : isS b = false := isS_no sb
  have hc' : isS c = false := isS_no sc
  have hl2 : (q.line == p.line) = true := by rw [eq_of_beq hl]; exact beq_self_eq_true _
  have hl3 : (r.line == p.line) = true := by rw [eq_of_beq hl']; exact beq_self_eq_true _
  have nb : ∀ {u v : Str}, u ≠ v → (v == u) = false := fun {u v} hne => by
    cases z : v == u with
    | false => rfl
    | true => exact absurd (eq_of_beq z).symm hne
  unfold swappedStores
  simp only [hb, kx, ky, kz, h1, h2, Expr.pos, List.head?_cons, Option.map_some, Option.getD_some, List.filterMap_cons, List.filterMap_nil, hl2, hl3, beq_self_eq_true, Bool.and_true, Bool.true_and, if_true]
  simp [List.eraseDups_cons, nb hxy, nb hxz, nb hyz]
  intro h
  rcases h with h | h | h
  · exact absurd (ha.symm.trans h) (by decide)
  · exact absurd (hb'.symm.trans h) (by decide)
  · exact absurd (hc'.symm.trans h) (by decide)
theorem ss_par (g : Gd A C0 kk X sc fn) (is : List Nat) (he : Full A C0 kk X sc fn e) : SndS A C0 X sc fn (.par is e) := .one rfl fun st h => by
  have hN : X.N.Nodup := by rw [g.N]; exact g.nd
  split at h
  · rename_i x p y q kt pt a b k2 pt2 pos
    split at h
    · rename_i i j
      obtain ⟨q1, q2⟩ := bn h
      obtain ⟨q3, q4⟩ := bn q1
      obtain ⟨q5, q6⟩ := bn q3
      obtain ⟨h1, h2⟩ := bn q5
      obtain ⟨h3, h4⟩ := bn q6
      obtain ⟨q7, q8⟩ := bn q4
      obtain ⟨h5, h6⟩ := bn q7
      obtain ⟨h7, h8⟩ := bn q8
      obtain ⟨q9, h11⟩ := bn q2
      obtain ⟨h9, h10⟩ := bn q9
      rw [Bool.not_eq_true'] at h9 h10
      have hij : i ≠ j := of_decide_eq_true h3
      have n1 : X.N[i]? = some x := by rw [g.N]; exact of_decide_eq_true h1
      have n2 : X.N[j]? = some y := by rw [g.N]; exact of_decide_eq_true h2
      refine ⟨fun pins s τ H D I q => ?_⟩
      refine (ps_par g.calm hN n1 n2 hij (loc_ok g h5) (loc_ok g h6) (he.snd.a _ h11) (swap2 I.ok.kind (loc_ok g h5) (loc_ok g h6) (ne_beq hN n1 n2 hij) h4 h7 h8 h9 h10)).run pins s τ H D I ?_
      obtain ⟨ρ, B, T, σ, r, ss, e0, k⟩ := q
      obtain ⟨⟨v, T1⟩, e1, e2⟩ := Option.bind_eq_some_iff.mp (show ((sem A.CF A.G A.L e).e σ B T).bind _ = some r from e0)
      clear e0
      obtain ⟨σ1, e3, e4⟩ := Option.map_eq_some_iff.mp e2
      cases e4
      cases v <;> first | cases e3 | skip
      rename_i xs
      have e3 : bindAll [i, j] xs σ = some σ1 := e3
      have hlen := bindAll_len e3
      obtain ⟨x1, x2, rfl⟩ : ∃ x1 x2, xs = [x1, x2] := by
        match xs, hlen with
        | [x1, x2], _ => exact ⟨x1, x2, rfl⟩
      cases e3
      refine tA.mk ss e1 fun ρ1 H1 vs x1 s1 r1 => ?_
      cases r1 with
      | cons r1 rr => cases rr with
        | cons r2 rr => cases rr with
          | nil => exact ⟨_, _, rfl, k ρ1 H1 _ x1 ⟨s1.hr, (s1.sr.set r1 i).set r2 j⟩⟩
    · cases h
  · rename_i x p y q z r kt pt a b c k2 pt2 pos
    split at h
    · rename_i i j l
      obtain ⟨q1, q2⟩ := bn h
      obtain ⟨q3, q4⟩ := bn q1
      obtain ⟨q5, q6⟩ := bn q3
      obtain ⟨h1, q5⟩ := bn q5
      obtain ⟨h2, h2'⟩ := bn q5
      obtain ⟨q10, q11⟩ := bn q6
      obtain ⟨h3, q12⟩ := bn q10
      obtain ⟨h3', h3''⟩ := bn q12
      obtain ⟨h4, h4'⟩ := bn q11
      obtain ⟨q7, q8⟩ := bn q4
      obtain ⟨h5, q7⟩ := bn q7
      obtain ⟨h6, h6'⟩ := bn q7
      obtain ⟨h7, q8⟩ := bn q8
      obtain ⟨h8, h8'⟩ := bn q8
      obtain ⟨q9, h11⟩ := bn q2
      obtain ⟨h9, h10⟩ := bn q9
      rw [Bool.not_eq_true'] at h9 h10
      have hij : i ≠ j := of_decide_eq_true h3
      have hil : i ≠ l := of_decide_eq_true h3'
      have hjl : j ≠ l := of_decide_eq_true h3''
      have n1 : X.N[i]? = some x := by rw [g.N]; exact of_decide_eq_true h1
      have n2 : X.N[j]? = some y := by rw [g.N]; exact of_decide_eq_true h2
      have n3 : X.N[l]? = some z := by rw [g.N]; exact of_decide_eq_true h2'
      refine ⟨fun pins s τ H D I q => ?_⟩
      refine (ps_par3 g.calm hN n1 n2 n3 hij hil hjl (loc_ok g h5) (loc_ok g h6) (loc_ok g h6') (he.snd.a _ h11)
        (swap3 I.ok.kind (loc_ok g h5) (loc_ok g h6) (loc_ok g h6') (ne_beq hN n1 n2 hij) (ne_beq hN n1 n3 hil) (ne_beq hN n2 n3 hjl) h4 h4' h7 h8 h8' h9 h10)).run pins s τ H D I ?_
      obtain ⟨ρ, B, T, σ, r, ss, e0, k⟩ := q
      obtain ⟨⟨v, T1⟩, e1, e2⟩ := Option.bind_eq_some_iff.mp (show ((sem A.CF A.G A.L e).e σ B T).bind _ = some r from e0)
      clear e0
      obtain ⟨σ1, e3, e4⟩ := Option.map_eq_some_iff.mp e2
      cases e4
      cases v <;> first | cases e3 | skip
      rename_i xs
      have e3 : bindAll [i, j, l] xs σ = some σ1 := e3
      have hlen := bindAll_len e3
      obtain ⟨x1, x2, x3, rfl⟩ : ∃ x1 x2 x3, xs = [x1, x2, x3] := by
        match xs, hlen with
        | [x1, x2, x3], _ => exact ⟨x1, x2, x3, rfl⟩
      cases e3
      refine tA.mk ss e1 fun ρ1 H1 vs x1 s1 r1 => ?_
      cases r1 with
      | cons r1 rr => cases rr with
        | cons r2 rr => cases rr with
          | cons r3 rr => cases rr with
            | nil => exact ⟨_, _, _, rfl, k ρ1 H1 _ x1 ⟨s1.hr, ((s1.sr.set r1 i).set r2 j).set r3 l⟩⟩
    · cases h
  · cases h
end
end Rf
end
section
/-! Rf: every statement. -/
namespace Rf
open PySem PySem.Spec PyProof.Rows L2
section
variable {A : Amb} {C0 : Fx} {kk : Nat} {X : Cx} {sc : Scope} {fn : Str → Bool} {a b : S} {c d e : C}
theorem sub_asg {o i : Expr} {p : Pos} {env : Env} (h : plainI i = true) : ∀ v, assign (.Subscript o i p) env v = (do
      let ov ← holding [v] (eval o env)
      let iv ← holding [v, ov] (eval i env)
      standAt p
      holding [v, ov, iv] (setItem ov iv v)
      release [v, ov, iv] []) := by
  intro v
  cases i <;> first | rfl | cases h
theorem rS_mk {K : PySem.W.Frag} {ρ : List Addr} {B T T' : MH} {H : Hp} {o i v : V} {vo vi vv : PV} {Q : Hp → Prop} (hr : HR K ρ (B ++ T) H) (r1 : Rep K ρ H o vo) (r2 : Rep K ρ H i vi) (r3 : Rep K ρ H v vv) (e : setIx B T vo vi vv = some T') (q : ∀ H', Ext B.length ρ H ρ H' → HR K ρ (B ++ T') H' → Q H') : rS K o i v H Q :=
  ⟨ρ, B, T, vo, vi, vv, T', hr, r1, r2, r3, e, q⟩
theorem ss_setI (g : Gd A C0 kk X sc fn) {o i v : C} (ho : Full A C0 kk X sc fn o) (hi : Full A C0 kk X sc fn i) (hv : Full A C0 kk X sc fn v) : SndS A C0 X sc fn (.setI o i v) := .one rfl fun st h => by
  split at h
  · rename_i x y p z pos
    obtain ⟨h1, q1⟩ := bn h
    obtain ⟨h2, q2⟩ := bn q1
    obtain ⟨h3, h4⟩ := bn q2
    refine (ps_asg (hv.snd.e z h2) (pg_sub (ho.snd.e x h3) (hi.snd.e y h4) set_ok (sub_asg h1)) (hs := sw_sole (by intro _ _ z; cases z)) (hw := by cases z <;> rfl)).imp fun D τ H q => ?_
    obtain ⟨ρ, B, T, σ, r, ss, e0, k⟩ := q
    obtain ⟨⟨v1, T1⟩, e1, e2⟩ := Option.bind_eq_some_iff.mp (show ((sem A.CF A.G A.L v).e σ B T).bind _ = some r from e0)
    clear e0
    obtain ⟨⟨v2, T2⟩, e3, e4⟩ := Option.bind_eq_some_iff.mp e2
    clear e2
    obtain ⟨⟨v3, T3⟩, e5, e6⟩ := Option.bind_eq_some_iff.mp e4
    clear e4
    obtain ⟨T4, e7, e8⟩ := Option.map_eq_some_iff.mp e6
    clear e6
    cases e8
    refine tE.mk ss e1 fun ρ1 H1 x1 x1e s1 r1 => tE.mk s1 e3 fun ρ2 H2 x2 x2e s2 r2 => tE.mk s2 e5 fun ρ3 H3 x3 x3e s3 r3 => ?_
    rw [g.K]
    refine rS_mk s3.hr (x3e.rep r2) r3 (x3e.rep (x2e.rep r1)) e7 fun H4 x4e h4 => ?_
    exact k ρ3 H4 τ (((x1e.trans s1.hr.nd x2e).trans s2.hr.nd x3e).trans s3.hr.nd x4e) (s3.ext x4e h4)
  · cases h
theorem swp_none {x1 y1 x2 y2 : Expr} {p q pt : Pos} {kt} {v : Expr} {env : Env} : swappedStores [.Tuple [.Subscript x1 y1 p, .Subscript x2 y2 q] kt pt] v env = pure none := by
  cases v <;> first | rfl | skip
  unfold swappedStores
  simp
theorem ss_swp (g : Gd A C0 kk X sc fn) {o1 i1 o2 i2 v : C} (ho1 : Full A C0 kk X sc fn o1) (hi1 : Full A C0 kk X sc fn i1) (ho2 : Full A C0 kk X sc fn o2) (hi2 : Full A C0 kk X sc fn i2) (hv : Full A C0 kk X sc fn v) : SndS A C0 X sc fn (.swp o1 i1 o2 i2 v) := .one rfl fun st h => by
  split at h
  · rename_i x1 y1 p1 x2 y2 p2 kt pt z pos
    obtain ⟨q1, q2⟩ := bn h
    obtain ⟨h1, h2⟩ := bn q1
    obtain ⟨h3, q3⟩ := bn q2
    obtain ⟨q4, q5⟩ := bn q3
    obtain ⟨h4, h5⟩ := bn q4
    obtain ⟨h6, h7⟩ := bn q5
    have pg1 : PG X (.Subscript x1 y1 p1) _ := pg_sub (ho1.snd.e x1 h4) (hi1.snd.e y1 h5) set_ok (sub_asg h1)
    have pg2 : PG X (.Subscript x2 y2 p2) _ := pg_sub (ho2.snd.e x2 h6) (hi2.snd.e y2 h7) set_ok (sub_asg h2)
    refine (ps_asg (hv.snd.e z h3) (pg_tup g.calm (pgs_cons pg1 (pgs_cons pg2 pgs_nil))) (hs := sw_sole (by intro _ _ z; cases z)) (hw := swp_none)).imp fun D τ H q => ?_
    obtain ⟨ρ, B, T, σ, r, ss, e0, k⟩ := q
    obtain ⟨⟨v1, T1⟩, e1, e2⟩ := Option.bind_eq_some_iff.mp (show ((sem A.CF A.G A.L v).e σ B T).bind _ = some r from e0)
    clear e0
    dsimp only at e2
    split at e2
    · rename_i w1 w2
      obtain ⟨⟨v2, T2⟩, e3, e4⟩ := Option.bind_eq_some_iff.mp e2
      clear e2
      obtain ⟨⟨v3, T3⟩, e5, e6⟩ := Option.bind_eq_some_iff.mp e4
      clear e4
      obtain ⟨T4, e7, e8⟩ := Option.bind_eq_some_iff.mp e6
      clear e6
      obtain ⟨⟨v5, T5⟩, e9, e10⟩ := Option.bind_eq_some_iff.mp e8
      clear e8
      obtain ⟨⟨v6, T6⟩, e11, e12⟩ := Option.bind_eq_some_iff.mp e10
      clear e10
      obtain ⟨T7, e13, e14⟩ := Option.map_eq_some_iff.mp e12
      clear e12
      cases e14
      refine tE.mk ss e1 fun ρ1 H1 xx x1e s1 r1 => ?_
      cases r1 with
      | tup hT rs =>
        cases rs with
        | cons ra rr => cases rr with
          | cons rb rr => cases rr with
            | nil =>
              rw [g.K]
              refine ⟨_, _, rfl, hT, rfl, _, _, rfl, ?_⟩
              refine tE.mk s1 e3 fun ρ2 H2 x2 x2e s2 r2 => tE.mk s2 e5 fun ρ3 H3 x3 x3e s3 r3 => ?_
              refine rS_mk s3.hr (x3e.rep r2) r3 (x3e.rep (x2e.rep ra)) e7 fun H4 x4e h4 => ?_
              have s4 := s3.ext x4e h4
              refine ⟨_, _, rfl, ?_⟩
              refine tE.mk s4 e9 fun ρ5 H5 x5 x5e s5 r5 => tE.mk s5 e11 fun ρ6 H6 x6 x6e s6 r6 => ?_
              refine rS_mk s6.hr (x6e.rep r5) r6 (x6e.rep (x5e.rep (x4e.rep (x3e.rep (x2e.rep rb))))) e13 fun H7 x7e h7 => ?_
              refine ⟨rfl, k ρ6 H7 τ ?_ (s6.ext x7e h7)⟩
              exact (((((x1e.trans s1.hr.nd x2e).trans s2.hr.nd x3e).trans s3.hr.nd x4e).trans s4.hr.nd x5e).trans s5.hr.nd x6e).trans s6.hr.nd x7e
    · cases e2
  · cases h
theorem ss_exp (g : Gd A C0 kk X sc fn) (he : Full A C0 kk X sc fn e) : SndS A C0 X sc fn (.exp e) := .one rfl fun st h => by
  split at h
  · obtain ⟨h1, h2⟩ := bn h
    refine (ps_expr (he.snd.e _ h2) (hs := sw_noComp h1)).imp fun D τ H q => ?_
    obtain ⟨ρ, B, T, σ, r, ss, e0, k⟩ := q
    obtain ⟨⟨v1, T1⟩, e1, e2⟩ := Option.map_eq_some_iff.mp (show ((sem A.CF A.G A.L e).e σ B T).map _ = some r from e0)
    clear e0
    cases e2
    exact tE.mk ss e1 fun ρ1 H1 x1 x1e s1 r1 => k ρ1 H1 τ x1e s1
  · cases h
theorem ss_ret (g : Gd A C0 kk X sc fn) (he : Full A C0 kk X sc fn e) : SndS A C0 X sc fn (.ret e) := .one rfl fun st h => by
  split at h
  · refine (ps_ret (he.snd.e _ h)).imp fun D τ H q => ?_
    obtain ⟨ρ, B, T, σ, r, ss, e0, k⟩ := q
    obtain ⟨⟨v1, T1⟩, e1, e2⟩ := Option.map_eq_some_iff.mp (show ((sem A.CF A.G A.L e).e σ B T).map _ = some r from e0)
    clear e0
    cases e2
    exact ⟨ρ, B, T, σ, v1, T1, ss, e1, k⟩
  · split at h
    · refine ps_retN.imp fun D τ H q => ?_
      obtain ⟨ρ, B, T, σ, r, ss, e0, k⟩ := q
      cases e0
      exact PQ.same k ss.hr .non
    · cases h
  · cases h
theorem ss_ifs (g : Gd A C0 kk X sc fn) (hc : Full A C0 kk X sc fn c) (ha : SndS A C0 X sc fn a) (hb : SndS A C0 X sc fn b) : SndS A C0 X sc fn (.ifs c a b) := .one rfl fun st h => by
  split at h
  · obtain ⟨h1, q1⟩ := bn h
    obtain ⟨h2, h3⟩ := bn q1
    refine (ps_if (hc.snd.t _ h1) (ha.l _ h2) (hb.l _ h3)).imp fun D τ H q => ?_
    obtain ⟨ρ, B, T, σ, r, ss, e0, k⟩ := q
    unfold semS at e0
    split at e0
    · rename_i T1 e1
      refine tT.mk ss e1 fun ρ1 H1 x1e s1 => ?_
      rw [if_pos rfl]
      exact ⟨ρ1, B, T1, σ, r, s1, e0, k.next s1.hr.nd x1e⟩
    · rename_i T1 e1
      refine tT.mk ss e1 fun ρ1 H1 x1e s1 => ?_
      rw [if_neg Bool.false_ne_true]
      exact ⟨ρ1, B, T1, σ, r, s1, e0, k.next s1.hr.nd x1e⟩
    · cases e0
  · cases h
theorem ss_brk : SndS A C0 X sc fn .brk := .one rfl fun st h => by
  split at h
  · refine ps_break.imp fun D τ H q => ?_
    obtain ⟨ρ, B, T, σ, r, ss, e0, k⟩ := q
    cases e0
    exact k _ _ _ .refl ss
  · cases h
theorem ss_cont : SndS A C0 X sc fn .cont := .one rfl fun st h => by
  split at h
  · refine ps_continue.imp fun D τ H q => ?_
    obtain ⟨ρ, B, T, σ, r, ss, e0, k⟩ := q
    cases e0
    exact k _ _ _ .refl ss
  · cases h
theorem own_ok (g : Gd A C0 kk X sc fn) : PassesOwn (model X.prog X.w) X.A X.env X.xe := by
  rw [g.xe]; exact PassesOwn.never
theorem ss_whl (g : Gd A C0 kk X sc fn) (hc : Full A C0 kk X sc fn c) (hb : SndS A C0 X sc fn b) : SndS A C0 X sc fn (.whl c b) := .one rfl fun st h => by
  split at h
  · obtain ⟨h1, h2⟩ := bn h
    refine (ps_while (own_ok g) (hc.snd.t _ h1) (hb.l _ h2)).imp fun D τ H q => ?_
    obtain ⟨ρ, B, T, σ, r, ss, e0, k⟩ := q
    have e0 : loopW (fun σ T => (sem A.CF A.G A.L c).e σ B T) (fun σ T => semS A.CF A.G A.L b σ B T) A.L σ T = some r := e0
    refine ⟨fun n τ' H' => ∃ ρ' T' σ', Ext B.length ρ H ρ' H' ∧ SS A ρ' B T' σ' τ' H' ∧ loopW (fun σ T => (sem A.CF A.G A.L c).e σ B T) (fun σ T => semS A.CF A.G A.L b σ B T) n σ' T' = some r, ⟨A.L, ρ, T, σ, .refl, ss, e0⟩, ?_⟩
    clear e0
    rintro n τ1 H1 ⟨ρ1, T1, σ1, x1, s1, e⟩
    cases n with
    | zero => cases e
    | succ n =>
      unfold loopW at e
      split at e
      · rename_i T2 e2
        refine tT.mk s1 e2 fun ρ2 H2 x2 s2 => ?_
        rw [if_pos rfl]
        have x02 := x1.trans s1.hr.nd x2
        refine ⟨fun τ' H' => ∃ ρ' T' σ', Ext B.length ρ H ρ' H' ∧ SS A ρ' B T' σ' τ' H' ∧ loopW (fun σ T => (sem A.CF A.G A.L c).e σ B T) (fun σ T => semS A.CF A.G A.L b σ B T) n σ' T' = some r, fun σ' H' q => ⟨n, Nat.lt_succ_self _, q⟩, ?_⟩
        split at e
        · rename_i σ3 T3 e3
          exact ⟨ρ2, B, T2, σ1, _, s2, e3, fun ρ' H' τ' x s => ⟨ρ', T3, σ3, x02.trans s2.hr.nd x, s, e⟩⟩
        · rename_i σ3 T3 e3
          exact ⟨ρ2, B, T2, σ1, _, s2, e3, fun ρ' H' τ' x s => ⟨ρ', T3, σ3, x02.trans s2.hr.nd x, s, e⟩⟩
        · rename_i σ3 T3 e3
          cases e
          exact ⟨ρ2, B, T2, σ1, _, s2, e3, fun ρ' H' τ' x s => k ρ' H' τ' (x02.trans s2.hr.nd x) s⟩
        · rename_i v σ3 T3 e3
          cases e
          exact ⟨ρ2, B, T2, σ1, _, s2, e3, k.next s2.hr.nd x02⟩
        · cases e
      · rename_i T2 e2
        cases e
        refine tT.mk s1 e2 fun ρ2 H2 x2 s2 => ?_
        rw [if_neg Bool.false_ne_true]
        exact k ρ2 H2 _ (x1.trans s1.hr.nd x2) s2
      · cases e
  · cases h
theorem ss_for (g : Gd A C0 kk X sc fn) {t : Tg} {it : C} (hi : Full A C0 kk X sc fn it) (hb : SndS A C0 X sc fn b) : SndS A C0 X sc fn (.for_ t it b) := .one rfl fun st h => by
  split at h
  · obtain ⟨q1, q2⟩ := bn h
    obtain ⟨h1, h2⟩ := bn q1
    obtain ⟨h3, h4⟩ := bn q2
    refine (ps_for (own_ok g) g.calm (hi.it _ _ h3) (pg_t g h2) (hb.l _ h4) (hs := noSet_fold h1)).imp fun D τ H q => ?_
    obtain ⟨ρ, B, T, σ, r, ss, e0, k⟩ := q
    obtain ⟨⟨j, T0⟩, e1, e2⟩ := Option.bind_eq_some_iff.mp (show ((sem A.CF A.G A.L it).it σ B T).bind _ = some r from e0)
    clear e0
    refine ⟨ρ, B, T, σ, j, T0, ss, e1, fun ρ0 H0 J x0 hr0 jok => ?_⟩
    have ss0 := ss.ext x0 hr0
    have e2 : loopF B j t (fun σ T => semS A.CF A.G A.L b σ B T) A.L 0 σ T0 = some r := e2
    refine ⟨fun i n τ' H' => ∃ ρ' T' σ', Ext B.length ρ H ρ' H' ∧ Kp ρ0 H0 ρ' H' ∧ SS A ρ' B T' σ' τ' H' ∧ loopF B j t (fun σ T => semS A.CF A.G A.L b σ B T) n i σ' T' = some r, ⟨A.L, ρ0, T0, σ, x0, .refl, ss0, e2⟩, ?_⟩
    clear e2
    rintro i n τ1 H1 ⟨ρ1, T1, σ1, x1, kp, s1, e⟩
    cases n with
    | zero => cases e
    | succ n =>
      unfold loopF at e
      have jk := jok ρ1 T1 H1 kp s1.hr i
      split at e
      · cases e
      · rename_i ea
        cases e
        exact .inl ⟨jk.2 ea, k ρ1 H1 τ1 x1 s1⟩
      · rename_i xv ea
        obtain ⟨go, yl⟩ := jk.1 xv ea
        refine .inr ⟨go, fun τ' H' => ∃ ρ' T' σ', Ext B.length ρ H ρ' H' ∧ Kp ρ0 H0 ρ' H' ∧ SS A ρ' B T' σ' τ' H' ∧ loopF B j t (fun σ T => semS A.CF A.G A.L b σ B T) n (i + 1) σ' T' = some r, fun σ' H' q => ⟨n, Nat.lt_succ_self _, q⟩, fun x H2 y2 => ?_⟩
        obtain ⟨ke, rx⟩ := yl x H2 y2
        have x2 : Ext B.length ρ1 H1 ρ1 H2 := ke.ext
        have s2 : SS A ρ1 B T1 σ1 τ1 H2 := s1.ext x2 (s1.hr.same ke x2)
        have x02 := x1.trans s1.hr.nd x2
        have kp2 := kp.trans x2.kp
        split at e
        · cases e
        · rename_i σ2 eb
          refine ⟨ρ1, xv, σ1, σ2, s2.sr, rx, eb, fun τ2 sr2 o2 => ?_⟩
          have s3 : SS A ρ1 B T1 σ2 τ2 H2 := ⟨s2.hr, sr2⟩
          split at e
          · rename_i σ3 T3 e3
            exact ⟨ρ1, B, T1, σ2, _, s3, e3, fun ρ' H' τ' x s => ⟨ρ', T3, σ3, x02.trans s2.hr.nd x, kp2.trans x.kp, s, e⟩⟩
          · rename_i σ3 T3 e3
            exact ⟨ρ1, B, T1, σ2, _, s3, e3, fun ρ' H' τ' x s => ⟨ρ', T3, σ3, x02.trans s2.hr.nd x, kp2.trans x.kp, s, e⟩⟩
          · rename_i σ3 T3 e3
            cases e
            exact ⟨ρ1, B, T1, σ2, _, s3, e3, fun ρ' H' τ' x s => k ρ' H' τ' (x02.trans s2.hr.nd x) s⟩
          · rename_i v σ3 T3 e3
            cases e
            exact ⟨ρ1, B, T1, σ2, _, s3, e3, k.next s2.hr.nd x02⟩
          · cases e
  · cases h
theorem ip_mul : PIp X .Mult (fun x y H Q => ∃ i j, x = .int i ∧ y = .int j ∧ mulOk i j = true ∧ Q (.int (i * j)) H) := by
  intro pins s σ H x y v u Q I r1 r2 h
  obtain ⟨i, j, e1, e2, hm, q⟩ := h
  subst e1; subst e2
  obtain ⟨t, rfl⟩ := r1
  obtain ⟨t', rfl⟩ := r2
  exact imul_int ⟨.int _, H, I.tok _, ⟨_, rfl⟩, q⟩ (mulOk_ok hm).ok
theorem ss_aug (g : Gd A C0 kk X sc fn) (i : Nat) (o : BO) (he : Full A C0 kk X sc fn e) : SndS A C0 X sc fn (.aug i o e) := .one rfl fun st h => by
  have hN : X.N.Nodup := by rw [g.N]; exact g.nd
  split at h
  · rename_i x p op v pos
    obtain ⟨h1, q1⟩ := bn h
    obtain ⟨h2, h3⟩ := bn q1
    obtain ⟨k1, k2, k3⟩ := slotB_ok g h2
    have eo := opB_ok h1
    subst eo
    have key : ∀ {D : Ends} {τ : L2.St} {H : Hp} {ti : TIp}, tS A (.aug i o e) D τ H → (∀ (x y : PV) (H : Hp) (Q : VK) (r : PV), (∃ a b, x = .int a ∧ y = .int b ∧ (match o with | .add => r = .int (a + b) | .sub => r = .int (a - b) | .mul => mulOk a b = true ∧ r = .int (a * b) | _ => False)) →
        (∀ (K : PySem.W.Frag) (ρ : List Addr) (vx vy : V), Rep K ρ H vx x → Rep K ρ H vy y → (∀ vr, Rep K ρ H vr r → Q vr H) → ti vx vy H Q)) → tAug i (tE A e) ti D τ H := fun {D τ H ti} q hk => by
      obtain ⟨ρ, B, T, σ, r, ss, e0, k⟩ := q
      unfold semS at e0
      split at e0
      · rename_i xv ex
        obtain ⟨⟨y, T1⟩, e1, e2⟩ := Option.bind_eq_some_iff.mp e0
        clear e0
        obtain ⟨vx, t1, t2⟩ := ss.sr.at_ i xv ex
        refine ⟨vx, t1, tE.mk ss e1 fun ρ1 H1 x1 x1e s1 r1 => ?_⟩
        dsimp only at e2
        have r0 : Rep A.K ρ1 H1 vx xv := x1e.rep t2
        split at e2
        · rename_i a b
          cases e2
          exact hk _ _ _ _ (.int (a + b)) ⟨a, b, rfl, rfl, rfl⟩ _ ρ1 vx x1 r0 r1 fun vr rr => k ρ1 H1 _ x1e ⟨s1.hr, s1.sr.set rr i⟩
        · rename_i a b
          cases e2
          exact hk _ _ _ _ (.int (a - b)) ⟨a, b, rfl, rfl, rfl⟩ _ ρ1 vx x1 r0 r1 fun vr rr => k ρ1 H1 _ x1e ⟨s1.hr, s1.sr.set rr i⟩
        · rename_i a b
          split at e2
          · rename_i hm
            cases e2
            exact hk _ _ _ _ (.int (a * b)) ⟨a, b, rfl, rfl, hm, rfl⟩ _ ρ1 vx x1 r0 r1 fun vr rr => k ρ1 H1 _ x1e ⟨s1.hr, s1.sr.set rr i⟩
          · cases e2
        · cases e2
      · cases e0
    cases o with
    | add =>
      exact (ps_aug hN k1 k2 (he.snd.e _ h3) ip_add k3).imp fun D τ H q => key q fun x y H Q r hx K ρ vx vy rx ry f => by
        obtain ⟨a, b, rfl, rfl, hr⟩ := hx
        cases rx; cases ry
        exact ⟨a, b, rfl, rfl, f _ (by rw [hr]; exact .int _)⟩
    | sub =>
      exact (ps_aug hN k1 k2 (he.snd.e _ h3) ip_sub k3).imp fun D τ H q => key q fun x y H Q r hx K ρ vx vy rx ry f => by
        obtain ⟨a, b, rfl, rfl, hr⟩ := hx
        cases rx; cases ry
        exact ⟨a, b, rfl, rfl, f _ (by rw [hr]; exact .int _)⟩
    | mul =>
      exact (ps_aug hN k1 k2 (he.snd.e _ h3) ip_mul k3).imp fun D τ H q => key q fun x y H Q r hx K ρ vx vy rx ry f => by
        obtain ⟨a, b, rfl, rfl, hm, hr⟩ := hx
        cases rx; cases ry
        exact ⟨a, b, rfl, rfl, hm, f _ (by rw [hr]; exact .int _)⟩
    | _ =>
      refine ⟨fun pins s τ H D I q => ?_⟩
      obtain ⟨ρ, B, T, σ, r, ss, e0, k⟩ := q
      unfold semS at e0
      split at e0
      · obtain ⟨⟨y, T1⟩, e1, e2⟩ := Option.bind_eq_some_iff.mp e0
        cases e2
      · cases e0
  · cases h
theorem fullS (s : S) (g : Gd A C0 kk X sc fn) : SndS A C0 X sc fn s := by
  induction s with
  | skip => exact ss_skip
  | seq a b ha hb => exact ss_seq ha hb
  | set i e => exact ss_set g i (full e X sc fn g)
  | setC i e =>
    cases e with
    | comp el gs own => exact ss_setC g i (full el) (full gs)
    | _ =>
      refine .one rfl fun st h => ?_
      split at h
      · obtain ⟨_, h2⟩ := bn h
        cases h2
      · cases h
  | setT is e => exact ss_setT g is (full e X sc fn g)
  | par is es => exact ss_par g is (full es X sc fn g)
  | setI o i v => exact ss_setI g (full o X sc fn g) (full i X sc fn g) (full v X sc fn g)
  | swp o1 i1 o2 i2 v => exact ss_swp g (full o1 X sc fn g) (full i1 X sc fn g) (full o2 X sc fn g) (full i2 X sc fn g) (full v X sc fn g)
  | aug i o e => exact ss_aug g i o (full e X sc fn g)
  | exp e => exact ss_exp g (full e X sc fn g)
  | ret e => exact ss_ret g (full e X sc fn g)
  | ifs c a b ha hb => exact ss_ifs g (full c X sc fn g) ha hb
  | whl c b hb => exact ss_whl g (full c X sc fn g) hb
  | for_ t it b hb => exact ss_for g (full it X sc fn g) hb
  | brk => exact ss_brk
  | cont => exact ss_cont
  | pass => exact ss_pass
end
end Rf
end
section
/-! Rf: functions, the program, the law. -/
namespace Rf
open PySem PySem.Spec PyProof.Rows L2
/-- a def: its name, where it stands, its slots, its parameters, its compact code -/
structure FD where
  x : Str
  params : Arguments
  body : List Stmt
  scope : Scope
  N : List Str
  ps : List Str
  fn : Fn
def fxOf (fx : Fx) (N : List Str) : Fx := ⟨N, fx.G, fx.F, fx.KW⟩
def okF (fx : Fx) (d : FD) : Bool := (C8.scC d.N d.ps d.scope && (decide (d.fn.np = d.ps.length) && decide (d.fn.ns = d.N.length))) && (chkS (fxOf fx d.N) d.scope (fun _ => true) d.fn.body).l d.body
section
variable {P : Program} {w : World} {K : PySem.W.Frag} {mg : Str → Option Value} {base : Heap} {fds : List FD} {fx : Fx} {L : Nat}
def amb (K : PySem.W.Frag) (fds : List FD) (fx : Fx) (L n : Nat) : Amb := ⟨K, run (fds.map (·.fn)) fx.G L n, fx.G, L⟩
/-- what the head says -/
structure Hd (K : PySem.W.Frag) (mg : Str → Option Value) (fds : List FD) (fx : Fx) : Prop where
  F : fx.F = fds.map (·.x)
  ok : ∀ d ∈ fds, okF fx d = true
  blt : ∀ x ∈ bltNames, mg x = none
  glb : ∀ p ∈ fx.G, ∃ a, mg p.1 = some (.ref a) ∧ ∀ ρ H, Rep K ρ H (.ref a) p.2
  fn : ∀ (i : Nat) (d : FD), fds[i]? = some d → ∃ a fd, mg d.x = some (.ref a) ∧ FunD K d.x d.x d.params d.body d.scope [] [] a fd ∧ Binds K fd d.ps [] ∧ ∀ n ks pm, (i, n, ks, pm) ∈ fx.KW → KBn K fd d.ps n ks (getP pm <| · ++ ·) (getP pm <| · ++ ·)
theorem gd_of (h : Hd K mg fds fx) {n : Nat} {d : FD} (hd : d ∈ fds) (fns : ∀ f x, fx.F[f]? = some x → FnG (amb K fds fx L n) fx n P w mg base f x) {cdv : Value} {A : Around} {outer : List Env} {s : Shared} {H : Hp} {E : XK} {f : Addr} (hr : Room n (A.deeper (envOfC d.x d.scope s.heap.objs.size f cdv))) :
    Gd (amb K fds fx L n) (fxOf fx d.N) n (Cx.nox (cxOf CX0 P w K mg base d.N d.x d.scope f cdv A outer s H E)) d.scope (fun _ => true) where
  sc := rfl
  fn := rfl
  N := rfl
  nd := by
    have := h.ok d hd
    exact (C8.fnScope_by (bn (bn this).1).1).nd
  calm := rfl
  xe := rfl
  K := rfl
  G := rfl
  room := hr
  blt := h.blt
  glb := h.glb
  fns := fns
theorem fn_ok (h : Hd K mg fds fx) {n : Nat} {i : Nat} {d : FD} (hd : fds[i]? = some d) (fns : ∀ f x, fx.F[f]? = some x → FnG (amb K fds fx L n) fx n P w mg base f x) {a : Addr} {fd : FuncData} (F : FunD K d.x d.x d.params d.body d.scope [] [] a fd) :
    FnOk P w K mg base CX0 (n + 1) a fd d.ps (spI (amb K fds fx L (n + 1)) d.ps i) := by
  have hm : d ∈ fds := List.mem_of_getElem? hd
  have ok := h.ok d hm
  obtain ⟨q1, h4⟩ := bn ok
  obtain ⟨h1, q2⟩ := bn q1
  obtain ⟨h2, h3⟩ := bn q2
  have e2 : d.fn.np = d.ps.length := of_decide_eq_true h2
  have e3 : d.fn.ns = d.N.length := of_decide_eq_true h3
  refine F.ok (N := d.N) (C8.fnScope_by h1) (fun vs H Q E q => q.1) fun cdv A outer s H vs Q E hr q => ⟨tS (amb K fds fx L n) d.fn.body, PSs.nox ((fullS d.fn.body (gd_of h hm fns hr)).l _ h4), ?_⟩
  obtain ⟨hl, ρ, B, T, xs, v, T', hr', rs, e, k⟩ := q
  have e : run (fds.map (·.fn)) fx.G L (n + 1) i xs B T = some (v, T') := e
  unfold run at e
  have hp : (fds.map (·.fn))[i]? = some d.fn := by rw [List.getElem?_map, hd]; rfl
  rw [hp] at e
  dsimp only at e
  split at e
  · rename_i hx
    have ss : SS (amb K fds fx L n) ρ B T (startE d.fn.ns xs) (L2.start d.N vs) H := by
      refine ⟨hr', ?_, fun j x ex => ?_⟩
      · unfold startE L2.start
        rw [List.length_append, List.length_append, List.length_map, List.length_map, List.length_replicate, List.length_replicate, rs.length, e3]
      · unfold startE at ex
        unfold L2.start
        by_cases hj : j < xs.length
        · rw [List.getElem?_append_left (by simpa using hj), List.getElem?_map] at ex
          obtain ⟨y, ey, e4⟩ := Option.map_eq_some_iff.mp ex
          cases e4
          obtain ⟨u, eu, ru⟩ := rs.get ey
          exact ⟨u, by rw [List.getElem?_append_left (by simpa [rs.length] using hj), List.getElem?_map, eu]; rfl, ru⟩
        · rw [List.getElem?_append_right (by simpa using hj)] at ex
          have := List.mem_of_getElem? ex
          rw [List.mem_replicate] at this
          cases this.2
    split at e
    · rename_i w1 σ1 T1 e4
      cases e
      exact ⟨ρ, B, T, _, _, ss, e4, k⟩
    · rename_i σ1 T1 e4
      cases e
      exact ⟨ρ, B, T, _, _, ss, e4, fun ρ' H' τ' x s => k ρ' H' .non x s.hr .non⟩
    · cases e
  · cases e
theorem run_len {G : List (Str × PV)} {Ps : List Fn} {n i : Nat} {fn : Fn} (h : Ps[i]? = some fn) {xs : List PV} {B T : MH} {r : PV × MH} (e : run Ps G L n i xs B T = some r) : xs.length = fn.np := by
  cases n with
  | zero => cases e
  | succ n =>
    unfold run at e
    rw [h] at e
    dsimp only at e
    split at e
    · assumption
    · cases e
theorem prog_ok (h : Hd K mg fds fx) : ∀ (n f : Nat) (x : Str), fx.F[f]? = some x → FnG (amb K fds fx L n) fx n P w mg base f x := by
  intro n
  induction n with
  | zero =>
    intro f x hf
    rw [h.F, List.getElem?_map] at hf
    obtain ⟨d, hd, ex⟩ := Option.map_eq_some_iff.mp hf
    subst ex
    obtain ⟨a, fd, m, F, b, kb⟩ := h.fn f d hd
    refine ⟨a, fd, d.ps, m, F.kp, b, ⟨fun vs H Q E q => q.1, fun A outer s H args us vs Q E _ _ _ _ q => ?_⟩, fun xs B T r e => ?_, kb⟩
    · obtain ⟨_, ρ, B, T, xs, v, T', _, _, e, _⟩ := q
      cases e
    · cases e
  | succ n ih =>
    intro f x hf
    have hf0 := hf
    rw [h.F, List.getElem?_map] at hf
    obtain ⟨d, hd, ex⟩ := Option.map_eq_some_iff.mp hf
    subst ex
    obtain ⟨a, fd, m, F, b, kb⟩ := h.fn f d hd
    have hm : d ∈ fds := List.mem_of_getElem? hd
    have e2 : d.fn.np = d.ps.length := of_decide_eq_true (bn (bn (bn (h.ok d hm)).1).2).1
    refine ⟨a, fd, d.ps, m, F.kp, b, fn_ok h hd ih F, fun xs B T r e => ?_, kb⟩
    rw [← e2]
    exact run_len (by rw [List.getElem?_map, hd]; rfl) e
/-- THE LAW: its run answers True of every script -/
theorem law_fn (h : Hd K mg fds fx) {n i : Nat} {d : FD} (hd : fds[i]? = some d) (hp : d.ps.length = 1) {a : Addr} {fd : FuncData} (F : FunD K d.x d.x d.params d.body d.scope [] [] a fd) :
    FnOk P w K mg base CX0 (n + 1) a fd d.ps (spI (amb K fds fx L (n + 1)) d.ps i) := fn_ok h hd (prog_ok h n) F
theorem law_sp (hL : ∃ T, run (fds.map (·.fn)) fx.G L (k + 1) i [.scr ns] [] [] = some (.bl true, T)) {H : Hp} {a : Addr} (hO : Only H) (hS : SqL K H a (ns.map V.int)) {ps : List Str} (hp : ps.length = 1) : spI (amb K fds fx L (k + 1)) ps i [.ref a] H (fun v _ => v = .bl true) fun _ _ _ => False := by
  obtain ⟨T, e⟩ := hL
  have sf : SqF K H a (ns.map V.int) := by
    rcases hS with (h | ⟨o, h⟩) | h
    · rcases hO a with q | ⟨o, xs, q⟩
      · rw [h] at q; cases q
      · rw [h] at q; cases q
    · exact .inl ⟨o, h⟩
    · exact .inr h
  refine ⟨hp.symm, [], [], [], [.scr ns], .bl true, T, ⟨rfl, List.nodup_nil, fun k xs e => by cases e⟩, .cons (.scr sf) .nil, e, fun ρ' H' x _ _ r => ?_⟩
  cases r
  rfl
end
end Rf
end
section
/-! Rf: from what the head tells to what the walk asks. -/
namespace Rf
open PySem PySem.Spec PyProof.Rows L2
def dd (d : FD) : He.DefD := ⟨(d.x, none), d.x, d.x, d.params, d.body, d.scope, [], []⟩
theorem vals_get {vs : List V} {us : List Value} (r : Vals vs us) : ∀ i : Nat, (∃ v u, vs[i]? = some v ∧ us[i]? = some u ∧ RelV v u) ∨ (vs[i]? = none ∧ us[i]? = none) := by
  induction r with
  | nil => exact fun i => .inr ⟨by simp, by simp⟩
  | cons h r ih =>
    intro i
    cases i with
    | zero => exact .inl ⟨_, _, rfl, rfl, h⟩
    | succ i => exact ih i
theorem getP_vals {vs : List V} {us : List Value} (r : Vals vs us) : ∀ pm : List Nat, Vals (getP pm vs) (getP pm us)
  | [] => .nil
  | i :: pm => by
    have ih := getP_vals r pm
    unfold getP at ih ⊢
    rcases vals_get r i with ⟨v, u, e1, e2, h⟩ | ⟨e1, e2⟩
    · rw [List.filterMap_cons_some (f := fun i => vs[i]?) e1, List.filterMap_cons_some (f := fun i => us[i]?) e2]
      exact .cons h ih
    · rw [List.filterMap_cons_none (f := fun i => vs[i]?) e1, List.filterMap_cons_none (f := fun i => us[i]?) e2]
      exact ih
def hasGlo (fa : List He.Fa) (x : Str) : Bool := fa.any fun f => match f with
  | .glo y => y == x
  | _ => false
def hasFree (fa : List He.Fa) (x : Str) : Bool := fa.any fun f => match f with
  | .free y => y == x
  | _ => false
theorem hasGlo_ok {fa : List He.Fa} {x : Str} (h : hasGlo fa x = true) : He.Fa.glo x ∈ fa := by
  obtain ⟨f, hf, e⟩ := List.any_eq_true.mp h
  cases f <;> first | cases e | skip
  have := eq_of_beq e
  subst this
  exact hf
theorem hasFree_ok {fa : List He.Fa} {x : Str} (h : hasFree fa x = true) : He.Fa.free x ∈ fa := by
  obtain ⟨f, hf, e⟩ := List.any_eq_true.mp h
  cases f <;> first | cases e | skip
  have := eq_of_beq e
  subst this
  exact hf
/-- what a def's parameters take: by place, by keywords -/
def BindP (fx : Fx) (i : Nat) (d : FD) : Prop := (∀ (kV doc pm : Value) (an : Option Addr) (cdv ct : Value) (us : List Value), us.length = d.ps.length → bindArgs (PySem.W.fnOf d.x d.x d.params d.body d.scope .none kV doc pm an cdv ct) ⟨us, []⟩ = pure (d.ps.zip us)) ∧
  ∀ n ks mp, (i, n, ks, mp) ∈ fx.KW → ∀ (kV doc pm : Value) (an : Option Addr) (cdv ct : Value) (us ws : List Value), us.length = n → ws.length = ks.length →
    bindArgs (PySem.W.fnOf d.x d.x d.params d.body d.scope .none kV doc pm an cdv ct) ⟨us, ks.zip ws⟩ = pure (d.ps.zip (getP mp (us ++ ws)))
section
variable {w : World} {K : PySem.W.Frag} {mg : Str → Option Value} {fds : List FD} {fx : Fx} {h : Heap} {fa : List He.Fa} {ex : PySem.W.Frag → Bool}
theorem fun_of (c : He.SaysX fa (fds.map dd) [] [] ex w h K) {i : Nat} {d : FD} (hd : fds[i]? = some d) : ∃ fd, FunD K d.x d.x d.params d.body d.scope [] [] (He.ga K d.x) fd :=
  c.t.d.def_ i (d := dd d) (by rw [List.getElem?_map, hd]; rfl)
theorem Hd.make (KX : K.In h) (G : h.Ns mainGlobals mg) (c : He.SaysX fa (fds.map dd) [] [] ex w h K) (hF : fx.F = fds.map (·.x)) (ok : ∀ d ∈ fds, okF fx d = true)
    (hglo : (fds.all fun d => hasGlo fa d.x) = true) (hfree : (bltNames.all fun x => hasFree fa x) = true) (hcon : ∀ p ∈ fx.G, hasGlo fa p.1 = true ∧ ∃ ns : List Int, He.tupB K p.1 (ns.map .int) = true ∧ p.2 = .tup (ns.map .int))
    (hb : ∀ i d, fds[i]? = some d → BindP fx i d) : Hd K mg fds fx where
  F := hF
  ok := ok
  blt := fun x hx => He.free_ok KX G (c.t.d.facts (hasFree_ok (List.all_eq_true.mp hfree x hx)))
  glb := fun p hp => by
    obtain ⟨h1, ns, h2, h3⟩ := hcon p hp
    refine ⟨He.ga K p.1, He.glo_ok KX G (c.t.d.facts (hasGlo_ok h1)), fun ρ H => ?_⟩
    have hT := He.tupB_ok h2 H
    rw [h3]
    refine .tup (vs := ns.map V.int) ?_ ?_
    · have e : (ns.map He.Dv.int).map (He.Dv.v K) = ns.map V.int := by rw [List.map_map]; rfl
      rw [e] at hT
      exact hT
    · clear h2 hT h3
      induction ns with
      | nil => exact .nil
      | cons n ns ih => exact .cons (.int n) ih
  fn := fun i d hd => by
    obtain ⟨fd, F⟩ := fun_of c hd
    obtain ⟨b1, b2⟩ := hb i d hd
    refine ⟨_, fd, He.glo_ok KX G (c.t.d.facts (hasGlo_ok (List.all_eq_true.mp hglo d (List.mem_of_getElem? hd)))), F, F.bindsN b1, fun n ks pm hk => ?_⟩
    obtain ⟨oc, od, dV, kV, doc, pmv, an, cdv, ct, osl, rfl, lk, hcd, hD, hK⟩ := F.ex
    rcases hD with ⟨_, rfl⟩ | ⟨e, _⟩
    · exact ⟨fun s us ws X l1 l2 => .of_eq (b2 n ks pm hk kV doc pmv an cdv ct us ws l1 l2), fun r1 r2 => getP_vals (r1.append r2) pm⟩
    · exact absurd rfl e
/-- what walk_ofE asks of a law -/
theorem law_facts {P : Program} {fx : Fx} {L k i : Nat} {d : FD} {n : Nat} (KX : K.In h) (G : h.Ns mainGlobals mg) (c : He.SaysX fa (fds.map dd) [] [] ex w h K) (H : Hd K mg fds fx) (hi : fds[i]? = some d) (hp : d.ps = [p])
    (hb : BindP fx i d) {f : Addr} (hf : mg d.x = some (.ref f)) (hg : hasGlo fa d.x = true) (hL : ∀ ns : List Int, ns.length ≤ n → ∃ T, run (fds.map (·.fn)) fx.G L (k + 1) i [.scr ns] [] [] = some (.bl true, T)) :
    ∃ (fd : FuncData) (sp : Sp), (∀ (s : Shared) (u : Value), BindsTo s fd ⟨[u], []⟩ [(p, u)]) ∧
      (∀ (H : Hp) (a : Addr) (ns : List Int), ns.length ≤ n → Only H → SqL K H a (ns.map V.int) → sp [.ref a] H (fun v _ => v = .bl true) fun _ _ _ => False) ∧
      ∀ base : Heap, K.In base → base.Ns mainGlobals mg → FnOk P w K mg base L2.CX0 (k + 1) f fd [p] sp := by
  obtain ⟨fd, F⟩ := fun_of c hi
  have e := hf.symm.trans (He.glo_ok KX G (c.t.d.facts (hasGlo_ok hg)))
  cases e
  refine ⟨fd, spI (amb K fds fx L (k + 1)) d.ps i, fun s u => ?_, fun H a ns hl hO hS => law_sp (hL ns hl) hO hS (by rw [hp]; rfl), fun base _ _ => ?_⟩
  · have b := F.bindsA hb.1 s [u] (by rw [hp]; rfl)
    rw [hp] at b
    exact b
  · have := law_fn (P := P) (w := w) (base := base) (L := L) (n := k) H hi (by rw [hp]; rfl) F
    rw [hp] at this ⊢
    exact this
end
end Rf
end
section
/-! Pl: the evaluator's rows, one by one. -/
namespace Pl
open PySem Rf
section
variable {CF : Nat → List PV → MH → MH → M} {G : List (Str × PV)} {L : Nat} {B T : MH} {σ : En} {a b c d : C} {x : PV}
theorem E_var (i : Nat) : (sem CF G L (.var i)).e σ B T = (match σ[i]? with | some (some v) => some (v, T) | _ => none) := (rfl)
theorem E_cst (v : PV) : (sem CF G L (.cst v)).e σ B T = some (v, T) := (rfl)
theorem E_glb (j : Nat) : (sem CF G L (.glb j)).e σ B T = G[j]?.map fun p => (p.2, T) := (rfl)
theorem E_bin (o : BO) : (sem CF G L (.bin o a b)).e σ B T = ((sem CF G L a).e σ B T).bind fun x => ((sem CF G L b).e σ B x.2).bind fun y => Rf.bin B y.2 o x.1 y.1 := (rfl)
def negV (T : MH) : PV → M
  | .int i => some (.int (-i), T)
  | _ => none
theorem E_neg : (sem CF G L (.neg a)).e σ B T = ((sem CF G L a).e σ B T).bind fun x => negV x.2 x.1 := by
  show ((sem CF G L a).e σ B T).bind _ = _
  congr
theorem negV_int (i : Int) : negV T (.int i) = some (.int (-i), T) := (rfl)
/-- on a test's answer -/
def onB (r : M) (t f : MH → M) : M := match r with
  | some (.bl true, T) => t T
  | some (.bl false, T) => f T
  | _ => none
theorem onB_t {t f : MH → M} : onB (some (.bl true, T)) t f = t T := (rfl)
theorem onB_f {t f : MH → M} : onB (some (.bl false, T)) t f = f T := (rfl)
theorem onB_d {p : Prop} [Decidable p] {t f : MH → M} : onB (some (.bl (decide p), T)) t f = if p then t T else f T := by
  by_cases h : p <;> simp [h, onB]
theorem onB_eq (r : M) (t f : MH → M) : (r.bind fun x => match x.1 with | .bl true => t x.2 | .bl false => f x.2 | _ => none) = onB r t f := by
  cases r with
  | none => rfl
  | some z =>
    obtain ⟨v, T⟩ := z
    cases v <;> first | rfl | skip
    rename_i b
    cases b <;> rfl
theorem E_vand : (sem CF G L (.vand a b)).e σ B T = onB ((sem CF G L a).e σ B T) (fun T1 => (sem CF G L b).e σ B T1) fun T1 => some (.bl false, T1) := by
  show ((sem CF G L a).e σ B T).bind _ = _
  cases (sem CF G L a).e σ B T with
  | none => rfl
  | some z =>
    obtain ⟨v, T⟩ := z
    cases v <;> first | rfl | skip
    rename_i b
    cases b <;> rfl
theorem E_vor : (sem CF G L (.vor a b)).e σ B T = onB ((sem CF G L a).e σ B T) (fun T1 => some (.bl true, T1)) fun T1 => (sem CF G L b).e σ B T1 := by
  show ((sem CF G L a).e σ B T).bind _ = _
  cases (sem CF G L a).e σ B T with
  | none => rfl
  | some z =>
    obtain ⟨v, T⟩ := z
    cases v <;> first | rfl | skip
    rename_i b
    cases b <;> rfl
theorem E_vone : (sem CF G L (.vone a)).e σ B T = (sem CF G L a).e σ B T := (rfl)
theorem E_vnot : (sem CF G L (.vnot a)).e σ B T = ((sem CF G L a).e σ B T).bind fun x => (tru B x.2 x.1).map fun b => (.bl (!b), x.2) := (rfl)
theorem E_tand : (sem CF G L (.tand a b)).e σ B T = onB ((sem CF G L a).e σ B T) (fun T1 => (sem CF G L b).e σ B T1) fun T1 => some (.bl false, T1) := by
  show ((sem CF G L a).e σ B T).bind _ = _
  cases (sem CF G L a).e σ B T with
  | none => rfl
  | some z =>
    obtain ⟨v, T⟩ := z
    cases v <;> first | rfl | skip
    rename_i b
    cases b <;> rfl
theorem E_tor : (sem CF G L (.tor a b)).e σ B T = onB ((sem CF G L a).e σ B T) (fun T1 => some (.bl true, T1)) fun T1 => (sem CF G L b).e σ B T1 := by
  show ((sem CF G L a).e σ B T).bind _ = _
  cases (sem CF G L a).e σ B T with
  | none => rfl
  | some z =>
    obtain ⟨v, T⟩ := z
    cases v <;> first | rfl | skip
    rename_i b
    cases b <;> rfl
theorem E_tone : (sem CF G L (.tone a)).e σ B T = (sem CF G L a).e σ B T := (rfl)
theorem E_tnot : (sem CF G L (.tnot a)).e σ B T = onB ((sem CF G L a).e σ B T) (fun T1 => some (.bl false, T1)) fun T1 => some (.bl true, T1) := by
  rw [← onB_eq]
  show ((sem CF G L a).e σ B T).bind _ = _
  cases (sem CF G L a).e σ B T with
  | none => rfl
  | some z =>
    obtain ⟨v, T⟩ := z
    cases v <;> first | rfl | skip
    rename_i b
    cases b <;> rfl
theorem E_tval : (sem CF G L (.tval a)).e σ B T = ((sem CF G L a).e σ B T).bind fun x => (tru B x.2 x.1).map fun b => (.bl b, x.2) := (rfl)
theorem E_cmp (o : CO) : (sem CF G L (.cmp o a b)).e σ B T = ((sem CF G L a).e σ B T).bind fun x => ((sem CF G L b).e σ B x.2).bind fun y => (Rf.cmp B y.2 o x.1 y.1).map fun r => (.bl r, y.2) := (rfl)
theorem E_ife : (sem CF G L (.ife c a b)).e σ B T = onB ((sem CF G L c).e σ B T) (fun T1 => (sem CF G L a).e σ B T1) fun T1 => (sem CF G L b).e σ B T1 := onB_eq _ _ _
theorem E_idx : (sem CF G L (.idx a b)).e σ B T = ((sem CF G L a).e σ B T).bind fun x => ((sem CF G L b).e σ B x.2).bind fun y => (getIx B y.2 x.1 y.1).map fun v => (v, y.2) := (rfl)
theorem E_slcL : (sem CF G L (.slcL a b)).e σ B T = ((sem CF G L a).e σ B T).bind fun x => ((sem CF G L b).e σ B x.2).bind fun y => (match y.1 with | .int l => Rf.slc B y.2 x.1 (some l) none | _ => none) := (rfl)
theorem E_slcH : (sem CF G L (.slcH a b)).e σ B T = ((sem CF G L a).e σ B T).bind fun x => ((sem CF G L b).e σ B x.2).bind fun y => (match y.1 with | .int l => Rf.slc B y.2 x.1 none (some l) | _ => none) := (rfl)
theorem E_nop : (sem CF G L .nop).e σ B T = some (.bl true, T) := (rfl)
theorem E_tup : (sem CF G L (.tup a)).e σ B T = ((sem CF G L a).e σ B T).bind fun x => (asTup x.1).bind fun xs => tup' xs x.2 := (rfl)
theorem E_lst : (sem CF G L (.lst a)).e σ B T = ((sem CF G L a).e σ B T).bind fun x => (asTup x.1).bind fun xs => mk B x.2 xs := (rfl)
theorem E_nil : (sem CF G L .nil).e σ B T = some (.tup [], T) := (rfl)
theorem E_cons : (sem CF G L (.cons a b)).e σ B T = ((sem CF G L a).e σ B T).bind fun x => ((sem CF G L b).e σ B x.2).bind fun y => (asTup y.1).map fun ys => (.tup (x.1 :: ys), y.2) := (rfl)
theorem E_call (f : Nat) : (sem CF G L (.call f a)).e σ B T = ((sem CF G L a).e σ B T).bind fun x => (asTup x.1).bind fun xs => CF f xs B x.2 := (rfl)
theorem E_callp (f : Nat) : (sem CF G L (.callp f a)).e σ B T = ((sem CF G L a).e σ B T).bind fun x => (asTup x.1).bind fun xs => dropT (CF f xs (B ++ x.2) []) x.2 := (rfl)
theorem E_callk (f : Nat) (pm : List Nat) (pu : Bool) : (sem CF G L (.callk f a b pm pu)).e σ B T = ((sem CF G L a).e σ B T).bind fun x => (asTup x.1).bind fun xs => ((sem CF G L b).e σ B x.2).bind fun y => (asTup y.1).bind fun ys =>
    if pu then dropT (CF f (getP pm (xs ++ ys)) (B ++ y.2) []) y.2 else CF f (getP pm (xs ++ ys)) B y.2 := (rfl)
theorem E_isi (o : TY) : (sem CF G L (.isi o a)).e σ B T = ((sem CF G L a).e σ B T).map fun x => (.bl (isTy o x.1), x.2) := (rfl)
theorem E_bi (o : BI) : (sem CF G L (.bi o a)).e σ B T = ((sem CF G L a).e σ B T).bind fun x => (asTup x.1).bind fun xs => Rf.bi B x.2 o xs := (rfl)
theorem E_mt (o : MT) : (sem CF G L (.mt o a b)).e σ B T = ((sem CF G L a).e σ B T).bind fun x => ((sem CF G L b).e σ B x.2).bind fun y => (asTup y.1).bind fun ys => Rf.mt B y.2 o x.1 ys := (rfl)
theorem E_comp (gs : C) (own : List (Str × Nat)) : (sem CF G L (.comp a gs own)).e σ B T = ((sem CF G L gs).g (fun σ1 T1 acc => ((sem CF G L a).e σ1 B T1).bind fun y => if acc.length < big then some (acc ++ [y.1], y.2) else none) (wipeE σ (own.map (·.2))) B T []).bind fun z => mk B z.2 z.1 := (rfl)
theorem asTup_tup (xs : List PV) : asTup (.tup xs) = some xs := (rfl)
/-! statements -/
def onN (r : MS) (k : En → MH → MS) : MS := match r with
  | some (.nx, σ, T) => k σ T
  | r => r
theorem onN_nx {k : En → MH → MS} : onN (some (.nx, σ, T)) k = k σ T := (rfl)
theorem onN_rt {k : En → MH → MS} {v : PV} : onN (some (.rt v, σ, T)) k = some (.rt v, σ, T) := (rfl)
theorem onN_bk {k : En → MH → MS} : onN (some (.bk, σ, T)) k = some (.bk, σ, T) := (rfl)
theorem onN_ct {k : En → MH → MS} : onN (some (.ct, σ, T)) k = some (.ct, σ, T) := (rfl)
theorem S_seq (s t : S) : semS CF G L (.seq s t) σ B T = onN (semS CF G L s σ B T) fun σ1 T1 => semS CF G L t σ1 B T1 := (rfl)
theorem S_skip : semS CF G L .skip σ B T = some (.nx, σ, T) := (rfl)
theorem S_pass : semS CF G L .pass σ B T = some (.nx, σ, T) := (rfl)
theorem S_brk : semS CF G L .brk σ B T = some (.bk, σ, T) := (rfl)
theorem S_cont : semS CF G L .cont σ B T = some (.ct, σ, T) := (rfl)
theorem S_set (i : Nat) : semS CF G L (.set i a) σ B T = ((sem CF G L a).e σ B T).map fun x => (.nx, σ.set i (some x.1), x.2) := (rfl)
theorem S_setC (i : Nat) : semS CF G L (.setC i a) σ B T = ((sem CF G L a).e σ B T).map fun x => (.nx, σ.set i (some x.1), x.2) := (rfl)
theorem S_setT (is : List Nat) : semS CF G L (.setT is a) σ B T = ((sem CF G L a).e σ B T).bind fun x => ((Tg.tp is).bind x.1 σ).map fun σ1 => (.nx, σ1, x.2) := (rfl)
theorem S_par (is : List Nat) : semS CF G L (.par is a) σ B T = ((sem CF G L a).e σ B T).bind fun x => ((Tg.tp is).bind x.1 σ).map fun σ1 => (.nx, σ1, x.2) := (rfl)
theorem S_setI : semS CF G L (.setI a b c) σ B T = ((sem CF G L c).e σ B T).bind fun x => ((sem CF G L a).e σ B x.2).bind fun y => ((sem CF G L b).e σ B y.2).bind fun z => (setIx B z.2 y.1 z.1 x.1).map fun T4 => (.nx, σ, T4) := (rfl)
theorem S_exp : semS CF G L (.exp a) σ B T = ((sem CF G L a).e σ B T).map fun x => (.nx, σ, x.2) := (rfl)
theorem S_ret : semS CF G L (.ret a) σ B T = ((sem CF G L a).e σ B T).map fun x => (.rt x.1, σ, x.2) := (rfl)
def onBS (r : M) (t f : MH → MS) : MS := match r with
  | some (.bl true, T) => t T
  | some (.bl false, T) => f T
  | _ => none
theorem onBS_t {t f : MH → MS} : onBS (some (.bl true, T)) t f = t T := (rfl)
theorem onBS_f {t f : MH → MS} : onBS (some (.bl false, T)) t f = f T := (rfl)
theorem S_ifs (s t : S) : semS CF G L (.ifs c s t) σ B T = onBS ((sem CF G L c).e σ B T) (fun T1 => semS CF G L s σ B T1) fun T1 => semS CF G L t σ B T1 := (rfl)
def augA (σ : En) (i : Nat) (a : Int) (T : MH) : PV → MS
  | .int b => some (.nx, σ.set i (some (.int (a + b))), T)
  | _ => none
theorem augA_int (i : Nat) (u v : Int) : augA σ i u T (.int v) = some (.nx, σ.set i (some (.int (u + v))), T) := (rfl)
theorem S_augA (i : Nat) {u : Int} (h : σ[i]? = some (some (.int u))) : semS CF G L (.aug i .add a) σ B T = ((sem CF G L a).e σ B T).bind fun x => augA σ i u x.2 x.1 := by
  show (match σ[i]? with | some (some x) => _ | _ => none) = _
  rw [h]
  cases (sem CF G L a).e σ B T with
  | none => rfl
  | some z =>
    obtain ⟨v, T⟩ := z
    cases v <;> rfl
theorem S_whl (s : S) : semS CF G L (.whl c s) σ B T = loopW (fun σ T => (sem CF G L c).e σ B T) (fun σ T => semS CF G L s σ B T) L σ T := (rfl)
theorem S_for (t : Tg) (s : S) : semS CF G L (.for_ t c s) σ B T = ((sem CF G L c).it σ B T).bind fun z => loopF B z.1 t (fun σ T => semS CF G L s σ B T) L 0 σ z.2 := (rfl)
end
/-! operations -/
section
variable {B T : MH} {i j : Int} {xs ys : List PV} {k : Nat} {q : Bool}
theorem b_add : Rf.bin B T .add (.int i) (.int j) = some (.int (i + j), T) := (rfl)
theorem b_addT : Rf.bin B T .add (.tup xs) (.tup ys) = tup' (xs ++ ys) T := (rfl)
theorem b_sub : Rf.bin B T .sub (.int i) (.int j) = some (.int (i - j), T) := (rfl)
theorem b_mul (h : mulOk i j = true) : Rf.bin B T .mul (.int i) (.int j) = some (.int (i * j), T) := (if_pos h)
theorem b_div (h : divOk j = true) : Rf.bin B T .fdiv (.int i) (.int j) = some (.int (i / j), T) := (if_pos h)
theorem b_mod (h : 0 < j) : Rf.bin B T .mod (.int i) (.int j) = some (.int (i % j), T) := if_pos (decide_eq_true h)
theorem c_lt : Rf.cmp B T .lt (.int i) (.int j) = some (decide (i < j)) := (rfl)
theorem c_le : Rf.cmp B T .le (.int i) (.int j) = some (decide (i ≤ j)) := (rfl)
theorem c_gt : Rf.cmp B T .gt (.int i) (.int j) = some (decide (j < i)) := (rfl)
theorem c_ge : Rf.cmp B T .ge (.int i) (.int j) = some (decide (j ≤ i)) := (rfl)
theorem c_eqI : Rf.cmp B T .eq (.int i) (.int j) = some (decide (i = j)) := by
  show eqv _ _ = _
  unfold eqv eqOk
  simp [PV.noRef, PV.toD, SeqAt.shaped, PyData.eqv]
  exact ⟨⟨⟨rfl, rfl⟩, rfl, rfl⟩, rfl⟩
theorem c_neI : Rf.cmp B T .ne (.int i) (.int j) = some (!decide (i = j)) := by
  have h : eqv (.int i) (.int j) = some (decide (i = j)) := c_eqI (B := B) (T := T)
  have h2 : Rf.cmp B T .ne (.int i) (.int j) = (eqv (.int i) (.int j)).map (!·) := (rfl)
  rw [h2, h]; rfl
theorem t_int : tru B T (.int i) = some (i != 0) := (rfl)
theorem t_bl : tru B T (.bl q) = some q := (rfl)
theorem bi_abs : Rf.bi B T .abs [.int i] = some (.int (i.natAbs : Int), T) := by
  show some (PV.int (if i < 0 then -i else i), T) = _
  have : (if i < 0 then -i else i) = (i.natAbs : Int) := by split <;> omega
  rw [this]
theorem bi_int : Rf.bi B T .int [.int i] = some (.int i, T) := (rfl)
theorem bi_lenT : Rf.bi B T .len [.tup xs] = some (.int xs.length, T) := (rfl)
theorem bi_lenL : Rf.bi B T .len [.ref k] = (rd B T k).map fun xs => (.int xs.length, T) := (rfl)
theorem bi_tupL : Rf.bi B T .tuple [.ref k] = (rd B T k).map fun xs => (.tup xs, T) := (rfl)
theorem bi_tupT : Rf.bi B T .tuple [.tup xs] = some (.tup xs, T) := (rfl)
/-! places -/
theorem ix_lt {m i : Nat} (h : i < m) : L2.ixN m (i : Int) = some i := by
  unfold L2.ixN
  rw [if_pos (by omega), if_pos (by omega), Int.toNat_natCast]
theorem ix_ge {m i : Nat} (h : m ≤ i) : L2.ixN m (i : Int) = none := by
  unfold L2.ixN
  rw [if_pos (by omega), if_neg (by omega)]
theorem at_n (xs : List PV) (i : Nat) : (L2.ixN xs.length (i : Int)).bind (fun j => xs[j]?) = xs[i]? := by
  rcases Nat.lt_or_ge i xs.length with h | h
  · rw [ix_lt h]; rfl
  · rw [ix_ge h, List.getElem?_eq_none h]; rfl
theorem gxn (i : Nat) : getIx B T (.tup xs) (.int (i : Int)) = xs[i]? := at_n xs i
theorem gx0 : getIx B T (.tup xs) (.int 0) = xs[0]? := at_n xs 0
theorem gx1 : getIx B T (.tup xs) (.int 1) = xs[1]? := at_n xs 1
theorem gx2 : getIx B T (.tup xs) (.int 2) = xs[2]? := at_n xs 2
theorem gx3 : getIx B T (.tup xs) (.int 3) = xs[3]? := at_n xs 3
theorem gx4 : getIx B T (.tup xs) (.int 4) = xs[4]? := at_n xs 4
theorem grn (i : Nat) : getIx B T (.ref k) (.int (i : Int)) = (rd B T k).bind fun xs => xs[i]? := by
  show (rd B T k).bind (fun xs => (L2.ixN xs.length (i : Int)).bind fun j => xs[j]?) = _
  exact congrArg _ (funext fun xs => at_n xs i)
theorem gr0 : getIx B T (.ref k) (.int 0) = (rd B T k).bind fun xs => xs[0]? := grn 0
theorem gr1 : getIx B T (.ref k) (.int 1) = (rd B T k).bind fun xs => xs[1]? := grn 1
theorem gr2 : getIx B T (.ref k) (.int 2) = (rd B T k).bind fun xs => xs[2]? := grn 2
theorem gr3 : getIx B T (.ref k) (.int 3) = (rd B T k).bind fun xs => xs[3]? := grn 3
end
/-! the start of a body -/
theorem st1 (a : PV) (n : Nat) : startE (n + 1) [a] = some a :: List.replicate n none := (rfl)
theorem st2 (a b : PV) (n : Nat) : startE (n + 2) [a, b] = some a :: some b :: List.replicate n none := by simp [startE]
theorem st3 (a b c : PV) (n : Nat) : startE (n + 3) [a, b, c] = some a :: some b :: some c :: List.replicate n none := by simp [startE]
theorem run_rt {P : List Fn} {G : List (Str × PV)} {L n f : Nat} {fn : Fn} {xs : List PV} {B T T1 : MH} {σ : En} {v : PV} (hP : P[f]? = some fn) (hl : xs.length = fn.np) (e : semS (Rf.run P G L n) G L fn.body (startE fn.ns xs) B T = some (.rt v, σ, T1)) : Rf.run P G L (n + 1) f xs B T = some (v, T1) := by
  unfold Rf.run
  rw [hP]
  dsimp only
  rw [if_pos hl, e]
theorem run_nx {P : List Fn} {G : List (Str × PV)} {L n f : Nat} {fn : Fn} {xs : List PV} {B T T1 : MH} {σ : En} (hP : P[f]? = some fn) (hl : xs.length = fn.np) (e : semS (Rf.run P G L n) G L fn.body (startE fn.ns xs) B T = some (.nx, σ, T1)) : Rf.run P G L (n + 1) f xs B T = some (.non, T1) := by
  unfold Rf.run
  rw [hP]
  dsimp only
  rw [if_pos hl, e]
end Pl
end
section
/-! Pl: what the shared small functions answer. -/
namespace Pl
open PySem Rf
/-- a fraction in lowest terms -/
def fr (q : Rat) : PV := .tup [.int q.num, .int q.den]
/-- at most k bits -/
def Bd (k : Nat) (q : Rat) : Prop := q.num.natAbs < 2 ^ k ∧ q.den < 2 ^ k
def Ret (P : List Fn) (G : List (Str × PV)) (L n f : Nat) (xs : List PV) (B : MH) (v : PV) : Prop := ∃ T, run P G L n f xs B [] = some (v, T)
theorem fr_noRef (q : Rat) : (fr q).noRef = true := rfl
theorem dropT_ret {P : List Fn} {G : List (Str × PV)} {L n f : Nat} {xs : List PV} {B T : MH} {v : PV} (h : Ret P G L n f xs B v) (hv : v.noRef = true) : dropT (run P G L n f xs B []) T = some (v, T) := by
  obtain ⟨T', e⟩ := h
  unfold dropT
  rw [e]
  simp [hv]
/-! ### bits -/
theorem Bd.mono {j k : Nat} {q : Rat} (h : Bd j q) (hk : j ≤ k) : Bd k q := ⟨Nat.lt_of_lt_of_le h.1 (Nat.pow_le_pow_right (by decide) hk), Nat.lt_of_lt_of_le h.2 (Nat.pow_le_pow_right (by decide) hk)⟩
theorem natAbs_div_le (a : Int) (g : Nat) (h : (g : Int) ∣ a) : (a / g).natAbs ≤ a.natAbs := by
  rw [Int.natAbs_ediv]
  rw [if_pos (.inr (.inr h))]
  simp
  exact Nat.div_le_self _ _
theorem gcd_dvd_int (d : Nat) (n : Int) : ((d.gcd n.natAbs : Nat) : Int) ∣ n := Int.ofNat_dvd_left.mpr (Nat.gcd_dvd_right _ _)
theorem Bd.mk {k : Nat} {n : Int} {d : Nat} (h : d ≠ 0) (hn : n.natAbs < 2 ^ k) (hd : d < 2 ^ k) : Bd k (mkRat n d) := by
  unfold Bd
  rw [Rat.num_mkRat, Rat.den_mkRat, if_neg h, if_neg h]
  exact ⟨Nat.lt_of_le_of_lt (natAbs_div_le _ _ (gcd_dvd_int _ _)) hn, Nat.lt_of_le_of_lt (Nat.div_le_self _ _) hd⟩
theorem mul_lt {a b m n : Nat} (h1 : a < 2 ^ m) (h2 : b < 2 ^ n) : a * b < 2 ^ (m + n) := by
  rw [Nat.pow_add]
  exact Nat.mul_lt_mul'' h1 h2
theorem add_lt {a b k : Nat} (h1 : a < 2 ^ k) (h2 : b < 2 ^ k) : a + b < 2 ^ (k + 1) := by
  rw [Nat.pow_succ]; omega
theorem Bd.ne {k : Nat} {q : Rat} (h : Bd k q) : q.den ≠ 0 := q.den_nz
theorem Bd.mul {m n : Nat} {a b : Rat} (ha : Bd m a) (hb : Bd n b) : Bd (m + n) (a * b) := by
  rw [Rat.mul_def']
  exact .mk (Nat.mul_ne_zero a.den_nz b.den_nz) (by rw [Int.natAbs_mul]; exact mul_lt ha.1 hb.1) (mul_lt ha.2 hb.2)
theorem Bd.cross {m n : Nat} {a b : Rat} (ha : Bd m a) (hb : Bd n b) : (a.num * b.den).natAbs < 2 ^ (m + n) := by
  rw [Int.natAbs_mul]; exact mul_lt ha.1 hb.2
theorem Bd.cross' {m n : Nat} {a b : Rat} (ha : Bd m a) (hb : Bd n b) : (b.num * a.den).natAbs < 2 ^ (m + n) := by
  rw [Nat.add_comm]; exact hb.cross ha
theorem Bd.add {m n : Nat} {a b : Rat} (ha : Bd m a) (hb : Bd n b) : Bd (m + n + 1) (a + b) := by
  rw [Rat.add_def']
  refine .mk (Nat.mul_ne_zero a.den_nz b.den_nz) ?_ (Nat.lt_of_lt_of_le (mul_lt ha.2 hb.2) (Nat.pow_le_pow_right (by decide) (Nat.le_succ _)))
  exact Nat.lt_of_le_of_lt (Int.natAbs_add_le _ _) (add_lt (ha.cross hb) (ha.cross' hb))
theorem Bd.neg {m : Nat} {a : Rat} (ha : Bd m a) : Bd m (-a) := ⟨by rw [Rat.neg_num, Int.natAbs_neg]; exact ha.1, by rw [Rat.neg_den]; exact ha.2⟩
theorem Bd.sub {m n : Nat} {a b : Rat} (ha : Bd m a) (hb : Bd n b) : Bd (m + n + 1) (a - b) := by
  rw [Rat.sub_eq_add_neg]; exact ha.add hb.neg
theorem lt_two_pow {k : Nat} (h : 0 < k) : 1 < 2 ^ k := Nat.one_lt_two_pow (Nat.pos_iff_ne_zero.mp h)
theorem Bd.inv {m : Nat} {a : Rat} (ha : Bd m a) : Bd m a⁻¹ := by
  unfold Bd
  rw [Rat.num_inv, Rat.den_inv]
  constructor
  · rw [Int.natAbs_mul]
    have h1 : a.num.sign.natAbs ≤ 1 := by
      rw [Int.natAbs_sign]
      split <;> omega
    refine Nat.lt_of_le_of_lt (Nat.mul_le_mul_right _ h1) ?_
    rw [Nat.one_mul]
    exact ha.2
  · split
    · exact Nat.lt_of_le_of_lt a.den_pos ha.2
    · exact ha.1
theorem Bd.div {m n : Nat} {a b : Rat} (ha : Bd m a) (hb : Bd n b) : Bd (m + n) (a / b) := by
  rw [Rat.div_def]; exact ha.mul hb.inv
theorem mulOk_of {i j : Int} {m n : Nat} (hi : i.natAbs < 2 ^ m) (hj : j.natAbs < 2 ^ n) (h : m + n < 1000000) : mulOk i j = true := by
  have l : ∀ {a k : Nat}, a < 2 ^ k → a.log2 ≤ k := fun {a k} h => by
    by_cases z : a = 0
    · subst z; simp
    · exact Nat.le_of_lt ((Nat.log2_lt z).mpr h)
  unfold mulOk
  have := l hi
  have := l hj
  exact decide_eq_true (by omega)
theorem divOk_of {j : Int} {m : Nat} (h0 : 0 < j) (hj : j.natAbs < 2 ^ m) (h : m ≤ 8999) : divOk j = true := by
  unfold divOk
  rw [Bool.and_eq_true]
  refine ⟨decide_eq_true h0, decide_eq_true ?_⟩
  have hz : j.natAbs ≠ 0 := by omega
  exact Nat.lt_of_lt_of_le ((Nat.log2_lt hz).mpr hj) (by omega)
theorem gfr0 {B T : MH} (q : Rat) : getIx B T (fr q) (.int 0) = some (.int q.num) := (rfl)
theorem gfr1 {B T : MH} (q : Rat) : getIx B T (fr q) (.int 1) = some (.int q.den) := (rfl)
/-! ### common(one, other) -/
def cCommon : S := (.seq (.set 0 (.bi .abs (.cons (.var 0) .nil))) (.seq (.set 1 (.bi .abs (.cons (.var 1) .nil))) (.seq (.whl (.tval (.var 1)) (.seq (.par [0, 1] (.cons (.var 1) (.cons (.bin .mod (.var 0) (.var 1)) .nil))) .skip)) (.seq (.ret (.var 0)) .skip))))
section
variable {P : List Fn} {G : List (Str × PV)} {L n f : Nat} {B T : MH}
theorem common_loop {CF : Nat → List PV → MH → MH → M} : ∀ (b a n : Nat), b < n → loopW (fun σ T => (sem CF G L (.tval (.var 1))).e σ B T) (fun σ T => semS CF G L (.seq (.par [0, 1] (.cons (.var 1) (.cons (.bin .mod (.var 0) (.var 1)) .nil))) .skip) σ B T) n [some (.int a), some (.int b)] T = some (.nx, [some (.int (Nat.gcd a b)), some (.int 0)], T) := by
  intro b
  induction b using Nat.strongRecOn with
  | ind b ih =>
    intro a n h
    cases n with
    | zero => omega
    | succ n =>
      unfold loopW
      by_cases hb : b = 0
      · subst hb
        simp [sem, eS, tru]
      · have h1 : ((b : Int) != 0) = true := by simpa using hb
        have hp : (0 : Int) < b := by omega
        have e := ih (a % b) (Nat.mod_lt _ (by omega)) b n (by have := Nat.mod_lt a (show b > 0 by omega); omega)
        rw [Nat.gcd_comm, ← Nat.gcd_rec, Nat.gcd_comm, Int.natCast_emod] at e
        have m := b_mod (B := B) (T := T) (i := a) hp
        simp only [E_var, E_cst, E_glb, E_bin, E_neg, negV_int, E_vand, E_vor, E_vone, E_vnot, E_tand, E_tor, E_tone, E_tnot, E_tval, E_cmp, E_ife, E_idx, E_nop, E_tup, E_lst, E_nil, E_cons, E_call, E_callp, E_callk, E_isi, E_bi, E_mt, asTup_tup, onB_t, onB_f, onN_nx, onN_rt, onN_bk, onN_ct, S_seq, S_skip, S_pass, S_brk, S_cont, S_set, S_setC, S_setT, S_par, S_setI, S_exp, S_ret, onBS_t, onBS_f, S_ifs, augA_int, b_add, b_addT, b_sub, c_lt, c_le, c_gt, c_ge, c_eqI, c_neI, t_int, t_bl, bi_abs, bi_int, bi_lenT, bi_lenL, bi_tupL, bi_tupT, gx0, gx1, gx2, gx3, gx4, gr0, gr1, gr2, gr3, gfr0, gfr1, st1, st2, st3, Tg.bind, Rf.bindAll, List.replicate_succ, List.replicate_zero, List.map_cons, List.map_nil, List.cons_append, List.nil_append, List.append_nil, List.set_cons_zero, List.set_cons_succ, List.getElem?_cons_zero, List.getElem?_cons_succ, List.length_cons, List.length_nil, Option.bind_some, Option.map_some, Option.bind_none, Option.map_none, if_true, Bool.false_eq_true, if_false, decide_true, decide_false, Bool.not_true, Bool.not_false, h1, m]
        exact e
theorem common_spec (hP : P[f]? = some ⟨2, 2, cCommon⟩) {a b : Int} (hb : b.natAbs < L) : Ret P G L (n + 1) f [.int a, .int b] B (.int (Nat.gcd a.natAbs b.natAbs)) := by
  refine ⟨[], run_rt (σ := [some (.int (Nat.gcd a.natAbs b.natAbs)), some (.int 0)]) hP rfl ?_⟩
  have e := common_loop (G := G) (L := L) (B := B) (T := []) (CF := Rf.run P G L n) b.natAbs a.natAbs L hb
  rw [← S_whl] at e
  simp only [E_var, E_cst, E_glb, E_bin, E_neg, negV_int, E_vand, E_vor, E_vone, E_vnot, E_tand, E_tor, E_tone, E_tnot, E_tval, E_cmp, E_ife, E_idx, E_nop, E_tup, E_lst, E_nil, E_cons, E_call, E_callp, E_callk, E_isi, E_bi, E_mt, asTup_tup, onB_t, onB_f, onN_nx, onN_rt, onN_bk, onN_ct, S_seq, S_skip, S_pass, S_brk, S_cont, S_set, S_setC, S_setT, S_par, S_setI, S_exp, S_ret, onBS_t, onBS_f, S_ifs, augA_int, b_add, b_addT, b_sub, c_lt, c_le, c_gt, c_ge, c_eqI, c_neI, t_int, t_bl, bi_abs, bi_int, bi_lenT, bi_lenL, bi_tupL, bi_tupT, gx0, gx1, gx2, gx3, gx4, gr0, gr1, gr2, gr3, gfr0, gfr1, st1, st2, st3, Tg.bind, Rf.bindAll, List.replicate_succ, List.replicate_zero, List.map_cons, List.map_nil, List.cons_append, List.nil_append, List.append_nil, List.set_cons_zero, List.set_cons_succ, List.getElem?_cons_zero, List.getElem?_cons_succ, List.length_cons, List.length_nil, Option.bind_some, Option.map_some, Option.bind_none, Option.map_none, if_true, Bool.false_eq_true, if_false, decide_true, decide_false, Bool.not_true, Bool.not_false, cCommon, e]
/-! ### lowest(top, bottom) -/
def cLowest (g : Nat) : S := (.seq (.ifs (.cmp .lt (.var 1) (.cst (.int 0))) (.seq (.par [0, 1] (.cons (.neg (.var 0)) (.cons (.neg (.var 1)) .nil))) .skip) .skip) (.seq (.set 2 (.callp g (.cons (.var 0) (.cons (.var 1) .nil)))) (.seq (.ret (.tup (.cons (.bin .fdiv (.var 0) (.var 2)) (.cons (.bin .fdiv (.var 1) (.var 2)) .nil)))) .skip)))
theorem tup2 {T : MH} (a b : PV) : tup' [a, b] T = some (.tup [a, b], T) := (rfl)
theorem low_val {a : Int} {b : Nat} (hb : b ≠ 0) : PV.tup [.int (a / (Nat.gcd a.natAbs b : Nat)), .int ((b : Int) / (Nat.gcd a.natAbs b : Nat))] = fr (mkRat a b) := by
  unfold fr
  rw [Rat.num_mkRat, Rat.den_mkRat, if_neg hb, if_neg hb, Nat.gcd_comm, Int.natCast_ediv]
/-- the greatest common part, as `common` and `_law_gcd` answer it -/
def GcdOk (P : List Fn) (G : List (Str × PV)) (L n g : Nat) : Prop := ∀ (a b : Int) (B : MH), b.natAbs < 2 ^ 9000 → Ret P G L n g [.int a, .int b] B (.int (Nat.gcd a.natAbs b.natAbs))
def LowOk (P : List Fn) (G : List (Str × PV)) (L n f : Nat) : Prop := ∀ (a b : Int) (B : MH), b ≠ 0 → b.natAbs < 2 ^ 8999 → Ret P G L n f [.int a, .int b] B (fr (Rat.divInt a b))
theorem lowest_spec (hP : P[f]? = some ⟨2, 3, cLowest g⟩) (hg : GcdOk P G L n g) : LowOk P G L (n + 1) f := by
  intro a b B hb hk
  have pos : ∀ (a : Int) (b : Nat), b ≠ 0 → b < 2 ^ 8999 → 0 < ((Nat.gcd a.natAbs b : Nat) : Int) ∧ divOk ((Nat.gcd a.natAbs b : Nat) : Int) = true := fun a b h1 h2 => by
    have hp : 0 < Nat.gcd a.natAbs b := Nat.gcd_pos_of_pos_right _ (Nat.pos_of_ne_zero h1)
    refine ⟨by omega, divOk_of (by omega) (m := 8999) ?_ (Nat.le_refl _)⟩
    rw [Int.natAbs_natCast]
    exact Nat.lt_of_le_of_lt (Nat.gcd_le_right _ (Nat.pos_of_ne_zero h1)) h2
  have h9 : b.natAbs < 2 ^ 9000 := Nat.lt_of_lt_of_le hk (Nat.pow_le_pow_right (by decide) (by decide))
  by_cases hs : b < 0
  · have e := hg (-a) (-b) (B ++ []) (by rw [Int.natAbs_neg]; exact h9)
    rw [Int.natAbs_neg, Int.natAbs_neg] at e
    obtain ⟨p1, p2⟩ := pos (-a) b.natAbs (by omega) hk
    rw [Int.natAbs_neg] at p1 p2
    have v := low_val (a := -a) (b := b.natAbs) (by omega)
    rw [Int.natAbs_neg, show ((b.natAbs : Nat) : Int) = -b by omega, ← Rat.divInt_ofNat, show ((b.natAbs : Nat) : Int) = -b by omega, Rat.neg_divInt_neg] at v
    refine ⟨[], run_rt (σ := [some (.int (-a)), some (.int (-b)), some (.int (Nat.gcd a.natAbs b.natAbs))]) hP rfl ?_⟩
    rw [List.append_nil] at e
    have d := dropT_ret (T := []) e rfl
    rw [← v]
    simp only [E_var, E_cst, E_glb, E_bin, E_neg, negV_int, E_vand, E_vor, E_vone, E_vnot, E_tand, E_tor, E_tone, E_tnot, E_tval, E_cmp, E_ife, E_idx, E_nop, E_tup, E_lst, E_nil, E_cons, E_call, E_callp, E_callk, E_isi, E_bi, E_mt, asTup_tup, onB_t, onB_f, onN_nx, onN_rt, onN_bk, onN_ct, S_seq, S_skip, S_pass, S_brk, S_cont, S_set, S_setC, S_setT, S_par, S_setI, S_exp, S_ret, onBS_t, onBS_f, S_ifs, augA_int, b_add, b_addT, b_sub, c_lt, c_le, c_gt, c_ge, c_eqI, c_neI, t_int, t_bl, bi_abs, bi_int, bi_lenT, bi_lenL, bi_tupL, bi_tupT, gx0, gx1, gx2, gx3, gx4, gr0, gr1, gr2, gr3, gfr0, gfr1, st1, st2, st3, Tg.bind, Rf.bindAll, List.replicate_succ, List.replicate_zero, List.map_cons, List.map_nil, List.cons_append, List.nil_append, List.append_nil, List.set_cons_zero, List.set_cons_succ, List.getElem?_cons_zero, List.getElem?_cons_succ, List.length_cons, List.length_nil, Option.bind_some, Option.map_some, Option.bind_none, Option.map_none, if_true, Bool.false_eq_true, if_false, decide_true, decide_false, Bool.not_true, Bool.not_false, hs, cLowest, d, b_div p2, tup2]
  · have e := hg a b (B ++ []) h9
    obtain ⟨p1, p2⟩ := pos a b.natAbs (by omega) hk
    have v := low_val (a := a) (b := b.natAbs) (by omega)
    rw [show ((b.natAbs : Nat) : Int) = b by omega, ← Rat.divInt_ofNat, show ((b.natAbs : Nat) : Int) = b by omega] at v
    refine ⟨[], run_rt (σ := [some (.int a), some (.int b), some (.int (Nat.gcd a.natAbs b.natAbs))]) hP rfl ?_⟩
    rw [List.append_nil] at e
    have d := dropT_ret (T := []) e rfl
    rw [← v]
    simp only [E_var, E_cst, E_glb, E_bin, E_neg, negV_int, E_vand, E_vor, E_vone, E_vnot, E_tand, E_tor, E_tone, E_tnot, E_tval, E_cmp, E_ife, E_idx, E_nop, E_tup, E_lst, E_nil, E_cons, E_call, E_callp, E_callk, E_isi, E_bi, E_mt, asTup_tup, onB_t, onB_f, onN_nx, onN_rt, onN_bk, onN_ct, S_seq, S_skip, S_pass, S_brk, S_cont, S_set, S_setC, S_setT, S_par, S_setI, S_exp, S_ret, onBS_t, onBS_f, S_ifs, augA_int, b_add, b_addT, b_sub, c_lt, c_le, c_gt, c_ge, c_eqI, c_neI, t_int, t_bl, bi_abs, bi_int, bi_lenT, bi_lenL, bi_tupL, bi_tupT, gx0, gx1, gx2, gx3, gx4, gr0, gr1, gr2, gr3, gfr0, gfr1, st1, st2, st3, Tg.bind, Rf.bindAll, List.replicate_succ, List.replicate_zero, List.map_cons, List.map_nil, List.cons_append, List.nil_append, List.append_nil, List.set_cons_zero, List.set_cons_succ, List.getElem?_cons_zero, List.getElem?_cons_succ, List.length_cons, List.length_nil, Option.bind_some, Option.map_some, Option.bind_none, Option.map_none, if_true, Bool.false_eq_true, if_false, decide_true, decide_false, Bool.not_true, Bool.not_false, hs, cLowest, d, b_div p2, tup2]
/-! ### _law_gcd -/
def cGcd : S := (.seq (.par [0, 1] (.cons (.bi .abs (.cons (.var 0) .nil)) (.cons (.bi .abs (.cons (.var 1) .nil)) .nil))) (.seq (.for_ (.nm 2) (.itr (.cons (.cst (.int 40000)) .nil)) (.seq (.ifs (.cmp .eq (.var 1) (.cst (.int 0))) (.seq .brk .skip) .skip) (.seq (.par [0, 1] (.cons (.var 1) (.cons (.bin .mod (.bi .int (.cons (.var 0) .nil)) (.var 1)) .nil))) .skip))) (.seq (.ret (.var 0)) .skip)))
def bGcd : S := (.seq (.ifs (.cmp .eq (.var 1) (.cst (.int 0))) (.seq .brk .skip) .skip) (.seq (.par [0, 1] (.cons (.var 1) (.cons (.bin .mod (.bi .int (.cons (.var 0) .nil)) (.var 1)) .nil))) .skip))
theorem rng_at {lo : Int} {m i : Nat} (h : i < m) : (Rf.It.rng lo m).at B T i = some (some (.int (lo + i))) := by
  show some (if i < m then _ else _) = _
  rw [if_pos h]
theorem rng_end {lo : Int} {m i : Nat} (h : m ≤ i) : (Rf.It.rng lo m).at B T i = some none := by
  show some (if i < m then _ else _) = _
  rw [if_neg (by omega)]
theorem bGcd_0 {CF : Nat → List PV → MH → MH → M} {a : Nat} {c : PV} : semS CF G L bGcd [some (.int a), some (.int (0 : Nat)), some c] B T = some (.bk, [some (.int a), some (.int (0 : Nat)), some c], T) := by
  have z : decide (((0 : Nat) : Int) = 0) = true := rfl
  simp only [E_var, E_cst, E_glb, E_bin, E_neg, negV_int, E_vand, E_vor, E_vone, E_vnot, E_tand, E_tor, E_tone, E_tnot, E_tval, E_cmp, E_ife, E_idx, E_nop, E_tup, E_lst, E_nil, E_cons, E_call, E_callp, E_callk, E_isi, E_bi, E_mt, asTup_tup, onB_t, onB_f, onN_nx, onN_rt, onN_bk, onN_ct, S_seq, S_skip, S_pass, S_brk, S_cont, S_set, S_setC, S_setT, S_par, S_setI, S_exp, S_ret, onBS_t, onBS_f, S_ifs, augA_int, b_add, b_addT, b_sub, c_lt, c_le, c_gt, c_ge, c_eqI, c_neI, t_int, t_bl, bi_abs, bi_int, bi_lenT, bi_lenL, bi_tupL, bi_tupT, gx0, gx1, gx2, gx3, gx4, gr0, gr1, gr2, gr3, gfr0, gfr1, st1, st2, st3, Tg.bind, Rf.bindAll, List.replicate_succ, List.replicate_zero, List.map_cons, List.map_nil, List.cons_append, List.nil_append, List.append_nil, List.set_cons_zero, List.set_cons_succ, List.getElem?_cons_zero, List.getElem?_cons_succ, List.length_cons, List.length_nil, Option.bind_some, Option.map_some, Option.bind_none, Option.map_none, if_true, Bool.false_eq_true, if_false, decide_true, decide_false, Bool.not_true, Bool.not_false, bGcd, z]
theorem bGcd_s {CF : Nat → List PV → MH → MH → M} {a b : Nat} {c : PV} (hb : 0 < b) : semS CF G L bGcd [some (.int a), some (.int b), some c] B T = some (.nx, [some (.int b), some (.int (a % b : Nat)), some c], T) := by
  have z : decide ((b : Int) = 0) = false := decide_eq_false (by omega)
  have m := b_mod (B := B) (T := T) (i := a) (show (0 : Int) < b by omega)
  rw [Int.natCast_emod]
  simp only [E_var, E_cst, E_glb, E_bin, E_neg, negV_int, E_vand, E_vor, E_vone, E_vnot, E_tand, E_tor, E_tone, E_tnot, E_tval, E_cmp, E_ife, E_idx, E_nop, E_tup, E_lst, E_nil, E_cons, E_call, E_callp, E_callk, E_isi, E_bi, E_mt, asTup_tup, onB_t, onB_f, onN_nx, onN_rt, onN_bk, onN_ct, S_seq, S_skip, S_pass, S_brk, S_cont, S_set, S_setC, S_setT, S_par, S_setI, S_exp, S_ret, onBS_t, onBS_f, S_ifs, augA_int, b_add, b_addT, b_sub, c_lt, c_le, c_gt, c_ge, c_eqI, c_neI, t_int, t_bl, bi_abs, bi_int, bi_lenT, bi_lenL, bi_tupL, bi_tupT, gx0, gx1, gx2, gx3, gx4, gr0, gr1, gr2, gr3, gfr0, gfr1, st1, st2, st3, Tg.bind, Rf.bindAll, List.replicate_succ, List.replicate_zero, List.map_cons, List.map_nil, List.cons_append, List.nil_append, List.append_nil, List.set_cons_zero, List.set_cons_succ, List.getElem?_cons_zero, List.getElem?_cons_succ, List.length_cons, List.length_nil, Option.bind_some, Option.map_some, Option.bind_none, Option.map_none, if_true, Bool.false_eq_true, if_false, decide_true, decide_false, Bool.not_true, Bool.not_false, bGcd, z, m]
theorem gcd_step {CF : Nat → List PV → MH → MH → M} {a b n i : Nat} {c : Option PV} (hb : 0 < b) (hi : i < 40000) : loopF B (.rng 0 40000) (.nm 2) (fun σ T => semS CF G L bGcd σ B T) (n + 1) i [some (.int a), some (.int b), c] T = loopF B (.rng 0 40000) (.nm 2) (fun σ T => semS CF G L bGcd σ B T) n (i + 1) [some (.int b), some (.int (a % b : Nat)), some (.int (0 + i))] T := by
  show (match (Rf.It.rng 0 40000).at B T i with | none => none | some none => _ | some (some x) => _) = _
  rw [rng_at hi]
  simp only [Tg.bind, List.set_cons_zero, List.set_cons_succ]
  rw [bGcd_s hb]
theorem gcd_stop {CF : Nat → List PV → MH → MH → M} {a n i : Nat} {c : Option PV} (hi : i < 40000) : ∃ c', loopF B (.rng 0 40000) (.nm 2) (fun σ T => semS CF G L bGcd σ B T) (n + 1) i [some (.int a), some (.int (0 : Nat)), c] T = some (.nx, [some (.int a), some (.int (0 : Nat)), c'], T) := by
  refine ⟨some (.int (0 + i)), ?_⟩
  show (match (Rf.It.rng 0 40000).at B T i with | none => none | some none => _ | some (some x) => _) = _
  rw [rng_at hi]
  simp only [Tg.bind, List.set_cons_zero, List.set_cons_succ]
  rw [bGcd_0]
theorem gcd_loop {CF : Nat → List PV → MH → MH → M} : ∀ (k a b n i : Nat) (c : Option PV), b < 2 ^ k → i + 2 * k + 1 ≤ 40000 → 2 * k + 1 ≤ n → ∃ c', loopF B (.rng 0 40000) (.nm 2) (fun σ T => semS CF G L bGcd σ B T) n i [some (.int a), some (.int b), c] T = some (.nx, [some (.int (Nat.gcd a b)), some (.int (0 : Nat)), c'], T) := by
  intro k
  induction k with
  | zero =>
    intro a b n i c h h1 h2
    have : b = 0 := by simpa using h
    subst this
    obtain ⟨m, rfl⟩ : ∃ m, n = m + 1 := ⟨n - 1, by omega⟩
    rw [Nat.gcd_zero_right]
    exact gcd_stop (by omega)
  | succ k ih =>
    intro a b n i c h h1 h2
    obtain ⟨m, rfl⟩ : ∃ m, n = m + 3 := ⟨n - 3, by omega⟩
    by_cases hb : b = 0
    · subst hb
      rw [Nat.gcd_zero_right]
      exact gcd_stop (by omega)
    · have hb0 : 0 < b := Nat.pos_of_ne_zero hb
      rw [gcd_step hb0 (by omega)]
      by_cases hr : a % b = 0
      · rw [hr]
        have g : Nat.gcd a b = b := by rw [Nat.gcd_comm, Nat.gcd_rec, hr, Nat.gcd_zero_left]
        rw [g]
        exact gcd_stop (by omega)
      · have hr0 : 0 < a % b := Nat.pos_of_ne_zero hr
        have hlt := Nat.mod_lt a hb0
        rw [gcd_step hr0 (by omega)]
        have g : Nat.gcd a b = Nat.gcd (a % b) (b % (a % b)) := by
          rw [Nat.gcd_comm a b, Nat.gcd_rec b a, Nat.gcd_comm (a % b) b, Nat.gcd_comm b (a % b), Nat.gcd_rec (a % b) b, Nat.gcd_comm]
        rw [g]
        have hlt2 := Nat.mod_lt b hr0
        have hh : 2 * (b % (a % b)) < b := by
          have e := Nat.div_add_mod b (a % b)
          have hq : 1 ≤ b / (a % b) := Nat.div_pos (by omega) hr0
          have : (a % b) * 1 ≤ (a % b) * (b / (a % b)) := Nat.mul_le_mul_left _ hq
          omega
        refine ih _ _ _ _ _ ?_ (by omega) (by omega)
        rw [Nat.pow_succ] at h
        omega
theorem E_itr1 {CF : Nat → List PV → MH → MH → M} {σ : En} {j : Int} (h1 : -(2 ^ 62) ≤ j) (h2 : j < 2 ^ 62) {a : C} {T1 : MH} (e : (sem CF G L a).e σ B T = some (.tup [.int j], T1)) : (sem CF G L (.itr a)).it σ B T = some (.rng 0 j.toNat, T1) := by
  show ((sem CF G L a).e σ B T).bind _ = _
  rw [e]
  show (if (decide (-(2 ^ 62) ≤ j) && decide (j < 2 ^ 62)) = true then some (Rf.It.rng 0 j.toNat, T1) else none) = _
  rw [if_pos (by rw [decide_eq_true h1, decide_eq_true h2]; rfl)]
theorem lawgcd_spec (hP : P[f]? = some ⟨2, 3, cGcd⟩) (hL : 40000 ≤ L) : GcdOk P G L (n + 1) f := by
  intro a b B hb
  obtain ⟨c', e⟩ := gcd_loop (G := G) (L := L) (B := B) (T := []) (CF := Rf.run P G L n) 9000 a.natAbs b.natAbs L 0 none hb (by decide) (by omega)
  refine ⟨[], run_rt (σ := [some (.int (Nat.gcd a.natAbs b.natAbs)), some (.int (0 : Nat)), c']) hP rfl ?_⟩
  have e2 : semS (Rf.run P G L n) G L (.for_ (.nm 2) (.itr (.cons (.cst (.int 40000)) .nil)) bGcd) [some (.int a.natAbs), some (.int b.natAbs), none] B [] = some (.nx, [some (.int (Nat.gcd a.natAbs b.natAbs)), some (.int (0 : Nat)), c'], []) := by
    rw [S_for, E_itr1 (j := 40000) (by decide) (by decide) (T1 := []) (by simp only [E_var, E_cst, E_glb, E_bin, E_neg, negV_int, E_vand, E_vor, E_vone, E_vnot, E_tand, E_tor, E_tone, E_tnot, E_tval, E_cmp, E_ife, E_idx, E_nop, E_tup, E_lst, E_nil, E_cons, E_call, E_callp, E_callk, E_isi, E_bi, E_mt, asTup_tup, onB_t, onB_f, onN_nx, onN_rt, onN_bk, onN_ct, S_seq, S_skip, S_pass, S_brk, S_cont, S_set, S_setC, S_setT, S_par, S_setI, S_exp, S_ret, onBS_t, onBS_f, S_ifs, augA_int, b_add, b_addT, b_sub, c_lt, c_le, c_gt, c_ge, c_eqI, c_neI, t_int, t_bl, bi_abs, bi_int, bi_lenT, bi_lenL, bi_tupL, bi_tupT, gx0, gx1, gx2, gx3, gx4, gr0, gr1, gr2, gr3, gfr0, gfr1, st1, st2, st3, Tg.bind, Rf.bindAll, List.replicate_succ, List.replicate_zero, List.map_cons, List.map_nil, List.cons_append, List.nil_append, List.append_nil, List.set_cons_zero, List.set_cons_succ, List.getElem?_cons_zero, List.getElem?_cons_succ, List.length_cons, List.length_nil, Option.bind_some, Option.map_some, Option.bind_none, Option.map_none, if_true, Bool.false_eq_true, if_false, decide_true, decide_false, Bool.not_true, Bool.not_false])]
    exact e
  simp only [bGcd] at e2
  simp only [E_var, E_cst, E_glb, E_bin, E_neg, negV_int, E_vand, E_vor, E_vone, E_vnot, E_tand, E_tor, E_tone, E_tnot, E_tval, E_cmp, E_ife, E_idx, E_nop, E_tup, E_lst, E_nil, E_cons, E_call, E_callp, E_callk, E_isi, E_bi, E_mt, asTup_tup, onB_t, onB_f, onN_nx, onN_rt, onN_bk, onN_ct, S_seq, S_skip, S_pass, S_brk, S_cont, S_set, S_setC, S_setT, S_par, S_setI, S_exp, S_ret, onBS_t, onBS_f, S_ifs, augA_int, b_add, b_addT, b_sub, c_lt, c_le, c_gt, c_ge, c_eqI, c_neI, t_int, t_bl, bi_abs, bi_int, bi_lenT, bi_lenL, bi_tupL, bi_tupT, gx0, gx1, gx2, gx3, gx4, gr0, gr1, gr2, gr3, gfr0, gfr1, st1, st2, st3, Tg.bind, Rf.bindAll, List.replicate_succ, List.replicate_zero, List.map_cons, List.map_nil, List.cons_append, List.nil_append, List.append_nil, List.set_cons_zero, List.set_cons_succ, List.getElem?_cons_zero, List.getElem?_cons_succ, List.length_cons, List.length_nil, Option.bind_some, Option.map_some, Option.bind_none, Option.map_none, if_true, Bool.false_eq_true, if_false, decide_true, decide_false, Bool.not_true, Bool.not_false, cGcd, e2]
/-! ### one + other, .. -/
def cPlus (l : Nat) : S := (.seq (.ret (.callp l (.cons (.bin .add (.bin .mul (.idx (.var 0) (.cst (.int 0))) (.idx (.var 1) (.cst (.int 1)))) (.bin .mul (.idx (.var 1) (.cst (.int 0))) (.idx (.var 0) (.cst (.int 1))))) (.cons (.bin .mul (.idx (.var 0) (.cst (.int 1))) (.idx (.var 1) (.cst (.int 1)))) .nil)))) .skip)
def cMinus (l : Nat) : S := (.seq (.ret (.callp l (.cons (.bin .sub (.bin .mul (.idx (.var 0) (.cst (.int 0))) (.idx (.var 1) (.cst (.int 1)))) (.bin .mul (.idx (.var 1) (.cst (.int 0))) (.idx (.var 0) (.cst (.int 1))))) (.cons (.bin .mul (.idx (.var 0) (.cst (.int 1))) (.idx (.var 1) (.cst (.int 1)))) .nil)))) .skip)
def cTimes (l : Nat) : S := (.seq (.ret (.callp l (.cons (.bin .mul (.idx (.var 0) (.cst (.int 0))) (.idx (.var 1) (.cst (.int 0)))) (.cons (.bin .mul (.idx (.var 0) (.cst (.int 1))) (.idx (.var 1) (.cst (.int 1)))) .nil)))) .skip)
def cOver (l : Nat) : S := (.seq (.ret (.callp l (.cons (.bin .mul (.idx (.var 0) (.cst (.int 0))) (.idx (.var 1) (.cst (.int 1)))) (.cons (.bin .mul (.idx (.var 0) (.cst (.int 1))) (.idx (.var 1) (.cst (.int 0)))) .nil)))) .skip)
def cLess : S := (.seq (.ret (.cmp .lt (.bin .mul (.idx (.var 0) (.cst (.int 0))) (.idx (.var 1) (.cst (.int 1)))) (.bin .mul (.idx (.var 1) (.cst (.int 0))) (.idx (.var 0) (.cst (.int 1)))))) .skip)
def cMost : S := (.seq (.ret (.cmp .le (.bin .mul (.idx (.var 0) (.cst (.int 0))) (.idx (.var 1) (.cst (.int 1)))) (.bin .mul (.idx (.var 1) (.cst (.int 0))) (.idx (.var 0) (.cst (.int 1)))))) .skip)
/-- an operation on two fractions of not too many bits -/
def OpOk (P : List Fn) (G : List (Str × PV)) (L n f : Nat) (g : Rat → Rat → PV) (d : Rat → Rat → Prop) : Prop := ∀ (a b : Rat) (j k : Nat) (B : MH), Bd j a → Bd k b → j + k ≤ 8999 → d a b → Ret P G L n f [fr a, fr b] B (g a b)
def tt (a b : Rat) : Prop := True
theorem dd_ne {j k : Nat} {a b : Rat} (ha : Bd j a) (hb : Bd k b) (h : j + k ≤ 8999) : ((a.den : Int) * b.den) ≠ 0 ∧ ((a.den : Int) * b.den).natAbs < 2 ^ 8999 := by
  constructor
  · exact Int.mul_ne_zero (by have := a.den_nz; omega) (by have := b.den_nz; omega)
  · rw [Int.natAbs_mul, Int.natAbs_natCast, Int.natAbs_natCast]
    exact Nat.lt_of_lt_of_le (mul_lt ha.2 hb.2) (Nat.pow_le_pow_right (by decide) h)
section
variable {j k : Nat} {a b : Rat}
theorem m_nd (ha : Bd j a) (hb : Bd k b) (h : j + k ≤ 8999) : mulOk a.num b.den = true := mulOk_of ha.1 (by rw [Int.natAbs_natCast]; exact hb.2) (by omega)
theorem m_dn (ha : Bd j a) (hb : Bd k b) (h : j + k ≤ 8999) : mulOk a.den b.num = true := mulOk_of (by rw [Int.natAbs_natCast]; exact ha.2) hb.1 (by omega)
theorem m_nn (ha : Bd j a) (hb : Bd k b) (h : j + k ≤ 8999) : mulOk a.num b.num = true := mulOk_of ha.1 hb.1 (by omega)
theorem m_dd (ha : Bd j a) (hb : Bd k b) (h : j + k ≤ 8999) : mulOk a.den b.den = true := mulOk_of (by rw [Int.natAbs_natCast]; exact ha.2) (by rw [Int.natAbs_natCast]; exact hb.2) (by omega)
end
theorem divInt_mk (n : Int) (a b : Nat) : Rat.divInt n ((a : Int) * b) = mkRat n (a * b) := by
  rw [← Int.natCast_mul, Rat.divInt_ofNat]
theorem plus_spec (hP : P[f]? = some ⟨2, 2, cPlus l⟩) (hl : LowOk P G L n l) : OpOk P G L (n + 1) f (fun a b => fr (a + b)) tt := by
  intro a b j k B ha hb h _
  have hb' := hb
  obtain ⟨d1, d2⟩ := dd_ne ha hb h
  have e := hl (a.num * b.den + b.num * a.den) (a.den * b.den) B d1 d2
  rw [divInt_mk, ← Rat.add_def'] at e
  refine ⟨[], run_rt (σ := [some (fr a), some (fr b)]) hP rfl ?_⟩
  simp only [E_var, E_cst, E_glb, E_bin, E_neg, negV_int, E_vand, E_vor, E_vone, E_vnot, E_tand, E_tor, E_tone, E_tnot, E_tval, E_cmp, E_ife, E_idx, E_nop, E_tup, E_lst, E_nil, E_cons, E_call, E_callp, E_callk, E_isi, E_bi, E_mt, asTup_tup, onB_t, onB_f, onN_nx, onN_rt, onN_bk, onN_ct, S_seq, S_skip, S_pass, S_brk, S_cont, S_set, S_setC, S_setT, S_par, S_setI, S_exp, S_ret, onBS_t, onBS_f, S_ifs, augA_int, b_add, b_addT, b_sub, c_lt, c_le, c_gt, c_ge, c_eqI, c_neI, t_int, t_bl, bi_abs, bi_int, bi_lenT, bi_lenL, bi_tupL, bi_tupT, gx0, gx1, gx2, gx3, gx4, gr0, gr1, gr2, gr3, gfr0, gfr1, st1, st2, st3, Tg.bind, Rf.bindAll, List.replicate_succ, List.replicate_zero, List.map_cons, List.map_nil, List.cons_append, List.nil_append, List.append_nil, List.set_cons_zero, List.set_cons_succ, List.getElem?_cons_zero, List.getElem?_cons_succ, List.length_cons, List.length_nil, Option.bind_some, Option.map_some, Option.bind_none, Option.map_none, if_true, Bool.false_eq_true, if_false, decide_true, decide_false, Bool.not_true, Bool.not_false, cPlus, b_mul (m_nd ha hb h), b_mul (m_nd hb ha (by omega)), b_mul (m_dd ha hb h), dropT_ret e rfl]
theorem minus_spec (hP : P[f]? = some ⟨2, 2, cMinus l⟩) (hl : LowOk P G L n l) : OpOk P G L (n + 1) f (fun a b => fr (a - b)) tt := by
  intro a b j k B ha hb h _
  obtain ⟨d1, d2⟩ := dd_ne ha hb h
  have e := hl (a.num * b.den - b.num * a.den) (a.den * b.den) B d1 d2
  rw [divInt_mk, ← Rat.sub_def'] at e
  refine ⟨[], run_rt (σ := [some (fr a), some (fr b)]) hP rfl ?_⟩
  simp only [E_var, E_cst, E_glb, E_bin, E_neg, negV_int, E_vand, E_vor, E_vone, E_vnot, E_tand, E_tor, E_tone, E_tnot, E_tval, E_cmp, E_ife, E_idx, E_nop, E_tup, E_lst, E_nil, E_cons, E_call, E_callp, E_callk, E_isi, E_bi, E_mt, asTup_tup, onB_t, onB_f, onN_nx, onN_rt, onN_bk, onN_ct, S_seq, S_skip, S_pass, S_brk, S_cont, S_set, S_setC, S_setT, S_par, S_setI, S_exp, S_ret, onBS_t, onBS_f, S_ifs, augA_int, b_add, b_addT, b_sub, c_lt, c_le, c_gt, c_ge, c_eqI, c_neI, t_int, t_bl, bi_abs, bi_int, bi_lenT, bi_lenL, bi_tupL, bi_tupT, gx0, gx1, gx2, gx3, gx4, gr0, gr1, gr2, gr3, gfr0, gfr1, st1, st2, st3, Tg.bind, Rf.bindAll, List.replicate_succ, List.replicate_zero, List.map_cons, List.map_nil, List.cons_append, List.nil_append, List.append_nil, List.set_cons_zero, List.set_cons_succ, List.getElem?_cons_zero, List.getElem?_cons_succ, List.length_cons, List.length_nil, Option.bind_some, Option.map_some, Option.bind_none, Option.map_none, if_true, Bool.false_eq_true, if_false, decide_true, decide_false, Bool.not_true, Bool.not_false, cMinus, b_mul (m_nd ha hb h), b_mul (m_nd hb ha (by omega)), b_mul (m_dd ha hb h), dropT_ret e rfl]
theorem times_spec (hP : P[f]? = some ⟨2, 2, cTimes l⟩) (hl : LowOk P G L n l) : OpOk P G L (n + 1) f (fun a b => fr (a * b)) tt := by
  intro a b j k B ha hb h _
  obtain ⟨d1, d2⟩ := dd_ne ha hb h
  have e := hl (a.num * b.num) (a.den * b.den) B d1 d2
  rw [divInt_mk, ← Rat.mul_def'] at e
  refine ⟨[], run_rt (σ := [some (fr a), some (fr b)]) hP rfl ?_⟩
  simp only [E_var, E_cst, E_glb, E_bin, E_neg, negV_int, E_vand, E_vor, E_vone, E_vnot, E_tand, E_tor, E_tone, E_tnot, E_tval, E_cmp, E_ife, E_idx, E_nop, E_tup, E_lst, E_nil, E_cons, E_call, E_callp, E_callk, E_isi, E_bi, E_mt, asTup_tup, onB_t, onB_f, onN_nx, onN_rt, onN_bk, onN_ct, S_seq, S_skip, S_pass, S_brk, S_cont, S_set, S_setC, S_setT, S_par, S_setI, S_exp, S_ret, onBS_t, onBS_f, S_ifs, augA_int, b_add, b_addT, b_sub, c_lt, c_le, c_gt, c_ge, c_eqI, c_neI, t_int, t_bl, bi_abs, bi_int, bi_lenT, bi_lenL, bi_tupL, bi_tupT, gx0, gx1, gx2, gx3, gx4, gr0, gr1, gr2, gr3, gfr0, gfr1, st1, st2, st3, Tg.bind, Rf.bindAll, List.replicate_succ, List.replicate_zero, List.map_cons, List.map_nil, List.cons_append, List.nil_append, List.append_nil, List.set_cons_zero, List.set_cons_succ, List.getElem?_cons_zero, List.getElem?_cons_succ, List.length_cons, List.length_nil, Option.bind_some, Option.map_some, Option.bind_none, Option.map_none, if_true, Bool.false_eq_true, if_false, decide_true, decide_false, Bool.not_true, Bool.not_false, cTimes, b_mul (m_nn ha hb h), b_mul (m_dd ha hb h), dropT_ret e rfl]
theorem over_val (a b : Rat) : Rat.divInt (a.num * b.den) (a.den * b.num) = a / b := by
  rw [Rat.div_def, Rat.inv_def, ← Rat.divInt_mul_divInt, Rat.num_divInt_den]
theorem over_spec (hP : P[f]? = some ⟨2, 2, cOver l⟩) (hl : LowOk P G L n l) : OpOk P G L (n + 1) f (fun a b => fr (a / b)) (fun _ b => b ≠ 0) := by
  intro a b j k B ha hb h h0
  have e := hl (a.num * b.den) (a.den * b.num) B (Int.mul_ne_zero (by have := a.den_nz; omega) (by rw [ne_eq, Rat.num_eq_zero]; exact h0)) (by
    rw [Int.natAbs_mul, Int.natAbs_natCast]
    exact Nat.lt_of_lt_of_le (mul_lt ha.2 hb.1) (Nat.pow_le_pow_right (by decide) h))
  rw [over_val] at e
  refine ⟨[], run_rt (σ := [some (fr a), some (fr b)]) hP rfl ?_⟩
  simp only [E_var, E_cst, E_glb, E_bin, E_neg, negV_int, E_vand, E_vor, E_vone, E_vnot, E_tand, E_tor, E_tone, E_tnot, E_tval, E_cmp, E_ife, E_idx, E_nop, E_tup, E_lst, E_nil, E_cons, E_call, E_callp, E_callk, E_isi, E_bi, E_mt, asTup_tup, onB_t, onB_f, onN_nx, onN_rt, onN_bk, onN_ct, S_seq, S_skip, S_pass, S_brk, S_cont, S_set, S_setC, S_setT, S_par, S_setI, S_exp, S_ret, onBS_t, onBS_f, S_ifs, augA_int, b_add, b_addT, b_sub, c_lt, c_le, c_gt, c_ge, c_eqI, c_neI, t_int, t_bl, bi_abs, bi_int, bi_lenT, bi_lenL, bi_tupL, bi_tupT, gx0, gx1, gx2, gx3, gx4, gr0, gr1, gr2, gr3, gfr0, gfr1, st1, st2, st3, Tg.bind, Rf.bindAll, List.replicate_succ, List.replicate_zero, List.map_cons, List.map_nil, List.cons_append, List.nil_append, List.append_nil, List.set_cons_zero, List.set_cons_succ, List.getElem?_cons_zero, List.getElem?_cons_succ, List.length_cons, List.length_nil, Option.bind_some, Option.map_some, Option.bind_none, Option.map_none, if_true, Bool.false_eq_true, if_false, decide_true, decide_false, Bool.not_true, Bool.not_false, cOver, b_mul (m_nd ha hb h), b_mul (m_dn ha hb h), dropT_ret e rfl]
theorem less_spec (hP : P[f]? = some ⟨2, 2, cLess⟩) : OpOk P G L (n + 1) f (fun a b => .bl (decide (a < b))) tt := by
  intro a b j k B ha hb h _
  refine ⟨[], run_rt (σ := [some (fr a), some (fr b)]) hP rfl ?_⟩
  have e : decide (a.num * b.den < b.num * a.den) = decide (a < b) := decide_eq_decide.mpr (Rat.lt_iff a b).symm
  simp only [E_var, E_cst, E_glb, E_bin, E_neg, negV_int, E_vand, E_vor, E_vone, E_vnot, E_tand, E_tor, E_tone, E_tnot, E_tval, E_cmp, E_ife, E_idx, E_nop, E_tup, E_lst, E_nil, E_cons, E_call, E_callp, E_callk, E_isi, E_bi, E_mt, asTup_tup, onB_t, onB_f, onN_nx, onN_rt, onN_bk, onN_ct, S_seq, S_skip, S_pass, S_brk, S_cont, S_set, S_setC, S_setT, S_par, S_setI, S_exp, S_ret, onBS_t, onBS_f, S_ifs, augA_int, b_add, b_addT, b_sub, c_lt, c_le, c_gt, c_ge, c_eqI, c_neI, t_int, t_bl, bi_abs, bi_int, bi_lenT, bi_lenL, bi_tupL, bi_tupT, gx0, gx1, gx2, gx3, gx4, gr0, gr1, gr2, gr3, gfr0, gfr1, st1, st2, st3, Tg.bind, Rf.bindAll, List.replicate_succ, List.replicate_zero, List.map_cons, List.map_nil, List.cons_append, List.nil_append, List.append_nil, List.set_cons_zero, List.set_cons_succ, List.getElem?_cons_zero, List.getElem?_cons_succ, List.length_cons, List.length_nil, Option.bind_some, Option.map_some, Option.bind_none, Option.map_none, if_true, Bool.false_eq_true, if_false, decide_true, decide_false, Bool.not_true, Bool.not_false, cLess, b_mul (m_nd ha hb h), b_mul (m_nd hb ha (by omega)), e]
theorem most_spec (hP : P[f]? = some ⟨2, 2, cMost⟩) : OpOk P G L (n + 1) f (fun a b => .bl (decide (a ≤ b))) tt := by
  intro a b j k B ha hb h _
  refine ⟨[], run_rt (σ := [some (fr a), some (fr b)]) hP rfl ?_⟩
  have e : decide (a.num * b.den ≤ b.num * a.den) = decide (a ≤ b) := decide_eq_decide.mpr (Rat.le_iff a b).symm
  simp only [E_var, E_cst, E_glb, E_bin, E_neg, negV_int, E_vand, E_vor, E_vone, E_vnot, E_tand, E_tor, E_tone, E_tnot, E_tval, E_cmp, E_ife, E_idx, E_nop, E_tup, E_lst, E_nil, E_cons, E_call, E_callp, E_callk, E_isi, E_bi, E_mt, asTup_tup, onB_t, onB_f, onN_nx, onN_rt, onN_bk, onN_ct, S_seq, S_skip, S_pass, S_brk, S_cont, S_set, S_setC, S_setT, S_par, S_setI, S_exp, S_ret, onBS_t, onBS_f, S_ifs, augA_int, b_add, b_addT, b_sub, c_lt, c_le, c_gt, c_ge, c_eqI, c_neI, t_int, t_bl, bi_abs, bi_int, bi_lenT, bi_lenL, bi_tupL, bi_tupT, gx0, gx1, gx2, gx3, gx4, gr0, gr1, gr2, gr3, gfr0, gfr1, st1, st2, st3, Tg.bind, Rf.bindAll, List.replicate_succ, List.replicate_zero, List.map_cons, List.map_nil, List.cons_append, List.nil_append, List.append_nil, List.set_cons_zero, List.set_cons_succ, List.getElem?_cons_zero, List.getElem?_cons_succ, List.length_cons, List.length_nil, Option.bind_some, Option.map_some, Option.bind_none, Option.map_none, if_true, Bool.false_eq_true, if_false, decide_true, decide_false, Bool.not_true, Bool.not_false, cMost, b_mul (m_nd ha hb h), b_mul (m_nd hb ha (by omega)), e]
end
end Pl
end
section
/-! Pl: loops by invariants; sums. -/
namespace Pl
open PySem Rf
section
variable {P : List Fn} {G : List (Str × PV)} {L n f : Nat} {B T : MH} {CF : Nat → List PV → MH → MH → M}
/-- a loop of m turns, none of which leaves it -/
theorem for_inv {it : Rf.It} {tg : Tg} {b : En → MH → MS} {m : Nat} (I : Nat → En → MH → Prop)
    (turn : ∀ i σ T, i < m → I i σ T → ∃ x σ1 σ2 T2, it.at B T i = some (some x) ∧ tg.bind x σ = some σ1 ∧ (b σ1 T = some (.nx, σ2, T2) ∨ b σ1 T = some (.ct, σ2, T2)) ∧ I (i + 1) σ2 T2)
    (fin : ∀ σ T, I m σ T → it.at B T m = some none) : ∀ (d n i : Nat) (σ : En) (T : MH), i + d = m → d < n → I i σ T → ∃ σ' T', loopF B it tg b n i σ T = some (.nx, σ', T') ∧ I m σ' T' := by
  intro d
  induction d with
  | zero =>
    intro n i σ T h hn h0
    obtain ⟨n, rfl⟩ : ∃ k, n = k + 1 := ⟨n - 1, by omega⟩
    have : i = m := by omega
    subst this
    refine ⟨σ, T, ?_, h0⟩
    unfold loopF
    rw [fin σ T h0]
  | succ d ih =>
    intro n i σ T h hn h0
    obtain ⟨n, rfl⟩ : ∃ k, n = k + 1 := ⟨n - 1, by omega⟩
    obtain ⟨x, σ1, σ2, T2, e1, e2, e3, h2⟩ := turn i σ T (by omega) h0
    obtain ⟨σ', T', e4, h4⟩ := ih n (i + 1) σ2 T2 (by omega) (by omega) h2
    refine ⟨σ', T', ?_, h4⟩
    unfold loopF
    rw [e1]
    dsimp only
    rw [e2]
    dsimp only
    rcases e3 with e3 | e3
    · rw [e3]; exact e4
    · rw [e3]; exact e4
/-- the loop of a comprehension's clause, m turns -/
theorem comp_inv {it : Rf.It} {tg : Tg} {test : En → MH → M} {k : En → MH → List PV → Option (List PV × MH)} {σ : En} {m : Nat} (I : Nat → MH → List PV → Prop)
    (turn : ∀ i T acc, i < m → I i T acc → ∃ x σ1 b T1, it.at B T i = some (some x) ∧ tg.bind x σ = some σ1 ∧ test σ1 T = some (.bl b, T1) ∧ (if b = true then ∃ acc2 T2, k σ1 T1 acc = some (acc2, T2) ∧ I (i + 1) T2 acc2 else I (i + 1) T1 acc))
    (fin : ∀ T acc, I m T acc → it.at B T m = some none) : ∀ (d n i : Nat) (T : MH) (acc : List PV), i + d = m → d < n → I i T acc → ∃ acc' T', loopG B it tg test k σ n i T acc = some (acc', T') ∧ I m T' acc' := by
  intro d
  induction d with
  | zero =>
    intro n i T acc h hn h0
    obtain ⟨n, rfl⟩ : ∃ k, n = k + 1 := ⟨n - 1, by omega⟩
    have : i = m := by omega
    subst this
    refine ⟨acc, T, ?_, h0⟩
    unfold loopG
    rw [fin T acc h0]
  | succ d ih =>
    intro n i T acc h hn h0
    obtain ⟨n, rfl⟩ : ∃ k, n = k + 1 := ⟨n - 1, by omega⟩
    obtain ⟨x, σ1, b, T1, e1, e2, e3, h2⟩ := turn i T acc (by omega) h0
    cases b with
    | true =>
      rw [if_pos rfl] at h2
      obtain ⟨acc2, T2, e5, h5⟩ := h2
      obtain ⟨acc', T', e4, h4⟩ := ih n (i + 1) T2 acc2 (by omega) (by omega) h5
      refine ⟨acc', T', ?_, h4⟩
      unfold loopG
      rw [e1]
      dsimp only
      rw [e2]
      dsimp only
      rw [e3]
      dsimp only
      rw [e5]
      exact e4
    | false =>
      rw [if_neg Bool.false_ne_true] at h2
      obtain ⟨acc', T', e4, h4⟩ := ih n (i + 1) T1 acc (by omega) (by omega) h2
      refine ⟨acc', T', ?_, h4⟩
      unfold loopG
      rw [e1]
      dsimp only
      rw [e2]
      dsimp only
      rw [e3]
      exact e4
/-! ### what is walked -/
theorem at_seq {xs : List PV} {i : Nat} : (Rf.It.seq xs).at B T i = some xs[i]? := rfl
theorem at_lref {xs : List PV} {k i : Nat} (h : rd B T k = some xs) : (Rf.It.lref k).at B T i = some xs[i]? := by
  show (rd B T k).map _ = _
  rw [h]; rfl
theorem I_itvT {σ : En} {a : C} {T1 : MH} {xs : List PV} (e : (sem CF G L a).e σ B T = some (.tup xs, T1)) : (sem CF G L (.itv a)).it σ B T = some (.seq xs, T1) := by
  show ((sem CF G L a).e σ B T).bind _ = _
  rw [e]; rfl
theorem I_itvL {σ : En} {a : C} {T1 : MH} {xs : List PV} {k : Nat} (e : (sem CF G L a).e σ B T = some (.ref k, T1)) (h : rd B T1 k = some xs) : (sem CF G L (.itv a)).it σ B T = some (.lref k, T1) := by
  show ((sem CF G L a).e σ B T).bind _ = _
  rw [e]
  show (rd B T1 k).map _ = _
  rw [h]; rfl
/-! ### raw_sum -/
def pr (p : Int × Nat) : PV := .tup [.int p.1, .int p.2]
theorem gpr0 (p : Int × Nat) : getIx B T (pr p) (.int 0) = some (.int p.1) := (rfl)
theorem gpr1 (p : Int × Nat) : getIx B T (pr p) (.int 1) = some (.int p.2) := (rfl)
/-- bits of a raw pair -/
def Bp (k : Nat) (p : Int × Nat) : Prop := p.1.natAbs < 2 ^ k ∧ p.2 < 2 ^ k ∧ p.2 ≠ 0
def vp (p : Int × Nat) : Rat := mkRat p.1 p.2
def rsum : List (Int × Nat) → Rat
  | [] => 0
  | p :: r => vp p + rsum r
def cRawSum (g : Nat) : S := (.seq (.set 1 (.cst (.int 0))) (.seq (.set 2 (.cst (.int 1))) (.seq (.for_ (.nm 3) (.itv (.var 0)) (.seq (.ifs (.cmp .eq (.idx (.var 3) (.cst (.int 1))) (.var 2)) (.seq (.aug 1 .add (.idx (.var 3) (.cst (.int 0)))) .skip) (.seq (.ifs (.tval (.idx (.var 3) (.cst (.int 0)))) (.seq (.set 4 (.callp g (.cons (.var 2) (.cons (.idx (.var 3) (.cst (.int 1))) .nil)))) (.seq (.set 1 (.bin .add (.bin .mul (.var 1) (.bin .fdiv (.idx (.var 3) (.cst (.int 1))) (.var 4))) (.bin .mul (.idx (.var 3) (.cst (.int 0))) (.bin .fdiv (.var 2) (.var 4))))) (.seq (.set 2 (.bin .mul (.bin .fdiv (.var 2) (.var 4)) (.idx (.var 3) (.cst (.int 1))))) .skip))) .skip) .skip)) .skip)) (.seq (.ret (.tup (.cons (.var 1) (.cons (.var 2) .nil)))) .skip))))
def bRawSum (g : Nat) : S := (.seq (.ifs (.cmp .eq (.idx (.var 3) (.cst (.int 1))) (.var 2)) (.seq (.aug 1 .add (.idx (.var 3) (.cst (.int 0)))) .skip) (.seq (.ifs (.tval (.idx (.var 3) (.cst (.int 0)))) (.seq (.set 4 (.callp g (.cons (.var 2) (.cons (.idx (.var 3) (.cst (.int 1))) .nil)))) (.seq (.set 1 (.bin .add (.bin .mul (.var 1) (.bin .fdiv (.idx (.var 3) (.cst (.int 1))) (.var 4))) (.bin .mul (.idx (.var 3) (.cst (.int 0))) (.bin .fdiv (.var 2) (.var 4))))) (.seq (.set 2 (.bin .mul (.bin .fdiv (.var 2) (.var 4)) (.idx (.var 3) (.cst (.int 1))))) .skip))) .skip) .skip)) .skip)
theorem pow_le {a b : Nat} (h : a ≤ b) : 2 ^ a ≤ 2 ^ b := Nat.pow_le_pow_right (by decide) h
theorem raw_turn (hg : GcdOk P G L n g) {s t : Nat} {u : Int} {b : Nat} {p : Int × Nat} {v c : Option PV} (hu : u.natAbs < 2 ^ s) (hb : b < 2 ^ s) (b0 : b ≠ 0) (hp : Bp t p) (hs : s + t ≤ 8998) : ∃ u' b' c', semS (Rf.run P G L n) G L (bRawSum g) [v, some (.int u), some (.int (b : Nat)), some (pr p), c] B T = some (.nx, [v, some (.int u'), some (.int (b' : Nat)), some (pr p), c'], T) ∧ u'.natAbs < 2 ^ (s + t + 1) ∧ b' < 2 ^ (s + t + 1) ∧ b' ≠ 0 ∧ mkRat u' b' = mkRat u b + vp p := by
  obtain ⟨p1, p2⟩ := p
  obtain ⟨h1, h2, h3⟩ := hp
  dsimp only at h1 h2 h3
  by_cases hd : p2 = b
  · subst hd
    have z : decide ((p2 : Int) = p2) = true := decide_eq_true rfl
    refine ⟨u + p1, p2, c, ?_, ?_, Nat.lt_of_lt_of_le h2 (pow_le (by omega)), h3, ?_⟩
    · have a := S_augA (CF := Rf.run P G L n) (G := G) (L := L) (B := B) (T := T) (σ := [v, some (.int u), some (.int (p2 : Nat)), some (pr (p1, p2)), c]) (a := (.idx (.var 3) (.cst (.int 0)))) 1 (u := u) rfl
      simp only [E_var, E_cst, E_glb, E_bin, E_neg, negV_int, E_vand, E_vor, E_vone, E_vnot, E_tand, E_tor, E_tone, E_tnot, E_tval, E_cmp, E_ife, E_idx, E_nop, E_tup, E_lst, E_nil, E_cons, E_call, E_callp, E_callk, E_isi, E_bi, E_mt, asTup_tup, onB_t, onB_f, onN_nx, onN_rt, onN_bk, onN_ct, S_seq, S_skip, S_pass, S_brk, S_cont, S_set, S_setC, S_setT, S_par, S_setI, S_exp, S_ret, onBS_t, onBS_f, S_ifs, augA_int, b_add, b_addT, b_sub, c_lt, c_le, c_gt, c_ge, c_eqI, c_neI, t_int, t_bl, bi_abs, bi_int, bi_lenT, bi_lenL, bi_tupL, bi_tupT, gx0, gx1, gx2, gx3, gx4, gr0, gr1, gr2, gr3, gfr0, gfr1, st1, st2, st3, Tg.bind, Rf.bindAll, List.replicate_succ, List.replicate_zero, List.map_cons, List.map_nil, List.cons_append, List.nil_append, List.append_nil, List.set_cons_zero, List.set_cons_succ, List.getElem?_cons_zero, List.getElem?_cons_succ, List.length_cons, List.length_nil, Option.bind_some, Option.map_some, Option.bind_none, Option.map_none, if_true, Bool.false_eq_true, if_false, decide_true, decide_false, Bool.not_true, Bool.not_false, bRawSum, gpr0, gpr1, z, a]
    · refine Nat.lt_of_le_of_lt (Int.natAbs_add_le _ _) ?_
      have := Nat.lt_of_lt_of_le hu (pow_le (show s ≤ s + t by omega))
      have := Nat.lt_of_lt_of_le h1 (pow_le (show t ≤ s + t by omega))
      rw [Nat.pow_succ]; omega
    · show mkRat _ _ = mkRat u p2 + mkRat p1 p2
      rw [Rat.mkRat_add_mkRat _ _ h3 h3, ← Int.add_mul, Rat.mkRat_mul_right h3]
  · have z : decide ((p2 : Int) = b) = false := decide_eq_false (by omega)
    by_cases hz : p1 = 0
    · subst hz
      refine ⟨u, b, c, ?_, Nat.lt_of_lt_of_le hu (pow_le (by omega)), Nat.lt_of_lt_of_le hb (pow_le (by omega)), b0, ?_⟩
      · have z2 : ((0 : Int) != 0) = false := rfl
        simp only [E_var, E_cst, E_glb, E_bin, E_neg, negV_int, E_vand, E_vor, E_vone, E_vnot, E_tand, E_tor, E_tone, E_tnot, E_tval, E_cmp, E_ife, E_idx, E_nop, E_tup, E_lst, E_nil, E_cons, E_call, E_callp, E_callk, E_isi, E_bi, E_mt, asTup_tup, onB_t, onB_f, onN_nx, onN_rt, onN_bk, onN_ct, S_seq, S_skip, S_pass, S_brk, S_cont, S_set, S_setC, S_setT, S_par, S_setI, S_exp, S_ret, onBS_t, onBS_f, S_ifs, augA_int, b_add, b_addT, b_sub, c_lt, c_le, c_gt, c_ge, c_eqI, c_neI, t_int, t_bl, bi_abs, bi_int, bi_lenT, bi_lenL, bi_tupL, bi_tupT, gx0, gx1, gx2, gx3, gx4, gr0, gr1, gr2, gr3, gfr0, gfr1, st1, st2, st3, Tg.bind, Rf.bindAll, List.replicate_succ, List.replicate_zero, List.map_cons, List.map_nil, List.cons_append, List.nil_append, List.append_nil, List.set_cons_zero, List.set_cons_succ, List.getElem?_cons_zero, List.getElem?_cons_succ, List.length_cons, List.length_nil, Option.bind_some, Option.map_some, Option.bind_none, Option.map_none, if_true, Bool.false_eq_true, if_false, decide_true, decide_false, Bool.not_true, Bool.not_false, bRawSum, gpr0, gpr1, z, z2]
      · show _ = _ + mkRat 0 p2
        rw [Rat.zero_mkRat, Rat.add_zero]
    · have z2 : (p1 != 0) = true := by simpa using hz
      have gp : 0 < Nat.gcd b p2 := Nat.gcd_pos_of_pos_right _ (Nat.pos_of_ne_zero h3)
      have gle : Nat.gcd b p2 ≤ p2 := Nat.gcd_le_right _ (Nat.pos_of_ne_zero h3)
      have e := hg (b : Int) (p2 : Int) (B ++ T) (by rw [Int.natAbs_natCast]; exact Nat.lt_of_lt_of_le h2 (pow_le (by omega)))
      rw [Int.natAbs_natCast, Int.natAbs_natCast] at e
      have dv : divOk ((Nat.gcd b p2 : Nat) : Int) = true := divOk_of (by omega) (m := 8999) (by rw [Int.natAbs_natCast]; exact Nat.lt_of_le_of_lt gle (Nat.lt_of_lt_of_le h2 (pow_le (by omega)))) (Nat.le_refl _)
      obtain ⟨x, hx⟩ := Nat.gcd_dvd_left b p2
      obtain ⟨y, hy⟩ := Nat.gcd_dvd_right b p2
      generalize hgg : Nat.gcd b p2 = d at *
      have ex : (b : Int) / (d : Int) = x := by rw [hx, Int.natCast_mul, Int.mul_ediv_cancel_left _ (by omega)]
      have ey : (p2 : Int) / (d : Int) = y := by rw [hy, Int.natCast_mul, Int.mul_ediv_cancel_left _ (by omega)]
      have y0 : y ≠ 0 := fun z => h3 (by rw [hy, z, Nat.mul_zero])
      have x0 : x ≠ 0 := fun z => b0 (by rw [hx, z, Nat.mul_zero])
      have hxl : x < 2 ^ s := Nat.lt_of_le_of_lt (by rw [hx]; exact Nat.le_mul_of_pos_left _ gp) hb
      have hyl : y < 2 ^ t := Nat.lt_of_le_of_lt (by rw [hy]; exact Nat.le_mul_of_pos_left _ gp) h2
      have m1 : mulOk u (y : Int) = true := mulOk_of hu (by rw [Int.natAbs_natCast]; exact hyl) (by omega)
      have m2 : mulOk p1 (x : Int) = true := mulOk_of h1 (by rw [Int.natAbs_natCast]; exact hxl) (by omega)
      have m3 : mulOk (x : Int) (p2 : Int) = true := mulOk_of (by rw [Int.natAbs_natCast]; exact hxl) (by rw [Int.natAbs_natCast]; exact h2) (by omega)
      refine ⟨u * y + p1 * x, x * p2, some (.int (d : Nat)), ?_, ?_, ?_, Nat.mul_ne_zero x0 h3, ?_⟩
      · simp only [E_var, E_cst, E_glb, E_bin, E_neg, negV_int, E_vand, E_vor, E_vone, E_vnot, E_tand, E_tor, E_tone, E_tnot, E_tval, E_cmp, E_ife, E_idx, E_nop, E_tup, E_lst, E_nil, E_cons, E_call, E_callp, E_callk, E_isi, E_bi, E_mt, asTup_tup, onB_t, onB_f, onN_nx, onN_rt, onN_bk, onN_ct, S_seq, S_skip, S_pass, S_brk, S_cont, S_set, S_setC, S_setT, S_par, S_setI, S_exp, S_ret, onBS_t, onBS_f, S_ifs, augA_int, b_add, b_addT, b_sub, c_lt, c_le, c_gt, c_ge, c_eqI, c_neI, t_int, t_bl, bi_abs, bi_int, bi_lenT, bi_lenL, bi_tupL, bi_tupT, gx0, gx1, gx2, gx3, gx4, gr0, gr1, gr2, gr3, gfr0, gfr1, st1, st2, st3, Tg.bind, Rf.bindAll, List.replicate_succ, List.replicate_zero, List.map_cons, List.map_nil, List.cons_append, List.nil_append, List.append_nil, List.set_cons_zero, List.set_cons_succ, List.getElem?_cons_zero, List.getElem?_cons_succ, List.length_cons, List.length_nil, Option.bind_some, Option.map_some, Option.bind_none, Option.map_none, if_true, Bool.false_eq_true, if_false, decide_true, decide_false, Bool.not_true, Bool.not_false, bRawSum, gpr0, gpr1, z, z2, dropT_ret e rfl, b_div dv, ex, ey, b_mul m1, b_mul m2, b_mul m3, Int.natCast_mul]
      · refine Nat.lt_of_le_of_lt (Int.natAbs_add_le _ _) ?_
        rw [Int.natAbs_mul, Int.natAbs_mul, Int.natAbs_natCast, Int.natAbs_natCast]
        have q1 := mul_lt hu hyl
        have q2 := mul_lt h1 hxl
        rw [Nat.add_comm t s] at q2
        rw [Nat.pow_succ]; omega
      · exact Nat.lt_of_lt_of_le (mul_lt hxl h2) (pow_le (by omega))
      · show _ = mkRat u b + mkRat p1 p2
        rw [Rat.mkRat_add_mkRat _ _ b0 h3, Rat.mkRat_eq_iff (Nat.mul_ne_zero x0 h3) (Nat.mul_ne_zero b0 h3)]
        have hb2 : (b : Int) = d * x := by rw [hx]; simp
        have hp2 : (p2 : Int) = d * y := by rw [hy]; simp
        rw [Int.natCast_mul, Int.natCast_mul, hb2, hp2]
        grind
theorem rsum_take {ps : List (Int × Nat)} {i : Nat} (h : i < ps.length) : rsum (ps.take (i + 1)) = rsum (ps.take i) + vp ps[i] := by
  induction ps generalizing i with
  | nil => simp at h
  | cons p ps ih =>
    cases i with
    | zero => simp [rsum, Rat.add_comm]
    | succ i =>
      rw [List.take_succ_cons, List.take_succ_cons, rsum, rsum, ih (by simpa using h)]
      rw [Rat.add_assoc]; rfl
/-- raw_sum answers a pair that stands for the sum -/
theorem rawsum_spec (hP : P[f]? = some ⟨1, 5, cRawSum g⟩) (hg : GcdOk P G L n g) {ps : List (Int × Nat)} {t k : Nat} (hB : B[k]? = some (ps.map pr)) (hp : ∀ p ∈ ps, Bp t p) (hs : (ps.length + 1) * (t + 1) ≤ 8998) (hL : 9000 ≤ L) :
    ∃ p, Ret P G L (n + 1) f [.ref k] B (pr p) ∧ Bp (ps.length * (t + 1) + 1) p ∧ vp p = rsum ps := by
  have hrd : rd B [] k = some (ps.map pr) := by unfold rd; rw [List.append_nil]; exact hB
  have hlen : ps.length < L := by
    have : ps.length + 1 ≤ (ps.length + 1) * (t + 1) := Nat.le_mul_of_pos_right _ (by omega)
    omega
  obtain ⟨σ', T', e, u, b, v, c, eσ, eT, h1, h2, h3, h4⟩ := for_inv (B := B) (it := .lref k) (tg := .nm 3) (b := fun σ T => semS (Rf.run P G L n) G L (bRawSum g) σ B T) (m := ps.length)
    (fun i σ T => ∃ (u : Int) (b : Nat) (v c : Option PV), σ = [some (.ref k), some (.int u), some (.int (b : Nat)), v, c] ∧ T = [] ∧ u.natAbs < 2 ^ (i * (t + 1) + 1) ∧ b < 2 ^ (i * (t + 1) + 1) ∧ b ≠ 0 ∧ mkRat u b = rsum (ps.take i))
    (by
      rintro i σ T hi ⟨u, b, v, c, rfl, rfl, h1, h2, h3, h4⟩
      have hpi := hp ps[i] (List.getElem_mem hi)
      have hmul : (i + 2) * (t + 1) ≤ (ps.length + 1) * (t + 1) := Nat.mul_le_mul_right _ (by omega)
      have hsz : (i + 2) * (t + 1) = i * (t + 1) + 2 * (t + 1) := Nat.add_mul _ _ _
      obtain ⟨u', b', c', e, q1, q2, q3, q4⟩ := raw_turn (B := B) (T := []) (v := some (.ref k)) (c := c) hg h1 h2 h3 hpi (by omega)
      have hsz2 : (i + 1) * (t + 1) + 1 = i * (t + 1) + 1 + t + 1 := by rw [Nat.add_mul]; omega
      refine ⟨pr ps[i], _, _, _, ?_, rfl, .inl e, u', b', _, c', rfl, rfl, by rw [hsz2]; exact q1, by rw [hsz2]; exact q2, q3, ?_⟩
      · rw [at_lref hrd, List.getElem?_map, List.getElem?_eq_getElem hi]; rfl
      · rw [q4, h4, rsum_take hi])
    (by
      rintro σ T ⟨u, b, v, c, rfl, rfl, _⟩
      rw [at_lref hrd, List.getElem?_eq_none (by simp)])
    ps.length L 0 [some (.ref k), some (.int 0), some (.int (1 : Nat)), none, none] [] (by omega) hlen
    ⟨0, 1, none, none, rfl, rfl, by simp, by simp, by decide, by simp [rsum]⟩
  subst eσ eT
  refine ⟨(u, b), ⟨[], run_rt (σ := [some (.ref k), some (.int u), some (.int (b : Nat)), v, c]) hP rfl ?_⟩, ⟨h1, h2, h3⟩, ?_⟩
  · have e2 : semS (Rf.run P G L n) G L (.for_ (.nm 3) (.itv (.var 0)) (bRawSum g)) [some (.ref k), some (.int 0), some (.int 1), none, none] B [] = some (.nx, [some (.ref k), some (.int u), some (.int (b : Nat)), v, c], []) := by
      rw [S_for, I_itvL (T1 := []) (k := k) (by simp only [E_var, E_cst, E_glb, E_bin, E_neg, negV_int, E_vand, E_vor, E_vone, E_vnot, E_tand, E_tor, E_tone, E_tnot, E_tval, E_cmp, E_ife, E_idx, E_nop, E_tup, E_lst, E_nil, E_cons, E_call, E_callp, E_callk, E_isi, E_bi, E_mt, asTup_tup, onB_t, onB_f, onN_nx, onN_rt, onN_bk, onN_ct, S_seq, S_skip, S_pass, S_brk, S_cont, S_set, S_setC, S_setT, S_par, S_setI, S_exp, S_ret, onBS_t, onBS_f, S_ifs, augA_int, b_add, b_addT, b_sub, c_lt, c_le, c_gt, c_ge, c_eqI, c_neI, t_int, t_bl, bi_abs, bi_int, bi_lenT, bi_lenL, bi_tupL, bi_tupT, gx0, gx1, gx2, gx3, gx4, gr0, gr1, gr2, gr3, gfr0, gfr1, st1, st2, st3, Tg.bind, Rf.bindAll, List.replicate_succ, List.replicate_zero, List.map_cons, List.map_nil, List.cons_append, List.nil_append, List.append_nil, List.set_cons_zero, List.set_cons_succ, List.getElem?_cons_zero, List.getElem?_cons_succ, List.length_cons, List.length_nil, Option.bind_some, Option.map_some, Option.bind_none, Option.map_none, if_true, Bool.false_eq_true, if_false, decide_true, decide_false, Bool.not_true, Bool.not_false]) hrd]
      exact e
    simp only [bRawSum] at e2
    simp only [E_var, E_cst, E_glb, E_bin, E_neg, negV_int, E_vand, E_vor, E_vone, E_vnot, E_tand, E_tor, E_tone, E_tnot, E_tval, E_cmp, E_ife, E_idx, E_nop, E_tup, E_lst, E_nil, E_cons, E_call, E_callp, E_callk, E_isi, E_bi, E_mt, asTup_tup, onB_t, onB_f, onN_nx, onN_rt, onN_bk, onN_ct, S_seq, S_skip, S_pass, S_brk, S_cont, S_set, S_setC, S_setT, S_par, S_setI, S_exp, S_ret, onBS_t, onBS_f, S_ifs, augA_int, b_add, b_addT, b_sub, c_lt, c_le, c_gt, c_ge, c_eqI, c_neI, t_int, t_bl, bi_abs, bi_int, bi_lenT, bi_lenL, bi_tupL, bi_tupT, gx0, gx1, gx2, gx3, gx4, gr0, gr1, gr2, gr3, gfr0, gfr1, st1, st2, st3, Tg.bind, Rf.bindAll, List.replicate_succ, List.replicate_zero, List.map_cons, List.map_nil, List.cons_append, List.nil_append, List.append_nil, List.set_cons_zero, List.set_cons_succ, List.getElem?_cons_zero, List.getElem?_cons_succ, List.length_cons, List.length_nil, Option.bind_some, Option.map_some, Option.bind_none, Option.map_none, if_true, Bool.false_eq_true, if_false, decide_true, decide_false, Bool.not_true, Bool.not_false, cRawSum, e2, tup2]
    rfl
  · rw [List.take_length] at h4; exact h4
end
end Pl
end
section
/-! Pl: sums, least, greatest, likeness. -/
namespace Pl
open PySem Rf
section
variable {P : List Fn} {G : List (Str × PV)} {L n f : Nat} {B T : MH} {CF : Nat → List PV → MH → MH → M}
/-- a tuple, or a list that stood at the call -/
def Sq (B : MH) (a : PV) (xs : List PV) : Prop := a = .tup xs ∨ ∃ k, a = .ref k ∧ B[k]? = some xs
theorem rdB {k : Nat} {xs : List PV} (h : B[k]? = some xs) : rd B T k = some xs := by
  unfold rd
  rw [List.getElem?_append_left (List.getElem?_eq_some_iff.mp h).1]; exact h
theorem Sq.it {a : PV} {xs : List PV} (h : Sq B a xs) {σ : En} {c : C} {T1 : MH} (e : (sem CF G L c).e σ B T = some (a, T1)) : ∃ it, (sem CF G L (.itv c)).it σ B T = some (it, T1) ∧ ∀ T i, it.at B T i = some xs[i]? := by
  rcases h with h | ⟨k, h, hk⟩
  · subst h
    exact ⟨_, I_itvT e, fun _ _ => rfl⟩
  · subst h
    exact ⟨_, I_itvL e (rdB hk), fun T i => at_lref (rdB hk)⟩
theorem Sq.at0 {a : PV} {xs : List PV} (h : Sq B a xs) : getIx B T a (.int 0) = xs[0]? := by
  rcases h with h | ⟨k, h, hk⟩
  · subst h; exact gx0
  · subst h; rw [gr0, rdB hk]; rfl
theorem Sq.len {a : PV} {xs : List PV} (h : Sq B a xs) : Rf.bi B T .len [a] = some (.int xs.length, T) := by
  rcases h with h | ⟨k, h, hk⟩
  · subst h; rfl
  · subst h; rw [bi_lenL, rdB hk]; rfl
def fp (q : Rat) : Int × Nat := (q.num, q.den)
theorem vp_fp (q : Rat) : vp (fp q) = q := Rat.mkRat_self q
theorem pr_fp (q : Rat) : pr (fp q) = fr q := rfl
theorem rsum_fp (qs : List Rat) : rsum (qs.map fp) = qs.sum := by
  induction qs with
  | nil => rfl
  | cons q qs ih => rw [List.map_cons, rsum, vp_fp, ih, List.sum_cons]
theorem Bp_fp {k : Nat} {q : Rat} (h : Bd k q) : Bp k (fp q) := ⟨h.1, h.2, q.den_nz⟩
theorem Bd_vp {k : Nat} {p : Int × Nat} (h : Bp k p) : Bd k (vp p) := .mk h.2.2 h.1 h.2.1
theorem Bd.zero {k : Nat} (hk : 0 < k) : Bd k 0 := ⟨Nat.two_pow_pos k, lt_two_pow hk⟩
theorem Bd.one {k : Nat} (hk : 0 < k) : Bd k 1 := ⟨lt_two_pow hk, lt_two_pow hk⟩
theorem Bd.rsum {t : Nat} : ∀ {ps : List (Int × Nat)}, (∀ p ∈ ps, Bp t p) → Bd (ps.length * (t + 1) + 1) (rsum ps)
  | [], _ => Bd.zero (by omega)
  | p :: ps, h => by
    have a := Bd_vp (h p (List.mem_cons_self ..))
    have b := Bd.rsum (ps := ps) fun q hq => h q (List.mem_cons_of_mem _ hq)
    refine (a.add b).mono ?_
    rw [List.length_cons, Nat.add_mul]; omega
theorem Bd.sum {t : Nat} {qs : List Rat} (h : ∀ q ∈ qs, Bd t q) : Bd (qs.length * (t + 1) + 1) qs.sum := by
  rw [← rsum_fp]
  have := Bd.rsum (ps := qs.map fp) (t := t) fun p hp => by
    obtain ⟨q, hq, rfl⟩ := List.mem_map.mp hp
    exact Bp_fp (h q hq)
  rw [List.length_map] at this
  exact this
/-! ### sum_of -/
def cSumOf (r l : Nat) : S := (.seq (.setT [1, 2] (.callp r (.cons (.var 0) .nil))) (.seq (.ret (.callp l (.cons (.var 1) (.cons (.var 2) .nil)))) .skip))
theorem sumof_raw (hP : P[f]? = some ⟨1, 3, cSumOf r l⟩) (hr : P[r]? = some ⟨1, 5, cRawSum g⟩) (hg : GcdOk P G L n g) (hl : LowOk P G L (n + 1) l) {ps : List (Int × Nat)} {t k : Nat} (hB : B[k]? = some (ps.map pr)) (hp : ∀ p ∈ ps, Bp t p) (hs : (ps.length + 1) * (t + 1) ≤ 8998) (hL : 9000 ≤ L) :
    Ret P G L (n + 2) f [.ref k] B (fr (rsum ps)) := by
  obtain ⟨p, e, hb, hv⟩ := rawsum_spec hr hg hB hp hs hL
  have hsz : (ps.length + 1) * (t + 1) = ps.length * (t + 1) + (t + 1) := by rw [Nat.add_mul]; omega
  have e2 := hl p.1 (p.2 : Int) B (by have := hb.2.2; omega) (by rw [Int.natAbs_natCast]; exact Nat.lt_of_lt_of_le hb.2.1 (pow_le (by omega)))
  rw [Rat.divInt_ofNat, show mkRat p.1 p.2 = rsum ps from hv] at e2
  refine ⟨[], run_rt (σ := [some (.ref k), some (.int p.1), some (.int (p.2 : Nat))]) hP rfl ?_⟩
  have d1 := dropT_ret (T := []) e rfl
  have d2 := dropT_ret (T := []) e2 rfl
  simp only [E_var, E_cst, E_glb, E_bin, E_neg, negV_int, E_vand, E_vor, E_vone, E_vnot, E_tand, E_tor, E_tone, E_tnot, E_tval, E_cmp, E_ife, E_idx, E_nop, E_tup, E_lst, E_nil, E_cons, E_call, E_callp, E_callk, E_isi, E_bi, E_mt, asTup_tup, onB_t, onB_f, onN_nx, onN_rt, onN_bk, onN_ct, S_seq, S_skip, S_pass, S_brk, S_cont, S_set, S_setC, S_setT, S_par, S_setI, S_exp, S_ret, onBS_t, onBS_f, S_ifs, augA_int, b_add, b_addT, b_sub, c_lt, c_le, c_gt, c_ge, c_eqI, c_neI, t_int, t_bl, bi_abs, bi_int, bi_lenT, bi_lenL, bi_tupL, bi_tupT, gx0, gx1, gx2, gx3, gx4, gr0, gr1, gr2, gr3, gfr0, gfr1, st1, st2, st3, Tg.bind, Rf.bindAll, List.replicate_succ, List.replicate_zero, List.map_cons, List.map_nil, List.cons_append, List.nil_append, List.append_nil, List.set_cons_zero, List.set_cons_succ, List.getElem?_cons_zero, List.getElem?_cons_succ, List.length_cons, List.length_nil, Option.bind_some, Option.map_some, Option.bind_none, Option.map_none, if_true, Bool.false_eq_true, if_false, decide_true, decide_false, Bool.not_true, Bool.not_false, cSumOf, d1, pr, d2]
theorem sumof_spec (hP : P[f]? = some ⟨1, 3, cSumOf r l⟩) (hr : P[r]? = some ⟨1, 5, cRawSum g⟩) (hg : GcdOk P G L n g) (hl : LowOk P G L (n + 1) l) {qs : List Rat} {t k : Nat} (hB : B[k]? = some (qs.map fr)) (hp : ∀ q ∈ qs, Bd t q) (hs : (qs.length + 1) * (t + 1) ≤ 8998) (hL : 9000 ≤ L) :
    Ret P G L (n + 2) f [.ref k] B (fr qs.sum) := by
  have h := sumof_raw (ps := qs.map fp) (t := t) (k := k) (B := B) hP hr hg hl (by rw [List.map_map]; exact hB) (fun p hp' => by
    obtain ⟨q, hq, rfl⟩ := List.mem_map.mp hp'
    exact Bp_fp (hp q hq)) (by rw [List.length_map]; exact hs) hL
  rw [rsum_fp] at h
  exact h
/-! ### the least, the greatest: the first of those alike -/
def lowR (qs : List Rat) : Rat := match qs with
  | [] => 0
  | q :: r => (q :: r).foldl (fun b x => if x < b then x else b) q
def topR (qs : List Rat) : Rat := match qs with
  | [] => 0
  | q :: r => (q :: r).foldl (fun b x => if b < x then x else b) q
def cLeast (l : Nat) : S := (.seq (.set 1 (.idx (.var 0) (.cst (.int 0)))) (.seq (.for_ (.nm 2) (.itv (.var 0)) (.seq (.ifs (.tval (.callp l (.cons (.var 2) (.cons (.var 1) .nil)))) (.seq (.set 1 (.var 2)) .skip) .skip) .skip)) (.seq (.ret (.var 1)) .skip)))
def cLawTop (l : Nat) : S := (.seq (.set 1 (.idx (.var 0) (.cst (.int 0)))) (.seq (.for_ (.nm 2) (.itv (.var 0)) (.seq (.set 1 (.ife (.tval (.callp l (.cons (.var 1) (.cons (.var 2) .nil)))) (.var 2) (.var 1))) .skip)) (.seq (.ret (.var 1)) .skip)))
def cLawLow (l : Nat) : S := (.seq (.set 1 (.idx (.var 0) (.cst (.int 0)))) (.seq (.for_ (.nm 2) (.itv (.var 0)) (.seq (.set 1 (.ife (.tval (.callp l (.cons (.var 2) (.cons (.var 1) .nil)))) (.var 2) (.var 1))) .skip)) (.seq (.ret (.var 1)) .skip)))
theorem foldl_take {α : Type} {h : α → Rat → α} {z : α} {qs : List Rat} {i : Nat} (hi : i < qs.length) : (qs.take (i + 1)).foldl h z = h ((qs.take i).foldl h z) qs[i] := by
  rw [List.take_succ_eq_append_getElem hi, List.foldl_append]; rfl
theorem fold_mem {h : Rat → Rat → Rat} (hh : ∀ b x, h b x = b ∨ h b x = x) : ∀ (qs : List Rat) (z : Rat), qs.foldl h z = z ∨ qs.foldl h z ∈ qs
  | [], z => .inl rfl
  | q :: qs, z => by
    rcases fold_mem hh qs (h z q) with e | e
    · rw [List.foldl_cons, e]
      rcases hh z q with e | e
      · exact .inl e
      · rw [e]; exact .inr (List.mem_cons_self ..)
    · exact .inr (List.mem_cons_of_mem _ e)
/-- a fold's loop: slot 1 holds the best so far -/
theorem fold_loop {h : Rat → Rat → Rat} {bd : S} {qs : List Rat} {t : Nat} {a : PV} {it : Rf.It} (hh : ∀ b x, h b x = b ∨ h b x = x) (hq : ∀ q ∈ qs, Bd t q) (hit : ∀ T i, it.at B T i = some (qs.map fr)[i]?)
    (turn : ∀ (b x : Rat), Bd t b → Bd t x → semS CF G L bd [some a, some (fr b), some (fr x)] B [] = some (.nx, [some a, some (fr (h b x)), some (fr x)], [])) (hL : qs.length < L) {z : Rat} (hz : Bd t z) (c : Option PV) :
    ∃ c', loopF B it (.nm 2) (fun σ T => semS CF G L bd σ B T) L 0 [some a, some (fr z), c] [] = some (.nx, [some a, some (fr (qs.foldl h z)), c'], []) := by
  obtain ⟨σ', T', e, b, c', e1, e2, e3, e4⟩ := for_inv (B := B) (it := it) (tg := .nm 2) (b := fun σ T => semS CF G L bd σ B T) (m := qs.length)
    (fun i σ T => ∃ b c, σ = [some a, some (fr b), c] ∧ T = [] ∧ Bd t b ∧ b = (qs.take i).foldl h z)
    (by
      rintro i σ T hi ⟨b, c, rfl, rfl, hb, eb⟩
      have hx := hq qs[i] (List.getElem_mem hi)
      refine ⟨fr qs[i], _, _, _, ?_, rfl, .inl (turn b qs[i] hb hx), _, _, rfl, rfl, ?_, ?_⟩
      · rw [hit, List.getElem?_map, List.getElem?_eq_getElem hi]; rfl
      · rcases hh b qs[i] with e | e
        · rw [e]; exact hb
        · rw [e]; exact hx
      · rw [foldl_take hi, ← eb])
    (by
      rintro σ T ⟨b, c, rfl, rfl, _⟩
      rw [hit, List.getElem?_eq_none (by simp)])
    qs.length L 0 [some a, some (fr z), c] [] (by omega) hL ⟨z, c, rfl, rfl, hz, rfl⟩
  subst e1 e2
  rw [List.take_length] at e4
  exact ⟨c', by rw [e, e4]⟩
theorem low_hh (b x : Rat) : (if x < b then x else b) = b ∨ (if x < b then x else b) = x := by
  by_cases h : x < b
  · exact .inr (if_pos h)
  · exact .inl (if_neg h)
theorem top_hh (b x : Rat) : (if b < x then x else b) = b ∨ (if b < x then x else b) = x := by
  by_cases h : b < x
  · exact .inr (if_pos h)
  · exact .inl (if_neg h)
/-- such a function answers the fold -/
def BestOk (P : List Fn) (G : List (Str × PV)) (L n f : Nat) (g : List Rat → Rat) : Prop := ∀ (a : PV) (qs : List Rat) (t : Nat) (B : MH), Sq B a (qs.map fr) → qs ≠ [] → (∀ q ∈ qs, Bd t q) → t + t ≤ 8999 → qs.length < L → Ret P G L n f [a] B (fr (g qs))
theorem best_fin {h : Rat → Rat → Rat} {bd : S} (hP : P[f]? = some ⟨1, 3, (.seq (.set 1 (.idx (.var 0) (.cst (.int 0)))) (.seq (.for_ (.nm 2) (.itv (.var 0)) bd) (.seq (.ret (.var 1)) .skip)))⟩) (hh : ∀ b x, h b x = b ∨ h b x = x)
    (turn : ∀ (t : Nat) (a : PV) (B : MH) (b x : Rat), t + t ≤ 8999 → Bd t b → Bd t x → semS (Rf.run P G L n) G L bd [some a, some (fr b), some (fr x)] B [] = some (.nx, [some a, some (fr (h b x)), some (fr x)], [])) :
    BestOk P G L (n + 1) f (fun qs => match qs with | [] => 0 | q :: r => (q :: r).foldl h q) := by
  intro a qs t B hs hne hq ht hL
  cases qs with
  | nil => exact absurd rfl hne
  | cons q r =>
    obtain ⟨it, i1, i2⟩ := hs.it (CF := Rf.run P G L n) (G := G) (L := L) (T := []) (T1 := []) (σ := [some a, some (fr q), none]) (c := .var 0) (by simp only [E_var, E_cst, E_glb, E_bin, E_neg, negV_int, E_vand, E_vor, E_vone, E_vnot, E_tand, E_tor, E_tone, E_tnot, E_tval, E_cmp, E_ife, E_idx, E_nop, E_tup, E_lst, E_nil, E_cons, E_call, E_callp, E_callk, E_isi, E_bi, E_mt, asTup_tup, onB_t, onB_f, onN_nx, onN_rt, onN_bk, onN_ct, S_seq, S_skip, S_pass, S_brk, S_cont, S_set, S_setC, S_setT, S_par, S_setI, S_exp, S_ret, onBS_t, onBS_f, S_ifs, augA_int, b_add, b_addT, b_sub, c_lt, c_le, c_gt, c_ge, c_eqI, c_neI, t_int, t_bl, bi_abs, bi_int, bi_lenT, bi_lenL, bi_tupL, bi_tupT, gx0, gx1, gx2, gx3, gx4, gr0, gr1, gr2, gr3, gfr0, gfr1, st1, st2, st3, Tg.bind, Rf.bindAll, List.replicate_succ, List.replicate_zero, List.map_cons, List.map_nil, List.cons_append, List.nil_append, List.append_nil, List.set_cons_zero, List.set_cons_succ, List.getElem?_cons_zero, List.getElem?_cons_succ, List.length_cons, List.length_nil, Option.bind_some, Option.map_some, Option.bind_none, Option.map_none, if_true, Bool.false_eq_true, if_false, decide_true, decide_false, Bool.not_true, Bool.not_false])
    obtain ⟨c', e⟩ := fold_loop (CF := Rf.run P G L n) (G := G) (L := L) (a := a) hh hq i2 (fun b x => turn t a B b x ht) hL (hq q (List.mem_cons_self ..)) none
    refine ⟨[], run_rt (σ := [some a, some (fr ((q :: r).foldl h q)), c']) hP rfl ?_⟩
    have e2 : semS (Rf.run P G L n) G L (.for_ (.nm 2) (.itv (.var 0)) bd) [some a, some (fr q), none] B [] = some (.nx, [some a, some (fr ((q :: r).foldl h q)), c'], []) := by
      rw [S_for, i1]; exact e
    have a0 : getIx B [] a (.int 0) = some (fr q) := by rw [hs.at0]; rfl
    simp only [E_var, E_cst, E_glb, E_bin, E_neg, negV_int, E_vand, E_vor, E_vone, E_vnot, E_tand, E_tor, E_tone, E_tnot, E_tval, E_cmp, E_ife, E_idx, E_nop, E_tup, E_lst, E_nil, E_cons, E_call, E_callp, E_callk, E_isi, E_bi, E_mt, asTup_tup, onB_t, onB_f, onN_nx, onN_rt, onN_bk, onN_ct, S_seq, S_skip, S_pass, S_brk, S_cont, S_set, S_setC, S_setT, S_par, S_setI, S_exp, S_ret, onBS_t, onBS_f, S_ifs, augA_int, b_add, b_addT, b_sub, c_lt, c_le, c_gt, c_ge, c_eqI, c_neI, t_int, t_bl, bi_abs, bi_int, bi_lenT, bi_lenL, bi_tupL, bi_tupT, gx0, gx1, gx2, gx3, gx4, gr0, gr1, gr2, gr3, gfr0, gfr1, st1, st2, st3, Tg.bind, Rf.bindAll, List.replicate_succ, List.replicate_zero, List.map_cons, List.map_nil, List.cons_append, List.nil_append, List.append_nil, List.set_cons_zero, List.set_cons_succ, List.getElem?_cons_zero, List.getElem?_cons_succ, List.length_cons, List.length_nil, Option.bind_some, Option.map_some, Option.bind_none, Option.map_none, if_true, Bool.false_eq_true, if_false, decide_true, decide_false, Bool.not_true, Bool.not_false, a0, e2]
theorem least_spec (hP : P[f]? = some ⟨1, 3, cLeast l⟩) (hl : OpOk P G L n l (fun a b => .bl (decide (a < b))) tt) : BestOk P G L (n + 1) f lowR := by
  have := best_fin (n := n) (G := G) (L := L) hP low_hh fun t a B b x ht hb hx => by
    have e := dropT_ret (T := []) (hl x b t t B hx hb ht trivial) rfl
    by_cases h : x < b
    · have z : decide (x < b) = true := decide_eq_true h
      rw [if_pos h]
      simp only [E_var, E_cst, E_glb, E_bin, E_neg, negV_int, E_vand, E_vor, E_vone, E_vnot, E_tand, E_tor, E_tone, E_tnot, E_tval, E_cmp, E_ife, E_idx, E_nop, E_tup, E_lst, E_nil, E_cons, E_call, E_callp, E_callk, E_isi, E_bi, E_mt, asTup_tup, onB_t, onB_f, onN_nx, onN_rt, onN_bk, onN_ct, S_seq, S_skip, S_pass, S_brk, S_cont, S_set, S_setC, S_setT, S_par, S_setI, S_exp, S_ret, onBS_t, onBS_f, S_ifs, augA_int, b_add, b_addT, b_sub, c_lt, c_le, c_gt, c_ge, c_eqI, c_neI, t_int, t_bl, bi_abs, bi_int, bi_lenT, bi_lenL, bi_tupL, bi_tupT, gx0, gx1, gx2, gx3, gx4, gr0, gr1, gr2, gr3, gfr0, gfr1, st1, st2, st3, Tg.bind, Rf.bindAll, List.replicate_succ, List.replicate_zero, List.map_cons, List.map_nil, List.cons_append, List.nil_append, List.append_nil, List.set_cons_zero, List.set_cons_succ, List.getElem?_cons_zero, List.getElem?_cons_succ, List.length_cons, List.length_nil, Option.bind_some, Option.map_some, Option.bind_none, Option.map_none, if_true, Bool.false_eq_true, if_false, decide_true, decide_false, Bool.not_true, Bool.not_false, e, z]
    · have z : decide (x < b) = false := decide_eq_false h
      rw [if_neg h]
      simp only [E_var, E_cst, E_glb, E_bin, E_neg, negV_int, E_vand, E_vor, E_vone, E_vnot, E_tand, E_tor, E_tone, E_tnot, E_tval, E_cmp, E_ife, E_idx, E_nop, E_tup, E_lst, E_nil, E_cons, E_call, E_callp, E_callk, E_isi, E_bi, E_mt, asTup_tup, onB_t, onB_f, onN_nx, onN_rt, onN_bk, onN_ct, S_seq, S_skip, S_pass, S_brk, S_cont, S_set, S_setC, S_setT, S_par, S_setI, S_exp, S_ret, onBS_t, onBS_f, S_ifs, augA_int, b_add, b_addT, b_sub, c_lt, c_le, c_gt, c_ge, c_eqI, c_neI, t_int, t_bl, bi_abs, bi_int, bi_lenT, bi_lenL, bi_tupL, bi_tupT, gx0, gx1, gx2, gx3, gx4, gr0, gr1, gr2, gr3, gfr0, gfr1, st1, st2, st3, Tg.bind, Rf.bindAll, List.replicate_succ, List.replicate_zero, List.map_cons, List.map_nil, List.cons_append, List.nil_append, List.append_nil, List.set_cons_zero, List.set_cons_succ, List.getElem?_cons_zero, List.getElem?_cons_succ, List.length_cons, List.length_nil, Option.bind_some, Option.map_some, Option.bind_none, Option.map_none, if_true, Bool.false_eq_true, if_false, decide_true, decide_false, Bool.not_true, Bool.not_false, e, z]
  exact this
theorem lawlow_spec (hP : P[f]? = some ⟨1, 3, cLawLow l⟩) (hl : OpOk P G L n l (fun a b => .bl (decide (a < b))) tt) : BestOk P G L (n + 1) f lowR := by
  have := best_fin (n := n) (G := G) (L := L) hP low_hh fun t a B b x ht hb hx => by
    have e := dropT_ret (T := []) (hl x b t t B hx hb ht trivial) rfl
    by_cases h : x < b
    · have z : decide (x < b) = true := decide_eq_true h
      rw [if_pos h]
      simp only [E_var, E_cst, E_glb, E_bin, E_neg, negV_int, E_vand, E_vor, E_vone, E_vnot, E_tand, E_tor, E_tone, E_tnot, E_tval, E_cmp, E_ife, E_idx, E_nop, E_tup, E_lst, E_nil, E_cons, E_call, E_callp, E_callk, E_isi, E_bi, E_mt, asTup_tup, onB_t, onB_f, onN_nx, onN_rt, onN_bk, onN_ct, S_seq, S_skip, S_pass, S_brk, S_cont, S_set, S_setC, S_setT, S_par, S_setI, S_exp, S_ret, onBS_t, onBS_f, S_ifs, augA_int, b_add, b_addT, b_sub, c_lt, c_le, c_gt, c_ge, c_eqI, c_neI, t_int, t_bl, bi_abs, bi_int, bi_lenT, bi_lenL, bi_tupL, bi_tupT, gx0, gx1, gx2, gx3, gx4, gr0, gr1, gr2, gr3, gfr0, gfr1, st1, st2, st3, Tg.bind, Rf.bindAll, List.replicate_succ, List.replicate_zero, List.map_cons, List.map_nil, List.cons_append, List.nil_append, List.append_nil, List.set_cons_zero, List.set_cons_succ, List.getElem?_cons_zero, List.getElem?_cons_succ, List.length_cons, List.length_nil, Option.bind_some, Option.map_some, Option.bind_none, Option.map_none, if_true, Bool.false_eq_true, if_false, decide_true, decide_false, Bool.not_true, Bool.not_false, e, z]
    · have z : decide (x < b) = false := decide_eq_false h
      rw [if_neg h]
      simp only [E_var, E_cst, E_glb, E_bin, E_neg, negV_int, E_vand, E_vor, E_vone, E_vnot, E_tand, E_tor, E_tone, E_tnot, E_tval, E_cmp, E_ife, E_idx, E_nop, E_tup, E_lst, E_nil, E_cons, E_call, E_callp, E_callk, E_isi, E_bi, E_mt, asTup_tup, onB_t, onB_f, onN_nx, onN_rt, onN_bk, onN_ct, S_seq, S_skip, S_pass, S_brk, S_cont, S_set, S_setC, S_setT, S_par, S_setI, S_exp, S_ret, onBS_t, onBS_f, S_ifs, augA_int, b_add, b_addT, b_sub, c_lt, c_le, c_gt, c_ge, c_eqI, c_neI, t_int, t_bl, bi_abs, bi_int, bi_lenT, bi_lenL, bi_tupL, bi_tupT, gx0, gx1, gx2, gx3, gx4, gr0, gr1, gr2, gr3, gfr0, gfr1, st1, st2, st3, Tg.bind, Rf.bindAll, List.replicate_succ, List.replicate_zero, List.map_cons, List.map_nil, List.cons_append, List.nil_append, List.append_nil, List.set_cons_zero, List.set_cons_succ, List.getElem?_cons_zero, List.getElem?_cons_succ, List.length_cons, List.length_nil, Option.bind_some, Option.map_some, Option.bind_none, Option.map_none, if_true, Bool.false_eq_true, if_false, decide_true, decide_false, Bool.not_true, Bool.not_false, e, z]
  exact this
theorem lawtop_spec (hP : P[f]? = some ⟨1, 3, cLawTop l⟩) (hl : OpOk P G L n l (fun a b => .bl (decide (a < b))) tt) : BestOk P G L (n + 1) f topR := by
  have := best_fin (n := n) (G := G) (L := L) hP top_hh fun t a B b x ht hb hx => by
    have e := dropT_ret (T := []) (hl b x t t B hb hx ht trivial) rfl
    by_cases h : b < x
    · have z : decide (b < x) = true := decide_eq_true h
      rw [if_pos h]
      simp only [E_var, E_cst, E_glb, E_bin, E_neg, negV_int, E_vand, E_vor, E_vone, E_vnot, E_tand, E_tor, E_tone, E_tnot, E_tval, E_cmp, E_ife, E_idx, E_nop, E_tup, E_lst, E_nil, E_cons, E_call, E_callp, E_callk, E_isi, E_bi, E_mt, asTup_tup, onB_t, onB_f, onN_nx, onN_rt, onN_bk, onN_ct, S_seq, S_skip, S_pass, S_brk, S_cont, S_set, S_setC, S_setT, S_par, S_setI, S_exp, S_ret, onBS_t, onBS_f, S_ifs, augA_int, b_add, b_addT, b_sub, c_lt, c_le, c_gt, c_ge, c_eqI, c_neI, t_int, t_bl, bi_abs, bi_int, bi_lenT, bi_lenL, bi_tupL, bi_tupT, gx0, gx1, gx2, gx3, gx4, gr0, gr1, gr2, gr3, gfr0, gfr1, st1, st2, st3, Tg.bind, Rf.bindAll, List.replicate_succ, List.replicate_zero, List.map_cons, List.map_nil, List.cons_append, List.nil_append, List.append_nil, List.set_cons_zero, List.set_cons_succ, List.getElem?_cons_zero, List.getElem?_cons_succ, List.length_cons, List.length_nil, Option.bind_some, Option.map_some, Option.bind_none, Option.map_none, if_true, Bool.false_eq_true, if_false, decide_true, decide_false, Bool.not_true, Bool.not_false, e, z]
    · have z : decide (b < x) = false := decide_eq_false h
      rw [if_neg h]
      simp only [E_var, E_cst, E_glb, E_bin, E_neg, negV_int, E_vand, E_vor, E_vone, E_vnot, E_tand, E_tor, E_tone, E_tnot, E_tval, E_cmp, E_ife, E_idx, E_nop, E_tup, E_lst, E_nil, E_cons, E_call, E_callp, E_callk, E_isi, E_bi, E_mt, asTup_tup, onB_t, onB_f, onN_nx, onN_rt, onN_bk, onN_ct, S_seq, S_skip, S_pass, S_brk, S_cont, S_set, S_setC, S_setT, S_par, S_setI, S_exp, S_ret, onBS_t, onBS_f, S_ifs, augA_int, b_add, b_addT, b_sub, c_lt, c_le, c_gt, c_ge, c_eqI, c_neI, t_int, t_bl, bi_abs, bi_int, bi_lenT, bi_lenL, bi_tupL, bi_tupT, gx0, gx1, gx2, gx3, gx4, gr0, gr1, gr2, gr3, gfr0, gfr1, st1, st2, st3, Tg.bind, Rf.bindAll, List.replicate_succ, List.replicate_zero, List.map_cons, List.map_nil, List.cons_append, List.nil_append, List.append_nil, List.set_cons_zero, List.set_cons_succ, List.getElem?_cons_zero, List.getElem?_cons_succ, List.length_cons, List.length_nil, Option.bind_some, Option.map_some, Option.bind_none, Option.map_none, if_true, Bool.false_eq_true, if_false, decide_true, decide_false, Bool.not_true, Bool.not_false, e, z]
  exact this
end
end Pl
end
section
/-! Pl: the law's sum; likeness of like values. -/
namespace Pl
open PySem Rf
section
variable {P : List Fn} {G : List (Str × PV)} {L n f : Nat} {B T : MH} {CF : Nat → List PV → MH → MH → M}
/-! ### _law_sum -/
def cLawSum (p : Nat) : S := (.seq (.set 1 (.tup (.cons (.cst (.int 0)) (.cons (.cst (.int 1)) .nil)))) (.seq (.for_ (.nm 2) (.itv (.var 0)) (.seq (.ifs (.cmp .ne (.idx (.var 2) (.cst (.int 0))) (.cst (.int 0))) (.seq (.set 1 (.callp p (.cons (.var 1) (.cons (.var 2) .nil)))) .skip) .skip) .skip)) (.seq (.ret (.var 1)) .skip)))
def bLawSum (p : Nat) : S := (.seq (.ifs (.cmp .ne (.idx (.var 2) (.cst (.int 0))) (.cst (.int 0))) (.seq (.set 1 (.callp p (.cons (.var 1) (.cons (.var 2) .nil)))) .skip) .skip) .skip)
theorem fr_zero : PV.tup [.int 0, .int 1] = fr 0 := rfl
theorem fr_one : PV.tup [.int 1, .int 1] = fr 1 := rfl
theorem lawsum_turn {j k : Nat} {a : PV} {z x : Rat} (hp : OpOk P G L n p (fun a b => fr (a + b)) tt) (hz : Bd j z) (hx : Bd k x) (h : j + k ≤ 8999) : semS (Rf.run P G L n) G L (bLawSum p) [some a, some (fr z), some (fr x)] B T = some (.nx, [some a, some (fr (z + x)), some (fr x)], T) := by
  by_cases h0 : x.num = 0
  · have e : x = 0 := Rat.num_eq_zero.mp h0
    subst e
    have z2 : (!decide ((0 : Rat).num = 0)) = false := rfl
    rw [Rat.add_zero]
    simp only [E_var, E_cst, E_glb, E_bin, E_neg, negV_int, E_vand, E_vor, E_vone, E_vnot, E_tand, E_tor, E_tone, E_tnot, E_tval, E_cmp, E_ife, E_idx, E_nop, E_tup, E_lst, E_nil, E_cons, E_call, E_callp, E_callk, E_isi, E_bi, E_mt, asTup_tup, onB_t, onB_f, onN_nx, onN_rt, onN_bk, onN_ct, S_seq, S_skip, S_pass, S_brk, S_cont, S_set, S_setC, S_setT, S_par, S_setI, S_exp, S_ret, onBS_t, onBS_f, S_ifs, augA_int, b_add, b_addT, b_sub, c_lt, c_le, c_gt, c_ge, c_eqI, c_neI, t_int, t_bl, bi_abs, bi_int, bi_lenT, bi_lenL, bi_tupL, bi_tupT, gx0, gx1, gx2, gx3, gx4, gr0, gr1, gr2, gr3, gfr0, gfr1, st1, st2, st3, Tg.bind, Rf.bindAll, List.replicate_succ, List.replicate_zero, List.map_cons, List.map_nil, List.cons_append, List.nil_append, List.append_nil, List.set_cons_zero, List.set_cons_succ, List.getElem?_cons_zero, List.getElem?_cons_succ, List.length_cons, List.length_nil, Option.bind_some, Option.map_some, Option.bind_none, Option.map_none, if_true, Bool.false_eq_true, if_false, decide_true, decide_false, Bool.not_true, Bool.not_false, bLawSum, z2]
  · have z2 : (!decide (x.num = 0)) = true := by rw [decide_eq_false h0]; rfl
    have d := dropT_ret (T := T) (hp z x j k (B ++ T) hz hx h trivial) rfl
    simp only [E_var, E_cst, E_glb, E_bin, E_neg, negV_int, E_vand, E_vor, E_vone, E_vnot, E_tand, E_tor, E_tone, E_tnot, E_tval, E_cmp, E_ife, E_idx, E_nop, E_tup, E_lst, E_nil, E_cons, E_call, E_callp, E_callk, E_isi, E_bi, E_mt, asTup_tup, onB_t, onB_f, onN_nx, onN_rt, onN_bk, onN_ct, S_seq, S_skip, S_pass, S_brk, S_cont, S_set, S_setC, S_setT, S_par, S_setI, S_exp, S_ret, onBS_t, onBS_f, S_ifs, augA_int, b_add, b_addT, b_sub, c_lt, c_le, c_gt, c_ge, c_eqI, c_neI, t_int, t_bl, bi_abs, bi_int, bi_lenT, bi_lenL, bi_tupL, bi_tupT, gx0, gx1, gx2, gx3, gx4, gr0, gr1, gr2, gr3, gfr0, gfr1, st1, st2, st3, Tg.bind, Rf.bindAll, List.replicate_succ, List.replicate_zero, List.map_cons, List.map_nil, List.cons_append, List.nil_append, List.append_nil, List.set_cons_zero, List.set_cons_succ, List.getElem?_cons_zero, List.getElem?_cons_succ, List.length_cons, List.length_nil, Option.bind_some, Option.map_some, Option.bind_none, Option.map_none, if_true, Bool.false_eq_true, if_false, decide_true, decide_false, Bool.not_true, Bool.not_false, bLawSum, z2, d]
theorem sum_take {qs : List Rat} {i : Nat} (hi : i < qs.length) : (qs.take (i + 1)).sum = (qs.take i).sum + qs[i] := by
  rw [List.take_succ_eq_append_getElem hi, List.sum_append, List.sum_cons, List.sum_nil, Rat.add_zero]
theorem Bd.sum_take {t : Nat} {qs : List Rat} (h : ∀ q ∈ qs, Bd t q) (i : Nat) (hi : i ≤ qs.length) : Bd (i * (t + 1) + 1) (qs.take i).sum := by
  have := Bd.sum (qs := qs.take i) (t := t) fun q hq => h q (List.mem_of_mem_take hq)
  rwa [List.length_take, Nat.min_eq_left hi] at this
theorem lawsum_spec (hP : P[f]? = some ⟨1, 3, cLawSum p⟩) (hp : OpOk P G L n p (fun a b => fr (a + b)) tt) {a : PV} {qs : List Rat} {t : Nat} (hs : Sq B a (qs.map fr)) (hq : ∀ q ∈ qs, Bd t q) (ht : (qs.length + 1) * (t + 1) ≤ 8998) (hL : 9000 ≤ L) :
    Ret P G L (n + 1) f [a] B (fr qs.sum) := by
  have hlen : qs.length < L := by
    have : qs.length + 1 ≤ (qs.length + 1) * (t + 1) := Nat.le_mul_of_pos_right _ (by omega)
    omega
  obtain ⟨it, i1, i2⟩ := hs.it (CF := Rf.run P G L n) (G := G) (L := L) (T := []) (T1 := []) (σ := [some a, some (fr 0), none]) (c := .var 0) (by simp only [E_var, E_cst, E_glb, E_bin, E_neg, negV_int, E_vand, E_vor, E_vone, E_vnot, E_tand, E_tor, E_tone, E_tnot, E_tval, E_cmp, E_ife, E_idx, E_nop, E_tup, E_lst, E_nil, E_cons, E_call, E_callp, E_callk, E_isi, E_bi, E_mt, asTup_tup, onB_t, onB_f, onN_nx, onN_rt, onN_bk, onN_ct, S_seq, S_skip, S_pass, S_brk, S_cont, S_set, S_setC, S_setT, S_par, S_setI, S_exp, S_ret, onBS_t, onBS_f, S_ifs, augA_int, b_add, b_addT, b_sub, c_lt, c_le, c_gt, c_ge, c_eqI, c_neI, t_int, t_bl, bi_abs, bi_int, bi_lenT, bi_lenL, bi_tupL, bi_tupT, gx0, gx1, gx2, gx3, gx4, gr0, gr1, gr2, gr3, gfr0, gfr1, st1, st2, st3, Tg.bind, Rf.bindAll, List.replicate_succ, List.replicate_zero, List.map_cons, List.map_nil, List.cons_append, List.nil_append, List.append_nil, List.set_cons_zero, List.set_cons_succ, List.getElem?_cons_zero, List.getElem?_cons_succ, List.length_cons, List.length_nil, Option.bind_some, Option.map_some, Option.bind_none, Option.map_none, if_true, Bool.false_eq_true, if_false, decide_true, decide_false, Bool.not_true, Bool.not_false])
  obtain ⟨σ', T', e, z, c', e1, e2, e3⟩ := for_inv (B := B) (it := it) (tg := .nm 2) (b := fun σ T => semS (Rf.run P G L n) G L (bLawSum p) σ B T) (m := qs.length)
    (fun i σ T => ∃ z c, σ = [some a, some (fr z), c] ∧ T = [] ∧ z = (qs.take i).sum)
    (by
      rintro i σ T hi ⟨z, c, rfl, rfl, ez⟩
      have hx := hq qs[i] (List.getElem_mem hi)
      have hz := Bd.sum_take hq i (by omega)
      rw [← ez] at hz
      have hsz : (i + 1) * (t + 1) ≤ (qs.length + 1) * (t + 1) := Nat.mul_le_mul_right _ (by omega)
      rw [Nat.add_mul] at hsz
      refine ⟨fr qs[i], _, _, _, ?_, rfl, .inl (lawsum_turn hp hz hx (by omega)), _, _, rfl, rfl, ?_⟩
      · rw [i2, List.getElem?_map, List.getElem?_eq_getElem hi]; rfl
      · rw [sum_take hi, ez])
    (by
      rintro σ T ⟨z, c, rfl, rfl, _⟩
      rw [i2, List.getElem?_eq_none (by simp)])
    qs.length L 0 [some a, some (fr 0), none] [] (by omega) hlen ⟨0, none, rfl, rfl, rfl⟩
  subst e1 e2
  rw [List.take_length] at e3
  subst e3
  refine ⟨[], run_rt (σ := [some a, some (fr qs.sum), c']) hP rfl ?_⟩
  have e2 : semS (Rf.run P G L n) G L (.for_ (.nm 2) (.itv (.var 0)) (bLawSum p)) [some a, some (.tup [.int 0, .int 1]), none] B [] = some (.nx, [some a, some (fr qs.sum), c'], []) := by
    show semS (Rf.run P G L n) G L (.for_ (.nm 2) (.itv (.var 0)) (bLawSum p)) [some a, some (fr 0), none] B [] = _
    rw [S_for, i1]; exact e
  simp only [bLawSum] at e2
  simp only [E_var, E_cst, E_glb, E_bin, E_neg, negV_int, E_vand, E_vor, E_vone, E_vnot, E_tand, E_tor, E_tone, E_tnot, E_tval, E_cmp, E_ife, E_idx, E_nop, E_tup, E_lst, E_nil, E_cons, E_call, E_callp, E_callk, E_isi, E_bi, E_mt, asTup_tup, onB_t, onB_f, onN_nx, onN_rt, onN_bk, onN_ct, S_seq, S_skip, S_pass, S_brk, S_cont, S_set, S_setC, S_setT, S_par, S_setI, S_exp, S_ret, onBS_t, onBS_f, S_ifs, augA_int, b_add, b_addT, b_sub, c_lt, c_le, c_gt, c_ge, c_eqI, c_neI, t_int, t_bl, bi_abs, bi_int, bi_lenT, bi_lenL, bi_tupL, bi_tupT, gx0, gx1, gx2, gx3, gx4, gr0, gr1, gr2, gr3, gfr0, gfr1, st1, st2, st3, Tg.bind, Rf.bindAll, List.replicate_succ, List.replicate_zero, List.map_cons, List.map_nil, List.cons_append, List.nil_append, List.append_nil, List.set_cons_zero, List.set_cons_succ, List.getElem?_cons_zero, List.getElem?_cons_succ, List.length_cons, List.length_nil, Option.bind_some, Option.map_some, Option.bind_none, Option.map_none, if_true, Bool.false_eq_true, if_false, decide_true, decide_false, Bool.not_true, Bool.not_false, cLawSum, tup2, e2]
/-! ### _law_eq of two like values -/
def plD : Nat → PV → Prop
  | _, .int _ => True
  | _, .bl _ => True
  | _, .non => True
  | _, .str x => eqOk (.str x) = true
  | d + 1, .tup xs => xs.length < 1000 ∧ ∀ x ∈ xs, plD d x
  | _, _ => False
theorem plD_fr (q : Rat) (d : Nat) : plD (d + 1) (fr q) := ⟨(by show 2 < 1000; decide), fun x hx => by
  simp only [List.mem_cons, List.not_mem_nil, or_false] at hx
  rcases hx with rfl | rfl <;> (cases d <;> trivial)⟩
theorem plD_up : ∀ {d : Nat} {v : PV}, plD d v → plD (d + 1) v := by
  intro d
  induction d with
  | zero => intro v h; cases v <;> first | trivial | cases h
  | succ d ih =>
    intro v h
    cases v <;> first | exact h | skip
    exact ⟨h.1, fun x hx => ih (h.2 x hx)⟩
def cLawEq (e : Nat) : S := (.seq (.ifs (.cmp .is (.var 1) (.cst .non)) (.seq (.ret (.cmp .is (.var 0) (.cst .non))) .skip) .skip) (.seq (.ifs (.tor (.tval (.isi .bool (.var 1))) (.tone (.tval (.isi .bool (.var 0))))) (.seq (.ret (.vand (.isi .bool (.var 1)) (.vand (.isi .bool (.var 0)) (.vone (.cmp .eq (.var 0) (.var 1)))))) .skip) .skip) (.seq (.ifs (.tval (.isi .int (.var 1))) (.seq (.ret (.vand (.isi .int (.var 0)) (.vone (.cmp .eq (.var 0) (.var 1))))) .skip) .skip) (.seq (.ifs (.tval (.isi .str (.var 1))) (.seq (.ret (.vand (.isi .str (.var 0)) (.vone (.cmp .eq (.var 0) (.var 1))))) .skip) .skip) (.seq (.ifs (.tor (.tnot (.tval (.isi .tuple (.var 1)))) (.tor (.tnot (.tval (.isi .tuple (.var 0)))) (.tone (.cmp .ne (.bi .len (.cons (.var 0) .nil)) (.bi .len (.cons (.var 1) .nil)))))) (.seq (.ret (.cst (.bl false))) .skip) .skip) (.seq (.for_ (.nm 2) (.itr (.cons (.bi .len (.cons (.var 1) .nil)) .nil)) (.seq (.ifs (.tnot (.tval (.callp e (.cons (.idx (.var 0) (.var 2)) (.cons (.idx (.var 1) (.var 2)) .nil))))) (.seq (.ret (.cst (.bl false))) .skip) .skip) .skip)) (.seq (.ret (.cst (.bl true))) .skip)))))))
theorem eqv_int (i : Int) : Rf.cmp B T .eq (.int i) (.int i) = some true := by rw [c_eqI, decide_eq_true rfl]
theorem eqv_bl (b : Bool) : Rf.cmp B T .eq (.bl b) (.bl b) = some true := by
  show eqv _ _ = _
  cases b <;> rfl
theorem eqv_str {x : Str} (h : eqOk (.str x) = true) : Rf.cmp B T .eq (.str x) (.str x) = some true := by
  show eqv _ _ = _
  unfold eqv
  rw [h]
  simp [PV.toD, PyData.eqv]
theorem eqv_fr (a b : Rat) : Rf.cmp B T .eq (fr a) (fr b) = some (decide (a = b)) := by
  show eqv _ _ = _
  unfold eqv eqOk fr
  simp [PV.noRef, noRefs, PV.toD, toDs, SeqAt.shaped, PyData.eqv]
  refine ⟨⟨⟨rfl, rfl⟩, rfl, rfl⟩, ?_⟩
  show (a.num == b.num && ((a.den : Int) == b.den && true)) = decide (a = b)
  by_cases h : a = b
  · subst h; simp
  · rw [decide_eq_false h]
    by_cases h1 : a.num = b.num
    · have h2 : a.den ≠ b.den := fun z => h (Rat.ext h1 z)
      have h3 : ((a.den : Int) == b.den) = false := by
        rw [beq_eq_false_iff_ne]; omega
      rw [h3]; simp
    · rw [beq_eq_false_iff_ne.mpr h1]; rfl
theorem nev_fr (a b : Rat) : Rf.cmp B T .ne (fr a) (fr b) = some (!decide (a = b)) := by
  have h : eqv (fr a) (fr b) = some (decide (a = b)) := eqv_fr (B := B) (T := T) a b
  have h2 : Rf.cmp B T .ne (fr a) (fr b) = (eqv (fr a) (fr b)).map (!·) := rfl
  rw [h2, h]; rfl
theorem lawis_no {v : PV} (h : v ≠ .non) (h2 : ∀ ns, v ≠ .scr ns) : Rf.cmp B T .is v .non = some false := by
  cases v <;> first | rfl | exact absurd rfl h | exact absurd rfl (h2 _)
theorem is_b : isTy .bool (.bl b) = true := (rfl)
theorem is_bi : isTy .bool (.int i) = false := (rfl)
theorem is_bs : isTy .bool (.str x) = false := (rfl)
theorem is_bt : isTy .bool (.tup xs) = false := (rfl)
theorem is_ii : isTy .int (.int i) = true := (rfl)
theorem is_is : isTy .int (.str x) = false := (rfl)
theorem is_it : isTy .int (.tup xs) = false := (rfl)
theorem is_ss : isTy .str (.str x) = true := (rfl)
theorem is_st : isTy .str (.tup xs) = false := (rfl)
theorem is_tt : isTy .tuple (.tup xs) = true := (rfl)
theorem laweq_flat (hP : P[f]? = some ⟨2, 3, cLawEq f⟩) {v : PV} (hv : plD 0 v) : Ret P G L (n + 1) f [v, v] B (.bl true) := by
  cases v <;> first | cases hv | skip
  · refine ⟨[], run_rt (σ := [some .non, some .non, none]) hP rfl ?_⟩
    have z : Rf.cmp B [] .is .non .non = some true := rfl
    simp only [E_var, E_cst, E_glb, E_bin, E_neg, negV_int, E_vand, E_vor, E_vone, E_vnot, E_tand, E_tor, E_tone, E_tnot, E_tval, E_cmp, E_ife, E_idx, E_nop, E_tup, E_lst, E_nil, E_cons, E_call, E_callp, E_callk, E_isi, E_bi, E_mt, asTup_tup, onB_t, onB_f, onN_nx, onN_rt, onN_bk, onN_ct, S_seq, S_skip, S_pass, S_brk, S_cont, S_set, S_setC, S_setT, S_par, S_setI, S_exp, S_ret, onBS_t, onBS_f, S_ifs, augA_int, b_add, b_addT, b_sub, c_lt, c_le, c_gt, c_ge, c_eqI, c_neI, t_int, t_bl, bi_abs, bi_int, bi_lenT, bi_lenL, bi_tupL, bi_tupT, gx0, gx1, gx2, gx3, gx4, gr0, gr1, gr2, gr3, gfr0, gfr1, st1, st2, st3, Tg.bind, Rf.bindAll, List.replicate_succ, List.replicate_zero, List.map_cons, List.map_nil, List.cons_append, List.nil_append, List.append_nil, List.set_cons_zero, List.set_cons_succ, List.getElem?_cons_zero, List.getElem?_cons_succ, List.length_cons, List.length_nil, Option.bind_some, Option.map_some, Option.bind_none, Option.map_none, if_true, Bool.false_eq_true, if_false, decide_true, decide_false, Bool.not_true, Bool.not_false, cLawEq, z]
  · rename_i b
    refine ⟨[], run_rt (σ := [some (.bl b), some (.bl b), none]) hP rfl ?_⟩
    have z : Rf.cmp B [] .is (.bl b) .non = some false := rfl
    simp only [E_var, E_cst, E_glb, E_bin, E_neg, negV_int, E_vand, E_vor, E_vone, E_vnot, E_tand, E_tor, E_tone, E_tnot, E_tval, E_cmp, E_ife, E_idx, E_nop, E_tup, E_lst, E_nil, E_cons, E_call, E_callp, E_callk, E_isi, E_bi, E_mt, asTup_tup, onB_t, onB_f, onN_nx, onN_rt, onN_bk, onN_ct, S_seq, S_skip, S_pass, S_brk, S_cont, S_set, S_setC, S_setT, S_par, S_setI, S_exp, S_ret, onBS_t, onBS_f, S_ifs, augA_int, b_add, b_addT, b_sub, c_lt, c_le, c_gt, c_ge, c_eqI, c_neI, t_int, t_bl, bi_abs, bi_int, bi_lenT, bi_lenL, bi_tupL, bi_tupT, gx0, gx1, gx2, gx3, gx4, gr0, gr1, gr2, gr3, gfr0, gfr1, st1, st2, st3, Tg.bind, Rf.bindAll, List.replicate_succ, List.replicate_zero, List.map_cons, List.map_nil, List.cons_append, List.nil_append, List.append_nil, List.set_cons_zero, List.set_cons_succ, List.getElem?_cons_zero, List.getElem?_cons_succ, List.length_cons, List.length_nil, Option.bind_some, Option.map_some, Option.bind_none, Option.map_none, if_true, Bool.false_eq_true, if_false, decide_true, decide_false, Bool.not_true, Bool.not_false, cLawEq, z, is_b, eqv_bl]
  · rename_i i
    refine ⟨[], run_rt (σ := [some (.int i), some (.int i), none]) hP rfl ?_⟩
    have z : Rf.cmp B [] .is (.int i) .non = some false := rfl
    have z2 : decide (i = i) = true := decide_eq_true rfl
    simp only [E_var, E_cst, E_glb, E_bin, E_neg, negV_int, E_vand, E_vor, E_vone, E_vnot, E_tand, E_tor, E_tone, E_tnot, E_tval, E_cmp, E_ife, E_idx, E_nop, E_tup, E_lst, E_nil, E_cons, E_call, E_callp, E_callk, E_isi, E_bi, E_mt, asTup_tup, onB_t, onB_f, onN_nx, onN_rt, onN_bk, onN_ct, S_seq, S_skip, S_pass, S_brk, S_cont, S_set, S_setC, S_setT, S_par, S_setI, S_exp, S_ret, onBS_t, onBS_f, S_ifs, augA_int, b_add, b_addT, b_sub, c_lt, c_le, c_gt, c_ge, c_eqI, c_neI, t_int, t_bl, bi_abs, bi_int, bi_lenT, bi_lenL, bi_tupL, bi_tupT, gx0, gx1, gx2, gx3, gx4, gr0, gr1, gr2, gr3, gfr0, gfr1, st1, st2, st3, Tg.bind, Rf.bindAll, List.replicate_succ, List.replicate_zero, List.map_cons, List.map_nil, List.cons_append, List.nil_append, List.append_nil, List.set_cons_zero, List.set_cons_succ, List.getElem?_cons_zero, List.getElem?_cons_succ, List.length_cons, List.length_nil, Option.bind_some, Option.map_some, Option.bind_none, Option.map_none, if_true, Bool.false_eq_true, if_false, decide_true, decide_false, Bool.not_true, Bool.not_false, cLawEq, z, is_bi, is_ii, z2]
  · rename_i x
    refine ⟨[], run_rt (σ := [some (.str x), some (.str x), none]) hP rfl ?_⟩
    have z : Rf.cmp B [] .is (.str x) .non = some false := rfl
    simp only [E_var, E_cst, E_glb, E_bin, E_neg, negV_int, E_vand, E_vor, E_vone, E_vnot, E_tand, E_tor, E_tone, E_tnot, E_tval, E_cmp, E_ife, E_idx, E_nop, E_tup, E_lst, E_nil, E_cons, E_call, E_callp, E_callk, E_isi, E_bi, E_mt, asTup_tup, onB_t, onB_f, onN_nx, onN_rt, onN_bk, onN_ct, S_seq, S_skip, S_pass, S_brk, S_cont, S_set, S_setC, S_setT, S_par, S_setI, S_exp, S_ret, onBS_t, onBS_f, S_ifs, augA_int, b_add, b_addT, b_sub, c_lt, c_le, c_gt, c_ge, c_eqI, c_neI, t_int, t_bl, bi_abs, bi_int, bi_lenT, bi_lenL, bi_tupL, bi_tupT, gx0, gx1, gx2, gx3, gx4, gr0, gr1, gr2, gr3, gfr0, gfr1, st1, st2, st3, Tg.bind, Rf.bindAll, List.replicate_succ, List.replicate_zero, List.map_cons, List.map_nil, List.cons_append, List.nil_append, List.append_nil, List.set_cons_zero, List.set_cons_succ, List.getElem?_cons_zero, List.getElem?_cons_succ, List.length_cons, List.length_nil, Option.bind_some, Option.map_some, Option.bind_none, Option.map_none, if_true, Bool.false_eq_true, if_false, decide_true, decide_false, Bool.not_true, Bool.not_false, cLawEq, z, is_bs, is_is, is_ss, eqv_str hv]
theorem plD_flat {d : Nat} {v : PV} (h : plD d v) (ht : ∀ xs, v ≠ .tup xs) : plD 0 v := by
  cases v <;> first | exact h | exact absurd rfl (ht _) | (cases d <;> first | exact h | cases h)
theorem laweq_spec (hP : P[f]? = some ⟨2, 3, cLawEq f⟩) (hL : 1000 ≤ L) : ∀ (d : Nat) (v : PV) (n : Nat) (B : MH), plD d v → d ≤ n → Ret P G L (n + 1) f [v, v] B (.bl true) := by
  intro d
  induction d with
  | zero => exact fun v n B hv hn => laweq_flat hP hv
  | succ d ih =>
    intro v n B hv hn
    cases v with
    | tup xs =>
      obtain ⟨h1, h2⟩ := hv
      obtain ⟨m, rfl⟩ : ∃ m, n = m + 1 := ⟨n - 1, by omega⟩
      obtain ⟨σ', T', e, c', e1, e2⟩ := for_inv (B := B) (it := .rng 0 xs.length) (tg := .nm 2) (b := fun σ T => semS (Rf.run P G L (m + 1)) G L (.seq (.ifs (.tnot (.tval (.callp f (.cons (.idx (.var 0) (.var 2)) (.cons (.idx (.var 1) (.var 2)) .nil))))) (.seq (.ret (.cst (.bl false))) .skip) .skip) .skip) σ B T) (m := xs.length)
        (fun i σ T => ∃ c, σ = [some (.tup xs), some (.tup xs), c] ∧ T = [])
        (by
          rintro i σ T hi ⟨c, rfl, rfl⟩
          refine ⟨_, _, _, _, rng_at hi, rfl, .inl ?_, some (.int (0 + i)), rfl, rfl⟩
          have d := dropT_ret (T := []) (ih xs[i] m B (h2 _ (List.getElem_mem hi)) (by omega)) rfl
          have g1 : getIx B [] (.tup xs) (.int i) = some xs[i] := by rw [gxn, List.getElem?_eq_getElem hi]
          rw [Int.zero_add]
          simp only [E_var, E_cst, E_glb, E_bin, E_neg, negV_int, E_vand, E_vor, E_vone, E_vnot, E_tand, E_tor, E_tone, E_tnot, E_tval, E_cmp, E_ife, E_idx, E_nop, E_tup, E_lst, E_nil, E_cons, E_call, E_callp, E_callk, E_isi, E_bi, E_mt, asTup_tup, onB_t, onB_f, onN_nx, onN_rt, onN_bk, onN_ct, S_seq, S_skip, S_pass, S_brk, S_cont, S_set, S_setC, S_setT, S_par, S_setI, S_exp, S_ret, onBS_t, onBS_f, S_ifs, augA_int, b_add, b_addT, b_sub, c_lt, c_le, c_gt, c_ge, c_eqI, c_neI, t_int, t_bl, bi_abs, bi_int, bi_lenT, bi_lenL, bi_tupL, bi_tupT, gx0, gx1, gx2, gx3, gx4, gr0, gr1, gr2, gr3, gfr0, gfr1, st1, st2, st3, Tg.bind, Rf.bindAll, List.replicate_succ, List.replicate_zero, List.map_cons, List.map_nil, List.cons_append, List.nil_append, List.append_nil, List.set_cons_zero, List.set_cons_succ, List.getElem?_cons_zero, List.getElem?_cons_succ, List.length_cons, List.length_nil, Option.bind_some, Option.map_some, Option.bind_none, Option.map_none, if_true, Bool.false_eq_true, if_false, decide_true, decide_false, Bool.not_true, Bool.not_false, g1, d])
        (by
          rintro σ T ⟨c, rfl, rfl⟩
          exact rng_end (Nat.le_refl _))
        xs.length L 0 [some (.tup xs), some (.tup xs), none] [] (by omega) (by omega) ⟨none, rfl, rfl⟩
      subst e1 e2
      have e2 : semS (Rf.run P G L (m + 1)) G L (.for_ (.nm 2) (.itr (.cons (.bi .len (.cons (.var 1) .nil)) .nil)) (.seq (.ifs (.tnot (.tval (.callp f (.cons (.idx (.var 0) (.var 2)) (.cons (.idx (.var 1) (.var 2)) .nil))))) (.seq (.ret (.cst (.bl false))) .skip) .skip) .skip)) [some (.tup xs), some (.tup xs), none] B [] = some (.nx, [some (.tup xs), some (.tup xs), c'], []) := by
        have b1 : -(2 ^ 62) ≤ (xs.length : Int) := Int.le_trans (by decide) (Int.natCast_nonneg _)
        have b2 : (xs.length : Int) < 2 ^ 62 := Int.lt_of_lt_of_le (Int.ofNat_lt.mpr h1) (by decide)
        rw [S_for, E_itr1 (j := (xs.length : Int)) b1 b2 (T1 := []) (by simp only [E_var, E_cst, E_glb, E_bin, E_neg, negV_int, E_vand, E_vor, E_vone, E_vnot, E_tand, E_tor, E_tone, E_tnot, E_tval, E_cmp, E_ife, E_idx, E_nop, E_tup, E_lst, E_nil, E_cons, E_call, E_callp, E_callk, E_isi, E_bi, E_mt, asTup_tup, onB_t, onB_f, onN_nx, onN_rt, onN_bk, onN_ct, S_seq, S_skip, S_pass, S_brk, S_cont, S_set, S_setC, S_setT, S_par, S_setI, S_exp, S_ret, onBS_t, onBS_f, S_ifs, augA_int, b_add, b_addT, b_sub, c_lt, c_le, c_gt, c_ge, c_eqI, c_neI, t_int, t_bl, bi_abs, bi_int, bi_lenT, bi_lenL, bi_tupL, bi_tupT, gx0, gx1, gx2, gx3, gx4, gr0, gr1, gr2, gr3, gfr0, gfr1, st1, st2, st3, Tg.bind, Rf.bindAll, List.replicate_succ, List.replicate_zero, List.map_cons, List.map_nil, List.cons_append, List.nil_append, List.append_nil, List.set_cons_zero, List.set_cons_succ, List.getElem?_cons_zero, List.getElem?_cons_succ, List.length_cons, List.length_nil, Option.bind_some, Option.map_some, Option.bind_none, Option.map_none, if_true, Bool.false_eq_true, if_false, decide_true, decide_false, Bool.not_true, Bool.not_false]), Int.toNat_natCast]
        exact e
      refine ⟨[], run_rt (σ := [some (.tup xs), some (.tup xs), c']) hP rfl ?_⟩
      have z : Rf.cmp B [] .is (.tup xs) .non = some false := rfl
      have z2 : (!decide ((xs.length : Int) = xs.length)) = false := by rw [decide_eq_true rfl]; rfl
      simp only [E_var, E_cst, E_glb, E_bin, E_neg, negV_int, E_vand, E_vor, E_vone, E_vnot, E_tand, E_tor, E_tone, E_tnot, E_tval, E_cmp, E_ife, E_idx, E_nop, E_tup, E_lst, E_nil, E_cons, E_call, E_callp, E_callk, E_isi, E_bi, E_mt, asTup_tup, onB_t, onB_f, onN_nx, onN_rt, onN_bk, onN_ct, S_seq, S_skip, S_pass, S_brk, S_cont, S_set, S_setC, S_setT, S_par, S_setI, S_exp, S_ret, onBS_t, onBS_f, S_ifs, augA_int, b_add, b_addT, b_sub, c_lt, c_le, c_gt, c_ge, c_eqI, c_neI, t_int, t_bl, bi_abs, bi_int, bi_lenT, bi_lenL, bi_tupL, bi_tupT, gx0, gx1, gx2, gx3, gx4, gr0, gr1, gr2, gr3, gfr0, gfr1, st1, st2, st3, Tg.bind, Rf.bindAll, List.replicate_succ, List.replicate_zero, List.map_cons, List.map_nil, List.cons_append, List.nil_append, List.append_nil, List.set_cons_zero, List.set_cons_succ, List.getElem?_cons_zero, List.getElem?_cons_succ, List.length_cons, List.length_nil, Option.bind_some, Option.map_some, Option.bind_none, Option.map_none, if_true, Bool.false_eq_true, if_false, decide_true, decide_false, Bool.not_true, Bool.not_false, cLawEq, z, is_bt, is_it, is_st, is_tt, z2, e2]
    | _ => exact laweq_flat hP (plD_flat hv (by intro xs z; cases z))
end
end Pl
end
section
/-! Pl: the law's draws. -/
namespace Pl
open PySem Rf
/-! ### written lists -/
section
variable {B T : MH}
/-- T with the list k written -/
def put (B T : MH) (k : Nat) (xs : List PV) : MH := T.set (k - B.length) xs
theorem put_len (k : Nat) (xs : List PV) : (put B T k xs).length = T.length := List.length_set
theorem rd_lt {k : Nat} {xs : List PV} (h : rd B T k = some xs) : k < B.length + T.length := by
  have := (List.getElem?_eq_some_iff.mp (show (B ++ T)[k]? = some xs from h)).1
  rwa [List.length_append] at this
theorem wr_put {k : Nat} {old xs : List PV} (h : rd B T k = some old) (hn : B.length ≤ k) (hl : xs.length ≤ big) : wr B T k xs = some (put B T k xs) := by
  have := rd_lt h
  exact if_pos ⟨hn, by omega, hl⟩
theorem rd_put {k : Nat} {old xs : List PV} (h : rd B T k = some old) (hn : B.length ≤ k) : rd B (put B T k xs) k = some xs := by
  have := rd_lt h
  show (B ++ T.set (k - B.length) xs)[k]? = _
  rw [List.getElem?_append_right hn, List.getElem?_set_self (by omega)]
theorem rd_put_ne {k j : Nat} {xs : List PV} (h : j ≠ k) (hn : B.length ≤ k) : rd B (put B T k xs) j = rd B T j := by
  show (B ++ T.set (k - B.length) xs)[j]? = (B ++ T)[j]?
  by_cases hj : j < B.length
  · rw [List.getElem?_append_left hj, List.getElem?_append_left hj]
  · rw [List.getElem?_append_right (by omega), List.getElem?_append_right (by omega), List.getElem?_set_ne (by omega)]
theorem rd_app {k : Nat} {xs : List PV} {g : MH} (h : rd B T k = some xs) : rd B (T ++ g) k = some xs := by
  show (B ++ (T ++ g))[k]? = _
  rw [← List.append_assoc, List.getElem?_append_left]
  · exact h
  · exact (List.getElem?_eq_some_iff.mp (show (B ++ T)[k]? = some xs from h)).1
theorem rd_new {xs : List PV} {g : MH} : rd B (T ++ xs :: g) (B.length + T.length) = some xs := by
  show (B ++ (T ++ xs :: g))[B.length + T.length]? = _
  rw [← List.append_assoc, List.getElem?_append_right (by rw [List.length_append]; exact Nat.le_refl _), List.length_append, Nat.sub_self]; rfl
theorem mk_ok {xs : List PV} (h : xs.length ≤ big) : mk B T xs = some (.ref (B.length + T.length), T ++ [xs]) := if_pos h
theorem setIx_put {k i : Nat} {xs : List PV} {v : PV} (h : rd B T k = some xs) (hn : B.length ≤ k) (hi : i < xs.length) (hl : xs.length ≤ big) : setIx B T (.ref k) (.int i) v = some (put B T k (xs.set i v)) := by
  show (rd B T k).bind _ = _
  rw [h]
  show (L2.ixN xs.length i).bind _ = _
  rw [ix_lt hi]
  exact wr_put h hn (by rw [List.length_set]; exact hl)
theorem append_put {k : Nat} {xs : List PV} {v : PV} (h : rd B T k = some xs) (hn : B.length ≤ k) (hl : xs.length < big) : Rf.mt B T .append (.ref k) [v] = some (.non, put B T k (xs ++ [v])) := by
  show (rd B T k).bind _ = _
  rw [h]
  show (if xs.length < big then _ else none) = _
  rw [if_pos hl, wr_put h hn (by rw [List.length_append]; exact hl)]; rfl
theorem pop0_put {k : Nat} {x : PV} {xs : List PV} (h : rd B T k = some (x :: xs)) (hn : B.length ≤ k) (hl : xs.length ≤ big) : Rf.mt B T .popAt (.ref k) [.int 0] = some (x, put B T k xs) := by
  show (rd B T k).bind _ = _
  rw [h]
  show (L2.ixN (x :: xs).length ((0 : Nat) : Int)).bind _ = _
  rw [ix_lt (by simp)]
  show ((wr B T k xs).map _) = _
  rw [wr_put h hn hl]; rfl
end
/-! ### the state of the draws -/
/-- src at s: the list of great cells at g, the cells at c; at most m draws so far -/
structure Sx (B T : MH) (s g c m : Nat) : Prop where
  ex : ∃ (st : Int) (n : Nat) (gr cs : List Int), rd B T s = some [.int st, .int n, .ref g, .ref c] ∧ rd B T g = some (gr.map .int) ∧ rd B T c = some (cs.map .int) ∧ 0 ≤ st ∧ n ≤ m ∧ (∀ x ∈ gr, 0 ≤ x) ∧ cs ≠ [] ∧ (∀ x ∈ cs, 0 ≤ x ∧ x < 2147483647) ∧ gr.length ≤ big
  sg : s ≠ g
  sc : s ≠ c
  gc : g ≠ c
  bs : B.length ≤ s
  bg : B.length ≤ g
/-- lists that stood stand, but those of the draws -/
structure Kept (B T T' : MH) (s g : Nat) : Prop where
  len : T.length ≤ T'.length
  kp : ∀ k xs, k ≠ s → k ≠ g → rd B T k = some xs → rd B T' k = some xs
section
variable {B T T1 T2 : MH} {s g c m : Nat}
theorem Kept.refl : Kept B T T s g := ⟨Nat.le_refl _, fun _ _ _ _ h => h⟩
theorem Kept.trans (a : Kept B T T1 s g) (b : Kept B T1 T2 s g) : Kept B T T2 s g := ⟨Nat.le_trans a.len b.len, fun k xs h1 h2 h => b.kp k xs h1 h2 (a.kp k xs h1 h2 h)⟩
theorem Kept.app {x : MH} : Kept B T (T ++ x) s g := ⟨by rw [List.length_append]; omega, fun k xs _ _ h => rd_app h⟩
theorem Kept.putS {xs : List PV} (h : B.length ≤ s) : Kept B T (put B T s xs) s g := ⟨by rw [put_len]; exact Nat.le_refl _, fun k ys h1 h2 e => by rw [rd_put_ne h1 h]; exact e⟩
theorem Kept.putG {xs : List PV} (h : B.length ≤ g) : Kept B T (put B T g xs) s g := ⟨by rw [put_len]; exact Nat.le_refl _, fun k ys h1 h2 e => by rw [rd_put_ne h2 h]; exact e⟩
theorem Sx.mono {k : Nat} (h : Sx B T s g c m) (hk : m ≤ k) : Sx B T s g c k := by
  obtain ⟨st, n, gr, cs, h1, h2, h3, h4, h5, h6⟩ := h.ex
  exact ⟨⟨st, n, gr, cs, h1, h2, h3, h4, by omega, h6⟩, h.sg, h.sc, h.gc, h.bs, h.bg⟩
/-- all that stood stands -/
theorem Sx.app {x : MH} (h : Sx B T s g c m) : Sx B (T ++ x) s g c m := by
  obtain ⟨st, n, gr, cs, h1, h2, h3, h4⟩ := h.ex
  exact ⟨⟨st, n, gr, cs, rd_app h1, rd_app h2, rd_app h3, h4⟩, h.sg, h.sc, h.gc, h.bs, h.bg⟩
/-- another list is written -/
theorem Sx.put {k : Nat} {xs : List PV} (h : Sx B T s g c m) (hk : B.length ≤ k) (h1 : s ≠ k) (h2 : g ≠ k) (h3 : c ≠ k) : Sx B (put B T k xs) s g c m := by
  obtain ⟨st, n, gr, cs, e1, e2, e3, e4⟩ := h.ex
  exact ⟨⟨st, n, gr, cs, by rw [rd_put_ne h1 hk]; exact e1, by rw [rd_put_ne h2 hk]; exact e2, by rw [rd_put_ne h3 hk]; exact e3, e4⟩, h.sg, h.sc, h.gc, h.bs, h.bg⟩
end
theorem four_big : 4 ≤ big := by decide +kernel
def cDraw : S := (.seq (.setI (.var 0) (.cst (.int 1)) (.bin .add (.idx (.var 0) (.cst (.int 1))) (.cst (.int 1)))) (.seq (.ifs (.tand (.cmp .eq (.idx (.var 0) (.cst (.int 0))) (.cst (.int 0))) (.tone (.cmp .gt (.bi .len (.cons (.idx (.var 0) (.cst (.int 2))) .nil)) (.cst (.int 0))))) (.seq (.setI (.var 0) (.cst (.int 0)) (.mt .popAt (.idx (.var 0) (.cst (.int 2))) (.cons (.cst (.int 0)) .nil))) .skip) .skip) (.seq (.ifs (.cmp .gt (.idx (.var 0) (.cst (.int 0))) (.cst (.int 0))) (.seq (.set 2 (.bin .mod (.bi .int (.cons (.idx (.var 0) (.cst (.int 0))) .nil)) (.var 1))) (.seq (.setI (.var 0) (.cst (.int 0)) (.bin .fdiv (.idx (.var 0) (.cst (.int 0))) (.var 1))) (.seq (.ret (.var 2)) .skip))) .skip) (.seq (.set 3 (.idx (.var 0) (.cst (.int 3)))) (.seq (.set 4 (.idx (.var 3) (.bin .mod (.bi .int (.cons (.idx (.var 0) (.cst (.int 1))) .nil)) (.bi .len (.cons (.var 3) .nil))))) (.seq (.set 5 (.bin .mod (.bi .int (.cons (.bin .add (.bin .add (.bin .mul (.var 4) (.cst (.int 48271))) (.bin .mul (.idx (.var 0) (.cst (.int 1))) (.cst (.int 92821)))) (.cst (.int 17))) .nil)) (.cst (.int 2147483647)))) (.seq (.set 6 (.bin .mod (.bi .int (.cons (.bin .add (.bin .add (.bin .mul (.var 5) (.var 5)) (.bin .mul (.var 5) (.cst (.int 40692)))) (.bin .mul (.idx (.var 0) (.cst (.int 1))) (.cst (.int 69621)))) .nil)) (.cst (.int 2147483629)))) (.seq (.ret (.bin .mod (.bi .int (.cons (.bin .fdiv (.var 6) (.cst (.int 64))) .nil)) (.var 1))) .skip))))))))
/-- one draw -/
def DrawOk (P : List Fn) (G : List (Str × PV)) (L n f : Nat) : Prop := ∀ (B T : MH) (s g c m : Nat) (many : Int), Sx B T s g c m → 0 < many → many < 2 ^ 60 → m < 2 ^ 60 → ∃ (d : Int) (T' : MH), Rf.run P G L n f [.ref s, .int many] B T = some (.int d, T') ∧ 0 ≤ d ∧ d < many ∧ Sx B T' s g c (m + 1) ∧ Kept B T T' s g
section
variable {P : List Fn} {G : List (Str × PV)} {L n f : Nat} {B T : MH} {CF : Nat → List PV → MH → MH → M}
/-- behind the first two rows: src's list is as it says -/
theorem draw_rest {s g c m : Nat} {st cnt : Int} {gr cs : List Int} {many : Int} (hs : rd B T s = some [.int st, .int cnt, .ref g, .ref c]) (hg : rd B T g = some (gr.map .int)) (hc : rd B T c = some (cs.map .int)) (h0 : 0 ≤ st) (c0 : 0 ≤ cnt) (cm : cnt ≤ m) (hgr : ∀ x ∈ gr, 0 ≤ x) (hne : cs ≠ []) (hcs : ∀ x ∈ cs, 0 ≤ x ∧ x < 2147483647) (hbig : gr.length ≤ big)
    (sg : s ≠ g) (sc : s ≠ c) (gc : g ≠ c) (bs : B.length ≤ s) (bg : B.length ≤ g) (hm : 0 < many) (hm2 : many < 2 ^ 60) (hm3 : m < 2 ^ 61) :
    ∃ (d : Int) (T' : MH) (σ' : En), semS CF G L (.seq (.ifs (.cmp .gt (.idx (.var 0) (.cst (.int 0))) (.cst (.int 0))) (.seq (.set 2 (.bin .mod (.bi .int (.cons (.idx (.var 0) (.cst (.int 0))) .nil)) (.var 1))) (.seq (.setI (.var 0) (.cst (.int 0)) (.bin .fdiv (.idx (.var 0) (.cst (.int 0))) (.var 1))) (.seq (.ret (.var 2)) .skip))) .skip) (.seq (.set 3 (.idx (.var 0) (.cst (.int 3)))) (.seq (.set 4 (.idx (.var 3) (.bin .mod (.bi .int (.cons (.idx (.var 0) (.cst (.int 1))) .nil)) (.bi .len (.cons (.var 3) .nil))))) (.seq (.set 5 (.bin .mod (.bi .int (.cons (.bin .add (.bin .add (.bin .mul (.var 4) (.cst (.int 48271))) (.bin .mul (.idx (.var 0) (.cst (.int 1))) (.cst (.int 92821)))) (.cst (.int 17))) .nil)) (.cst (.int 2147483647)))) (.seq (.set 6 (.bin .mod (.bi .int (.cons (.bin .add (.bin .add (.bin .mul (.var 5) (.var 5)) (.bin .mul (.var 5) (.cst (.int 40692)))) (.bin .mul (.idx (.var 0) (.cst (.int 1))) (.cst (.int 69621)))) .nil)) (.cst (.int 2147483629)))) (.seq (.ret (.bin .mod (.bi .int (.cons (.bin .fdiv (.var 6) (.cst (.int 64))) .nil)) (.var 1))) .skip))))))
      [some (.ref s), some (.int many), none, none, none, none, none] B T = some (.rt (.int d), σ', T') ∧ 0 ≤ d ∧ d < many ∧ Sx B T' s g c m ∧ Kept B T T' s g := by
  have md := fun (i : Int) => b_mod (B := B) (T := T) (i := i) hm
  by_cases hst : 0 < st
  · have z : decide (0 < st) = true := decide_eq_true hst
    have dv : divOk many = true := divOk_of hm (m := 60) (by omega) (by decide)
    have si := setIx_put (i := 0) (v := .int (st / many)) hs bs (by simp) four_big
    rw [Int.ofNat_zero] at si
    refine ⟨st % many, put B T s [.int (st / many), .int cnt, .ref g, .ref c], [some (.ref s), some (.int many), some (.int (st % many)), none, none, none, none], ?_, Int.emod_nonneg _ (by omega), Int.emod_lt_of_pos _ hm, ?_, Kept.putS bs⟩
    · simp only [E_var, E_cst, E_glb, E_bin, E_neg, negV_int, E_vand, E_vor, E_vone, E_vnot, E_tand, E_tor, E_tone, E_tnot, E_tval, E_cmp, E_ife, E_idx, E_nop, E_tup, E_lst, E_nil, E_cons, E_call, E_callp, E_callk, E_isi, E_bi, E_mt, asTup_tup, onB_t, onB_f, onN_nx, onN_rt, onN_bk, onN_ct, S_seq, S_skip, S_pass, S_brk, S_cont, S_set, S_setC, S_setT, S_par, S_setI, S_exp, S_ret, onBS_t, onBS_f, S_ifs, augA_int, b_add, b_addT, b_sub, c_lt, c_le, c_gt, c_ge, c_eqI, c_neI, t_int, t_bl, bi_abs, bi_int, bi_lenT, bi_lenL, bi_tupL, bi_tupT, gx0, gx1, gx2, gx3, gx4, gr0, gr1, gr2, gr3, gfr0, gfr1, st1, st2, st3, Tg.bind, Rf.bindAll, List.replicate_succ, List.replicate_zero, List.map_cons, List.map_nil, List.cons_append, List.nil_append, List.append_nil, List.set_cons_zero, List.set_cons_succ, List.getElem?_cons_zero, List.getElem?_cons_succ, List.length_cons, List.length_nil, Option.bind_some, Option.map_some, Option.bind_none, Option.map_none, if_true, Bool.false_eq_true, if_false, decide_true, decide_false, Bool.not_true, Bool.not_false, hs, z, md, b_div dv, si]
    · exact ⟨⟨st / many, cnt.toNat, gr, cs, by rw [rd_put hs bs, Int.toNat_of_nonneg c0], by rw [rd_put_ne (Ne.symm sg) bs]; exact hg, by rw [rd_put_ne (Ne.symm sc) bs]; exact hc, Int.ediv_nonneg h0 (by omega), by omega, hgr, hne, hcs, hbig⟩, sg, sc, gc, bs, bg⟩
  · have z : decide (0 < st) = false := decide_eq_false hst
    have hl : 0 < cs.length := List.length_pos_iff.mpr hne
    have hl2 : 0 < (cs.length : Int) := by omega
    have hix : (cnt % (cs.length : Int)).toNat < cs.length := by
      have h1 := Int.emod_nonneg cnt (b := (cs.length : Int)) (by omega)
      have h2 := Int.emod_lt_of_pos cnt hl2
      omega
    have gi : getIx B T (.ref c) (.int (cnt % (cs.length : Int))) = some (.int cs[(cnt % (cs.length : Int)).toNat]) := by
      have h1 := Int.emod_nonneg cnt (b := (cs.length : Int)) (by omega)
      have := grn (B := B) (T := T) (k := c) (cnt % (cs.length : Int)).toNat
      rw [Int.toNat_of_nonneg h1] at this
      rw [this, hc, Option.bind_some, List.getElem?_map, List.getElem?_eq_getElem hix]; rfl
    obtain ⟨x0, x1⟩ := hcs _ (List.getElem_mem hix)
    generalize cs[(cnt % (cs.length : Int)).toNat] = cell at gi x0 x1
    have ml : (cs.map PV.int).length = cs.length := List.length_map ..
    have p1 : mulOk cell 48271 = true := mulOk_of (m := 31) (n := 16) (by omega) (by decide) (by decide)
    have p2 : mulOk cnt 92821 = true := mulOk_of (m := 61) (n := 17) (by omega) (by decide) (by decide)
    have p3 : mulOk cnt 69621 = true := mulOk_of (m := 61) (n := 17) (by omega) (by decide) (by decide)
    have m1 := b_mod (B := B) (T := T) (i := cell * 48271 + cnt * 92821 + 17) (j := 2147483647) (by decide)
    have o0 := Int.emod_nonneg (cell * 48271 + cnt * 92821 + 17) (b := 2147483647) (by decide)
    have o1 := Int.emod_lt_of_pos (cell * 48271 + cnt * 92821 + 17) (b := 2147483647) (by decide)
    generalize (cell * 48271 + cnt * 92821 + 17) % 2147483647 = one at m1 o0 o1
    have p4 : mulOk one one = true := mulOk_of (m := 31) (n := 31) (by omega) (by omega) (by decide)
    have p5 : mulOk one 40692 = true := mulOk_of (m := 31) (n := 16) (by omega) (by decide) (by decide)
    have m2 := b_mod (B := B) (T := T) (i := one * one + one * 40692 + cnt * 69621) (j := 2147483629) (by decide)
    generalize (one * one + one * 40692 + cnt * 69621) % 2147483629 = two at m2
    have d64 : divOk 64 = true := by decide +kernel
    have ln := b_mod (B := B) (T := T) (i := cnt) hl2
    refine ⟨two / 64 % many, T, [some (.ref s), some (.int many), none, some (.ref c), some (.int cell), some (.int one), some (.int two)], ?_, Int.emod_nonneg _ (by omega), Int.emod_lt_of_pos _ hm, ?_, .refl⟩
    · simp only [E_var, E_cst, E_glb, E_bin, E_neg, negV_int, E_vand, E_vor, E_vone, E_vnot, E_tand, E_tor, E_tone, E_tnot, E_tval, E_cmp, E_ife, E_idx, E_nop, E_tup, E_lst, E_nil, E_cons, E_call, E_callp, E_callk, E_isi, E_bi, E_mt, asTup_tup, onB_t, onB_f, onN_nx, onN_rt, onN_bk, onN_ct, S_seq, S_skip, S_pass, S_brk, S_cont, S_set, S_setC, S_setT, S_par, S_setI, S_exp, S_ret, onBS_t, onBS_f, S_ifs, augA_int, b_add, b_addT, b_sub, c_lt, c_le, c_gt, c_ge, c_eqI, c_neI, t_int, t_bl, bi_abs, bi_int, bi_lenT, bi_lenL, bi_tupL, bi_tupT, gx0, gx1, gx2, gx3, gx4, gr0, gr1, gr2, gr3, gfr0, gfr1, st1, st2, st3, Tg.bind, Rf.bindAll, List.replicate_succ, List.replicate_zero, List.map_cons, List.map_nil, List.cons_append, List.nil_append, List.append_nil, List.set_cons_zero, List.set_cons_succ, List.getElem?_cons_zero, List.getElem?_cons_succ, List.length_cons, List.length_nil, Option.bind_some, Option.map_some, Option.bind_none, Option.map_none, if_true, Bool.false_eq_true, if_false, decide_true, decide_false, Bool.not_true, Bool.not_false, hs, hc, z, ml, ln, gi, b_mul p1, b_mul p2, b_mul p3, b_mul p4, b_mul p5, m1, m2, b_div d64, md]
    · exact ⟨⟨st, cnt.toNat, gr, cs, by rw [hs, Int.toNat_of_nonneg c0], hg, hc, h0, by omega, hgr, hne, hcs, hbig⟩, sg, sc, gc, bs, bg⟩
theorem draw_spec (hP : P[f]? = some ⟨2, 7, cDraw⟩) : DrawOk P G L (n + 1) f := by
  intro B T s g c m many sx hm hm2 hm3
  obtain ⟨st, cnt, gr, cs, hs, hg, hc, h0, hcnt, hgr, hne, hcs, hbig⟩ := sx.ex
  obtain ⟨sg, sc, gc, bs, bg⟩ := (⟨sx.sg, sx.sc, sx.gc, sx.bs, sx.bg⟩ : s ≠ g ∧ s ≠ c ∧ g ≠ c ∧ B.length ≤ s ∧ B.length ≤ g)
  -- the count
  have s1 : setIx B T (.ref s) (.int 1) (.int ((cnt : Int) + 1)) = some (put B T s [.int st, .int ((cnt : Int) + 1), .ref g, .ref c]) := setIx_put (i := 1) (v := .int ((cnt : Int) + 1)) hs bs (by simp) four_big
  have hs1 : rd B (put B T s [.int st, .int ((cnt : Int) + 1), .ref g, .ref c]) s = _ := rd_put hs bs
  have hg1 : rd B (put B T s [.int st, .int ((cnt : Int) + 1), .ref g, .ref c]) g = _ := (rd_put_ne (Ne.symm sg) bs).trans hg
  have hc1 : rd B (put B T s [.int st, .int ((cnt : Int) + 1), .ref g, .ref c]) c = _ := (rd_put_ne (Ne.symm sc) bs).trans hc
  have k1 : Kept B T (put B T s [.int st, .int ((cnt : Int) + 1), .ref g, .ref c]) s g := Kept.putS bs
  generalize put B T s [.int st, .int ((cnt : Int) + 1), .ref g, .ref c] = T1 at s1 hs1 hg1 hc1 k1
  by_cases hp : st = 0 ∧ gr ≠ []
  · obtain ⟨e0, hgn⟩ := hp
    subst e0
    obtain ⟨x, gr', rfl⟩ : ∃ x r, gr = x :: r := by
      cases gr with
      | nil => exact absurd rfl hgn
      | cons x r => exact ⟨x, r, rfl⟩
    have hb' : gr'.length ≤ big := Nat.le_trans (Nat.le_succ _) hbig
    have pp := pop0_put (B := B) (T := T1) (k := g) (x := .int x) (xs := gr'.map .int) hg1 bg (by rw [List.length_map]; exact hb')
    have hg2 : rd B (put B T1 g (gr'.map .int)) g = _ := rd_put hg1 bg
    have hs2 : rd B (put B T1 g (gr'.map .int)) s = _ := (rd_put_ne sg bg).trans hs1
    have hc2 : rd B (put B T1 g (gr'.map .int)) c = _ := (rd_put_ne (Ne.symm gc) bg).trans hc1
    have k2 : Kept B T1 (put B T1 g (gr'.map .int)) s g := Kept.putG bg
    generalize put B T1 g (gr'.map .int) = T2 at pp hg2 hs2 hc2 k2
    have s3 : setIx B T2 (.ref s) (.int 0) (.int x) = some (put B T2 s [.int x, .int ((cnt : Int) + 1), .ref g, .ref c]) := setIx_put (i := 0) (v := .int x) hs2 bs (by simp) four_big
    have hs3 : rd B (put B T2 s [.int x, .int ((cnt : Int) + 1), .ref g, .ref c]) s = _ := rd_put hs2 bs
    have hg3 : rd B (put B T2 s [.int x, .int ((cnt : Int) + 1), .ref g, .ref c]) g = _ := (rd_put_ne (Ne.symm sg) bs).trans hg2
    have hc3 : rd B (put B T2 s [.int x, .int ((cnt : Int) + 1), .ref g, .ref c]) c = _ := (rd_put_ne (Ne.symm sc) bs).trans hc2
    have k3 : Kept B T2 (put B T2 s [.int x, .int ((cnt : Int) + 1), .ref g, .ref c]) s g := Kept.putS bs
    generalize put B T2 s [.int x, .int ((cnt : Int) + 1), .ref g, .ref c] = T3 at s3 hs3 hg3 hc3 k3
    obtain ⟨d, T', σ', e, d0, d1, sx', k4⟩ := draw_rest (CF := Rf.run P G L n) (G := G) (L := L) (m := m + 1) hs3 hg3 hc3 (hgr x (List.mem_cons_self ..)) (by omega) (by omega) (fun y hy => hgr y (List.mem_cons_of_mem _ hy)) hne hcs hb' sg sc gc bs bg hm hm2 (by omega)
    refine ⟨d, T', run_rt (σ := σ') hP rfl ?_, d0, d1, sx', ((k1.trans k2).trans k3).trans k4⟩
    have z1 : decide ((0 : Int) = 0) = true := rfl
    have z2 : decide ((0 : Int) < (((x :: gr').map PV.int).length : Int)) = true := decide_eq_true (by rw [List.length_map, List.length_cons]; omega)
    rw [show startE 7 [PV.ref s, .int many] = [some (.ref s), some (.int many), none, none, none, none, none] from rfl]
    show semS _ G L cDraw _ B T = _
    unfold cDraw
    rw [S_seq]
    simp only [S_setI, E_bin, E_idx, E_var, E_cst, List.getElem?_cons_zero, Option.bind_some, Option.map_some, gr1, hs, List.getElem?_cons_succ, b_add, s1, onN_nx]
    rw [S_seq]
    simp only [S_ifs, S_seq (s := .setI _ _ _), S_skip, S_setI, E_tand, E_tone, E_cmp, E_idx, E_var, E_cst, E_bi, E_cons, E_nil, asTup_tup, E_mt, List.getElem?_cons_zero, Option.bind_some, Option.map_some, gr0, gr2, hs1, hg1, hs2, List.getElem?_cons_succ, c_eqI, c_gt, z1, z2, decide_true, onB_t, onBS_t, bi_lenL, pp, s3, onN_nx]
    exact e
  · obtain ⟨d, T', σ', e, d0, d1, sx', k4⟩ := draw_rest (CF := Rf.run P G L n) (G := G) (L := L) (m := m + 1) hs1 hg1 hc1 h0 (by omega) (by omega) hgr hne hcs hbig sg sc gc bs bg hm hm2 (by omega)
    refine ⟨d, T', run_rt (σ := σ') hP rfl ?_, d0, d1, sx', k1.trans k4⟩
    rw [show startE 7 [PV.ref s, .int many] = [some (.ref s), some (.int many), none, none, none, none, none] from rfl]
    show semS _ G L cDraw _ B T = _
    unfold cDraw
    rw [S_seq]
    simp only [S_setI, E_bin, E_idx, E_var, E_cst, List.getElem?_cons_zero, Option.bind_some, Option.map_some, gr1, hs, List.getElem?_cons_succ, b_add, s1, onN_nx]
    rw [S_seq]
    by_cases hz : st = 0
    · subst hz
      have hgn : gr = [] := by
        rcases Classical.em (gr = []) with q | q
        · exact q
        · exact absurd ⟨rfl, q⟩ hp
      subst hgn
      have z1 : decide ((0 : Int) = 0) = true := rfl
      have z2 : decide ((0 : Int) < ((([] : List Int).map PV.int).length : Int)) = false := rfl
      simp only [S_ifs, S_skip, E_tand, E_tone, E_cmp, E_idx, E_var, E_cst, E_bi, E_cons, E_nil, asTup_tup, List.getElem?_cons_zero, Option.bind_some, Option.map_some, gr0, gr2, hs1, hg1, List.getElem?_cons_succ, c_eqI, c_gt, z1, z2, decide_true, onB_t, onBS_f, bi_lenL, onN_nx]
      exact e
    · have z1 : decide (st = 0) = false := decide_eq_false hz
      simp only [S_ifs, S_skip, E_tand, E_tone, E_cmp, E_idx, E_var, E_cst, List.getElem?_cons_zero, Option.bind_some, Option.map_some, gr0, hs1, List.getElem?_cons_succ, c_eqI, z1, onB_f, onBS_f, onN_nx]
      exact e
end
end Pl
end
section
/-! Pl: comprehensions whose items leave the lists as they are; the law's src. -/
namespace Pl
open PySem Rf
section
variable {P : List Fn} {G : List (Str × PV)} {L n f : Nat} {B T T1 : MH} {CF : Nat → List PV → MH → MH → M} {α β : Type}
theorem comp_loop1 {as : List α} {enc : α → PV} {g : α → PV} {p : α → Bool} {bd : α → En} {j : Rf.It} {tg : Tg} {test elt : C} {σw : En} {acc0 : List PV}
    (hat : ∀ i, j.at B T1 i = some ((as.map enc)[i]?)) (hb : ∀ a ∈ as, tg.bind (enc a) σw = some (bd a)) (ht : ∀ a ∈ as, (sem CF G L test).e (bd a) B T1 = some (.bl (p a), T1)) (he : ∀ a ∈ as, p a = true → (sem CF G L elt).e (bd a) B T1 = some (g a, T1)) (hL : as.length < L) (hz : acc0.length + as.length ≤ big) :
    loopG B j tg (fun σ1 T2 => (sem CF G L test).e σ1 B T2) (fun σ1 T2 acc => ((sem CF G L elt).e σ1 B T2).bind fun y => if acc.length < big then some (acc ++ [y.1], y.2) else none) σw L 0 T1 acc0 = some (acc0 ++ ((as.filter p).map g), T1) := by
  obtain ⟨acc', T', e, e1, e2⟩ := comp_inv (B := B) (it := j) (tg := tg) (test := fun σ1 T2 => (sem CF G L test).e σ1 B T2) (k := fun σ1 T2 acc => ((sem CF G L elt).e σ1 B T2).bind fun y => if acc.length < big then some (acc ++ [y.1], y.2) else none) (σ := σw) (m := as.length)
    (fun i T acc => T = T1 ∧ acc = acc0 ++ ((as.take i).filter p).map g)
    (by
      rintro i T acc hi ⟨rfl, rfl⟩
      have hm : as[i] ∈ as := List.getElem_mem hi
      refine ⟨enc as[i], bd as[i], p as[i], T, ?_, hb _ hm, ht _ hm, ?_⟩
      · rw [hat, List.getElem?_map, List.getElem?_eq_getElem hi]; rfl
      · have hs : (as.take (i + 1)).filter p = (as.take i).filter p ++ (if p as[i] = true then [as[i]] else []) := by
          rw [List.take_succ_eq_append_getElem hi, List.filter_append]
          congr 1
          by_cases h : p as[i] = true
          · rw [if_pos h, List.filter_cons_of_pos h]; rfl
          · rw [if_neg h, List.filter_cons_of_neg h]; rfl
        by_cases h : p as[i] = true
        · rw [if_pos h]
          have hlen : ((as.take i).filter p).length ≤ i := Nat.le_trans (List.length_filter_le _ _) (by rw [List.length_take]; exact Nat.min_le_left _ _)
          have hl : (acc0 ++ ((as.take i).filter p).map g).length < big := by
            rw [List.length_append, List.length_map]; omega
          refine ⟨acc0 ++ ((as.take i).filter p).map g ++ [g as[i]], T, ?_, rfl, ?_⟩
          · rw [he _ hm h]
            show (if _ then _ else none) = _
            rw [if_pos hl]
          · rw [hs, if_pos h, List.map_append, ← List.append_assoc]; rfl
        · rw [if_neg h]
          refine ⟨rfl, ?_⟩
          rw [hs, if_neg h, List.append_nil])
    (by
      rintro T acc ⟨rfl, rfl⟩
      rw [hat, List.getElem?_eq_none (by simp)])
    as.length L 0 T1 acc0 (by omega) hL ⟨rfl, by simp⟩
  subst e1 e2
  rw [List.take_length] at e
  exact e
/-- [elt for tg in it if test] -/
theorem comp_pure {as : List α} {enc : α → PV} {g : α → PV} {p : α → Bool} {bd : α → En} {j : Rf.It} {tg : Tg} {it test elt : C} {own : List (Str × Nat)} {σ : En}
    (hit : (sem CF G L it).it (wipeE σ (own.map (·.2))) B T = some (j, T1)) (hat : ∀ i, j.at B T1 i = some ((as.map enc)[i]?)) (hb : ∀ a ∈ as, tg.bind (enc a) (wipeE (wipeE σ (own.map (·.2))) (tg.slots ++ [])) = some (bd a))
    (ht : ∀ a ∈ as, (sem CF G L test).e (bd a) B T1 = some (.bl (p a), T1)) (he : ∀ a ∈ as, p a = true → (sem CF G L elt).e (bd a) B T1 = some (g a, T1)) (hL : as.length < L) (hz : as.length ≤ big) :
    (sem CF G L (.comp elt (.gen tg it test .gnil) own)).e σ B T = some (.ref (B.length + T1.length), T1 ++ [(as.filter p).map g]) := by
  rw [E_comp]
  have e := comp_loop1 (CF := CF) (G := G) (L := L) (acc0 := []) hat hb ht he hL (by rw [List.length_nil, Nat.zero_add]; exact hz)
  have e2 : (sem CF G L (.gen tg it test .gnil)).g (fun σ1 T1 acc => ((sem CF G L elt).e σ1 B T1).bind fun y => if acc.length < big then some (acc ++ [y.1], y.2) else none) (wipeE σ (own.map (·.2))) B T [] = some ((as.filter p).map g, T1) := by
    show ((sem CF G L it).it (wipeE σ (own.map (·.2))) B T).bind _ = _
    rw [hit]
    exact e
  rw [e2]
  exact mk_ok (by rw [List.length_map]; exact Nat.le_trans (List.length_filter_le _ _) hz)
theorem filter_true {as : List α} : as.filter (fun _ => true) = as := List.filter_eq_self.mpr fun _ _ => rfl
/-! ### _law_pick -/
def cPick (d : Nat) : S := (.seq (.ret (.idx (.var 1) (.call d (.cons (.var 0) (.cons (.bi .len (.cons (.var 1) .nil)) .nil))))) .skip)
theorem pick_spec (hP : P[f]? = some ⟨2, 2, cPick d⟩) (hd : DrawOk P G L n d) {s g c m k : Nat} {xs : List PV} (sx : Sx B T s g c m) (hk : rd B T k = some xs) (hks : k ≠ s) (hkg : k ≠ g) (hne : xs ≠ []) (hl : xs.length < 1000) (hm : m < 2 ^ 60) :
    ∃ (x : PV) (T' : MH), Rf.run P G L (n + 1) f [.ref s, .ref k] B T = some (x, T') ∧ x ∈ xs ∧ Sx B T' s g c (m + 1) ∧ Kept B T T' s g := by
  have hl0 : 0 < xs.length := List.length_pos_iff.mpr hne
  obtain ⟨i, T', e, i0, i1, sx', kp⟩ := hd B T s g c m xs.length sx (by omega) (by omega) hm
  have hk' := kp.kp k xs hks hkg hk
  have hi : i.toNat < xs.length := by omega
  refine ⟨xs[i.toNat], T', run_rt (σ := [some (.ref s), some (.ref k)]) hP rfl ?_, List.getElem_mem hi, sx', kp⟩
  have gi := grn (B := B) (T := T') (k := k) i.toNat
  rw [Int.toNat_of_nonneg i0, hk', Option.bind_some, List.getElem?_eq_getElem hi] at gi
  simp only [E_var, E_cst, E_glb, E_bin, E_neg, negV_int, E_vand, E_vor, E_vone, E_vnot, E_tand, E_tor, E_tone, E_tnot, E_tval, E_cmp, E_ife, E_idx, E_nop, E_tup, E_lst, E_nil, E_cons, E_call, E_callp, E_callk, E_isi, E_bi, E_mt, asTup_tup, onB_t, onB_f, onN_nx, onN_rt, onN_bk, onN_ct, S_seq, S_skip, S_pass, S_brk, S_cont, S_set, S_setC, S_setT, S_par, S_setI, S_exp, S_ret, onBS_t, onBS_f, S_ifs, augA_int, b_add, b_addT, b_sub, c_lt, c_le, c_gt, c_ge, c_eqI, c_neI, t_int, t_bl, bi_abs, bi_int, bi_lenT, bi_lenL, bi_tupL, bi_tupT, gx0, gx1, gx2, gx3, gx4, gr0, gr1, gr2, gr3, gfr0, gfr1, st1, st2, st3, Tg.bind, Rf.bindAll, List.replicate_succ, List.replicate_zero, List.map_cons, List.map_nil, List.cons_append, List.nil_append, List.append_nil, List.set_cons_zero, List.set_cons_succ, List.getElem?_cons_zero, List.getElem?_cons_succ, List.length_cons, List.length_nil, Option.bind_some, Option.map_some, Option.bind_none, Option.map_none, if_true, Bool.false_eq_true, if_false, decide_true, decide_false, Bool.not_true, Bool.not_false, cPick, hk, e, gi]
/-! ### _law_src -/
def cSrc : S := (.seq (.setC 1 (.comp (.bi .int (.cons (.var 3) .nil)) (.gen (.nm 3) (.itv (.var 0)) .nop .gnil) [("cell", 3)])) (.seq (.exp (.mt .append (.var 1) (.cons (.bin .add (.bin .mul (.bi .len (.cons (.var 1) .nil)) (.cst (.int 37))) (.cst (.int 5))) .nil))) (.seq (.set 2 (.lst .nil)) (.seq (.ifs (.cmp .eq (.bin .mod (.bi .int (.cons (.idx (.var 1) (.cst (.int 0))) .nil)) (.cst (.int 2))) (.cst (.int 0))) (.seq (.setC 2 (.comp (.bi .abs (.cons (.var 3) .nil)) (.gen (.nm 3) (.itv (.var 1)) (.cmp .ge (.bi .abs (.cons (.var 3) .nil)) (.bin .pow (.cst (.int 10)) (.cst (.int 18)))) .gnil) [("cell", 3)])) .skip) .skip) (.seq (.ret (.lst (.cons (.cst (.int 0)) (.cons (.cst (.int 0)) (.cons (.var 2) (.cons (.comp (.bin .mod (.bi .int (.cons (.var 3) .nil)) (.cst (.int 2147483647))) (.gen (.nm 3) (.itv (.var 1)) .nop .gnil) [("cell", 3)]) .nil)))))) .skip)))))
theorem I_itvS {σ : En} {a : C} {ns : List Int} (e : (sem CF G L a).e σ B T = some (.scr ns, T1)) : (sem CF G L (.itv a)).it σ B T = some (.seq (ns.map .int), T1) := by
  show ((sem CF G L a).e σ B T).bind _ = _
  rw [e]; rfl
theorem b_pow18 : Rf.bin B T .pow (.int 10) (.int 18) = some (.int (10 ^ 18), T) := by
  show (if (decide (0 ≤ (18 : Int)) && (decide ((18 : Int) ≤ 1000000) && decide ((10 : Int).natAbs < 2 ^ 64))) = true then _ else none) = _
  rw [if_pos (by decide +kernel)]; rfl
theorem src_spec (hP : P[f]? = some ⟨1, 4, cSrc⟩) {ns : List Int} (hl : ns.length ≤ 63) (hL : 1000 ≤ L) :
    ∃ (s g c : Nat) (T' : MH), Rf.run P G L (n + 1) f [.scr ns] B T = some (.ref s, T') ∧ Sx B T' s g c 0 ∧ B.length + T.length ≤ s ∧ B.length + T.length ≤ g ∧ B.length + T.length ≤ c ∧ ∀ k xs, rd B T k = some xs → rd B T' k = some xs := by
  have hbig : 63 < big := by decide +kernel
  have hbig2 : 64 ≤ big := by decide +kernel
  -- the cells
  have e1 : (sem (Rf.run P G L n) G L (.comp (.bi .int (.cons (.var 3) .nil)) (.gen (.nm 3) (.itv (.var 0)) .nop .gnil) [("cell", 3)])).e [some (.scr ns), none, none, none] B T = some (.ref (B.length + T.length), T ++ [ns.map .int]) := by
    have := comp_pure (CF := Rf.run P G L n) (G := G) (L := L) (B := B) (T := T) (T1 := T) (as := ns) (enc := .int) (g := .int) (p := fun _ => true) (bd := fun a => [some (.scr ns), none, none, some (.int a)]) (σ := [some (.scr ns), none, none, none]) (tg := .nm 3) (it := .itv (.var 0)) (test := .nop) (elt := .bi .int (.cons (.var 3) .nil)) (own := [("cell", 3)]) (I_itvS (by simp only [E_var, E_cst, E_glb, E_bin, E_neg, negV_int, E_vand, E_vor, E_vone, E_vnot, E_tand, E_tor, E_tone, E_tnot, E_tval, E_cmp, E_ife, E_idx, E_nop, E_tup, E_lst, E_nil, E_cons, E_call, E_callp, E_callk, E_isi, E_bi, E_mt, asTup_tup, onB_t, onB_f, onN_nx, onN_rt, onN_bk, onN_ct, S_seq, S_skip, S_pass, S_brk, S_cont, S_set, S_setC, S_setT, S_par, S_setI, S_exp, S_ret, onBS_t, onBS_f, S_ifs, augA_int, b_add, b_addT, b_sub, c_lt, c_le, c_gt, c_ge, c_eqI, c_neI, t_int, t_bl, bi_abs, bi_int, bi_lenT, bi_lenL, bi_tupL, bi_tupT, gx0, gx1, gx2, gx3, gx4, gr0, gr1, gr2, gr3, gfr0, gfr1, st1, st2, st3, Tg.bind, Rf.bindAll, List.replicate_succ, List.replicate_zero, List.map_cons, List.map_nil, List.cons_append, List.nil_append, List.append_nil, List.set_cons_zero, List.set_cons_succ, List.getElem?_cons_zero, List.getElem?_cons_succ, List.length_cons, List.length_nil, Option.bind_some, Option.map_some, Option.bind_none, Option.map_none, if_true, Bool.false_eq_true, if_false, decide_true, decide_false, Bool.not_true, Bool.not_false, wipeE])) (fun i => rfl) (fun a _ => rfl) (fun a _ => rfl) (fun a _ _ => by simp only [E_var, E_cst, E_glb, E_bin, E_neg, negV_int, E_vand, E_vor, E_vone, E_vnot, E_tand, E_tor, E_tone, E_tnot, E_tval, E_cmp, E_ife, E_idx, E_nop, E_tup, E_lst, E_nil, E_cons, E_call, E_callp, E_callk, E_isi, E_bi, E_mt, asTup_tup, onB_t, onB_f, onN_nx, onN_rt, onN_bk, onN_ct, S_seq, S_skip, S_pass, S_brk, S_cont, S_set, S_setC, S_setT, S_par, S_setI, S_exp, S_ret, onBS_t, onBS_f, S_ifs, augA_int, b_add, b_addT, b_sub, c_lt, c_le, c_gt, c_ge, c_eqI, c_neI, t_int, t_bl, bi_abs, bi_int, bi_lenT, bi_lenL, bi_tupL, bi_tupT, gx0, gx1, gx2, gx3, gx4, gr0, gr1, gr2, gr3, gfr0, gfr1, st1, st2, st3, Tg.bind, Rf.bindAll, List.replicate_succ, List.replicate_zero, List.map_cons, List.map_nil, List.cons_append, List.nil_append, List.append_nil, List.set_cons_zero, List.set_cons_succ, List.getElem?_cons_zero, List.getElem?_cons_succ, List.length_cons, List.length_nil, Option.bind_some, Option.map_some, Option.bind_none, Option.map_none, if_true, Bool.false_eq_true, if_false, decide_true, decide_false, Bool.not_true, Bool.not_false]) (by omega) (by omega)
    rw [filter_true] at this
    exact this
  -- one more cell
  have r1 : rd B (T ++ [ns.map PV.int]) (B.length + T.length) = some (ns.map .int) := rd_new
  have m1 : mulOk (ns.length : Int) 37 = true := mulOk_of (m := 7) (n := 6) (by omega) (by decide) (by decide)
  have a1 := append_put (v := .int ((ns.length : Int) * 37 + 5)) r1 (by omega) (by rw [List.length_map]; omega)
  have r2 : rd B (put B (T ++ [ns.map PV.int]) (B.length + T.length) (ns.map PV.int ++ [.int ((ns.length : Int) * 37 + 5)])) (B.length + T.length) = some ((ns ++ [(ns.length : Int) * 37 + 5]).map .int) := by
    rw [rd_put r1 (by omega), List.map_append]; rfl
  have old2 : ∀ k xs, rd B T k = some xs → rd B (put B (T ++ [ns.map PV.int]) (B.length + T.length) (ns.map PV.int ++ [.int ((ns.length : Int) * 37 + 5)])) k = some xs := fun k xs h => by
    have := rd_lt h
    rw [rd_put_ne (by omega) (by omega)]
    exact rd_app h
  have len2 : (put B (T ++ [ns.map PV.int]) (B.length + T.length) (ns.map PV.int ++ [.int ((ns.length : Int) * 37 + 5)])).length = T.length + 1 := by rw [put_len, List.length_append]; rfl
  have ml : (ns.map PV.int).length = ns.length := List.length_map ..
  generalize hcs : ns ++ [(ns.length : Int) * 37 + 5] = cs at r2
  have cl : cs.length = ns.length + 1 := by rw [← hcs, List.length_append]; rfl
  have cne : cs ≠ [] := by intro z; rw [z] at cl; simp at cl
  generalize put B (T ++ [ns.map PV.int]) (B.length + T.length) (ns.map PV.int ++ [.int ((ns.length : Int) * 37 + 5)]) = T2 at a1 r2 old2 len2
  obtain ⟨c0, hc0⟩ : ∃ c0, cs[0]? = some c0 := ⟨cs[0], List.getElem?_eq_getElem (by omega)⟩
  have mk0 : mk B T2 [] = some (.ref (B.length + T2.length), T2 ++ [[]]) := mk_ok (Nat.zero_le _)
  -- the great ones, whichever way
  have key : ∃ (g : Nat) (T3 : MH) (gr : List Int), semS (Rf.run P G L n) G L (.ifs (.cmp .eq (.bin .mod (.bi .int (.cons (.idx (.var 1) (.cst (.int 0))) .nil)) (.cst (.int 2))) (.cst (.int 0))) (.seq (.setC 2 (.comp (.bi .abs (.cons (.var 3) .nil)) (.gen (.nm 3) (.itv (.var 1)) (.cmp .ge (.bi .abs (.cons (.var 3) .nil)) (.bin .pow (.cst (.int 10)) (.cst (.int 18)))) .gnil) [("cell", 3)])) .skip) .skip)
      [some (.scr ns), some (.ref (B.length + T.length)), some (.ref (B.length + T2.length)), none] B (T2 ++ [[]]) = some (.nx, [some (.scr ns), some (.ref (B.length + T.length)), some (.ref g), none], T3) ∧ rd B T3 g = some (gr.map .int) ∧ rd B T3 (B.length + T.length) = some (cs.map .int) ∧ (∀ x ∈ gr, 0 ≤ x) ∧ gr.length ≤ big ∧ B.length + T.length < g ∧ g < B.length + T3.length ∧ (∀ k xs, rd B T k = some xs → rd B T3 k = some xs) := by
    have r3 : rd B (T2 ++ [[]]) (B.length + T.length) = some (cs.map .int) := rd_app r2
    have i0 : getIx B (T2 ++ [[]]) (.ref (B.length + T.length)) (.int 0) = some (.int c0) := by rw [gr0, r3, Option.bind_some, List.getElem?_map, hc0]; rfl
    have md := b_mod (B := B) (T := T2 ++ [[]]) (i := c0) (j := 2) (by decide)
    by_cases hz : c0 % 2 = 0
    · have z : decide (c0 % 2 = 0) = true := decide_eq_true hz
      have e3 : (sem (Rf.run P G L n) G L (.comp (.bi .abs (.cons (.var 3) .nil)) (.gen (.nm 3) (.itv (.var 1)) (.cmp .ge (.bi .abs (.cons (.var 3) .nil)) (.bin .pow (.cst (.int 10)) (.cst (.int 18)))) .gnil) [("cell", 3)])).e [some (.scr ns), some (.ref (B.length + T.length)), some (.ref (B.length + T2.length)), none] B (T2 ++ [[]]) = some (.ref (B.length + (T2 ++ [[]]).length), (T2 ++ [[]]) ++ [(cs.filter fun x => decide ((10 : Int) ^ 18 ≤ x.natAbs)).map fun x => .int x.natAbs]) :=
        comp_pure (CF := Rf.run P G L n) (G := G) (L := L) (as := cs) (enc := .int) (g := fun x => .int x.natAbs) (p := fun x => decide ((10 : Int) ^ 18 ≤ x.natAbs)) (bd := fun a => [some (.scr ns), some (.ref (B.length + T.length)), some (.ref (B.length + T2.length)), some (.int a)]) (tg := .nm 3)
          (I_itvL (by simp only [E_var, E_cst, E_glb, E_bin, E_neg, negV_int, E_vand, E_vor, E_vone, E_vnot, E_tand, E_tor, E_tone, E_tnot, E_tval, E_cmp, E_ife, E_idx, E_nop, E_tup, E_lst, E_nil, E_cons, E_call, E_callp, E_callk, E_isi, E_bi, E_mt, asTup_tup, onB_t, onB_f, onN_nx, onN_rt, onN_bk, onN_ct, S_seq, S_skip, S_pass, S_brk, S_cont, S_set, S_setC, S_setT, S_par, S_setI, S_exp, S_ret, onBS_t, onBS_f, S_ifs, augA_int, b_add, b_addT, b_sub, c_lt, c_le, c_gt, c_ge, c_eqI, c_neI, t_int, t_bl, bi_abs, bi_int, bi_lenT, bi_lenL, bi_tupL, bi_tupT, gx0, gx1, gx2, gx3, gx4, gr0, gr1, gr2, gr3, gfr0, gfr1, st1, st2, st3, Tg.bind, Rf.bindAll, List.replicate_succ, List.replicate_zero, List.map_cons, List.map_nil, List.cons_append, List.nil_append, List.append_nil, List.set_cons_zero, List.set_cons_succ, List.getElem?_cons_zero, List.getElem?_cons_succ, List.length_cons, List.length_nil, Option.bind_some, Option.map_some, Option.bind_none, Option.map_none, if_true, Bool.false_eq_true, if_false, decide_true, decide_false, Bool.not_true, Bool.not_false, wipeE]) r3) (fun i => at_lref r3) (fun a _ => rfl) (fun a _ => by simp only [E_var, E_cst, E_glb, E_bin, E_neg, negV_int, E_vand, E_vor, E_vone, E_vnot, E_tand, E_tor, E_tone, E_tnot, E_tval, E_cmp, E_ife, E_idx, E_nop, E_tup, E_lst, E_nil, E_cons, E_call, E_callp, E_callk, E_isi, E_bi, E_mt, asTup_tup, onB_t, onB_f, onN_nx, onN_rt, onN_bk, onN_ct, S_seq, S_skip, S_pass, S_brk, S_cont, S_set, S_setC, S_setT, S_par, S_setI, S_exp, S_ret, onBS_t, onBS_f, S_ifs, augA_int, b_add, b_addT, b_sub, c_lt, c_le, c_gt, c_ge, c_eqI, c_neI, t_int, t_bl, bi_abs, bi_int, bi_lenT, bi_lenL, bi_tupL, bi_tupT, gx0, gx1, gx2, gx3, gx4, gr0, gr1, gr2, gr3, gfr0, gfr1, st1, st2, st3, Tg.bind, Rf.bindAll, List.replicate_succ, List.replicate_zero, List.map_cons, List.map_nil, List.cons_append, List.nil_append, List.append_nil, List.set_cons_zero, List.set_cons_succ, List.getElem?_cons_zero, List.getElem?_cons_succ, List.length_cons, List.length_nil, Option.bind_some, Option.map_some, Option.bind_none, Option.map_none, if_true, Bool.false_eq_true, if_false, decide_true, decide_false, Bool.not_true, Bool.not_false, b_pow18]) (fun a _ _ => by simp only [E_var, E_cst, E_glb, E_bin, E_neg, negV_int, E_vand, E_vor, E_vone, E_vnot, E_tand, E_tor, E_tone, E_tnot, E_tval, E_cmp, E_ife, E_idx, E_nop, E_tup, E_lst, E_nil, E_cons, E_call, E_callp, E_callk, E_isi, E_bi, E_mt, asTup_tup, onB_t, onB_f, onN_nx, onN_rt, onN_bk, onN_ct, S_seq, S_skip, S_pass, S_brk, S_cont, S_set, S_setC, S_setT, S_par, S_setI, S_exp, S_ret, onBS_t, onBS_f, S_ifs, augA_int, b_add, b_addT, b_sub, c_lt, c_le, c_gt, c_ge, c_eqI, c_neI, t_int, t_bl, bi_abs, bi_int, bi_lenT, bi_lenL, bi_tupL, bi_tupT, gx0, gx1, gx2, gx3, gx4, gr0, gr1, gr2, gr3, gfr0, gfr1, st1, st2, st3, Tg.bind, Rf.bindAll, List.replicate_succ, List.replicate_zero, List.map_cons, List.map_nil, List.cons_append, List.nil_append, List.append_nil, List.set_cons_zero, List.set_cons_succ, List.getElem?_cons_zero, List.getElem?_cons_succ, List.length_cons, List.length_nil, Option.bind_some, Option.map_some, Option.bind_none, Option.map_none, if_true, Bool.false_eq_true, if_false, decide_true, decide_false, Bool.not_true, Bool.not_false]) (by omega) (by omega)
      refine ⟨B.length + (T2 ++ [[]]).length, (T2 ++ [[]]) ++ [(cs.filter fun x => decide ((10 : Int) ^ 18 ≤ x.natAbs)).map fun x => .int x.natAbs], (cs.filter fun x => decide ((10 : Int) ^ 18 ≤ x.natAbs)).map fun x => (x.natAbs : Int), ?_, ?_, rd_app r3, ?_, ?_, ?_, ?_, fun k xs h => rd_app (rd_app (old2 k xs h))⟩
      · simp only [E_var, E_cst, E_glb, E_bin, E_neg, negV_int, E_vand, E_vor, E_vone, E_vnot, E_tand, E_tor, E_tone, E_tnot, E_tval, E_cmp, E_ife, E_idx, E_nop, E_tup, E_lst, E_nil, E_cons, E_call, E_callp, E_callk, E_isi, E_bi, E_mt, asTup_tup, onB_t, onB_f, onN_nx, onN_rt, onN_bk, onN_ct, S_seq, S_skip, S_pass, S_brk, S_cont, S_set, S_setC, S_setT, S_par, S_setI, S_exp, S_ret, onBS_t, onBS_f, S_ifs, augA_int, b_add, b_addT, b_sub, c_lt, c_le, c_gt, c_ge, c_eqI, c_neI, t_int, t_bl, bi_abs, bi_int, bi_lenT, bi_lenL, bi_tupL, bi_tupT, gx0, gx1, gx2, gx3, gx4, gr0, gr1, gr2, gr3, gfr0, gfr1, st1, st2, st3, Tg.bind, Rf.bindAll, List.replicate_succ, List.replicate_zero, List.map_cons, List.map_nil, List.cons_append, List.nil_append, List.append_nil, List.set_cons_zero, List.set_cons_succ, List.getElem?_cons_zero, List.getElem?_cons_succ, List.length_cons, List.length_nil, Option.bind_some, Option.map_some, Option.bind_none, Option.map_none, if_true, Bool.false_eq_true, if_false, decide_true, decide_false, Bool.not_true, Bool.not_false, i0, md, z, e3]
      · rw [List.map_map]; exact rd_new
      · intro x hx
        obtain ⟨y, _, rfl⟩ := List.mem_map.mp hx
        omega
      · rw [List.length_map]
        have := List.length_filter_le (fun x : Int => decide ((10 : Int) ^ 18 ≤ x.natAbs)) cs
        omega
      · rw [List.length_append]; simp only [List.length_cons, List.length_nil]; omega
      · rw [List.length_append, List.length_append, List.length_append]; simp only [List.length_cons, List.length_nil]; omega
    · have z : decide (c0 % 2 = 0) = false := decide_eq_false hz
      refine ⟨B.length + T2.length, T2 ++ [[]], [], ?_, rd_new, r3, ?_, Nat.zero_le _, by omega, by rw [List.length_append]; simp only [List.length_cons, List.length_nil]; omega, fun k xs h => rd_app (old2 k xs h)⟩
      · simp only [E_var, E_cst, E_glb, E_bin, E_neg, negV_int, E_vand, E_vor, E_vone, E_vnot, E_tand, E_tor, E_tone, E_tnot, E_tval, E_cmp, E_ife, E_idx, E_nop, E_tup, E_lst, E_nil, E_cons, E_call, E_callp, E_callk, E_isi, E_bi, E_mt, asTup_tup, onB_t, onB_f, onN_nx, onN_rt, onN_bk, onN_ct, S_seq, S_skip, S_pass, S_brk, S_cont, S_set, S_setC, S_setT, S_par, S_setI, S_exp, S_ret, onBS_t, onBS_f, S_ifs, augA_int, b_add, b_addT, b_sub, c_lt, c_le, c_gt, c_ge, c_eqI, c_neI, t_int, t_bl, bi_abs, bi_int, bi_lenT, bi_lenL, bi_tupL, bi_tupT, gx0, gx1, gx2, gx3, gx4, gr0, gr1, gr2, gr3, gfr0, gfr1, st1, st2, st3, Tg.bind, Rf.bindAll, List.replicate_succ, List.replicate_zero, List.map_cons, List.map_nil, List.cons_append, List.nil_append, List.append_nil, List.set_cons_zero, List.set_cons_succ, List.getElem?_cons_zero, List.getElem?_cons_succ, List.length_cons, List.length_nil, Option.bind_some, Option.map_some, Option.bind_none, Option.map_none, if_true, Bool.false_eq_true, if_false, decide_true, decide_false, Bool.not_true, Bool.not_false, i0, md, z]
      · intro x hx; cases hx
  obtain ⟨g, T3, gr, e4, hg, hc3, hgr, hgb, gl, gt, old3⟩ := key
  -- the cells made small
  have e5 : (sem (Rf.run P G L n) G L (.comp (.bin .mod (.bi .int (.cons (.var 3) .nil)) (.cst (.int 2147483647))) (.gen (.nm 3) (.itv (.var 1)) .nop .gnil) [("cell", 3)])).e [some (.scr ns), some (.ref (B.length + T.length)), some (.ref g), none] B T3 = some (.ref (B.length + T3.length), T3 ++ [cs.map fun x => .int (x % 2147483647)]) := by
    have := comp_pure (CF := Rf.run P G L n) (G := G) (L := L) (B := B) (T := T3) (T1 := T3) (as := cs) (enc := .int) (g := fun x => .int (x % 2147483647)) (p := fun _ => true) (bd := fun a => [some (.scr ns), some (.ref (B.length + T.length)), some (.ref g), some (.int a)]) (σ := [some (.scr ns), some (.ref (B.length + T.length)), some (.ref g), none]) (tg := .nm 3) (it := .itv (.var 1)) (test := .nop) (elt := .bin .mod (.bi .int (.cons (.var 3) .nil)) (.cst (.int 2147483647))) (own := [("cell", 3)])
      (I_itvL (by simp only [E_var, E_cst, E_glb, E_bin, E_neg, negV_int, E_vand, E_vor, E_vone, E_vnot, E_tand, E_tor, E_tone, E_tnot, E_tval, E_cmp, E_ife, E_idx, E_nop, E_tup, E_lst, E_nil, E_cons, E_call, E_callp, E_callk, E_isi, E_bi, E_mt, asTup_tup, onB_t, onB_f, onN_nx, onN_rt, onN_bk, onN_ct, S_seq, S_skip, S_pass, S_brk, S_cont, S_set, S_setC, S_setT, S_par, S_setI, S_exp, S_ret, onBS_t, onBS_f, S_ifs, augA_int, b_add, b_addT, b_sub, c_lt, c_le, c_gt, c_ge, c_eqI, c_neI, t_int, t_bl, bi_abs, bi_int, bi_lenT, bi_lenL, bi_tupL, bi_tupT, gx0, gx1, gx2, gx3, gx4, gr0, gr1, gr2, gr3, gfr0, gfr1, st1, st2, st3, Tg.bind, Rf.bindAll, List.replicate_succ, List.replicate_zero, List.map_cons, List.map_nil, List.cons_append, List.nil_append, List.append_nil, List.set_cons_zero, List.set_cons_succ, List.getElem?_cons_zero, List.getElem?_cons_succ, List.length_cons, List.length_nil, Option.bind_some, Option.map_some, Option.bind_none, Option.map_none, if_true, Bool.false_eq_true, if_false, decide_true, decide_false, Bool.not_true, Bool.not_false, wipeE]) hc3) (fun i => at_lref hc3) (fun a _ => rfl) (fun a _ => rfl) (fun a _ _ => by simp only [E_var, E_cst, E_glb, E_bin, E_neg, negV_int, E_vand, E_vor, E_vone, E_vnot, E_tand, E_tor, E_tone, E_tnot, E_tval, E_cmp, E_ife, E_idx, E_nop, E_tup, E_lst, E_nil, E_cons, E_call, E_callp, E_callk, E_isi, E_bi, E_mt, asTup_tup, onB_t, onB_f, onN_nx, onN_rt, onN_bk, onN_ct, S_seq, S_skip, S_pass, S_brk, S_cont, S_set, S_setC, S_setT, S_par, S_setI, S_exp, S_ret, onBS_t, onBS_f, S_ifs, augA_int, b_add, b_addT, b_sub, c_lt, c_le, c_gt, c_ge, c_eqI, c_neI, t_int, t_bl, bi_abs, bi_int, bi_lenT, bi_lenL, bi_tupL, bi_tupT, gx0, gx1, gx2, gx3, gx4, gr0, gr1, gr2, gr3, gfr0, gfr1, st1, st2, st3, Tg.bind, Rf.bindAll, List.replicate_succ, List.replicate_zero, List.map_cons, List.map_nil, List.cons_append, List.nil_append, List.append_nil, List.set_cons_zero, List.set_cons_succ, List.getElem?_cons_zero, List.getElem?_cons_succ, List.length_cons, List.length_nil, Option.bind_some, Option.map_some, Option.bind_none, Option.map_none, if_true, Bool.false_eq_true, if_false, decide_true, decide_false, Bool.not_true, Bool.not_false, b_mod (B := B) (T := T3) (i := a) (j := 2147483647) (by decide)]) (by omega) (by omega)
    rw [filter_true] at this
    exact this
  have mk4 : mk B (T3 ++ [cs.map fun x => PV.int (x % 2147483647)]) [.int 0, .int 0, .ref g, .ref (B.length + T3.length)] = some (.ref (B.length + (T3 ++ [cs.map fun x => PV.int (x % 2147483647)]).length), (T3 ++ [cs.map fun x => PV.int (x % 2147483647)]) ++ [[.int 0, .int 0, .ref g, .ref (B.length + T3.length)]]) := mk_ok four_big
  refine ⟨B.length + (T3 ++ [cs.map fun x => PV.int (x % 2147483647)]).length, g, B.length + T3.length, (T3 ++ [cs.map fun x => PV.int (x % 2147483647)]) ++ [[.int 0, .int 0, .ref g, .ref (B.length + T3.length)]], run_rt (σ := [some (.scr ns), some (.ref (B.length + T.length)), some (.ref g), none]) hP rfl (by
    rw [show startE 4 [PV.scr ns] = [some (.scr ns), none, none, none] from rfl]
    simp only [E_var, E_cst, E_glb, E_bin, E_neg, negV_int, E_vand, E_vor, E_vone, E_vnot, E_tand, E_tor, E_tone, E_tnot, E_tval, E_cmp, E_ife, E_idx, E_nop, E_tup, E_lst, E_nil, E_cons, E_call, E_callp, E_callk, E_isi, E_bi, E_mt, asTup_tup, onB_t, onB_f, onN_nx, onN_rt, onN_bk, onN_ct, S_seq, S_skip, S_pass, S_brk, S_cont, S_set, S_setC, S_setT, S_par, S_setI, S_exp, S_ret, onBS_t, onBS_f, augA_int, b_add, b_addT, b_sub, c_lt, c_le, c_gt, c_ge, c_eqI, c_neI, t_int, t_bl, bi_abs, bi_int, bi_lenT, bi_lenL, bi_tupL, bi_tupT, gx0, gx1, gx2, gx3, gx4, gr0, gr1, gr2, gr3, gfr0, gfr1, st1, st2, st3, Tg.bind, Rf.bindAll, List.replicate_succ, List.replicate_zero, List.map_cons, List.map_nil, List.cons_append, List.nil_append, List.append_nil, List.set_cons_zero, List.set_cons_succ, List.getElem?_cons_zero, List.getElem?_cons_succ, List.length_cons, List.length_nil, Option.bind_some, Option.map_some, Option.bind_none, Option.map_none, if_true, Bool.false_eq_true, if_false, decide_true, decide_false, Bool.not_true, Bool.not_false, cSrc, e1, r1, ml, b_mul m1, a1, mk0, e4, e5, mk4]), ?_, ?_, by omega, ?_, fun k xs h => rd_app (rd_app (old3 k xs h))⟩
  · refine ⟨⟨0, 0, gr, cs.map fun x => x % 2147483647, rd_new, rd_app (rd_app hg), ?_, Int.le_refl _, Nat.le_refl _, hgr, ?_, ?_, hgb⟩, ?_, ?_, ?_, ?_, by omega⟩
    · rw [List.map_map]
      exact rd_app rd_new
    · intro z; exact cne (List.map_eq_nil_iff.mp z)
    · intro x hx
      obtain ⟨y, _, rfl⟩ := List.mem_map.mp hx
      exact ⟨Int.emod_nonneg _ (by decide), Int.emod_lt_of_pos _ (by decide)⟩
    · rw [List.length_append]; simp only [List.length_cons, List.length_nil]; omega
    · rw [List.length_append]; simp only [List.length_cons, List.length_nil]; omega
    · omega
    · omega
  · rw [List.length_append]; omega
  · have := rd_lt hc3; omega
end
end Pl
end
section
/-! Pl: two clauses; helpers of levels. -/
namespace Pl
open PySem Rf
section
variable {P : List Fn} {G : List (Str × PV)} {L n f : Nat} {B T T1 : MH} {CF : Nat → List PV → MH → MH → M} {α β : Type}
theorem flatMap_take {as : List α} {h : α → List PV} {i : Nat} (hi : i < as.length) : (as.take (i + 1)).flatMap h = (as.take i).flatMap h ++ h as[i] := by
  rw [List.take_succ_eq_append_getElem hi, List.flatMap_append]; simp
theorem flatMap_len {as : List α} {h : α → List PV} {M : Nat} (hM : ∀ a ∈ as, (h a).length ≤ M) : (as.flatMap h).length ≤ as.length * M := by
  induction as with
  | nil => simp
  | cons a as ih =>
    rw [List.flatMap_cons, List.length_append, List.length_cons, Nat.add_mul, Nat.one_mul]
    have := hM a (List.mem_cons_self ..)
    have := ih fun b hb => hM b (List.mem_cons_of_mem _ hb)
    omega
/-- [elt for tg in it for tg2 in it2 if test] -/
theorem comp2_pure {as : List α} {enc : α → PV} {bs : α → List β} {enc2 : α → β → PV} {g : α → β → PV} {p : α → β → Bool} {bd : α → En} {bd2 : α → β → En} {j : Rf.It} {j2 : α → Rf.It} {tg tg2 : Tg} {it it2 test elt : C} {own : List (Str × Nat)} {σ : En} {M : Nat}
    (hit : (sem CF G L it).it (wipeE σ (own.map (·.2))) B T = some (j, T1)) (hat : ∀ i, j.at B T1 i = some ((as.map enc)[i]?)) (hb : ∀ a ∈ as, tg.bind (enc a) (wipeE (wipeE σ (own.map (·.2))) (tg.slots ++ (tg2.slots ++ []))) = some (bd a))
    (hit2 : ∀ a ∈ as, (sem CF G L it2).it (bd a) B T1 = some (j2 a, T1)) (hat2 : ∀ a ∈ as, ∀ i, (j2 a).at B T1 i = some (((bs a).map (enc2 a))[i]?)) (hb2 : ∀ a ∈ as, ∀ b ∈ bs a, tg2.bind (enc2 a b) (wipeE (bd a) (tg2.slots ++ [])) = some (bd2 a b))
    (ht : ∀ a ∈ as, ∀ b ∈ bs a, (sem CF G L test).e (bd2 a b) B T1 = some (.bl (p a b), T1)) (he : ∀ a ∈ as, ∀ b ∈ bs a, p a b = true → (sem CF G L elt).e (bd2 a b) B T1 = some (g a b, T1)) (hL : as.length < L) (hL2 : ∀ a ∈ as, (bs a).length < L) (hM : ∀ a ∈ as, (bs a).length ≤ M) (hz : as.length * M ≤ big) :
    (sem CF G L (.comp elt (.gen tg it .nop (.gen tg2 it2 test .gnil)) own)).e σ B T = some (.ref (B.length + T1.length), T1 ++ [as.flatMap fun a => ((bs a).filter (p a)).map (g a)]) := by
  rw [E_comp]
  have hM2 : ∀ a ∈ as, (((bs a).filter (p a)).map (g a)).length ≤ M := fun a ha => by
    rw [List.length_map]; exact Nat.le_trans (List.length_filter_le _ _) (hM a ha)
  have e2 : (sem CF G L (.gen tg it .nop (.gen tg2 it2 test .gnil))).g (fun σ1 T1 acc => ((sem CF G L elt).e σ1 B T1).bind fun y => if acc.length < big then some (acc ++ [y.1], y.2) else none) (wipeE σ (own.map (·.2))) B T [] = some (as.flatMap fun a => ((bs a).filter (p a)).map (g a), T1) := by
    show ((sem CF G L it).it (wipeE σ (own.map (·.2))) B T).bind _ = _
    rw [hit]
    obtain ⟨acc', T', e, e1, e3⟩ := comp_inv (B := B) (it := j) (tg := tg) (test := fun σ1 T2 => (sem CF G L .nop).e σ1 B T2) (k := fun σ1 T2 acc => (sem CF G L (.gen tg2 it2 test .gnil)).g (fun σ1 T1 acc => ((sem CF G L elt).e σ1 B T1).bind fun y => if acc.length < big then some (acc ++ [y.1], y.2) else none) σ1 B T2 acc) (σ := wipeE (wipeE σ (own.map (·.2))) (tg.slots ++ (tg2.slots ++ []))) (m := as.length)
      (fun i T acc => T = T1 ∧ acc = (as.take i).flatMap fun a => ((bs a).filter (p a)).map (g a))
      (by
        rintro i T acc hi ⟨rfl, rfl⟩
        have hm : as[i] ∈ as := List.getElem_mem hi
        refine ⟨enc as[i], bd as[i], true, T, ?_, hb _ hm, rfl, ?_⟩
        · rw [hat, List.getElem?_map, List.getElem?_eq_getElem hi]; rfl
        · rw [if_pos rfl]
          have hlen := flatMap_len (as := as.take i) (h := fun a => ((bs a).filter (p a)).map (g a)) (M := M) fun a ha => hM2 a (List.mem_of_mem_take ha)
          rw [List.length_take, Nat.min_eq_left (by omega)] at hlen
          have h1 := hM as[i] hm
          have h2 : (i + 1) * M ≤ as.length * M := Nat.mul_le_mul_right _ (by omega)
          rw [Nat.add_mul, Nat.one_mul] at h2
          refine ⟨(as.take i).flatMap (fun a => ((bs a).filter (p a)).map (g a)) ++ ((bs as[i]).filter (p as[i])).map (g as[i]), T, ?_, rfl, (flatMap_take hi).symm⟩
          show ((sem CF G L it2).it (bd as[i]) B T).bind _ = _
          rw [hit2 _ hm]
          exact comp_loop1 (hat2 _ hm) (hb2 _ hm) (ht _ hm) (he _ hm) (hL2 _ hm) (by omega))
      (by
        rintro T acc ⟨rfl, rfl⟩
        rw [hat, List.getElem?_eq_none (by simp)])
      as.length L 0 T1 [] (by omega) hL ⟨rfl, by simp⟩
    subst e1 e3
    rw [List.take_length] at e
    exact e
  rw [e2]
  exact mk_ok (Nat.le_trans (flatMap_len hM2) hz)
/-- range(m) as numbers -/
theorem at_rng0 {m i : Nat} : (Rf.It.rng 0 m).at B T i = some (((List.range m).map fun (x : Nat) => PV.int x)[i]?) := by
  rcases Nat.lt_or_ge i m with h | h
  · rw [rng_at h, List.getElem?_map, List.getElem?_range h]
    rw [Int.zero_add]; rfl
  · rw [rng_end h, List.getElem?_eq_none (by simpa using h)]
theorem E_itrN {σ : En} {j : Nat} (h : j < 2 ^ 62) {a : C} {T1 : MH} (e : (sem CF G L a).e σ B T = some (.tup [.int (j : Nat)], T1)) : (sem CF G L (.itr a)).it σ B T = some (.rng 0 j, T1) := by
  have h1 : -(2 ^ 62) ≤ (j : Int) := Int.le_trans (by decide) (Int.natCast_nonneg _)
  have h2 : (j : Int) < 2 ^ 62 := by
    have : ((j : Nat) : Int) < ((2 ^ 62 : Nat) : Int) := Int.ofNat_lt.mpr h
    exact this
  have := E_itr1 h1 h2 e
  rw [Int.toNat_natCast] at this
  exact this
end
end Pl
end
section
namespace K36
open PySem PySem.Spec PyProof.Rows L2 Rf
def top (i : Nat) : Stmt := PySem.Challenge.pw_toldandpaid_k36_sorting_four_digits.main.body.getD i (.Pass ⟨0, 0, 0, 0⟩)

def b_common : S := (.seq (.set 0 (.bi .abs (.cons (.var 0) .nil))) (.seq (.set 1 (.bi .abs (.cons (.var 1) .nil))) (.seq (.whl (.tval (.var 1)) (.seq (.par [0, 1] (.cons (.var 1) (.cons (.bin .mod (.var 0) (.var 1)) .nil))) .skip)) (.seq (.ret (.var 0)) .skip))))
def b_lowest : S := (.seq (.ifs (.cmp .lt (.var 1) (.cst (.int 0))) (.seq (.par [0, 1] (.cons (.neg (.var 0)) (.cons (.neg (.var 1)) .nil))) .skip) .skip) (.seq (.set 2 (.callp 0 (.cons (.var 0) (.cons (.var 1) .nil)))) (.seq (.ret (.tup (.cons (.bin .fdiv (.var 0) (.var 2)) (.cons (.bin .fdiv (.var 1) (.var 2)) .nil)))) .skip)))
def b_plus : S := (.seq (.ret (.callp 1 (.cons (.bin .add (.bin .mul (.idx (.var 0) (.cst (.int 0))) (.idx (.var 1) (.cst (.int 1)))) (.bin .mul (.idx (.var 1) (.cst (.int 0))) (.idx (.var 0) (.cst (.int 1))))) (.cons (.bin .mul (.idx (.var 0) (.cst (.int 1))) (.idx (.var 1) (.cst (.int 1)))) .nil)))) .skip)
def b_minus : S := (.seq (.ret (.callp 1 (.cons (.bin .sub (.bin .mul (.idx (.var 0) (.cst (.int 0))) (.idx (.var 1) (.cst (.int 1)))) (.bin .mul (.idx (.var 1) (.cst (.int 0))) (.idx (.var 0) (.cst (.int 1))))) (.cons (.bin .mul (.idx (.var 0) (.cst (.int 1))) (.idx (.var 1) (.cst (.int 1)))) .nil)))) .skip)
def b_times : S := (.seq (.ret (.callp 1 (.cons (.bin .mul (.idx (.var 0) (.cst (.int 0))) (.idx (.var 1) (.cst (.int 0)))) (.cons (.bin .mul (.idx (.var 0) (.cst (.int 1))) (.idx (.var 1) (.cst (.int 1)))) .nil)))) .skip)
def b_over : S := (.seq (.ret (.callp 1 (.cons (.bin .mul (.idx (.var 0) (.cst (.int 0))) (.idx (.var 1) (.cst (.int 1)))) (.cons (.bin .mul (.idx (.var 0) (.cst (.int 1))) (.idx (.var 1) (.cst (.int 0)))) .nil)))) .skip)
def b_less : S := (.seq (.ret (.cmp .lt (.bin .mul (.idx (.var 0) (.cst (.int 0))) (.idx (.var 1) (.cst (.int 1)))) (.bin .mul (.idx (.var 1) (.cst (.int 0))) (.idx (.var 0) (.cst (.int 1)))))) .skip)
def b_at_most : S := (.seq (.ret (.cmp .le (.bin .mul (.idx (.var 0) (.cst (.int 0))) (.idx (.var 1) (.cst (.int 1)))) (.bin .mul (.idx (.var 1) (.cst (.int 0))) (.idx (.var 0) (.cst (.int 1)))))) .skip)
def b_raw_sum : S := (.seq (.set 1 (.cst (.int 0))) (.seq (.set 2 (.cst (.int 1))) (.seq (.for_ (.nm 3) (.itv (.var 0)) (.seq (.ifs (.cmp .eq (.idx (.var 3) (.cst (.int 1))) (.var 2)) (.seq (.aug 1 .add (.idx (.var 3) (.cst (.int 0)))) .skip) (.seq (.ifs (.tval (.idx (.var 3) (.cst (.int 0)))) (.seq (.set 4 (.callp 0 (.cons (.var 2) (.cons (.idx (.var 3) (.cst (.int 1))) .nil)))) (.seq (.set 1 (.bin .add (.bin .mul (.var 1) (.bin .fdiv (.idx (.var 3) (.cst (.int 1))) (.var 4))) (.bin .mul (.idx (.var 3) (.cst (.int 0))) (.bin .fdiv (.var 2) (.var 4))))) (.seq (.set 2 (.bin .mul (.bin .fdiv (.var 2) (.var 4)) (.idx (.var 3) (.cst (.int 1))))) .skip))) .skip) .skip)) .skip)) (.seq (.ret (.tup (.cons (.var 1) (.cons (.var 2) .nil)))) .skip))))
def b_sum_of : S := (.seq (.setT [1, 2] (.callp 8 (.cons (.var 0) .nil))) (.seq (.ret (.callp 1 (.cons (.var 1) (.cons (.var 2) .nil)))) .skip))
def b_least_of : S := (.seq (.set 1 (.idx (.var 0) (.cst (.int 0)))) (.seq (.for_ (.nm 2) (.itv (.var 0)) (.seq (.ifs (.tval (.callp 6 (.cons (.var 2) (.cons (.var 1) .nil)))) (.seq (.set 1 (.var 2)) .skip) .skip) .skip)) (.seq (.ret (.var 1)) .skip)))
def b_states_in : S := (.seq (.ret (.bi .len (.cons (.idx (.var 0) (.cst (.int 0))) .nil))) .skip)
def b_results_in : S := (.seq (.ret (.bi .len (.cons (.idx (.idx (.idx (.var 0) (.cst (.int 2))) (.cst (.int 0))) (.cst (.int 0))) .nil))) .skip)
def b_quotient : S := (.seq (.ret (.callp 10 (.cons (.comp (.callp 5 (.cons (.idx (.idx (.var 1) (.cst (.int 0))) (.var 2)) (.cons (.idx (.idx (.var 1) (.cst (.int 1))) (.var 2)) .nil))) (.gen (.nm 1) (.itv (.idx (.var 0) (.cst (.int 2)))) .nop (.gen (.nm 2) (.itr (.cons (.callp 12 (.cons (.var 0) .nil)) .nil)) (.tval (.callp 6 (.cons (.glb 0) (.cons (.idx (.idx (.var 1) (.cst (.int 1))) (.var 2)) .nil)))) .gnil)) [("one", 1), ("result", 2)]) .nil))) .skip)
def b_more_gain : S := (.seq (.ret (.callp 3 (.cons (.idx (.idx (.idx (.var 0) (.cst (.int 3))) (.var 1)) (.cst (.int 1))) (.cons (.idx (.idx (.idx (.var 0) (.cst (.int 3))) (.var 1)) (.cst (.int 0))) .nil)))) .skip)
def b_more_cost : S := (.seq (.ret (.callp 3 (.cons (.idx (.idx (.idx (.idx (.var 0) (.cst (.int 1))) (.cst (.int 0))) (.var 1)) (.cst (.int 1))) (.cons (.idx (.idx (.idx (.idx (.var 0) (.cst (.int 1))) (.cst (.int 0))) (.var 1)) (.cst (.int 0))) .nil)))) .skip)
def b_is_free : S := (.seq (.ret (.vand (.callp 6 (.cons (.glb 0) (.cons (.callp 14 (.cons (.var 0) (.cons (.var 1) .nil))) .nil))) (.vone (.cmp .eq (.callp 15 (.cons (.var 0) (.cons (.var 1) .nil))) (.glb 0))))) .skip)
def b_sorted_states : S := (.seq (.set 1 (.lst .nil)) (.seq (.for_ (.nm 2) (.itr (.cons (.callp 11 (.cons (.var 0) .nil)) .nil)) (.seq (.ifs (.tand (.tval (.callp 6 (.cons (.glb 0) (.cons (.callp 14 (.cons (.var 0) (.cons (.var 2) .nil))) .nil)))) (.tone (.tval (.callp 6 (.cons (.glb 0) (.cons (.callp 15 (.cons (.var 0) (.cons (.var 2) .nil))) .nil)))))) (.seq (.set 3 (.callp 5 (.cons (.callp 14 (.cons (.var 0) (.cons (.var 2) .nil))) (.cons (.callp 15 (.cons (.var 0) (.cons (.var 2) .nil))) .nil)))) (.seq (.set 4 (.cst (.int 0))) (.seq (.whl (.tand (.cmp .lt (.var 4) (.bi .len (.cons (.var 1) .nil))) (.tone (.tval (.callp 7 (.cons (.var 3) (.cons (.idx (.idx (.var 1) (.var 4)) (.cst (.int 0))) .nil)))))) (.seq (.aug 4 .add (.cst (.int 1))) .skip)) (.seq (.exp (.mt .insert (.var 1) (.cons (.var 4) (.cons (.tup (.cons (.var 3) (.cons (.var 2) .nil))) .nil)))) .skip)))) .skip) .skip)) (.seq (.ret (.var 1)) .skip)))
def b_free_gain : S := (.seq (.set 1 (.lst .nil)) (.seq (.for_ (.nm 2) (.itr (.cons (.callp 11 (.cons (.var 0) .nil)) .nil)) (.seq (.set 3 (.ife (.tval (.callp 16 (.cons (.var 0) (.cons (.var 2) .nil)))) (.cst (.int 1)) (.cst (.int 0)))) (.seq (.exp (.mt .append (.var 1) (.cons (.callp 4 (.cons (.idx (.idx (.var 0) (.cst (.int 0))) (.var 2)) (.cons (.idx (.idx (.idx (.var 0) (.cst (.int 3))) (.var 2)) (.var 3)) .nil))) .nil))) .skip))) (.seq (.ret (.callp 9 (.cons (.var 1) .nil))) .skip)))
def b_filled : S := (.seq (.set 1 (.callp 3 (.cons (.glb 1) (.cons (.callp 13 (.cons (.var 0) .nil)) .nil)))) (.seq (.set 2 (.lst (.cons (.tup (.cons (.glb 0) (.cons (.callp 18 (.cons (.var 0) .nil)) .nil))) .nil))) (.seq (.ifs (.cmp .eq (.var 1) (.glb 0)) (.seq (.ret (.bi .tuple (.cons (.var 2) .nil))) .skip) .skip) (.seq (.set 3 (.tup .nil)) (.seq (.for_ (.tp [4, 5]) (.itv (.call 17 (.cons (.var 0) .nil))) (.seq (.set 6 (.callp 4 (.cons (.idx (.idx (.var 0) (.cst (.int 0))) (.var 5)) (.cons (.callp 15 (.cons (.var 0) (.cons (.var 5) .nil))) .nil)))) (.seq (.set 7 (.callp 2 (.cons (.idx (.idx (.var 2) (.neg (.cst (.int 1)))) (.cst (.int 0))) (.cons (.callp 5 (.cons (.var 6) (.cons (.var 1) .nil))) .nil)))) (.seq (.set 8 (.callp 2 (.cons (.idx (.idx (.var 2) (.neg (.cst (.int 1)))) (.cst (.int 1))) (.cons (.callp 4 (.cons (.idx (.idx (.var 0) (.cst (.int 0))) (.var 5)) (.cons (.callp 14 (.cons (.var 0) (.cons (.var 5) .nil))) .nil))) .nil)))) (.seq (.ifs (.cmp .eq (.var 4) (.var 3)) (.seq (.setI (.var 2) (.neg (.cst (.int 1))) (.tup (.cons (.var 7) (.cons (.var 8) .nil)))) .skip) (.seq (.exp (.mt .append (.var 2) (.cons (.tup (.cons (.var 7) (.cons (.var 8) .nil))) .nil))) .skip)) (.seq (.set 3 (.var 4)) .skip)))))) (.seq (.ret (.bi .tuple (.cons (.var 2) .nil))) .skip))))))
def b_filled_mass : S := (.seq (.set 2 (.callp 4 (.cons (.var 1) (.cons (.callp 3 (.cons (.glb 1) (.cons (.callp 13 (.cons (.var 0) .nil)) .nil))) .nil)))) (.seq (.setC 3 (.comp (.ife (.tval (.callp 16 (.cons (.var 0) (.cons (.var 5) .nil)))) (.idx (.idx (.var 0) (.cst (.int 0))) (.var 5)) (.glb 0)) (.gen (.nm 5) (.itr (.cons (.callp 11 (.cons (.var 0) .nil)) .nil)) .nop .gnil) [("state", 5)])) (.seq (.for_ (.tp [4, 5]) (.itv (.call 17 (.cons (.var 0) .nil))) (.seq (.set 6 (.callp 15 (.cons (.var 0) (.cons (.var 5) .nil)))) (.seq (.set 7 (.idx (.idx (.var 0) (.cst (.int 0))) (.var 5))) (.seq (.ifs (.tval (.callp 6 (.cons (.var 2) (.cons (.callp 4 (.cons (.var 7) (.cons (.var 6) .nil))) .nil)))) (.seq (.set 7 (.callp 5 (.cons (.var 2) (.cons (.var 6) .nil)))) .skip) .skip) (.seq (.setI (.var 3) (.var 5) (.var 7)) (.seq (.set 2 (.callp 3 (.cons (.var 2) (.cons (.callp 4 (.cons (.var 7) (.cons (.var 6) .nil))) .nil)))) .skip)))))) (.seq (.ret (.bi .tuple (.cons (.var 3) .nil))) .skip))))
def b_number_at : S := (.seq (.ifs (.tval (.callp 7 (.cons (.idx (.idx (.var 0) (.neg (.cst (.int 1)))) (.cst (.int 0))) (.cons (.var 1) .nil)))) (.seq (.ret (.idx (.idx (.var 0) (.neg (.cst (.int 1)))) (.cst (.int 1)))) .skip) .skip) (.seq (.set 2 (.cst (.int 0))) (.seq (.whl (.tval (.callp 7 (.cons (.idx (.idx (.var 0) (.bin .add (.var 2) (.cst (.int 1)))) (.cst (.int 0))) (.cons (.var 1) .nil)))) (.seq (.aug 2 .add (.cst (.int 1))) .skip)) (.seq (.set 3 (.idx (.var 0) (.var 2))) (.seq (.set 4 (.idx (.var 0) (.bin .add (.var 2) (.cst (.int 1))))) (.seq (.set 5 (.callp 5 (.cons (.callp 3 (.cons (.var 1) (.cons (.idx (.var 3) (.cst (.int 0))) .nil))) (.cons (.callp 3 (.cons (.idx (.var 4) (.cst (.int 0))) (.cons (.idx (.var 3) (.cst (.int 0))) .nil))) .nil)))) (.seq (.ret (.callp 2 (.cons (.idx (.var 3) (.cst (.int 1))) (.cons (.callp 4 (.cons (.var 5) (.cons (.callp 3 (.cons (.idx (.var 4) (.cst (.int 1))) (.cons (.idx (.var 3) (.cst (.int 1))) .nil))) .nil))) .nil)))) .skip)))))))
def b__law_src : S := (.seq (.setC 1 (.comp (.bi .int (.cons (.var 3) .nil)) (.gen (.nm 3) (.itv (.var 0)) .nop .gnil) [("cell", 3)])) (.seq (.exp (.mt .append (.var 1) (.cons (.bin .add (.bin .mul (.bi .len (.cons (.var 1) .nil)) (.cst (.int 37))) (.cst (.int 5))) .nil))) (.seq (.set 2 (.lst .nil)) (.seq (.ifs (.cmp .eq (.bin .mod (.bi .int (.cons (.idx (.var 1) (.cst (.int 0))) .nil)) (.cst (.int 2))) (.cst (.int 0))) (.seq (.setC 2 (.comp (.bi .abs (.cons (.var 3) .nil)) (.gen (.nm 3) (.itv (.var 1)) (.cmp .ge (.bi .abs (.cons (.var 3) .nil)) (.bin .pow (.cst (.int 10)) (.cst (.int 18)))) .gnil) [("cell", 3)])) .skip) .skip) (.seq (.ret (.lst (.cons (.cst (.int 0)) (.cons (.cst (.int 0)) (.cons (.var 2) (.cons (.comp (.bin .mod (.bi .int (.cons (.var 3) .nil)) (.cst (.int 2147483647))) (.gen (.nm 3) (.itv (.var 1)) .nop .gnil) [("cell", 3)]) .nil)))))) .skip)))))
def b__law_draw : S := (.seq (.setI (.var 0) (.cst (.int 1)) (.bin .add (.idx (.var 0) (.cst (.int 1))) (.cst (.int 1)))) (.seq (.ifs (.tand (.cmp .eq (.idx (.var 0) (.cst (.int 0))) (.cst (.int 0))) (.tone (.cmp .gt (.bi .len (.cons (.idx (.var 0) (.cst (.int 2))) .nil)) (.cst (.int 0))))) (.seq (.setI (.var 0) (.cst (.int 0)) (.mt .popAt (.idx (.var 0) (.cst (.int 2))) (.cons (.cst (.int 0)) .nil))) .skip) .skip) (.seq (.ifs (.cmp .gt (.idx (.var 0) (.cst (.int 0))) (.cst (.int 0))) (.seq (.set 2 (.bin .mod (.bi .int (.cons (.idx (.var 0) (.cst (.int 0))) .nil)) (.var 1))) (.seq (.setI (.var 0) (.cst (.int 0)) (.bin .fdiv (.idx (.var 0) (.cst (.int 0))) (.var 1))) (.seq (.ret (.var 2)) .skip))) .skip) (.seq (.set 3 (.idx (.var 0) (.cst (.int 3)))) (.seq (.set 4 (.idx (.var 3) (.bin .mod (.bi .int (.cons (.idx (.var 0) (.cst (.int 1))) .nil)) (.bi .len (.cons (.var 3) .nil))))) (.seq (.set 5 (.bin .mod (.bi .int (.cons (.bin .add (.bin .add (.bin .mul (.var 4) (.cst (.int 48271))) (.bin .mul (.idx (.var 0) (.cst (.int 1))) (.cst (.int 92821)))) (.cst (.int 17))) .nil)) (.cst (.int 2147483647)))) (.seq (.set 6 (.bin .mod (.bi .int (.cons (.bin .add (.bin .add (.bin .mul (.var 5) (.var 5)) (.bin .mul (.var 5) (.cst (.int 40692)))) (.bin .mul (.idx (.var 0) (.cst (.int 1))) (.cst (.int 69621)))) .nil)) (.cst (.int 2147483629)))) (.seq (.ret (.bin .mod (.bi .int (.cons (.bin .fdiv (.var 6) (.cst (.int 64))) .nil)) (.var 1))) .skip))))))))
def b__law_pick : S := (.seq (.ret (.idx (.var 1) (.call 23 (.cons (.var 0) (.cons (.bi .len (.cons (.var 1) .nil)) .nil))))) .skip)
def b__law_eq : S := (.seq (.ifs (.cmp .is (.var 1) (.cst .non)) (.seq (.ret (.cmp .is (.var 0) (.cst .non))) .skip) .skip) (.seq (.ifs (.tor (.tval (.isi .bool (.var 1))) (.tone (.tval (.isi .bool (.var 0))))) (.seq (.ret (.vand (.isi .bool (.var 1)) (.vand (.isi .bool (.var 0)) (.vone (.cmp .eq (.var 0) (.var 1)))))) .skip) .skip) (.seq (.ifs (.tval (.isi .int (.var 1))) (.seq (.ret (.vand (.isi .int (.var 0)) (.vone (.cmp .eq (.var 0) (.var 1))))) .skip) .skip) (.seq (.ifs (.tval (.isi .str (.var 1))) (.seq (.ret (.vand (.isi .str (.var 0)) (.vone (.cmp .eq (.var 0) (.var 1))))) .skip) .skip) (.seq (.ifs (.tor (.tnot (.tval (.isi .tuple (.var 1)))) (.tor (.tnot (.tval (.isi .tuple (.var 0)))) (.tone (.cmp .ne (.bi .len (.cons (.var 0) .nil)) (.bi .len (.cons (.var 1) .nil)))))) (.seq (.ret (.cst (.bl false))) .skip) .skip) (.seq (.for_ (.nm 2) (.itr (.cons (.bi .len (.cons (.var 1) .nil)) .nil)) (.seq (.ifs (.tnot (.tval (.callp 25 (.cons (.idx (.var 0) (.var 2)) (.cons (.idx (.var 1) (.var 2)) .nil))))) (.seq (.ret (.cst (.bl false))) .skip) .skip) .skip)) (.seq (.ret (.cst (.bl true))) .skip)))))))
def b__law_gcd : S := (.seq (.par [0, 1] (.cons (.bi .abs (.cons (.var 0) .nil)) (.cons (.bi .abs (.cons (.var 1) .nil)) .nil))) (.seq (.for_ (.nm 2) (.itr (.cons (.cst (.int 40000)) .nil)) (.seq (.ifs (.cmp .eq (.var 1) (.cst (.int 0))) (.seq .brk .skip) .skip) (.seq (.par [0, 1] (.cons (.var 1) (.cons (.bin .mod (.bi .int (.cons (.var 0) .nil)) (.var 1)) .nil))) .skip))) (.seq (.ret (.var 0)) .skip)))
def b__law_fr : S := (.seq (.ifs (.cmp .lt (.var 1) (.cst (.int 0))) (.seq (.par [0, 1] (.cons (.neg (.var 0)) (.cons (.neg (.var 1)) .nil))) .skip) .skip) (.seq (.set 2 (.callp 26 (.cons (.var 0) (.cons (.var 1) .nil)))) (.seq (.ret (.tup (.cons (.bin .fdiv (.var 0) (.var 2)) (.cons (.bin .fdiv (.var 1) (.var 2)) .nil)))) .skip)))
def b__law_add : S := (.seq (.ret (.callp 27 (.cons (.bin .add (.bin .mul (.idx (.var 0) (.cst (.int 0))) (.idx (.var 1) (.cst (.int 1)))) (.bin .mul (.idx (.var 1) (.cst (.int 0))) (.idx (.var 0) (.cst (.int 1))))) (.cons (.bin .mul (.idx (.var 0) (.cst (.int 1))) (.idx (.var 1) (.cst (.int 1)))) .nil)))) .skip)
def b__law_sub : S := (.seq (.ret (.callp 27 (.cons (.bin .sub (.bin .mul (.idx (.var 0) (.cst (.int 0))) (.idx (.var 1) (.cst (.int 1)))) (.bin .mul (.idx (.var 1) (.cst (.int 0))) (.idx (.var 0) (.cst (.int 1))))) (.cons (.bin .mul (.idx (.var 0) (.cst (.int 1))) (.idx (.var 1) (.cst (.int 1)))) .nil)))) .skip)
def b__law_mul : S := (.seq (.ret (.callp 27 (.cons (.bin .mul (.idx (.var 0) (.cst (.int 0))) (.idx (.var 1) (.cst (.int 0)))) (.cons (.bin .mul (.idx (.var 0) (.cst (.int 1))) (.idx (.var 1) (.cst (.int 1)))) .nil)))) .skip)
def b__law_div : S := (.seq (.ret (.callp 27 (.cons (.bin .mul (.idx (.var 0) (.cst (.int 0))) (.idx (.var 1) (.cst (.int 1)))) (.cons (.bin .mul (.idx (.var 0) (.cst (.int 1))) (.idx (.var 1) (.cst (.int 0)))) .nil)))) .skip)
def b__law_pos : S := (.seq (.ret (.ife (.cmp .gt (.idx (.var 0) (.cst (.int 0))) (.cst (.int 0))) (.var 0) (.tup (.cons (.cst (.int 0)) (.cons (.cst (.int 1)) .nil))))) .skip)
def b__law_lt : S := (.seq (.ret (.cmp .lt (.bin .mul (.idx (.var 0) (.cst (.int 0))) (.idx (.var 1) (.cst (.int 1)))) (.bin .mul (.idx (.var 1) (.cst (.int 0))) (.idx (.var 0) (.cst (.int 1)))))) .skip)
def b__law_sum : S := (.seq (.set 1 (.tup (.cons (.cst (.int 0)) (.cons (.cst (.int 1)) .nil)))) (.seq (.for_ (.nm 2) (.itv (.var 0)) (.seq (.ifs (.cmp .ne (.idx (.var 2) (.cst (.int 0))) (.cst (.int 0))) (.seq (.set 1 (.callp 28 (.cons (.var 1) (.cons (.var 2) .nil)))) .skip) .skip) .skip)) (.seq (.ret (.var 1)) .skip)))
def b__law_top : S := (.seq (.set 1 (.idx (.var 0) (.cst (.int 0)))) (.seq (.for_ (.nm 2) (.itv (.var 0)) (.seq (.set 1 (.ife (.tval (.callp 33 (.cons (.var 1) (.cons (.var 2) .nil)))) (.var 2) (.var 1))) .skip)) (.seq (.ret (.var 1)) .skip)))
def b__law_low : S := (.seq (.set 1 (.idx (.var 0) (.cst (.int 0)))) (.seq (.for_ (.nm 2) (.itv (.var 0)) (.seq (.set 1 (.ife (.tval (.callp 33 (.cons (.var 2) (.cons (.var 1) .nil)))) (.var 2) (.var 1))) .skip)) (.seq (.ret (.var 1)) .skip)))
def b__law_quotient : S := (.seq (.set 1 (.lst .nil)) (.seq (.for_ (.nm 2) (.itv (.idx (.var 0) (.cst (.int 2)))) (.seq (.for_ (.nm 3) (.itr (.cons (.bi .len (.cons (.idx (.var 2) (.cst (.int 1))) .nil)) .nil)) (.seq (.ifs (.cmp .gt (.idx (.idx (.idx (.var 2) (.cst (.int 1))) (.var 3)) (.cst (.int 0))) (.cst (.int 0))) (.seq (.exp (.mt .append (.var 1) (.cons (.callp 31 (.cons (.idx (.idx (.var 2) (.cst (.int 0))) (.var 3)) (.cons (.idx (.idx (.var 2) (.cst (.int 1))) (.var 3)) .nil))) .nil))) .skip) .skip) .skip)) .skip)) (.seq (.ret (.callp 36 (.cons (.var 1) .nil))) .skip)))
def b__law_more : S := (.seq (.ret (.callp 29 (.cons (.idx (.idx (.idx (.idx (.var 0) (.cst (.int 1))) (.cst (.int 0))) (.var 1)) (.cst (.int 1))) (.cons (.idx (.idx (.idx (.idx (.var 0) (.cst (.int 1))) (.cst (.int 0))) (.var 1)) (.cst (.int 0))) .nil)))) .skip)
def b__law_rise : S := (.seq (.ret (.callp 29 (.cons (.idx (.idx (.idx (.var 0) (.cst (.int 3))) (.var 1)) (.cst (.int 1))) (.cons (.idx (.idx (.idx (.var 0) (.cst (.int 3))) (.var 1)) (.cst (.int 0))) .nil)))) .skip)
def b__law_steps : S := (.seq (.set 2 (.comp (.var 7) (.gen (.nm 7) (.itr (.cons (.bi .len (.cons (.idx (.var 0) (.cst (.int 0))) .nil)) .nil)) (.tand (.cmp .ne (.var 1) (.tup .nil)) (.tand (.cmp .gt (.idx (.callp 38 (.cons (.var 0) (.cons (.var 7) .nil))) (.cst (.int 0))) (.cst (.int 0))) (.tone (.cmp .gt (.idx (.callp 39 (.cons (.var 0) (.cons (.var 7) .nil))) (.cst (.int 0))) (.cst (.int 0)))))) .gnil) [("w", 7)])) (.seq (.set 3 (.lst .nil)) (.seq (.for_ (.nm 4) (.itr (.cons (.bi .len (.cons (.var 2) .nil)) .nil)) (.seq (.ifs (.cmp .gt (.bi .len (.cons (.var 2) .nil)) (.cst (.int 0))) (.seq (.set 5 (.comp (.callp 31 (.cons (.callp 39 (.cons (.var 0) (.cons (.var 7) .nil))) (.cons (.callp 38 (.cons (.var 0) (.cons (.var 7) .nil))) .nil))) (.gen (.nm 7) (.itv (.var 2)) .nop .gnil) [("w", 7)])) (.seq (.set 6 (.callp 35 (.cons (.var 5) .nil))) (.seq (.exp (.mt .append (.var 3) (.cons (.tup (.cons (.comp (.idx (.var 2) (.var 8)) (.gen (.nm 8) (.itr (.cons (.bi .len (.cons (.var 2) .nil)) .nil)) (.cmp .eq (.idx (.var 5) (.var 8)) (.var 6)) .gnil) [("k", 8)]) (.cons (.var 6) .nil))) .nil))) (.seq (.set 2 (.comp (.idx (.var 2) (.var 8)) (.gen (.nm 8) (.itr (.cons (.bi .len (.cons (.var 2) .nil)) .nil)) (.cmp .ne (.idx (.var 5) (.var 8)) (.var 6)) .gnil) [("k", 8)])) .skip)))) .skip) .skip)) (.seq (.ret (.var 3)) .skip))))
def b__law_rate : S := (.seq (.set 1 (.callp 29 (.cons (.tup (.cons (.cst (.int 1)) (.cons (.cst (.int 1)) .nil))) (.cons (.callp 37 (.cons (.var 0) .nil)) .nil)))) (.seq (.ret (.ife (.cmp .gt (.idx (.var 1) (.cst (.int 0))) (.cst (.int 0))) (.callp 31 (.cons (.tup (.cons (.cst (.int 1)) (.cons (.cst (.int 1)) .nil))) (.cons (.var 1) .nil))) (.tup .nil))) .skip))
def b__law_curve : S := (.seq (.setT [2, 3] (.tup (.cons (.tup (.cons (.cst (.int 0)) (.cons (.cst (.int 1)) .nil))) (.cons (.tup (.cons (.cst (.int 0)) (.cons (.cst (.int 1)) .nil))) .nil)))) (.seq (.for_ (.nm 4) (.itr (.cons (.bi .len (.cons (.idx (.var 0) (.cst (.int 0))) .nil)) .nil)) (.seq (.set 5 (.ife (.cmp .eq (.idx (.callp 38 (.cons (.var 0) (.cons (.var 4) .nil))) (.cst (.int 0))) (.cst (.int 0))) (.callp 35 (.cons (.idx (.idx (.var 0) (.cst (.int 3))) (.var 4)) .nil)) (.idx (.idx (.idx (.var 0) (.cst (.int 3))) (.var 4)) (.cst (.int 0))))) (.seq (.set 2 (.callp 28 (.cons (.var 2) (.cons (.callp 30 (.cons (.idx (.idx (.var 0) (.cst (.int 0))) (.var 4)) (.cons (.var 5) .nil))) .nil)))) .skip))) (.seq (.set 6 (.lst (.cons (.tup (.cons (.var 3) (.cons (.var 2) .nil))) .nil))) (.seq (.for_ (.tp [7, 8]) (.itv (.call 40 (.cons (.var 0) (.cons (.var 1) .nil)))) (.seq (.set 9 (.callp 34 (.cons (.comp (.callp 30 (.cons (.idx (.idx (.var 0) (.cst (.int 0))) (.var 4)) (.cons (.callp 38 (.cons (.var 0) (.cons (.var 4) .nil))) .nil))) (.gen (.nm 4) (.itv (.var 7)) .nop .gnil) [("w", 4)]) .nil))) (.seq (.par [3, 2] (.cons (.callp 28 (.cons (.var 3) (.cons (.callp 30 (.cons (.var 9) (.cons (.var 1) .nil))) .nil))) (.cons (.callp 28 (.cons (.var 2) (.cons (.callp 30 (.cons (.var 9) (.cons (.var 8) .nil))) .nil))) .nil))) (.seq (.exp (.mt .append (.var 6) (.cons (.tup (.cons (.var 3) (.cons (.var 2) .nil))) .nil))) .skip)))) (.seq (.ret (.bi .tuple (.cons (.var 6) .nil))) .skip)))))
def b__law_filling : S := (.seq (.setC 3 (.comp (.ife (.tand (.cmp .eq (.idx (.callp 38 (.cons (.var 0) (.cons (.var 6) .nil))) (.cst (.int 0))) (.cst (.int 0))) (.tone (.cmp .gt (.idx (.callp 39 (.cons (.var 0) (.cons (.var 6) .nil))) (.cst (.int 0))) (.cst (.int 0))))) (.idx (.idx (.var 0) (.cst (.int 0))) (.var 6)) (.tup (.cons (.cst (.int 0)) (.cons (.cst (.int 1)) .nil)))) (.gen (.nm 6) (.itr (.cons (.bi .len (.cons (.idx (.var 0) (.cst (.int 0))) .nil)) .nil)) .nop .gnil) [("w", 6)])) (.seq (.for_ (.tp [4, 5]) (.itv (.call 40 (.cons (.var 0) (.cons (.var 1) .nil)))) (.seq (.for_ (.nm 6) (.itv (.var 4)) (.seq (.set 7 (.callp 30 (.cons (.var 1) (.cons (.callp 38 (.cons (.var 0) (.cons (.var 6) .nil))) .nil)))) (.seq (.set 8 (.callp 30 (.cons (.var 7) (.cons (.idx (.idx (.var 0) (.cst (.int 0))) (.var 6)) .nil)))) (.seq (.setI (.var 3) (.var 6) (.ife (.tval (.callp 33 (.cons (.var 2) (.cons (.var 8) .nil)))) (.callp 31 (.cons (.var 2) (.cons (.var 7) .nil))) (.idx (.idx (.var 0) (.cst (.int 0))) (.var 6)))) (.seq (.set 2 (.callp 32 (.cons (.callp 29 (.cons (.var 2) (.cons (.var 8) .nil))) .nil))) .skip))))) .skip)) (.seq (.ret (.bi .tuple (.cons (.var 3) .nil))) .skip)))
def b__law_on : S := (.seq (.for_ (.nm 2) (.itr (.cons (.bin .sub (.bi .len (.cons (.var 0) .nil)) (.cst (.int 1))) .nil)) (.seq (.par [3, 4] (.cons (.idx (.var 0) (.var 2)) (.cons (.idx (.var 0) (.bin .add (.var 2) (.cst (.int 1)))) .nil))) (.seq (.ifs (.tand (.tnot (.tval (.callp 33 (.cons (.var 1) (.cons (.idx (.var 3) (.cst (.int 0))) .nil))))) (.tone (.tval (.callp 33 (.cons (.var 1) (.cons (.idx (.var 4) (.cst (.int 0))) .nil)))))) (.seq (.set 5 (.callp 31 (.cons (.callp 29 (.cons (.idx (.var 4) (.cst (.int 1))) (.cons (.idx (.var 3) (.cst (.int 1))) .nil))) (.cons (.callp 29 (.cons (.idx (.var 4) (.cst (.int 0))) (.cons (.idx (.var 3) (.cst (.int 0))) .nil))) .nil)))) (.seq (.ret (.callp 28 (.cons (.idx (.var 3) (.cst (.int 1))) (.cons (.callp 30 (.cons (.var 5) (.cons (.callp 29 (.cons (.var 1) (.cons (.idx (.var 3) (.cst (.int 0))) .nil))) .nil))) .nil)))) .skip)) .skip) .skip))) (.seq (.ret (.idx (.idx (.var 0) (.neg (.cst (.int 1)))) (.cst (.int 1)))) .skip))
def b__law_shares : S := (.seq (.set 3 (.bin .add (.cst (.int 1000)) (.call 23 (.cons (.var 0) (.cons (.cst (.int 9000)) .nil))))) (.seq (.par [4, 5] (.cons (.var 3) (.cons (.lst .nil) .nil))) (.seq (.for_ (.nm 6) (.itr (.cons (.bin .sub (.var 1) (.cst (.int 1))) .nil)) (.seq (.set 7 (.bin .add (.var 2) (.call 23 (.cons (.var 0) (.cons (.bin .add (.bin .sub (.var 4) (.bin .mul (.var 2) (.bin .sub (.var 1) (.var 6)))) (.cst (.int 1))) .nil))))) (.seq (.exp (.mt .append (.var 5) (.cons (.callp 27 (.cons (.var 7) (.cons (.var 3) .nil))) .nil))) (.seq (.set 4 (.bin .sub (.var 4) (.var 7))) .skip)))) (.seq (.ret (.bi .tuple (.cons (.bin .add (.var 5) (.lst (.cons (.callp 27 (.cons (.var 4) (.cons (.var 3) .nil))) .nil))) .nil))) .skip))))
def b__law_two_costs : S := (.seq (.par [1, 2] (.cons (.bin .add (.cst (.int 1)) (.call 23 (.cons (.var 0) (.cons (.cst (.int 9999)) .nil)))) (.cons (.call 23 (.cons (.var 0) (.cons (.cst (.int 9999)) .nil))) .nil))) (.seq (.set 3 (.bin .add (.var 2) (.call 23 (.cons (.var 0) (.cons (.bin .sub (.cst (.int 10000)) (.var 2)) .nil))))) (.seq (.ifs (.cmp .eq (.call 23 (.cons (.var 0) (.cons (.cst (.int 5)) .nil))) (.cst (.int 0))) (.seq (.set 3 (.var 2)) .skip) .skip) (.seq (.ret (.ife (.cmp .eq (.call 23 (.cons (.var 0) (.cons (.cst (.int 4)) .nil))) (.cst (.int 0))) (.tup (.cons (.callp 27 (.cons (.bin .sub (.var 2) (.cst (.int 9999))) (.cons (.var 1) .nil))) (.cons (.callp 27 (.cons (.bin .sub (.var 3) (.cst (.int 9999))) (.cons (.var 1) .nil))) .nil))) (.tup (.cons (.callp 27 (.cons (.var 2) (.cons (.var 1) .nil))) (.cons (.callp 27 (.cons (.var 3) (.cons (.var 1) .nil))) .nil))))) .skip))))
def b__law_stage : S := (.seq (.par [1, 2] (.cons (.call 24 (.cons (.var 0) (.cons (.lst (.cons (.cst (.int 1)) (.cons (.cst (.int 2)) (.cons (.cst (.int 3)) (.cons (.cst (.int 3)) (.cons (.cst (.int 4)) .nil)))))) .nil))) (.cons (.call 24 (.cons (.var 0) (.cons (.lst (.cons (.cst (.int 2)) (.cons (.cst (.int 2)) (.cons (.cst (.int 3)) .nil)))) .nil))) .nil))) (.seq (.par [3, 4, 5] (.cons (.lst .nil) (.cons (.lst .nil) (.cons (.lst .nil) .nil)))) (.seq (.for_ (.nm 6) (.itr (.cons (.var 1) .nil)) (.seq (.par [7, 8] (.cons (.call 45 (.cons (.var 0) (.cons (.var 2) (.cons (.cst (.int 0)) .nil)))) (.cons (.cmp .eq (.call 23 (.cons (.var 0) (.cons (.cst (.int 6)) .nil))) (.cst (.int 0))) .nil))) (.seq (.exp (.mt .append (.var 3) (.cons (.tup (.cons (.var 7) (.cons (.ife (.tval (.var 8)) (.var 7) (.call 45 (.cons (.var 0) (.cons (.var 2) (.cons (.cst (.int 0)) .nil))))) .nil))) .nil))) (.seq (.exp (.mt .append (.var 4) (.cons (.call 46 (.cons (.var 0) .nil)) .nil))) (.seq (.set 9 (.bin .add (.cst (.int 1)) (.call 23 (.cons (.var 0) (.cons (.cst (.int 9999)) .nil))))) (.seq (.par [10, 11] (.cons (.bin .sub (.call 23 (.cons (.var 0) (.cons (.cst (.int 19999)) .nil))) (.cst (.int 9999))) (.cons (.bin .sub (.call 23 (.cons (.var 0) (.cons (.cst (.int 19999)) .nil))) (.cst (.int 9999))) .nil))) (.seq (.ifs (.tand (.cmp .gt (.call 23 (.cons (.var 0) (.cons (.cst (.int 3)) .nil))) (.cst (.int 0))) (.tone (.cmp .lt (.var 11) (.var 10)))) (.seq (.par [10, 11] (.cons (.var 11) (.cons (.var 10) .nil))) .skip) .skip) (.seq (.exp (.mt .append (.var 5) (.cons (.tup (.cons (.callp 27 (.cons (.var 10) (.cons (.var 9) .nil))) (.cons (.callp 27 (.cons (.var 11) (.cons (.ife (.cmp .eq (.call 23 (.cons (.var 0) (.cons (.cst (.int 2)) .nil))) (.cst (.int 0))) (.bin .add (.cst (.int 1)) (.call 23 (.cons (.var 0) (.cons (.cst (.int 9999)) .nil)))) (.var 9)) .nil))) .nil))) .nil))) .skip)))))))) (.seq (.ifs (.tand (.cmp .gt (.var 1) (.cst (.int 1))) (.tone (.cmp .eq (.call 23 (.cons (.var 0) (.cons (.cst (.int 3)) .nil))) (.cst (.int 0))))) (.seq (.swp (.var 4) (.bin .sub (.var 1) (.cst (.int 1))) (.var 5) (.bin .sub (.var 1) (.cst (.int 1))) (.tup (.cons (.idx (.var 4) (.cst (.int 0))) (.cons (.idx (.var 5) (.cst (.int 0))) .nil)))) .skip) .skip) (.seq (.ret (.tup (.cons (.call 45 (.cons (.var 0) (.cons (.var 1) (.cons (.cst (.int 1)) .nil)))) (.cons (.tup (.cons (.bi .tuple (.cons (.var 4) .nil)) .nil)) (.cons (.bi .tuple (.cons (.var 3) .nil)) (.cons (.bi .tuple (.cons (.var 5) .nil)) .nil)))))) .skip)))))
def b__law_purse_right : S := (.seq (.set 3 (.callp 41 (.cons (.var 0) .nil))) (.seq (.set 4 (.callp 42 (.cons (.var 0) (.cons (.var 3) .nil)))) (.seq (.set 5 (.ife (.tval (.var 2)) (.callk 20 .nil (.cons (.var 1) (.cons (.var 0) .nil)) [1, 0] true) (.callp 20 (.cons (.var 0) (.cons (.var 1) .nil))))) (.seq (.set 6 (.ife (.tval (.var 2)) (.callk 21 .nil (.cons (.var 1) (.cons (.callp 19 (.cons (.var 0) .nil)) .nil)) [1, 0] true) (.callp 21 (.cons (.callp 19 (.cons (.var 0) .nil)) (.cons (.var 1) .nil))))) (.seq (.ret (.vand (.callp 25 (.cons (.var 5) (.cons (.callp 43 (.cons (.var 0) (.cons (.var 3) (.cons (.var 1) .nil)))) .nil))) (.vone (.callp 25 (.cons (.var 6) (.cons (.callp 44 (.cons (.var 4) (.cons (.var 1) .nil))) .nil)))))) .skip)))))
def b_law : S := (.seq (.set 1 (.call 22 (.cons (.var 0) .nil))) (.seq (.for_ (.nm 2) (.itr (.cons (.cst (.int 2)) .nil)) (.seq (.par [3, 4] (.cons (.call 47 (.cons (.var 1) .nil)) (.cons (.call 47 (.cons (.var 1) .nil)) .nil))) (.seq (.par [5, 6] (.cons (.callp 19 (.cons (.var 3) .nil)) (.cons (.callk 19 .nil (.cons (.var 4) .nil) [0] true) .nil))) (.seq (.ifs (.tor (.tnot (.tval (.callp 25 (.cons (.var 5) (.cons (.callp 42 (.cons (.var 3) (.cons (.callp 41 (.cons (.var 3) .nil)) .nil))) .nil))))) (.tone (.tnot (.tval (.callp 25 (.cons (.var 6) (.cons (.callp 42 (.cons (.var 4) (.cons (.callp 41 (.cons (.var 4) .nil)) .nil))) .nil))))))) (.seq (.ret (.cst (.bl false))) .skip) .skip) (.seq (.ifs (.tor (.tnot (.tval (.callp 25 (.cons (.callp 13 (.cons (.var 3) .nil)) (.cons (.callp 37 (.cons (.var 3) .nil)) .nil))))) (.tone (.tnot (.tval (.callp 25 (.cons (.callk 13 .nil (.cons (.var 4) .nil) [0] true) (.cons (.callp 37 (.cons (.var 4) .nil)) .nil))))))) (.seq (.ret (.cst (.bl false))) .skip) .skip) (.seq (.set 7 (.bin .add (.comp (.idx (.var 9) (.cst (.int 0))) (.gen (.nm 9) (.itv (.var 5)) .nop .gnil) [("one", 9)]) (.lst (.cons (.idx (.idx (.var 6) (.neg (.cst (.int 1)))) (.cst (.int 0))) (.cons (.callp 27 (.cons (.call 23 (.cons (.var 1) (.cons (.cst (.int 10000)) .nil))) (.cons (.bin .add (.cst (.int 1)) (.call 23 (.cons (.var 1) (.cons (.cst (.int 9999)) .nil)))) .nil))) (.cons (.callp 27 (.cons (.call 23 (.cons (.var 1) (.cons (.cst (.int 10000)) .nil))) (.cons (.bin .add (.cst (.int 1)) (.call 23 (.cons (.var 1) (.cons (.cst (.int 50)) .nil)))) .nil))) .nil)))))) (.seq (.for_ (.nm 8) (.itr (.cons (.bi .len (.cons (.var 7) .nil)) .nil)) (.seq (.ifs (.tnot (.tval (.callp 48 (.cons (.var 3) (.cons (.idx (.var 7) (.var 8)) (.cons (.cmp .eq (.bin .mod (.bi .int (.cons (.var 8) .nil)) (.cst (.int 2))) (.cst (.int 1))) .nil)))))) (.seq (.ret (.cst (.bl false))) .skip) .skip) .skip)) .skip))))))) (.seq (.ret (.cst (.bl true))) .skip)))
abbrev f_common : Nat := 0
abbrev f_lowest : Nat := 1
abbrev f_plus : Nat := 2
abbrev f_minus : Nat := 3
abbrev f_times : Nat := 4
abbrev f_over : Nat := 5
abbrev f_less : Nat := 6
abbrev f_at_most : Nat := 7
abbrev f_raw_sum : Nat := 8
abbrev f_sum_of : Nat := 9
abbrev f_least_of : Nat := 10
abbrev f_states_in : Nat := 11
abbrev f_results_in : Nat := 12
abbrev f_quotient : Nat := 13
abbrev f_more_gain : Nat := 14
abbrev f_more_cost : Nat := 15
abbrev f_is_free : Nat := 16
abbrev f_sorted_states : Nat := 17
abbrev f_free_gain : Nat := 18
abbrev f_filled : Nat := 19
abbrev f_filled_mass : Nat := 20
abbrev f_number_at : Nat := 21
abbrev f__law_src : Nat := 22
abbrev f__law_draw : Nat := 23
abbrev f__law_pick : Nat := 24
abbrev f__law_eq : Nat := 25
abbrev f__law_gcd : Nat := 26
abbrev f__law_fr : Nat := 27
abbrev f__law_add : Nat := 28
abbrev f__law_sub : Nat := 29
abbrev f__law_mul : Nat := 30
abbrev f__law_div : Nat := 31
abbrev f__law_pos : Nat := 32
abbrev f__law_lt : Nat := 33
abbrev f__law_sum : Nat := 34
abbrev f__law_top : Nat := 35
abbrev f__law_low : Nat := 36
abbrev f__law_quotient : Nat := 37
abbrev f__law_more : Nat := 38
abbrev f__law_rise : Nat := 39
abbrev f__law_steps : Nat := 40
abbrev f__law_rate : Nat := 41
abbrev f__law_curve : Nat := 42
abbrev f__law_filling : Nat := 43
abbrev f__law_on : Nat := 44
abbrev f__law_shares : Nat := 45
abbrev f__law_two_costs : Nat := 46
abbrev f__law_stage : Nat := 47
abbrev f__law_purse_right : Nat := 48
abbrev f_law : Nat := 49
def gs : List (Str × PV) := [("NOUGHT", (.tup [(.int 0), (.int 1)])), ("ONE", (.tup [(.int 1), (.int 1)]))]
def kws : List (Nat × Nat × List Str × List Nat) := [(21, 0, ["purse", "corners"], [1, 0]), (20, 0, ["purse", "world"], [1, 0]), (13, 0, ["world"], [0]), (19, 0, ["world"], [0])]
def d_common : FD := ⟨"common", defArgs (top 3), defBody (top 3), defScope (top 3), ["one", "other"], ["one", "other"], ⟨2, 2, b_common⟩⟩
def d_lowest : FD := ⟨"lowest", defArgs (top 4), defBody (top 4), defScope (top 4), ["top", "bottom", "part"], ["top", "bottom"], ⟨2, 3, b_lowest⟩⟩
def d_plus : FD := ⟨"plus", defArgs (top 5), defBody (top 5), defScope (top 5), ["one", "other"], ["one", "other"], ⟨2, 2, b_plus⟩⟩
def d_minus : FD := ⟨"minus", defArgs (top 6), defBody (top 6), defScope (top 6), ["one", "other"], ["one", "other"], ⟨2, 2, b_minus⟩⟩
def d_times : FD := ⟨"times", defArgs (top 7), defBody (top 7), defScope (top 7), ["one", "other"], ["one", "other"], ⟨2, 2, b_times⟩⟩
def d_over : FD := ⟨"over", defArgs (top 8), defBody (top 8), defScope (top 8), ["one", "other"], ["one", "other"], ⟨2, 2, b_over⟩⟩
def d_less : FD := ⟨"less", defArgs (top 9), defBody (top 9), defScope (top 9), ["one", "other"], ["one", "other"], ⟨2, 2, b_less⟩⟩
def d_at_most : FD := ⟨"at_most", defArgs (top 10), defBody (top 10), defScope (top 10), ["one", "other"], ["one", "other"], ⟨2, 2, b_at_most⟩⟩
def d_raw_sum : FD := ⟨"raw_sum", defArgs (top 11), defBody (top 11), defScope (top 11), ["many", "top", "bottom", "one", "part"], ["many"], ⟨1, 5, b_raw_sum⟩⟩
def d_sum_of : FD := ⟨"sum_of", defArgs (top 12), defBody (top 12), defScope (top 12), ["many", "top", "bottom"], ["many"], ⟨1, 3, b_sum_of⟩⟩
def d_least_of : FD := ⟨"least_of", defArgs (top 13), defBody (top 13), defScope (top 13), ["many", "best", "one"], ["many"], ⟨1, 3, b_least_of⟩⟩
def d_states_in : FD := ⟨"states_in", defArgs (top 15), defBody (top 15), defScope (top 15), ["world"], ["world"], ⟨1, 1, b_states_in⟩⟩
def d_results_in : FD := ⟨"results_in", defArgs (top 16), defBody (top 16), defScope (top 16), ["world"], ["world"], ⟨1, 1, b_results_in⟩⟩
def d_quotient : FD := ⟨"quotient", defArgs (top 18), defBody (top 18), defScope (top 18), ["world", "one", "result"], ["world"], ⟨1, 3, b_quotient⟩⟩
def d_more_gain : FD := ⟨"more_gain", defArgs (top 19), defBody (top 19), defScope (top 19), ["world", "state"], ["world", "state"], ⟨2, 2, b_more_gain⟩⟩
def d_more_cost : FD := ⟨"more_cost", defArgs (top 20), defBody (top 20), defScope (top 20), ["world", "state"], ["world", "state"], ⟨2, 2, b_more_cost⟩⟩
def d_is_free : FD := ⟨"is_free", defArgs (top 21), defBody (top 21), defScope (top 21), ["world", "state"], ["world", "state"], ⟨2, 2, b_is_free⟩⟩
def d_sorted_states : FD := ⟨"sorted_states", defArgs (top 22), defBody (top 22), defScope (top 22), ["world", "found", "state", "ratio", "at"], ["world"], ⟨1, 5, b_sorted_states⟩⟩
def d_free_gain : FD := ⟨"free_gain", defArgs (top 23), defBody (top 23), defScope (top 23), ["world", "shares", "state", "act"], ["world"], ⟨1, 4, b_free_gain⟩⟩
def d_filled : FD := ⟨"filled", defArgs (top 24), defBody (top 24), defScope (top 24), ["world", "seen", "corners", "kept", "ratio", "state", "cost", "purse", "number"], ["world"], ⟨1, 9, b_filled⟩⟩
def d_filled_mass : FD := ⟨"filled_mass", defArgs (top 25), defBody (top 25), defScope (top 25), ["world", "purse", "left", "masses", "ratio", "state", "cost", "told"], ["world", "purse"], ⟨2, 8, b_filled_mass⟩⟩
def d_number_at : FD := ⟨"number_at", defArgs (top 27), defBody (top 27), defScope (top 27), ["corners", "purse", "at", "one", "other", "share"], ["corners", "purse"], ⟨2, 6, b_number_at⟩⟩
def d__law_src : FD := ⟨"_law_src", defArgs (top 29), defBody (top 29), defScope (top 29), ["script", "cells", "great", "cell"], ["script"], ⟨1, 4, b__law_src⟩⟩
def d__law_draw : FD := ⟨"_law_draw", defArgs (top 30), defBody (top 30), defScope (top 30), ["src", "many", "digit", "cells", "cell", "one", "two"], ["src", "many"], ⟨2, 7, b__law_draw⟩⟩
def d__law_pick : FD := ⟨"_law_pick", defArgs (top 31), defBody (top 31), defScope (top 31), ["src", "some"], ["src", "some"], ⟨2, 2, b__law_pick⟩⟩
def d__law_eq : FD := ⟨"_law_eq", defArgs (top 32), defBody (top 32), defScope (top 32), ["found", "due", "k"], ["found", "due"], ⟨2, 3, b__law_eq⟩⟩
def d__law_gcd : FD := ⟨"_law_gcd", defArgs (top 33), defBody (top 33), defScope (top 33), ["one", "other", "turn"], ["one", "other"], ⟨2, 3, b__law_gcd⟩⟩
def d__law_fr : FD := ⟨"_law_fr", defArgs (top 34), defBody (top 34), defScope (top 34), ["top", "bottom", "common_v"], ["top", "bottom"], ⟨2, 3, b__law_fr⟩⟩
def d__law_add : FD := ⟨"_law_add", defArgs (top 35), defBody (top 35), defScope (top 35), ["one", "other"], ["one", "other"], ⟨2, 2, b__law_add⟩⟩
def d__law_sub : FD := ⟨"_law_sub", defArgs (top 36), defBody (top 36), defScope (top 36), ["one", "other"], ["one", "other"], ⟨2, 2, b__law_sub⟩⟩
def d__law_mul : FD := ⟨"_law_mul", defArgs (top 37), defBody (top 37), defScope (top 37), ["one", "other"], ["one", "other"], ⟨2, 2, b__law_mul⟩⟩
def d__law_div : FD := ⟨"_law_div", defArgs (top 38), defBody (top 38), defScope (top 38), ["one", "other"], ["one", "other"], ⟨2, 2, b__law_div⟩⟩
def d__law_pos : FD := ⟨"_law_pos", defArgs (top 39), defBody (top 39), defScope (top 39), ["one"], ["one"], ⟨1, 1, b__law_pos⟩⟩
def d__law_lt : FD := ⟨"_law_lt", defArgs (top 40), defBody (top 40), defScope (top 40), ["one", "other"], ["one", "other"], ⟨2, 2, b__law_lt⟩⟩
def d__law_sum : FD := ⟨"_law_sum", defArgs (top 41), defBody (top 41), defScope (top 41), ["row", "total", "one"], ["row"], ⟨1, 3, b__law_sum⟩⟩
def d__law_top : FD := ⟨"_law_top", defArgs (top 42), defBody (top 42), defScope (top 42), ["row", "most", "one"], ["row"], ⟨1, 3, b__law_top⟩⟩
def d__law_low : FD := ⟨"_law_low", defArgs (top 43), defBody (top 43), defScope (top 43), ["row", "least", "one"], ["row"], ⟨1, 3, b__law_low⟩⟩
def d__law_quotient : FD := ⟨"_law_quotient", defArgs (top 44), defBody (top 44), defScope (top 44), ["world", "found", "rows", "r"], ["world"], ⟨1, 4, b__law_quotient⟩⟩
def d__law_more : FD := ⟨"_law_more", defArgs (top 45), defBody (top 45), defScope (top 45), ["world", "w"], ["world", "w"], ⟨2, 2, b__law_more⟩⟩
def d__law_rise : FD := ⟨"_law_rise", defArgs (top 46), defBody (top 46), defScope (top 46), ["world", "w"], ["world", "w"], ⟨2, 2, b__law_rise⟩⟩
def d__law_steps : FD := ⟨"_law_steps", defArgs (top 47), defBody (top 47), defScope (top 47), ["world", "rate", "left", "found", "turn", "ratios", "high", "w", "k"], ["world", "rate"], ⟨2, 9, b__law_steps⟩⟩
def d__law_rate : FD := ⟨"_law_rate", defArgs (top 48), defBody (top 48), defScope (top 48), ["world", "rest"], ["world"], ⟨1, 2, b__law_rate⟩⟩
def d__law_curve : FD := ⟨"_law_curve", defArgs (top 49), defBody (top 49), defScope (top 49), ["world", "rate", "number", "purse", "w", "best_gain", "corners", "states", "ratio", "debt"], ["world", "rate"], ⟨2, 10, b__law_curve⟩⟩
def d__law_filling : FD := ⟨"_law_filling", defArgs (top 50), defBody (top 50), defScope (top 50), ["world", "rate", "purse", "found", "states", "ratio", "w", "each", "need"], ["world", "rate", "purse"], ⟨3, 9, b__law_filling⟩⟩
def d__law_on : FD := ⟨"_law_on", defArgs (top 51), defBody (top 51), defScope (top 51), ["corners", "purse", "k", "left", "right", "slope"], ["corners", "purse"], ⟨2, 6, b__law_on⟩⟩
def d__law_shares : FD := ⟨"_law_shares", defArgs (top 52), defBody (top 52), defScope (top 52), ["src", "many", "least", "whole", "left", "found", "k", "count"], ["src", "many", "least"], ⟨3, 8, b__law_shares⟩⟩
def d__law_two_costs : FD := ⟨"_law_two_costs", defArgs (top 53), defBody (top 53), defScope (top 53), ["src", "bottom", "low", "high"], ["src"], ⟨1, 4, b__law_two_costs⟩⟩
def d__law_stage : FD := ⟨"_law_stage", defArgs (top 54), defBody (top 54), defScope (top 54), ["src", "states", "results", "chances", "costs", "gains", "w", "one", "blind", "bottom", "first", "second"], ["src"], ⟨1, 12, b__law_stage⟩⟩
def d__law_purse_right : FD := ⟨"_law_purse_right", defArgs (top 55), defBody (top 55), defScope (top 55), ["world", "purse", "named", "rate", "corners", "found", "number"], ["world", "purse", "named"], ⟨3, 7, b__law_purse_right⟩⟩
def d_law : FD := ⟨"law", defArgs (top 56), defBody (top 56), defScope (top 56), ["script", "src", "turn", "world", "other", "told", "far", "purses", "k", "one"], ["script"], ⟨1, 10, b_law⟩⟩
def fds : List FD := [d_common, d_lowest, d_plus, d_minus, d_times, d_over, d_less, d_at_most, d_raw_sum, d_sum_of, d_least_of, d_states_in, d_results_in, d_quotient, d_more_gain, d_more_cost, d_is_free, d_sorted_states, d_free_gain, d_filled, d_filled_mass, d_number_at, d__law_src, d__law_draw, d__law_pick, d__law_eq, d__law_gcd, d__law_fr, d__law_add, d__law_sub, d__law_mul, d__law_div, d__law_pos, d__law_lt, d__law_sum, d__law_top, d__law_low, d__law_quotient, d__law_more, d__law_rise, d__law_steps, d__law_rate, d__law_curve, d__law_filling, d__law_on, d__law_shares, d__law_two_costs, d__law_stage, d__law_purse_right, d_law]
def fx : Fx := ⟨[], gs, fds.map (·.x), kws⟩
abbrev Ps : List Fn := fds.map (·.fn)
theorem ok_common : okF fx d_common = true := by kernel_rfl
theorem ok_lowest : okF fx d_lowest = true := by kernel_rfl
theorem ok_plus : okF fx d_plus = true := by kernel_rfl
theorem ok_minus : okF fx d_minus = true := by kernel_rfl
theorem ok_times : okF fx d_times = true := by kernel_rfl
theorem ok_over : okF fx d_over = true := by kernel_rfl
theorem ok_less : okF fx d_less = true := by kernel_rfl
theorem ok_at_most : okF fx d_at_most = true := by kernel_rfl
theorem ok_raw_sum : okF fx d_raw_sum = true := by kernel_rfl
theorem ok_sum_of : okF fx d_sum_of = true := by kernel_rfl
theorem ok_least_of : okF fx d_least_of = true := by kernel_rfl
theorem ok_states_in : okF fx d_states_in = true := by kernel_rfl
theorem ok_results_in : okF fx d_results_in = true := by kernel_rfl
theorem ok_quotient : okF fx d_quotient = true := by kernel_rfl
theorem ok_more_gain : okF fx d_more_gain = true := by kernel_rfl
theorem ok_more_cost : okF fx d_more_cost = true := by kernel_rfl
theorem ok_is_free : okF fx d_is_free = true := by kernel_rfl
theorem ok_sorted_states : okF fx d_sorted_states = true := by kernel_rfl
theorem ok_free_gain : okF fx d_free_gain = true := by kernel_rfl
theorem ok_filled : okF fx d_filled = true := by kernel_rfl
theorem ok_filled_mass : okF fx d_filled_mass = true := by kernel_rfl
theorem ok_number_at : okF fx d_number_at = true := by kernel_rfl
theorem ok__law_src : okF fx d__law_src = true := by kernel_rfl
theorem ok__law_draw : okF fx d__law_draw = true := by kernel_rfl
theorem ok__law_pick : okF fx d__law_pick = true := by kernel_rfl
theorem ok__law_eq : okF fx d__law_eq = true := by kernel_rfl
theorem ok__law_gcd : okF fx d__law_gcd = true := by kernel_rfl
theorem ok__law_fr : okF fx d__law_fr = true := by kernel_rfl
theorem ok__law_add : okF fx d__law_add = true := by kernel_rfl
theorem ok__law_sub : okF fx d__law_sub = true := by kernel_rfl
theorem ok__law_mul : okF fx d__law_mul = true := by kernel_rfl
theorem ok__law_div : okF fx d__law_div = true := by kernel_rfl
theorem ok__law_pos : okF fx d__law_pos = true := by kernel_rfl
theorem ok__law_lt : okF fx d__law_lt = true := by kernel_rfl
theorem ok__law_sum : okF fx d__law_sum = true := by kernel_rfl
theorem ok__law_top : okF fx d__law_top = true := by kernel_rfl
theorem ok__law_low : okF fx d__law_low = true := by kernel_rfl
theorem ok__law_quotient : okF fx d__law_quotient = true := by kernel_rfl
theorem ok__law_more : okF fx d__law_more = true := by kernel_rfl
theorem ok__law_rise : okF fx d__law_rise = true := by kernel_rfl
theorem ok__law_steps : okF fx d__law_steps = true := by kernel_rfl
theorem ok__law_rate : okF fx d__law_rate = true := by kernel_rfl
theorem ok__law_curve : okF fx d__law_curve = true := by kernel_rfl
theorem ok__law_filling : okF fx d__law_filling = true := by kernel_rfl
theorem ok__law_on : okF fx d__law_on = true := by kernel_rfl
theorem ok__law_shares : okF fx d__law_shares = true := by kernel_rfl
theorem ok__law_two_costs : okF fx d__law_two_costs = true := by kernel_rfl
theorem ok__law_stage : okF fx d__law_stage = true := by kernel_rfl
theorem ok__law_purse_right : okF fx d__law_purse_right = true := by kernel_rfl
theorem ok_law : okF fx d_law = true := by kernel_rfl
theorem ok_all : ∀ d ∈ fds, okF fx d = true := by
  unfold fds
  intro d hd
  simp only [List.mem_cons, List.not_mem_nil, or_false] at hd
  rcases hd with h | h | h | h | h | h | h | h | h | h | h | h | h | h | h | h | h | h | h | h | h | h | h | h | h | h | h | h | h | h | h | h | h | h | h | h | h | h | h | h | h | h | h | h | h | h | h | h | h | h
  · rw [h]; exact ok_common
  · rw [h]; exact ok_lowest
  · rw [h]; exact ok_plus
  · rw [h]; exact ok_minus
  · rw [h]; exact ok_times
  · rw [h]; exact ok_over
  · rw [h]; exact ok_less
  · rw [h]; exact ok_at_most
  · rw [h]; exact ok_raw_sum
  · rw [h]; exact ok_sum_of
  · rw [h]; exact ok_least_of
  · rw [h]; exact ok_states_in
  · rw [h]; exact ok_results_in
  · rw [h]; exact ok_quotient
  · rw [h]; exact ok_more_gain
  · rw [h]; exact ok_more_cost
  · rw [h]; exact ok_is_free
  · rw [h]; exact ok_sorted_states
  · rw [h]; exact ok_free_gain
  · rw [h]; exact ok_filled
  · rw [h]; exact ok_filled_mass
  · rw [h]; exact ok_number_at
  · rw [h]; exact ok__law_src
  · rw [h]; exact ok__law_draw
  · rw [h]; exact ok__law_pick
  · rw [h]; exact ok__law_eq
  · rw [h]; exact ok__law_gcd
  · rw [h]; exact ok__law_fr
  · rw [h]; exact ok__law_add
  · rw [h]; exact ok__law_sub
  · rw [h]; exact ok__law_mul
  · rw [h]; exact ok__law_div
  · rw [h]; exact ok__law_pos
  · rw [h]; exact ok__law_lt
  · rw [h]; exact ok__law_sum
  · rw [h]; exact ok__law_top
  · rw [h]; exact ok__law_low
  · rw [h]; exact ok__law_quotient
  · rw [h]; exact ok__law_more
  · rw [h]; exact ok__law_rise
  · rw [h]; exact ok__law_steps
  · rw [h]; exact ok__law_rate
  · rw [h]; exact ok__law_curve
  · rw [h]; exact ok__law_filling
  · rw [h]; exact ok__law_on
  · rw [h]; exact ok__law_shares
  · rw [h]; exact ok__law_two_costs
  · rw [h]; exact ok__law_stage
  · rw [h]; exact ok__law_purse_right
  · rw [h]; exact ok_law
/-! the head -/
def fn : List He.DefD := fds.map dd
def fa : List He.Fa := [.glo "common", .glo "lowest", .glo "plus", .glo "minus", .glo "times", .glo "over", .glo "less", .glo "at_most", .glo "raw_sum", .glo "sum_of", .glo "least_of", .glo "states_in", .glo "results_in", .glo "quotient", .glo "more_gain", .glo "more_cost", .glo "is_free", .glo "sorted_states", .glo "free_gain", .glo "filled", .glo "filled_mass", .glo "number_at", .glo "_law_src", .glo "_law_draw", .glo "_law_pick", .glo "_law_eq", .glo "_law_gcd", .glo "_law_fr", .glo "_law_add", .glo "_law_sub", .glo "_law_mul", .glo "_law_div", .glo "_law_pos", .glo "_law_lt", .glo "_law_sum", .glo "_law_top", .glo "_law_low", .glo "_law_quotient", .glo "_law_more", .glo "_law_rise", .glo "_law_steps", .glo "_law_rate", .glo "_law_curve", .glo "_law_filling", .glo "_law_on", .glo "_law_shares", .glo "_law_two_costs", .glo "_law_stage", .glo "_law_purse_right", .glo "law", .glo "NOUGHT", .glo "ONE", .free "len", .free "abs", .free "int", .free "tuple", .free "list", .free "sum", .free "all", .free "any", .free "max", .free "min", .free "divmod", .free "isinstance", .free "bool", .free "str", .free "range", .free "zip", .free "enumerate"]
def ex (K : PySem.W.Frag) : Bool := He.tupB K "NOUGHT" [.int 0, .int 1] && He.tupB K "ONE" [.int 1, .int 1]
abbrev R : PySem.W.OpenRow := PySem.W.OpenLaw.row PySem.Challenge.rw_toldandpaid_k36_sorting_four_digits
abbrev hk : PySem.W.Hook := He.hookX 4 fa fn [] [] ex
def ob (s : PySem.W.SharedT) : He.AlX := He.obsX 4 fa fn [] [] ex (HandSHeadRun.getT s)
theorem ob_eq (s : PySem.W.SharedT) : ob s = hk.obs s.abs := He.obsX_eq (HandSHeadRun.getT_eq s)
def names0 : List Str := ["NOUGHT", "ONE", "common", "lowest", "plus", "minus", "times", "over", "less", "at_most", "raw_sum", "sum_of", "least_of", "states_in", "results_in"]
def names1 : List Str := ["quotient", "more_gain", "more_cost", "is_free", "sorted_states", "free_gain", "filled", "filled_mass", "number_at", "_law_src", "_law_draw", "_law_pick", "_law_eq", "_law_gcd", "_law_fr"]
def names2 : List Str := ["_law_add", "_law_sub", "_law_mul", "_law_div", "_law_pos", "_law_lt", "_law_sum", "_law_top", "_law_low", "_law_quotient", "_law_more", "_law_rise", "_law_steps", "_law_rate", "_law_curve"]
def names3 : List Str := ["_law_filling", "_law_on", "_law_shares", "_law_two_costs", "_law_stage", "_law_purse_right"]
def names : List Str := names0 ++ names1 ++ names2 ++ names3
theorem run_eq (w : World) : HandSHeadRun.RunEq R (PySem.W.view R.prog [56]) hk ob 4000 names w := by
  intro os
  kernel_rfl
theorem bp_common : BindP fx 0 d_common := by
  refine ⟨fun _ _ _ _ _ _ us hl => match us, hl with | [_, _], _ => rfl, fun n ks mp hm => ?_⟩
  simp [fx, kws] at hm
theorem bp_lowest : BindP fx 1 d_lowest := by
  refine ⟨fun _ _ _ _ _ _ us hl => match us, hl with | [_, _], _ => rfl, fun n ks mp hm => ?_⟩
  simp [fx, kws] at hm
theorem bp_plus : BindP fx 2 d_plus := by
  refine ⟨fun _ _ _ _ _ _ us hl => match us, hl with | [_, _], _ => rfl, fun n ks mp hm => ?_⟩
  simp [fx, kws] at hm
theorem bp_minus : BindP fx 3 d_minus := by
  refine ⟨fun _ _ _ _ _ _ us hl => match us, hl with | [_, _], _ => rfl, fun n ks mp hm => ?_⟩
  simp [fx, kws] at hm
theorem bp_times : BindP fx 4 d_times := by
  refine ⟨fun _ _ _ _ _ _ us hl => match us, hl with | [_, _], _ => rfl, fun n ks mp hm => ?_⟩
  simp [fx, kws] at hm
theorem bp_over : BindP fx 5 d_over := by
  refine ⟨fun _ _ _ _ _ _ us hl => match us, hl with | [_, _], _ => rfl, fun n ks mp hm => ?_⟩
  simp [fx, kws] at hm
theorem bp_less : BindP fx 6 d_less := by
  refine ⟨fun _ _ _ _ _ _ us hl => match us, hl with | [_, _], _ => rfl, fun n ks mp hm => ?_⟩
  simp [fx, kws] at hm
theorem bp_at_most : BindP fx 7 d_at_most := by
  refine ⟨fun _ _ _ _ _ _ us hl => match us, hl with | [_, _], _ => rfl, fun n ks mp hm => ?_⟩
  simp [fx, kws] at hm
theorem bp_raw_sum : BindP fx 8 d_raw_sum := by
  refine ⟨fun _ _ _ _ _ _ us hl => match us, hl with | [_], _ => rfl, fun n ks mp hm => ?_⟩
  simp [fx, kws] at hm
theorem bp_sum_of : BindP fx 9 d_sum_of := by
  refine ⟨fun _ _ _ _ _ _ us hl => match us, hl with | [_], _ => rfl, fun n ks mp hm => ?_⟩
  simp [fx, kws] at hm
theorem bp_least_of : BindP fx 10 d_least_of := by
  refine ⟨fun _ _ _ _ _ _ us hl => match us, hl with | [_], _ => rfl, fun n ks mp hm => ?_⟩
  simp [fx, kws] at hm
theorem bp_states_in : BindP fx 11 d_states_in := by
  refine ⟨fun _ _ _ _ _ _ us hl => match us, hl with | [_], _ => rfl, fun n ks mp hm => ?_⟩
  simp [fx, kws] at hm
theorem bp_results_in : BindP fx 12 d_results_in := by
  refine ⟨fun _ _ _ _ _ _ us hl => match us, hl with | [_], _ => rfl, fun n ks mp hm => ?_⟩
  simp [fx, kws] at hm
theorem bp_quotient : BindP fx 13 d_quotient := by
  refine ⟨fun _ _ _ _ _ _ us hl => match us, hl with | [_], _ => rfl, fun n ks mp hm => ?_⟩
  simp [fx, kws] at hm
  obtain ⟨rfl, rfl, rfl⟩ := hm
  exact fun _ _ _ _ _ _ us ws h1 h2 => match us, ws, h1, h2 with | [], [_], _, _ => rfl
theorem bp_more_gain : BindP fx 14 d_more_gain := by
  refine ⟨fun _ _ _ _ _ _ us hl => match us, hl with | [_, _], _ => rfl, fun n ks mp hm => ?_⟩
  simp [fx, kws] at hm
theorem bp_more_cost : BindP fx 15 d_more_cost := by
  refine ⟨fun _ _ _ _ _ _ us hl => match us, hl with | [_, _], _ => rfl, fun n ks mp hm => ?_⟩
  simp [fx, kws] at hm
theorem bp_is_free : BindP fx 16 d_is_free := by
  refine ⟨fun _ _ _ _ _ _ us hl => match us, hl with | [_, _], _ => rfl, fun n ks mp hm => ?_⟩
  simp [fx, kws] at hm
theorem bp_sorted_states : BindP fx 17 d_sorted_states := by
  refine ⟨fun _ _ _ _ _ _ us hl => match us, hl with | [_], _ => rfl, fun n ks mp hm => ?_⟩
  simp [fx, kws] at hm
theorem bp_free_gain : BindP fx 18 d_free_gain := by
  refine ⟨fun _ _ _ _ _ _ us hl => match us, hl with | [_], _ => rfl, fun n ks mp hm => ?_⟩
  simp [fx, kws] at hm
theorem bp_filled : BindP fx 19 d_filled := by
  refine ⟨fun _ _ _ _ _ _ us hl => match us, hl with | [_], _ => rfl, fun n ks mp hm => ?_⟩
  simp [fx, kws] at hm
  obtain ⟨rfl, rfl, rfl⟩ := hm
  exact fun _ _ _ _ _ _ us ws h1 h2 => match us, ws, h1, h2 with | [], [_], _, _ => rfl
theorem bp_filled_mass : BindP fx 20 d_filled_mass := by
  refine ⟨fun _ _ _ _ _ _ us hl => match us, hl with | [_, _], _ => rfl, fun n ks mp hm => ?_⟩
  simp [fx, kws] at hm
  obtain ⟨rfl, rfl, rfl⟩ := hm
  exact fun _ _ _ _ _ _ us ws h1 h2 => match us, ws, h1, h2 with | [], [_, _], _, _ => rfl
theorem bp_number_at : BindP fx 21 d_number_at := by
  refine ⟨fun _ _ _ _ _ _ us hl => match us, hl with | [_, _], _ => rfl, fun n ks mp hm => ?_⟩
  simp [fx, kws] at hm
  obtain ⟨rfl, rfl, rfl⟩ := hm
  exact fun _ _ _ _ _ _ us ws h1 h2 => match us, ws, h1, h2 with | [], [_, _], _, _ => rfl
theorem bp__law_src : BindP fx 22 d__law_src := by
  refine ⟨fun _ _ _ _ _ _ us hl => match us, hl with | [_], _ => rfl, fun n ks mp hm => ?_⟩
  simp [fx, kws] at hm
theorem bp__law_draw : BindP fx 23 d__law_draw := by
  refine ⟨fun _ _ _ _ _ _ us hl => match us, hl with | [_, _], _ => rfl, fun n ks mp hm => ?_⟩
  simp [fx, kws] at hm
theorem bp__law_pick : BindP fx 24 d__law_pick := by
  refine ⟨fun _ _ _ _ _ _ us hl => match us, hl with | [_, _], _ => rfl, fun n ks mp hm => ?_⟩
  simp [fx, kws] at hm
theorem bp__law_eq : BindP fx 25 d__law_eq := by
  refine ⟨fun _ _ _ _ _ _ us hl => match us, hl with | [_, _], _ => rfl, fun n ks mp hm => ?_⟩
  simp [fx, kws] at hm
theorem bp__law_gcd : BindP fx 26 d__law_gcd := by
  refine ⟨fun _ _ _ _ _ _ us hl => match us, hl with | [_, _], _ => rfl, fun n ks mp hm => ?_⟩
  simp [fx, kws] at hm
theorem bp__law_fr : BindP fx 27 d__law_fr := by
  refine ⟨fun _ _ _ _ _ _ us hl => match us, hl with | [_, _], _ => rfl, fun n ks mp hm => ?_⟩
  simp [fx, kws] at hm
theorem bp__law_add : BindP fx 28 d__law_add := by
  refine ⟨fun _ _ _ _ _ _ us hl => match us, hl with | [_, _], _ => rfl, fun n ks mp hm => ?_⟩
  simp [fx, kws] at hm
theorem bp__law_sub : BindP fx 29 d__law_sub := by
  refine ⟨fun _ _ _ _ _ _ us hl => match us, hl with | [_, _], _ => rfl, fun n ks mp hm => ?_⟩
  simp [fx, kws] at hm
theorem bp__law_mul : BindP fx 30 d__law_mul := by
  refine ⟨fun _ _ _ _ _ _ us hl => match us, hl with | [_, _], _ => rfl, fun n ks mp hm => ?_⟩
  simp [fx, kws] at hm
theorem bp__law_div : BindP fx 31 d__law_div := by
  refine ⟨fun _ _ _ _ _ _ us hl => match us, hl with | [_, _], _ => rfl, fun n ks mp hm => ?_⟩
  simp [fx, kws] at hm
theorem bp__law_pos : BindP fx 32 d__law_pos := by
  refine ⟨fun _ _ _ _ _ _ us hl => match us, hl with | [_], _ => rfl, fun n ks mp hm => ?_⟩
  simp [fx, kws] at hm
theorem bp__law_lt : BindP fx 33 d__law_lt := by
  refine ⟨fun _ _ _ _ _ _ us hl => match us, hl with | [_, _], _ => rfl, fun n ks mp hm => ?_⟩
  simp [fx, kws] at hm
theorem bp__law_sum : BindP fx 34 d__law_sum := by
  refine ⟨fun _ _ _ _ _ _ us hl => match us, hl with | [_], _ => rfl, fun n ks mp hm => ?_⟩
  simp [fx, kws] at hm
theorem bp__law_top : BindP fx 35 d__law_top := by
  refine ⟨fun _ _ _ _ _ _ us hl => match us, hl with | [_], _ => rfl, fun n ks mp hm => ?_⟩
  simp [fx, kws] at hm
theorem bp__law_low : BindP fx 36 d__law_low := by
  refine ⟨fun _ _ _ _ _ _ us hl => match us, hl with | [_], _ => rfl, fun n ks mp hm => ?_⟩
  simp [fx, kws] at hm
theorem bp__law_quotient : BindP fx 37 d__law_quotient := by
  refine ⟨fun _ _ _ _ _ _ us hl => match us, hl with | [_], _ => rfl, fun n ks mp hm => ?_⟩
  simp [fx, kws] at hm
theorem bp__law_more : BindP fx 38 d__law_more := by
  refine ⟨fun _ _ _ _ _ _ us hl => match us, hl with | [_, _], _ => rfl, fun n ks mp hm => ?_⟩
  simp [fx, kws] at hm
theorem bp__law_rise : BindP fx 39 d__law_rise := by
  refine ⟨fun _ _ _ _ _ _ us hl => match us, hl with | [_, _], _ => rfl, fun n ks mp hm => ?_⟩
  simp [fx, kws] at hm
theorem bp__law_steps : BindP fx 40 d__law_steps := by
  refine ⟨fun _ _ _ _ _ _ us hl => match us, hl with | [_, _], _ => rfl, fun n ks mp hm => ?_⟩
  simp [fx, kws] at hm
theorem bp__law_rate : BindP fx 41 d__law_rate := by
  refine ⟨fun _ _ _ _ _ _ us hl => match us, hl with | [_], _ => rfl, fun n ks mp hm => ?_⟩
  simp [fx, kws] at hm
theorem bp__law_curve : BindP fx 42 d__law_curve := by
  refine ⟨fun _ _ _ _ _ _ us hl => match us, hl with | [_, _], _ => rfl, fun n ks mp hm => ?_⟩
  simp [fx, kws] at hm
theorem bp__law_filling : BindP fx 43 d__law_filling := by
  refine ⟨fun _ _ _ _ _ _ us hl => match us, hl with | [_, _, _], _ => rfl, fun n ks mp hm => ?_⟩
  simp [fx, kws] at hm
theorem bp__law_on : BindP fx 44 d__law_on := by
  refine ⟨fun _ _ _ _ _ _ us hl => match us, hl with | [_, _], _ => rfl, fun n ks mp hm => ?_⟩
  simp [fx, kws] at hm
theorem bp__law_shares : BindP fx 45 d__law_shares := by
  refine ⟨fun _ _ _ _ _ _ us hl => match us, hl with | [_, _, _], _ => rfl, fun n ks mp hm => ?_⟩
  simp [fx, kws] at hm
theorem bp__law_two_costs : BindP fx 46 d__law_two_costs := by
  refine ⟨fun _ _ _ _ _ _ us hl => match us, hl with | [_], _ => rfl, fun n ks mp hm => ?_⟩
  simp [fx, kws] at hm
theorem bp__law_stage : BindP fx 47 d__law_stage := by
  refine ⟨fun _ _ _ _ _ _ us hl => match us, hl with | [_], _ => rfl, fun n ks mp hm => ?_⟩
  simp [fx, kws] at hm
theorem bp__law_purse_right : BindP fx 48 d__law_purse_right := by
  refine ⟨fun _ _ _ _ _ _ us hl => match us, hl with | [_, _, _], _ => rfl, fun n ks mp hm => ?_⟩
  simp [fx, kws] at hm
theorem bp_law : BindP fx 49 d_law := by
  refine ⟨fun _ _ _ _ _ _ us hl => match us, hl with | [_], _ => rfl, fun n ks mp hm => ?_⟩
  simp [fx, kws] at hm
theorem bp_all : ∀ (i : Nat) (d : FD), fds[i]? = some d → BindP fx i d := by
  intro i d h
  match i, h with
  | 0, h => cases h; exact bp_common
  | 1, h => cases h; exact bp_lowest
  | 2, h => cases h; exact bp_plus
  | 3, h => cases h; exact bp_minus
  | 4, h => cases h; exact bp_times
  | 5, h => cases h; exact bp_over
  | 6, h => cases h; exact bp_less
  | 7, h => cases h; exact bp_at_most
  | 8, h => cases h; exact bp_raw_sum
  | 9, h => cases h; exact bp_sum_of
  | 10, h => cases h; exact bp_least_of
  | 11, h => cases h; exact bp_states_in
  | 12, h => cases h; exact bp_results_in
  | 13, h => cases h; exact bp_quotient
  | 14, h => cases h; exact bp_more_gain
  | 15, h => cases h; exact bp_more_cost
  | 16, h => cases h; exact bp_is_free
  | 17, h => cases h; exact bp_sorted_states
  | 18, h => cases h; exact bp_free_gain
  | 19, h => cases h; exact bp_filled
  | 20, h => cases h; exact bp_filled_mass
  | 21, h => cases h; exact bp_number_at
  | 22, h => cases h; exact bp__law_src
  | 23, h => cases h; exact bp__law_draw
  | 24, h => cases h; exact bp__law_pick
  | 25, h => cases h; exact bp__law_eq
  | 26, h => cases h; exact bp__law_gcd
  | 27, h => cases h; exact bp__law_fr
  | 28, h => cases h; exact bp__law_add
  | 29, h => cases h; exact bp__law_sub
  | 30, h => cases h; exact bp__law_mul
  | 31, h => cases h; exact bp__law_div
  | 32, h => cases h; exact bp__law_pos
  | 33, h => cases h; exact bp__law_lt
  | 34, h => cases h; exact bp__law_sum
  | 35, h => cases h; exact bp__law_top
  | 36, h => cases h; exact bp__law_low
  | 37, h => cases h; exact bp__law_quotient
  | 38, h => cases h; exact bp__law_more
  | 39, h => cases h; exact bp__law_rise
  | 40, h => cases h; exact bp__law_steps
  | 41, h => cases h; exact bp__law_rate
  | 42, h => cases h; exact bp__law_curve
  | 43, h => cases h; exact bp__law_filling
  | 44, h => cases h; exact bp__law_on
  | 45, h => cases h; exact bp__law_shares
  | 46, h => cases h; exact bp__law_two_costs
  | 47, h => cases h; exact bp__law_stage
  | 48, h => cases h; exact bp__law_purse_right
  | 49, h => cases h; exact bp_law
  | n + 50, h => simp [fds] at h
theorem hd_of {w : World} {K : PySem.W.Frag} {mg : Str → Option Value} {h : Heap} (KX : K.In h) (G : h.Ns mainGlobals mg) (c : He.SaysX fa fn [] [] ex w h K) : Hd K mg fds fx := by
  refine Hd.make (fa := fa) (ex := ex) KX G c rfl ok_all (by decide +kernel) (by decide +kernel) ?_ bp_all
  intro p hp
  have m := c.more
  unfold ex at m
  simp only [fx, gs, List.mem_cons, List.not_mem_nil, or_false] at hp
  rw [Bool.and_eq_true] at m
  rcases hp with rfl | rfl
  · exact ⟨by decide +kernel, [0, 1], m.1, rfl⟩
  · exact ⟨by decide +kernel, [1, 1], m.2, rfl⟩
theorem facts {P : Program} {w : World} {K : PySem.W.Frag} {h : Heap} {mg : Str → Option Value} {f : Addr} {L k : Nat} (KX : K.In h) (G : h.Ns mainGlobals mg) (c : He.SaysX fa fn [] [] ex w h K) (hf : mg ("law" : Str) = some (.ref f))
    (hL : ∀ ns : List Int, ns.length ≤ 63 → ∃ T, run Ps gs L (k + 1) 49 [.scr ns] [] [] = some (.bl true, T)) :
    ∃ (fd : FuncData) (sp : Sp), (∀ (s : Shared) (u : Value), BindsTo s fd ⟨[u], []⟩ [("script", u)]) ∧
      (∀ (H : Hp) (a : Addr) (ns : List Int), ns.length ≤ 63 → Only H → SqL K H a (ns.map V.int) → sp [.ref a] H (fun v _ => v = .bl true) fun _ _ _ => False) ∧
      ∀ base : Heap, K.In base → base.Ns mainGlobals mg → FnOk P w K mg base L2.CX0 (k + 1) f fd ["script"] sp :=
  law_facts (fx := fx) (i := 49) (d := d_law) KX G c (hd_of KX G c) rfl rfl bp_law hf (by decide +kernel) hL

end K36
open PySem PySem.W PySem.Calls PyProof.Rows
theorem K36.holds_of {L k : Nat} (hk : k + 1 < 200) (hL : ∀ ns : List Int, ns.length ≤ 63 → ∃ T, Rf.run K36.Ps K36.gs L (k + 1) 49 [.scr ns] [] [] = some (.bl true, T)) : PySem.Challenge.rw_toldandpaid_k36_sorting_four_digits.Holds := by
  w_on; o_law
  refine HandSHeadRun.head_any (r := OpenLaw.row PySem.Challenge.rw_toldandpaid_k36_sorting_four_digits) (q := view (OpenLaw.row PySem.Challenge.rw_toldandpaid_k36_sorting_four_digits).prog [56]) (H := K36.hk) (ob := K36.ob) (M := 4000) (loose := K36.names) (d := HandSHeadRun.topDef (OpenLaw.row PySem.Challenge.rw_toldandpaid_k36_sorting_four_digits).prog 56) (kwd := []) K36.ob_eq
    (by kernel_rfl) (fun s => by kernel_rfl) K36.run_eq (by kernel_rfl) (by kernel_rfl) (by kernel_rfl) (by rfl) (by first | assumption | decide +kernel) (by decide +kernel) ⟨rfl, rfl, rfl, rfl, rfl, by decide +kernel⟩ ?hw ?hc
  case hw => w_witness2
  case hc =>
    refine L2.walk_ofE (l := PySem.Challenge.rw_toldandpaid_k36_sorting_four_digits) (n := 63) (k := k + 1) (x := "script") (CX := L2.CX0) rfl (by decide) (by kernel_rfl) ⟨rfl, ?_, ?_⟩ ?F (fun _ _ _ _ z => z)
    case F =>
      intro w mg fa h Y G hmg0
      obtain ⟨K, KX, c⟩ := Y
      have hmg : mg ("law" : PySem.Str) = some (.ref fa) := by
        have e : (HandSHeadRun.topDef (OpenLaw.row PySem.Challenge.rw_toldandpaid_k36_sorting_four_digits).prog 56).name = ("law" : PySem.Str) := by kernel_rfl
        rw [← e]
        exact hmg0
      obtain ⟨fd, sp, hb, hsp, hF⟩ := K36.facts (P := (PySem.Challenge.rw_toldandpaid_k36_sorting_four_digits).prog) (w := w) KX G c hmg hL
      exact ⟨K, fd, sp, KX, hb, hsp, hF⟩
    · have : callerA.depth + 3 * 200 + 5 < PySem.recursionLimit := by decide
      omega
    · have : callerA.units + 16 * 200 + 200 < PySem.cLine := by decide
      omega

end
section
/-! k36: the small functions on a world. -/
namespace K36
open PySem Rf Pl
/-- the loops' fuel: some number, not to be computed -/
theorem LL_ex : ∃ L : Nat, 2 ^ 9000 ≤ L := ⟨2 ^ 9000, Nat.le_refl _⟩
noncomputable def LL : Nat := Classical.choose LL_ex
theorem LL_ge : 2 ^ 9000 ≤ LL := Classical.choose_spec LL_ex
section
variable {n : Nat} {B T : MH}
theorem big_L : 100000 ≤ LL := Nat.le_trans (Nat.le_trans (by decide : 100000 ≤ 2 ^ 17) (Nat.pow_le_pow_right (by decide) (by decide))) LL_ge
theorem gcdP (h : 1 ≤ n) : GcdOk Ps gs LL n 0 := by
  obtain ⟨m, rfl⟩ : ∃ m, n = m + 1 := ⟨n - 1, by omega⟩
  exact fun a b B hb => common_spec rfl (Nat.lt_of_lt_of_le hb LL_ge)
theorem lowP (h : 2 ≤ n) : LowOk Ps gs LL n 1 := by
  obtain ⟨m, rfl⟩ : ∃ m, n = m + 1 := ⟨n - 1, by omega⟩
  exact lowest_spec (g := 0) rfl (gcdP (by omega))
theorem plusP (h : 3 ≤ n) : OpOk Ps gs LL n 2 (fun a b => fr (a + b)) tt := by
  obtain ⟨m, rfl⟩ : ∃ m, n = m + 1 := ⟨n - 1, by omega⟩
  exact plus_spec (l := 1) rfl (lowP (by omega))
theorem minusP (h : 3 ≤ n) : OpOk Ps gs LL n 3 (fun a b => fr (a - b)) tt := by
  obtain ⟨m, rfl⟩ : ∃ m, n = m + 1 := ⟨n - 1, by omega⟩
  exact minus_spec (l := 1) rfl (lowP (by omega))
theorem timesP (h : 3 ≤ n) : OpOk Ps gs LL n 4 (fun a b => fr (a * b)) tt := by
  obtain ⟨m, rfl⟩ : ∃ m, n = m + 1 := ⟨n - 1, by omega⟩
  exact times_spec (l := 1) rfl (lowP (by omega))
theorem overP (h : 3 ≤ n) : OpOk Ps gs LL n 5 (fun a b => fr (a / b)) (fun _ b => b ≠ 0) := by
  obtain ⟨m, rfl⟩ : ∃ m, n = m + 1 := ⟨n - 1, by omega⟩
  exact over_spec (l := 1) rfl (lowP (by omega))
theorem lessP (h : 1 ≤ n) : OpOk Ps gs LL n 6 (fun a b => .bl (decide (a < b))) tt := by
  obtain ⟨m, rfl⟩ : ∃ m, n = m + 1 := ⟨n - 1, by omega⟩
  exact less_spec rfl
theorem mostP (h : 1 ≤ n) : OpOk Ps gs LL n 7 (fun a b => .bl (decide (a ≤ b))) tt := by
  obtain ⟨m, rfl⟩ : ∃ m, n = m + 1 := ⟨n - 1, by omega⟩
  exact most_spec rfl
theorem sumofP (h : 4 ≤ n) {qs : List Rat} {t k : Nat} (hB : B[k]? = some (qs.map fr)) (hp : ∀ q ∈ qs, Bd t q) (hs : (qs.length + 1) * (t + 1) ≤ 8998) : Ret Ps gs LL n 9 [.ref k] B (fr qs.sum) := by
  obtain ⟨m, rfl⟩ : ∃ m, n = m + 2 := ⟨n - 2, by omega⟩
  exact sumof_spec (r := 8) (l := 1) (g := 0) rfl rfl (gcdP (by omega)) (lowP (by omega)) hB hp hs (Nat.le_trans (by decide) big_L)
theorem leastP (h : 2 ≤ n) : BestOk Ps gs LL n 10 lowR := by
  obtain ⟨m, rfl⟩ : ∃ m, n = m + 1 := ⟨n - 1, by omega⟩
  exact least_spec (l := 6) rfl (lessP (by omega))
theorem gcdL (h : 1 ≤ n) : GcdOk Ps gs LL n 26 := by
  obtain ⟨m, rfl⟩ : ∃ m, n = m + 1 := ⟨n - 1, by omega⟩
  exact lawgcd_spec rfl (Nat.le_trans (by decide) big_L)
theorem frL (h : 2 ≤ n) : LowOk Ps gs LL n 27 := by
  obtain ⟨m, rfl⟩ : ∃ m, n = m + 1 := ⟨n - 1, by omega⟩
  exact lowest_spec (g := 26) rfl (gcdL (by omega))
theorem addL (h : 3 ≤ n) : OpOk Ps gs LL n 28 (fun a b => fr (a + b)) tt := by
  obtain ⟨m, rfl⟩ : ∃ m, n = m + 1 := ⟨n - 1, by omega⟩
  exact plus_spec (l := 27) rfl (frL (by omega))
theorem subL (h : 3 ≤ n) : OpOk Ps gs LL n 29 (fun a b => fr (a - b)) tt := by
  obtain ⟨m, rfl⟩ : ∃ m, n = m + 1 := ⟨n - 1, by omega⟩
  exact minus_spec (l := 27) rfl (frL (by omega))
theorem mulL (h : 3 ≤ n) : OpOk Ps gs LL n 30 (fun a b => fr (a * b)) tt := by
  obtain ⟨m, rfl⟩ : ∃ m, n = m + 1 := ⟨n - 1, by omega⟩
  exact times_spec (l := 27) rfl (frL (by omega))
theorem divL (h : 3 ≤ n) : OpOk Ps gs LL n 31 (fun a b => fr (a / b)) (fun _ b => b ≠ 0) := by
  obtain ⟨m, rfl⟩ : ∃ m, n = m + 1 := ⟨n - 1, by omega⟩
  exact over_spec (l := 27) rfl (frL (by omega))
theorem ltL (h : 1 ≤ n) : OpOk Ps gs LL n 33 (fun a b => .bl (decide (a < b))) tt := by
  obtain ⟨m, rfl⟩ : ∃ m, n = m + 1 := ⟨n - 1, by omega⟩
  exact less_spec rfl
theorem sumL (h : 4 ≤ n) {a : PV} {qs : List Rat} {t : Nat} (hs : Sq B a (qs.map fr)) (hq : ∀ q ∈ qs, Bd t q) (ht : (qs.length + 1) * (t + 1) ≤ 8998) : Ret Ps gs LL n 34 [a] B (fr qs.sum) := by
  obtain ⟨m, rfl⟩ : ∃ m, n = m + 1 := ⟨n - 1, by omega⟩
  exact lawsum_spec (p := 28) rfl (addL (by omega)) hs hq ht (Nat.le_trans (by decide) big_L)
theorem topL (h : 2 ≤ n) : BestOk Ps gs LL n 35 topR := by
  obtain ⟨m, rfl⟩ : ∃ m, n = m + 1 := ⟨n - 1, by omega⟩
  exact lawtop_spec (l := 33) rfl (ltL (by omega))
theorem lowL (h : 2 ≤ n) : BestOk Ps gs LL n 36 lowR := by
  obtain ⟨m, rfl⟩ : ∃ m, n = m + 1 := ⟨n - 1, by omega⟩
  exact lawlow_spec (l := 33) rfl (ltL (by omega))
theorem drawL (h : 1 ≤ n) : DrawOk Ps gs LL n 23 := by
  obtain ⟨m, rfl⟩ : ∃ m, n = m + 1 := ⟨n - 1, by omega⟩
  exact draw_spec rfl
theorem eqL {d : Nat} {v : PV} (hv : plD d v) (h : d + 1 ≤ n) : Ret Ps gs LL n 25 [v, v] B (.bl true) := by
  obtain ⟨m, rfl⟩ : ∃ m, n = m + 1 := ⟨n - 1, by omega⟩
  exact laweq_spec rfl (Nat.le_trans (by decide) big_L) d v m B hv (by omega)
end
/-! ### the world -/
structure Wd where
  p : List Rat
  c : List (Rat × Rat)
  ch : List (List Rat × List Rat)
  g : List (Rat × Rat)
def encP (x : Rat × Rat) : PV := .tup [fr x.1, fr x.2]
def encC (x : List Rat × List Rat) : PV := .tup [.tup (x.1.map fr), .tup (x.2.map fr)]
def enc (w : Wd) : PV := .tup [.tup (w.p.map fr), .tup [.tup (w.c.map encP)], .tup (w.ch.map encC), .tup (w.g.map encP)]
def res (w : Wd) : Nat := (w.ch.headD ([], [])).1.length
structure Ok (w : Wd) : Prop where
  s0 : 1 ≤ w.p.length
  s4 : w.p.length ≤ 4
  lc : w.c.length = w.p.length
  lh : w.ch.length = w.p.length
  lg : w.g.length = w.p.length
  bp : ∀ q ∈ w.p, Bd 14 q ∧ 0 < q
  bc : ∀ x ∈ w.c, Bd 14 x.1 ∧ Bd 14 x.2 ∧ x.1 ≤ x.2
  bg : ∀ x ∈ w.g, Bd 14 x.1 ∧ Bd 14 x.2
  r3 : res w ≤ 3
  r : ∀ x ∈ w.ch, x.1.length = res w ∧ x.2.length = res w
  bh : ∀ x ∈ w.ch, (∀ q ∈ x.1, Bd 14 q ∧ 0 ≤ q) ∧ (∀ q ∈ x.2, Bd 14 q ∧ 0 ≤ q) ∧ x.1.sum = 1 ∧ x.2.sum = 1
def pw (w : Wd) (s : Nat) : Rat := w.p.getD s 0
def cw (w : Wd) (s : Nat) : Rat × Rat := w.c.getD s (0, 0)
def gw (w : Wd) (s : Nat) : Rat × Rat := w.g.getD s (0, 0)
def more (w : Wd) (s : Nat) : Rat := (cw w s).2 - (cw w s).1
def rise (w : Wd) (s : Nat) : Rat := (gw w s).2 - (gw w s).1
theorem get_of {α : Type} {xs : List α} {i : Nat} (d : α) (h : i < xs.length) : xs[i]? = some (xs.getD i d) := by
  rw [List.getD_eq_getElem?_getD, List.getElem?_eq_getElem h]; rfl
theorem getD_mem {α : Type} {xs : List α} {i : Nat} (d : α) (h : i < xs.length) : xs.getD i d ∈ xs := by
  rw [List.getD_eq_getElem?_getD, List.getElem?_eq_getElem h]; exact List.getElem_mem h
section
variable {w : Wd} {s n : Nat} {B T : MH}
theorem bd_p (ok : Ok w) (h : s < w.p.length) : Bd 14 (pw w s) ∧ 0 < pw w s := ok.bp _ (getD_mem 0 h)
theorem bd_c (ok : Ok w) (h : s < w.p.length) : Bd 14 (cw w s).1 ∧ Bd 14 (cw w s).2 ∧ (cw w s).1 ≤ (cw w s).2 := ok.bc _ (getD_mem (0, 0) (by rw [ok.lc]; exact h))
theorem bd_g (ok : Ok w) (h : s < w.p.length) : Bd 14 (gw w s).1 ∧ Bd 14 (gw w s).2 := ok.bg _ (getD_mem (0, 0) (by rw [ok.lg]; exact h))
theorem bd_more (ok : Ok w) (h : s < w.p.length) : Bd 29 (more w s) := (bd_c ok h).2.1.sub (bd_c ok h).1
theorem bd_rise (ok : Ok w) (h : s < w.p.length) : Bd 29 (rise w s) := (bd_g ok h).2.sub (bd_g ok h).1
theorem more_nonneg (ok : Ok w) (h : s < w.p.length) : 0 ≤ more w s := by
  have := (bd_c ok h).2.2
  unfold more
  grind
theorem g_p (h : s < w.p.length) : getIx B T (.tup (w.p.map fr)) (.int (s : Nat)) = some (fr (pw w s)) := by
  rw [gxn, List.getElem?_map, get_of 0 h]; rfl
theorem g_c (ok : Ok w) (h : s < w.p.length) : getIx B T (.tup (w.c.map encP)) (.int (s : Nat)) = some (encP (cw w s)) := by
  rw [gxn, List.getElem?_map, get_of (0, 0) (by rw [ok.lc]; exact h)]; rfl
theorem g_g (ok : Ok w) (h : s < w.p.length) : getIx B T (.tup (w.g.map encP)) (.int (s : Nat)) = some (encP (gw w s)) := by
  rw [gxn, List.getElem?_map, get_of (0, 0) (by rw [ok.lg]; exact h)]; rfl
theorem ge0 (x : Rat × Rat) : getIx B T (encP x) (.int 0) = some (fr x.1) := (rfl)
theorem ge1 (x : Rat × Rat) : getIx B T (encP x) (.int 1) = some (fr x.2) := (rfl)
theorem gw0 : getIx B T (enc w) (.int 0) = some (.tup (w.p.map fr)) := (rfl)
theorem gw1 : getIx B T (enc w) (.int 1) = some (.tup [.tup (w.c.map encP)]) := (rfl)
theorem gw2 : getIx B T (enc w) (.int 2) = some (.tup (w.ch.map encC)) := (rfl)
theorem gw3 : getIx B T (enc w) (.int 3) = some (.tup (w.g.map encP)) := (rfl)
theorem gs0 : gs[0]? = some (("NOUGHT" : Str), fr 0) := rfl
theorem gs1 : gs[1]? = some (("ONE" : Str), fr 1) := rfl
theorem states_spec (hn : 1 ≤ n) : Ret Ps gs LL n 11 [enc w] B (.int w.p.length) := by
  obtain ⟨m, rfl⟩ : ∃ m, n = m + 1 := ⟨n - 1, by omega⟩
  refine ⟨[], run_rt (σ := [some (enc w)]) (fn := ⟨1, 1, b_states_in⟩) rfl rfl ?_⟩
  simp only [E_var, E_cst, E_glb, E_bin, E_neg, negV_int, E_vand, E_vor, E_vone, E_vnot, E_tand, E_tor, E_tone, E_tnot, E_tval, E_cmp, E_ife, E_idx, E_nop, E_tup, E_lst, E_nil, E_cons, E_call, E_callp, E_callk, E_isi, E_bi, E_mt, asTup_tup, onB_t, onB_f, onN_nx, onN_rt, onN_bk, onN_ct, S_seq, S_skip, S_pass, S_brk, S_cont, S_set, S_setC, S_setT, S_par, S_setI, S_exp, S_ret, onBS_t, onBS_f, S_ifs, augA_int, b_add, b_addT, b_sub, c_lt, c_le, c_gt, c_ge, c_eqI, c_neI, t_int, t_bl, bi_abs, bi_int, bi_lenT, bi_lenL, bi_tupL, bi_tupT, gx0, gx1, gx2, gx3, gx4, gr0, gr1, gr2, gr3, gfr0, gfr1, st1, st2, st3, Tg.bind, Rf.bindAll, List.replicate_succ, List.replicate_zero, List.map_cons, List.map_nil, List.cons_append, List.nil_append, List.append_nil, List.set_cons_zero, List.set_cons_succ, List.getElem?_cons_zero, List.getElem?_cons_succ, List.length_cons, List.length_nil, Option.bind_some, Option.map_some, Option.bind_none, Option.map_none, if_true, Bool.false_eq_true, if_false, decide_true, decide_false, Bool.not_true, Bool.not_false, b_states_in, gw0, List.length_map]
theorem moregain_spec (ok : Ok w) (hn : 4 ≤ n) (hs : s < w.p.length) : Ret Ps gs LL n 14 [enc w, .int (s : Nat)] B (fr (rise w s)) := by
  obtain ⟨m, rfl⟩ : ∃ m, n = m + 1 := ⟨n - 1, by omega⟩
  have e := dropT_ret (T := []) (minusP (n := m) (by omega) (gw w s).2 (gw w s).1 14 14 B (bd_g ok hs).2 (bd_g ok hs).1 (by decide) trivial) rfl
  refine ⟨[], run_rt (σ := [some (enc w), some (.int (s : Nat))]) (fn := ⟨2, 2, b_more_gain⟩) rfl rfl ?_⟩
  simp only [E_var, E_cst, E_glb, E_bin, E_neg, negV_int, E_vand, E_vor, E_vone, E_vnot, E_tand, E_tor, E_tone, E_tnot, E_tval, E_cmp, E_ife, E_idx, E_nop, E_tup, E_lst, E_nil, E_cons, E_call, E_callp, E_callk, E_isi, E_bi, E_mt, asTup_tup, onB_t, onB_f, onN_nx, onN_rt, onN_bk, onN_ct, S_seq, S_skip, S_pass, S_brk, S_cont, S_set, S_setC, S_setT, S_par, S_setI, S_exp, S_ret, onBS_t, onBS_f, S_ifs, augA_int, b_add, b_addT, b_sub, c_lt, c_le, c_gt, c_ge, c_eqI, c_neI, t_int, t_bl, bi_abs, bi_int, bi_lenT, bi_lenL, bi_tupL, bi_tupT, gx0, gx1, gx2, gx3, gx4, gr0, gr1, gr2, gr3, gfr0, gfr1, st1, st2, st3, Tg.bind, Rf.bindAll, List.replicate_succ, List.replicate_zero, List.map_cons, List.map_nil, List.cons_append, List.nil_append, List.append_nil, List.set_cons_zero, List.set_cons_succ, List.getElem?_cons_zero, List.getElem?_cons_succ, List.length_cons, List.length_nil, Option.bind_some, Option.map_some, Option.bind_none, Option.map_none, if_true, Bool.false_eq_true, if_false, decide_true, decide_false, Bool.not_true, Bool.not_false, b_more_gain, gw3, g_g ok hs, ge0, ge1, e]
  rfl
theorem morecost_spec (ok : Ok w) (hn : 4 ≤ n) (hs : s < w.p.length) : Ret Ps gs LL n 15 [enc w, .int (s : Nat)] B (fr (more w s)) := by
  obtain ⟨m, rfl⟩ : ∃ m, n = m + 1 := ⟨n - 1, by omega⟩
  have e := dropT_ret (T := []) (minusP (n := m) (by omega) (cw w s).2 (cw w s).1 14 14 B (bd_c ok hs).2.1 (bd_c ok hs).1 (by decide) trivial) rfl
  refine ⟨[], run_rt (σ := [some (enc w), some (.int (s : Nat))]) (fn := ⟨2, 2, b_more_cost⟩) rfl rfl ?_⟩
  simp only [E_var, E_cst, E_glb, E_bin, E_neg, negV_int, E_vand, E_vor, E_vone, E_vnot, E_tand, E_tor, E_tone, E_tnot, E_tval, E_cmp, E_ife, E_idx, E_nop, E_tup, E_lst, E_nil, E_cons, E_call, E_callp, E_callk, E_isi, E_bi, E_mt, asTup_tup, onB_t, onB_f, onN_nx, onN_rt, onN_bk, onN_ct, S_seq, S_skip, S_pass, S_brk, S_cont, S_set, S_setC, S_setT, S_par, S_setI, S_exp, S_ret, onBS_t, onBS_f, S_ifs, augA_int, b_add, b_addT, b_sub, c_lt, c_le, c_gt, c_ge, c_eqI, c_neI, t_int, t_bl, bi_abs, bi_int, bi_lenT, bi_lenL, bi_tupL, bi_tupT, gx0, gx1, gx2, gx3, gx4, gr0, gr1, gr2, gr3, gfr0, gfr1, st1, st2, st3, Tg.bind, Rf.bindAll, List.replicate_succ, List.replicate_zero, List.map_cons, List.map_nil, List.cons_append, List.nil_append, List.append_nil, List.set_cons_zero, List.set_cons_succ, List.getElem?_cons_zero, List.getElem?_cons_succ, List.length_cons, List.length_nil, Option.bind_some, Option.map_some, Option.bind_none, Option.map_none, if_true, Bool.false_eq_true, if_false, decide_true, decide_false, Bool.not_true, Bool.not_false, b_more_cost, gw1, g_c ok hs, ge0, ge1, e]
  rfl
theorem lawmore_spec (ok : Ok w) (hn : 4 ≤ n) (hs : s < w.p.length) : Ret Ps gs LL n 38 [enc w, .int (s : Nat)] B (fr (more w s)) := by
  obtain ⟨m, rfl⟩ : ∃ m, n = m + 1 := ⟨n - 1, by omega⟩
  have e := dropT_ret (T := []) (subL (n := m) (by omega) (cw w s).2 (cw w s).1 14 14 B (bd_c ok hs).2.1 (bd_c ok hs).1 (by decide) trivial) rfl
  refine ⟨[], run_rt (σ := [some (enc w), some (.int (s : Nat))]) (fn := ⟨2, 2, b__law_more⟩) rfl rfl ?_⟩
  simp only [E_var, E_cst, E_glb, E_bin, E_neg, negV_int, E_vand, E_vor, E_vone, E_vnot, E_tand, E_tor, E_tone, E_tnot, E_tval, E_cmp, E_ife, E_idx, E_nop, E_tup, E_lst, E_nil, E_cons, E_call, E_callp, E_callk, E_isi, E_bi, E_mt, asTup_tup, onB_t, onB_f, onN_nx, onN_rt, onN_bk, onN_ct, S_seq, S_skip, S_pass, S_brk, S_cont, S_set, S_setC, S_setT, S_par, S_setI, S_exp, S_ret, onBS_t, onBS_f, S_ifs, augA_int, b_add, b_addT, b_sub, c_lt, c_le, c_gt, c_ge, c_eqI, c_neI, t_int, t_bl, bi_abs, bi_int, bi_lenT, bi_lenL, bi_tupL, bi_tupT, gx0, gx1, gx2, gx3, gx4, gr0, gr1, gr2, gr3, gfr0, gfr1, st1, st2, st3, Tg.bind, Rf.bindAll, List.replicate_succ, List.replicate_zero, List.map_cons, List.map_nil, List.cons_append, List.nil_append, List.append_nil, List.set_cons_zero, List.set_cons_succ, List.getElem?_cons_zero, List.getElem?_cons_succ, List.length_cons, List.length_nil, Option.bind_some, Option.map_some, Option.bind_none, Option.map_none, if_true, Bool.false_eq_true, if_false, decide_true, decide_false, Bool.not_true, Bool.not_false, b__law_more, gw1, g_c ok hs, ge0, ge1, e]
  rfl
theorem lawrise_spec (ok : Ok w) (hn : 4 ≤ n) (hs : s < w.p.length) : Ret Ps gs LL n 39 [enc w, .int (s : Nat)] B (fr (rise w s)) := by
  obtain ⟨m, rfl⟩ : ∃ m, n = m + 1 := ⟨n - 1, by omega⟩
  have e := dropT_ret (T := []) (subL (n := m) (by omega) (gw w s).2 (gw w s).1 14 14 B (bd_g ok hs).2 (bd_g ok hs).1 (by decide) trivial) rfl
  refine ⟨[], run_rt (σ := [some (enc w), some (.int (s : Nat))]) (fn := ⟨2, 2, b__law_rise⟩) rfl rfl ?_⟩
  simp only [E_var, E_cst, E_glb, E_bin, E_neg, negV_int, E_vand, E_vor, E_vone, E_vnot, E_tand, E_tor, E_tone, E_tnot, E_tval, E_cmp, E_ife, E_idx, E_nop, E_tup, E_lst, E_nil, E_cons, E_call, E_callp, E_callk, E_isi, E_bi, E_mt, asTup_tup, onB_t, onB_f, onN_nx, onN_rt, onN_bk, onN_ct, S_seq, S_skip, S_pass, S_brk, S_cont, S_set, S_setC, S_setT, S_par, S_setI, S_exp, S_ret, onBS_t, onBS_f, S_ifs, augA_int, b_add, b_addT, b_sub, c_lt, c_le, c_gt, c_ge, c_eqI, c_neI, t_int, t_bl, bi_abs, bi_int, bi_lenT, bi_lenL, bi_tupL, bi_tupT, gx0, gx1, gx2, gx3, gx4, gr0, gr1, gr2, gr3, gfr0, gfr1, st1, st2, st3, Tg.bind, Rf.bindAll, List.replicate_succ, List.replicate_zero, List.map_cons, List.map_nil, List.cons_append, List.nil_append, List.append_nil, List.set_cons_zero, List.set_cons_succ, List.getElem?_cons_zero, List.getElem?_cons_succ, List.length_cons, List.length_nil, Option.bind_some, Option.map_some, Option.bind_none, Option.map_none, if_true, Bool.false_eq_true, if_false, decide_true, decide_false, Bool.not_true, Bool.not_false, b__law_rise, gw3, g_g ok hs, ge0, ge1, e]
  rfl
/-- a free state -/
def free (w : Wd) (s : Nat) : Bool := decide (0 < rise w s) && decide (more w s = 0)
theorem isfree_spec (ok : Ok w) (hn : 5 ≤ n) (hs : s < w.p.length) : Ret Ps gs LL n 16 [enc w, .int (s : Nat)] B (.bl (free w s)) := by
  obtain ⟨m, rfl⟩ : ∃ m, n = m + 1 := ⟨n - 1, by omega⟩
  have e1 := dropT_ret (T := []) (moregain_spec (B := B) ok (n := m) (by omega) hs) rfl
  have e2 := dropT_ret (T := []) (morecost_spec (B := B) ok (n := m) (by omega) hs) rfl
  have e3 := dropT_ret (T := []) (lessP (n := m) (by omega) 0 (rise w s) 1 29 B (Bd.zero (by decide)) (bd_rise ok hs) (by decide) trivial) rfl
  refine ⟨[], run_rt (σ := [some (enc w), some (.int (s : Nat))]) (fn := ⟨2, 2, b_is_free⟩) rfl rfl ?_⟩
  unfold free
  by_cases h : 0 < rise w s
  · have z : decide (0 < rise w s) = true := decide_eq_true h
    simp only [E_var, E_cst, E_glb, E_bin, E_neg, negV_int, E_vand, E_vor, E_vone, E_vnot, E_tand, E_tor, E_tone, E_tnot, E_tval, E_cmp, E_ife, E_idx, E_nop, E_tup, E_lst, E_nil, E_cons, E_call, E_callp, E_callk, E_isi, E_bi, E_mt, asTup_tup, onB_t, onB_f, onN_nx, onN_rt, onN_bk, onN_ct, S_seq, S_skip, S_pass, S_brk, S_cont, S_set, S_setC, S_setT, S_par, S_setI, S_exp, S_ret, onBS_t, onBS_f, S_ifs, augA_int, b_add, b_addT, b_sub, c_lt, c_le, c_gt, c_ge, c_eqI, c_neI, t_int, t_bl, bi_abs, bi_int, bi_lenT, bi_lenL, bi_tupL, bi_tupT, gx0, gx1, gx2, gx3, gx4, gr0, gr1, gr2, gr3, gfr0, gfr1, st1, st2, st3, Tg.bind, Rf.bindAll, List.replicate_succ, List.replicate_zero, List.map_cons, List.map_nil, List.cons_append, List.nil_append, List.append_nil, List.set_cons_zero, List.set_cons_succ, List.getElem?_cons_zero, List.getElem?_cons_succ, List.length_cons, List.length_nil, Option.bind_some, Option.map_some, Option.bind_none, Option.map_none, if_true, Bool.false_eq_true, if_false, decide_true, decide_false, Bool.not_true, Bool.not_false, E_glb, b_is_free, gs0, e1, e2, e3, z, eqv_fr, Bool.true_and]
  · have z : decide (0 < rise w s) = false := decide_eq_false h
    simp only [E_var, E_cst, E_glb, E_bin, E_neg, negV_int, E_vand, E_vor, E_vone, E_vnot, E_tand, E_tor, E_tone, E_tnot, E_tval, E_cmp, E_ife, E_idx, E_nop, E_tup, E_lst, E_nil, E_cons, E_call, E_callp, E_callk, E_isi, E_bi, E_mt, asTup_tup, onB_t, onB_f, onN_nx, onN_rt, onN_bk, onN_ct, S_seq, S_skip, S_pass, S_brk, S_cont, S_set, S_setC, S_setT, S_par, S_setI, S_exp, S_ret, onBS_t, onBS_f, S_ifs, augA_int, b_add, b_addT, b_sub, c_lt, c_le, c_gt, c_ge, c_eqI, c_neI, t_int, t_bl, bi_abs, bi_int, bi_lenT, bi_lenL, bi_tupL, bi_tupT, gx0, gx1, gx2, gx3, gx4, gr0, gr1, gr2, gr3, gfr0, gfr1, st1, st2, st3, Tg.bind, Rf.bindAll, List.replicate_succ, List.replicate_zero, List.map_cons, List.map_nil, List.cons_append, List.nil_append, List.append_nil, List.set_cons_zero, List.set_cons_succ, List.getElem?_cons_zero, List.getElem?_cons_succ, List.length_cons, List.length_nil, Option.bind_some, Option.map_some, Option.bind_none, Option.map_none, if_true, Bool.false_eq_true, if_false, decide_true, decide_false, Bool.not_true, Bool.not_false, E_glb, b_is_free, gs0, e1, e2, e3, z, Bool.false_and]
end
end K36
end
section
/-! k36: the quotient. -/
namespace K36
open PySem Rf Pl
def qs1 (R : Nat) (x : List Rat × List Rat) : List Rat := ((List.range R).filter fun r => decide (0 < x.2.getD r 0)).map fun r => x.1.getD r 0 / x.2.getD r 0
def qlist (w : Wd) : List Rat := w.ch.flatMap (qs1 (res w))
def quo (w : Wd) : Rat := lowR (qlist w)
section
variable {w : Wd} {s n : Nat} {B T : MH}
theorem g_row {xs : List Rat} {i : Nat} (h : i < xs.length) : getIx B T (.tup (xs.map fr)) (.int (i : Nat)) = some (fr (xs.getD i 0)) := by
  rw [gxn, List.getElem?_map, get_of 0 h]; rfl
theorem gc0 (x : List Rat × List Rat) : getIx B T (encC x) (.int 0) = some (.tup (x.1.map fr)) := (rfl)
theorem gc1 (x : List Rat × List Rat) : getIx B T (encC x) (.int 1) = some (.tup (x.2.map fr)) := (rfl)
theorem ch0 (ok : Ok w) : ∃ x r, w.ch = x :: r := by
  have h1 := ok.lh
  have h0 := ok.s0
  cases h : w.ch with
  | nil =>
    rw [h] at h1
    have : (0 : Nat) = w.p.length := h1
    omega
  | cons x r => exact ⟨x, r, rfl⟩
theorem results_spec (ok : Ok w) (hn : 1 ≤ n) : Ret Ps gs LL n 12 [enc w] B (.int (res w : Nat)) := by
  obtain ⟨m, rfl⟩ : ∃ m, n = m + 1 := ⟨n - 1, by omega⟩
  obtain ⟨x, r, e⟩ := ch0 ok
  have er : res w = x.1.length := by unfold res; rw [e]; rfl
  refine ⟨[], run_rt (σ := [some (enc w)]) (fn := ⟨1, 1, b_results_in⟩) rfl rfl ?_⟩
  simp only [E_var, E_cst, E_glb, E_bin, E_neg, negV_int, E_vand, E_vor, E_vone, E_vnot, E_tand, E_tor, E_tone, E_tnot, E_tval, E_cmp, E_ife, E_idx, E_nop, E_tup, E_lst, E_nil, E_cons, E_call, E_callp, E_callk, E_isi, E_bi, E_mt, asTup_tup, onB_t, onB_f, onN_nx, onN_rt, onN_bk, onN_ct, S_seq, S_skip, S_pass, S_brk, S_cont, S_set, S_setC, S_setT, S_par, S_setI, S_exp, S_ret, onBS_t, onBS_f, S_ifs, augA_int, b_add, b_addT, b_sub, c_lt, c_le, c_gt, c_ge, c_eqI, c_neI, t_int, t_bl, bi_abs, bi_int, bi_lenT, bi_lenL, bi_tupL, bi_tupT, gx0, gx1, gx2, gx3, gx4, gr0, gr1, gr2, gr3, gfr0, gfr1, st1, st2, st3, Tg.bind, Rf.bindAll, List.replicate_succ, List.replicate_zero, List.map_cons, List.map_nil, List.cons_append, List.nil_append, List.append_nil, List.set_cons_zero, List.set_cons_succ, List.getElem?_cons_zero, List.getElem?_cons_succ, List.length_cons, List.length_nil, Option.bind_some, Option.map_some, Option.bind_none, Option.map_none, if_true, Bool.false_eq_true, if_false, decide_true, decide_false, Bool.not_true, Bool.not_false, b_results_in, gw2, e, gc0, List.length_map, er]
theorem qs_bd (ok : Ok w) : ∀ q ∈ qlist w, Bd 28 q := by
  intro q hq
  obtain ⟨x, hx, hq⟩ := List.mem_flatMap.mp hq
  obtain ⟨r, hr, rfl⟩ := List.mem_map.mp hq
  obtain ⟨h1, h2⟩ := List.mem_filter.mp hr
  have hl := ok.r x hx
  have hr : r < res w := List.mem_range.mp h1
  exact ((ok.bh x hx).1 _ (getD_mem 0 (by rw [hl.1]; exact hr))).1.div ((ok.bh x hx).2.1 _ (getD_mem 0 (by rw [hl.2]; exact hr))).1
theorem qs1_len (x : List Rat × List Rat) : (qs1 (res w) x).length ≤ res w := by
  unfold qs1
  rw [List.length_map]
  exact Nat.le_trans (List.length_filter_le _ _) (by rw [List.length_range]; exact Nat.le_refl _)
theorem qs_len (ok : Ok w) : (qlist w).length ≤ 12 := by
  have h : (qlist w).length ≤ w.ch.length * res w := by
    unfold qlist
    generalize w.ch = l
    induction l with
    | nil => simp
    | cons a l ih =>
      rw [List.flatMap_cons, List.length_append, List.length_cons, Nat.add_mul, Nat.one_mul]
      have := qs1_len (w := w) a
      omega
  have := ok.r3
  have := ok.s4
  have := ok.lh
  have : w.ch.length * res w ≤ 4 * 3 := Nat.mul_le_mul (by omega) (by omega)
  omega
/-! numbers that sum up to one -/
theorem sum_pos : ∀ {xs : List Rat}, 0 < xs.sum → ∃ i, i < xs.length ∧ 0 < xs.getD i 0
  | [], h => by simp at h
  | x :: xs, h => by
    by_cases hx : 0 < x
    · exact ⟨0, by simp, hx⟩
    · rw [List.sum_cons] at h
      obtain ⟨i, h1, h2⟩ := sum_pos (xs := xs) (by grind)
      exact ⟨i + 1, by simpa using h1, h2⟩
theorem sum_lt : ∀ {xs ys : List Rat}, xs.length = ys.length → xs.sum ≤ ys.sum → 0 < ys.sum → (∀ q ∈ xs, 0 ≤ q) → (∀ q ∈ ys, 0 ≤ q) → ∃ i, i < ys.length ∧ 0 < ys.getD i 0 ∧ xs.getD i 0 ≤ ys.getD i 0
  | [], [], _, _, h, _, _ => by simp at h
  | [], _ :: _, h, _, _, _, _ => by simp at h
  | _ :: _, [], h, _, _, _, _ => by simp at h
  | x :: xs, y :: ys, hl, h, hp, p1, p2 => by
    by_cases hy : 0 < y ∧ x ≤ y
    · exact ⟨0, by simp, hy⟩
    · rw [List.sum_cons, List.sum_cons] at h
      rw [List.sum_cons] at hp
      have x0 := p1 x (List.mem_cons_self ..)
      have y0 := p2 y (List.mem_cons_self ..)
      have hxy : y ≤ x := by
        by_cases h1 : 0 < y
        · have h2 : ¬ x ≤ y := fun z => hy ⟨h1, z⟩
          grind
        · grind
      have hs : xs.sum ≤ ys.sum := by grind
      have hs2 : 0 < ys.sum := by
        by_cases h1 : 0 < y
        · have h2 : ¬ x ≤ y := fun z => hy ⟨h1, z⟩
          have : xs.sum < ys.sum := by grind
          have x1 : 0 ≤ xs.sum := by
            clear h hp hs this hl
            have p : ∀ q ∈ xs, 0 ≤ q := fun q hq => p1 q (List.mem_cons_of_mem _ hq)
            clear p1
            induction xs with
            | nil => simp
            | cons a l ih =>
              rw [List.sum_cons]
              have := p a (List.mem_cons_self ..)
              have := ih fun q hq => p q (List.mem_cons_of_mem _ hq)
              grind
          grind
        · grind
      obtain ⟨i, h1, h2⟩ := sum_lt (by simpa using hl) hs hs2 (fun q hq => p1 q (List.mem_cons_of_mem _ hq)) fun q hq => p2 q (List.mem_cons_of_mem _ hq)
      exact ⟨i + 1, by simpa using h1, h2⟩
theorem quo_mem (ok : Ok w) : ∃ q ∈ qlist w, q ≤ 1 := by
  obtain ⟨x, r, e⟩ := ch0 ok
  have hx : x ∈ w.ch := by rw [e]; exact List.mem_cons_self ..
  obtain ⟨h1, h2, h3, h4⟩ := ok.bh x hx
  have hl := ok.r x hx
  obtain ⟨i, hi, p1, p2⟩ := sum_lt (xs := x.1) (ys := x.2) (by rw [hl.1, hl.2]) (by rw [h3, h4]; exact Rat.le_refl) (by rw [h4]; decide) (fun q hq => (h1 q hq).2) fun q hq => (h2 q hq).2
  refine ⟨x.1.getD i 0 / x.2.getD i 0, List.mem_flatMap.mpr ⟨x, hx, List.mem_map.mpr ⟨i, List.mem_filter.mpr ⟨List.mem_range.mpr (by rw [← hl.2]; exact hi), decide_eq_true p1⟩, rfl⟩⟩, ?_⟩
  rw [← Rat.not_lt]
  intro z
  rw [Rat.lt_div_iff p1] at z
  grind
theorem lowR_le : ∀ {qs : List Rat} {q : Rat}, q ∈ qs → lowR qs ≤ q := by
  have key : ∀ (qs : List Rat) (z : Rat), qs.foldl (fun b x => if x < b then x else b) z ≤ z ∧ ∀ q ∈ qs, qs.foldl (fun b x => if x < b then x else b) z ≤ q := by
    intro qs
    induction qs with
    | nil => exact fun z => ⟨Rat.le_refl, fun q h => by cases h⟩
    | cons a l ih =>
      intro z
      rw [List.foldl_cons]
      obtain ⟨h1, h2⟩ := ih (if a < z then a else z)
      by_cases h : a < z
      · rw [if_pos h] at h1 h2 ⊢
        exact ⟨by grind, fun q hq => by
          rcases List.mem_cons.mp hq with e | e
          · rw [e]; exact h1
          · exact h2 q e⟩
      · rw [if_neg h] at h1 h2 ⊢
        exact ⟨h1, fun q hq => by
          rcases List.mem_cons.mp hq with e | e
          · rw [e]; grind
          · exact h2 q e⟩
  intro qs q hq
  cases qs with
  | nil => cases hq
  | cons a l => exact (key (a :: l) a).2 q hq
theorem lowR_mem {qs : List Rat} (h : qs ≠ []) : lowR qs ∈ qs := by
  cases qs with
  | nil => exact absurd rfl h
  | cons a l =>
    rcases fold_mem low_hh (a :: l) a with e | e
    · show (a :: l).foldl _ a ∈ _
      rw [e]; exact List.mem_cons_self ..
    · exact e
theorem qs_ne (ok : Ok w) : qlist w ≠ [] := by
  obtain ⟨q, hq, _⟩ := quo_mem ok
  exact List.ne_nil_of_mem hq
theorem quo_le (ok : Ok w) : quo w ≤ 1 := by
  obtain ⟨q, hq, h⟩ := quo_mem ok
  have := lowR_le hq
  unfold quo
  grind
theorem quo_bd (ok : Ok w) : Bd 28 (quo w) := qs_bd ok _ (lowR_mem (qs_ne ok))
theorem quo_spec (ok : Ok w) (hn : 5 ≤ n) : Ret Ps gs LL n 13 [enc w] B (fr (quo w)) := by
  obtain ⟨m, rfl⟩ : ∃ m, n = m + 1 := ⟨n - 1, by omega⟩
  have hb := big_L
  have hr3 := ok.r3
  have hs4 := ok.s4
  have hlh := ok.lh
  have r0 := results_spec (B := B) ok (n := m) (by omega)
  have d0 := dropT_ret (T := []) r0 rfl
  have e1 : (sem (Rf.run Ps gs LL m) gs LL (.comp (.callp 5 (.cons (.idx (.idx (.var 1) (.cst (.int 0))) (.var 2)) (.cons (.idx (.idx (.var 1) (.cst (.int 1))) (.var 2)) .nil))) (.gen (.nm 1) (.itv (.idx (.var 0) (.cst (.int 2)))) .nop (.gen (.nm 2) (.itr (.cons (.callp 12 (.cons (.var 0) .nil)) .nil)) (.tval (.callp 6 (.cons (.glb 0) (.cons (.idx (.idx (.var 1) (.cst (.int 1))) (.var 2)) .nil)))) .gnil)) [("one", 1), ("result", 2)])).e [some (enc w), none, none] B [] = some (.ref (B.length + 0), [] ++ [(qlist w).map fr]) := by
    have := comp2_pure (CF := Rf.run Ps gs LL m) (G := gs) (L := LL) (B := B) (T := []) (T1 := []) (M := 3) (as := w.ch) (enc := encC) (bs := fun _ => List.range (res w)) (enc2 := fun _ r => PV.int (r : Nat)) (g := fun x r => fr (x.1.getD r 0 / x.2.getD r 0)) (p := fun x r => decide (0 < x.2.getD r 0))
      (bd := fun x => [some (enc w), some (encC x), none]) (bd2 := fun x r => [some (enc w), some (encC x), some (.int (r : Nat))]) (j2 := fun _ => .rng 0 (res w)) (σ := [some (enc w), none, none]) (tg := .nm 1) (tg2 := .nm 2) (own := [("one", 1), ("result", 2)])
      (it := .itv (.idx (.var 0) (.cst (.int 2)))) (it2 := .itr (.cons (.callp 12 (.cons (.var 0) .nil)) .nil)) (test := .tval (.callp 6 (.cons (.glb 0) (.cons (.idx (.idx (.var 1) (.cst (.int 1))) (.var 2)) .nil)))) (elt := .callp 5 (.cons (.idx (.idx (.var 1) (.cst (.int 0))) (.var 2)) (.cons (.idx (.idx (.var 1) (.cst (.int 1))) (.var 2)) .nil)))
      (I_itvT (by simp only [E_var, E_cst, E_glb, E_bin, E_neg, negV_int, E_vand, E_vor, E_vone, E_vnot, E_tand, E_tor, E_tone, E_tnot, E_tval, E_cmp, E_ife, E_idx, E_nop, E_tup, E_lst, E_nil, E_cons, E_call, E_callp, E_callk, E_isi, E_bi, E_mt, asTup_tup, onB_t, onB_f, onN_nx, onN_rt, onN_bk, onN_ct, S_seq, S_skip, S_pass, S_brk, S_cont, S_set, S_setC, S_setT, S_par, S_setI, S_exp, S_ret, onBS_t, onBS_f, S_ifs, augA_int, b_add, b_addT, b_sub, c_lt, c_le, c_gt, c_ge, c_eqI, c_neI, t_int, t_bl, bi_abs, bi_int, bi_lenT, bi_lenL, bi_tupL, bi_tupT, gx0, gx1, gx2, gx3, gx4, gr0, gr1, gr2, gr3, gfr0, gfr1, st1, st2, st3, Tg.bind, Rf.bindAll, List.replicate_succ, List.replicate_zero, List.map_cons, List.map_nil, List.cons_append, List.nil_append, List.append_nil, List.set_cons_zero, List.set_cons_succ, List.getElem?_cons_zero, List.getElem?_cons_succ, List.length_cons, List.length_nil, Option.bind_some, Option.map_some, Option.bind_none, Option.map_none, if_true, Bool.false_eq_true, if_false, decide_true, decide_false, Bool.not_true, Bool.not_false, wipeE, gw2])) (fun i => rfl) (fun a _ => rfl) (fun a _ => E_itrN (by omega) (by simp only [E_var, E_cst, E_glb, E_bin, E_neg, negV_int, E_vand, E_vor, E_vone, E_vnot, E_tand, E_tor, E_tone, E_tnot, E_tval, E_cmp, E_ife, E_idx, E_nop, E_tup, E_lst, E_nil, E_cons, E_call, E_callp, E_callk, E_isi, E_bi, E_mt, asTup_tup, onB_t, onB_f, onN_nx, onN_rt, onN_bk, onN_ct, S_seq, S_skip, S_pass, S_brk, S_cont, S_set, S_setC, S_setT, S_par, S_setI, S_exp, S_ret, onBS_t, onBS_f, S_ifs, augA_int, b_add, b_addT, b_sub, c_lt, c_le, c_gt, c_ge, c_eqI, c_neI, t_int, t_bl, bi_abs, bi_int, bi_lenT, bi_lenL, bi_tupL, bi_tupT, gx0, gx1, gx2, gx3, gx4, gr0, gr1, gr2, gr3, gfr0, gfr1, st1, st2, st3, Tg.bind, Rf.bindAll, List.replicate_succ, List.replicate_zero, List.map_cons, List.map_nil, List.cons_append, List.nil_append, List.append_nil, List.set_cons_zero, List.set_cons_succ, List.getElem?_cons_zero, List.getElem?_cons_succ, List.length_cons, List.length_nil, Option.bind_some, Option.map_some, Option.bind_none, Option.map_none, if_true, Bool.false_eq_true, if_false, decide_true, decide_false, Bool.not_true, Bool.not_false, d0])) (fun a _ i => at_rng0) (fun a _ b _ => rfl)
      (fun x hx r hr => by
        have hl := ok.r x hx
        have hr : r < res w := List.mem_range.mp hr
        have hr2 : r < x.2.length := by rw [hl.2]; exact hr
        have e := dropT_ret (T := []) (lessP (n := m) (by omega) 0 (x.2.getD r 0) 1 14 B (Bd.zero (by decide)) ((ok.bh x hx).2.1 _ (getD_mem 0 hr2)).1 (by decide) trivial) rfl
        simp only [E_var, E_cst, E_glb, E_bin, E_neg, negV_int, E_vand, E_vor, E_vone, E_vnot, E_tand, E_tor, E_tone, E_tnot, E_tval, E_cmp, E_ife, E_idx, E_nop, E_tup, E_lst, E_nil, E_cons, E_call, E_callp, E_callk, E_isi, E_bi, E_mt, asTup_tup, onB_t, onB_f, onN_nx, onN_rt, onN_bk, onN_ct, S_seq, S_skip, S_pass, S_brk, S_cont, S_set, S_setC, S_setT, S_par, S_setI, S_exp, S_ret, onBS_t, onBS_f, S_ifs, augA_int, b_add, b_addT, b_sub, c_lt, c_le, c_gt, c_ge, c_eqI, c_neI, t_int, t_bl, bi_abs, bi_int, bi_lenT, bi_lenL, bi_tupL, bi_tupT, gx0, gx1, gx2, gx3, gx4, gr0, gr1, gr2, gr3, gfr0, gfr1, st1, st2, st3, Tg.bind, Rf.bindAll, List.replicate_succ, List.replicate_zero, List.map_cons, List.map_nil, List.cons_append, List.nil_append, List.append_nil, List.set_cons_zero, List.set_cons_succ, List.getElem?_cons_zero, List.getElem?_cons_succ, List.length_cons, List.length_nil, Option.bind_some, Option.map_some, Option.bind_none, Option.map_none, if_true, Bool.false_eq_true, if_false, decide_true, decide_false, Bool.not_true, Bool.not_false, E_glb, gs0, gc1, g_row hr2, e])
      (fun x hx r hr hp => by
        have hl := ok.r x hx
        have hr : r < res w := List.mem_range.mp hr
        have hr1 : r < x.1.length := by rw [hl.1]; exact hr
        have hr2 : r < x.2.length := by rw [hl.2]; exact hr
        have hp := of_decide_eq_true hp
        have e := dropT_ret (T := []) (overP (n := m) (by omega) (x.1.getD r 0) (x.2.getD r 0) 14 14 B ((ok.bh x hx).1 _ (getD_mem 0 hr1)).1 ((ok.bh x hx).2.1 _ (getD_mem 0 hr2)).1 (by decide) (Rat.ne_of_gt hp)) rfl
        simp only [E_var, E_cst, E_glb, E_bin, E_neg, negV_int, E_vand, E_vor, E_vone, E_vnot, E_tand, E_tor, E_tone, E_tnot, E_tval, E_cmp, E_ife, E_idx, E_nop, E_tup, E_lst, E_nil, E_cons, E_call, E_callp, E_callk, E_isi, E_bi, E_mt, asTup_tup, onB_t, onB_f, onN_nx, onN_rt, onN_bk, onN_ct, S_seq, S_skip, S_pass, S_brk, S_cont, S_set, S_setC, S_setT, S_par, S_setI, S_exp, S_ret, onBS_t, onBS_f, S_ifs, augA_int, b_add, b_addT, b_sub, c_lt, c_le, c_gt, c_ge, c_eqI, c_neI, t_int, t_bl, bi_abs, bi_int, bi_lenT, bi_lenL, bi_tupL, bi_tupT, gx0, gx1, gx2, gx3, gx4, gr0, gr1, gr2, gr3, gfr0, gfr1, st1, st2, st3, Tg.bind, Rf.bindAll, List.replicate_succ, List.replicate_zero, List.map_cons, List.map_nil, List.cons_append, List.nil_append, List.append_nil, List.set_cons_zero, List.set_cons_succ, List.getElem?_cons_zero, List.getElem?_cons_succ, List.length_cons, List.length_nil, Option.bind_some, Option.map_some, Option.bind_none, Option.map_none, if_true, Bool.false_eq_true, if_false, decide_true, decide_false, Bool.not_true, Bool.not_false, gc0, gc1, g_row hr1, g_row hr2, e])
      (by omega) (fun a _ => by rw [List.length_range]; omega) (fun a _ => by rw [List.length_range]; exact hr3) (Nat.le_trans (Nat.mul_le_mul_right 3 (show w.ch.length ≤ 4 by omega)) (by decide +kernel))
    rw [this]
    unfold qlist
    have hf : (fun a => List.map fr (qs1 (res w) a)) = fun (a : List Rat × List Rat) => ((List.range (res w)).filter fun r => decide (0 < a.2.getD r 0)).map fun r => fr (a.1.getD r 0 / a.2.getD r 0) := by
      funext x
      unfold qs1
      rw [List.map_map]; rfl
    rw [List.map_flatMap, hf]; rfl
  have e2 := dropT_ret (T := [(qlist w).map fr]) (leastP (n := m) (by omega) (.ref B.length) (qlist w) 28 (B ++ [(qlist w).map fr]) (.inr ⟨_, rfl, by rw [List.getElem?_append_right (Nat.le_refl _), Nat.sub_self]; rfl⟩) (qs_ne ok) (qs_bd ok) (by decide) (by have := qs_len ok; omega)) rfl
  refine ⟨[(qlist w).map fr], run_rt (σ := [some (enc w), none, none]) (fn := ⟨1, 3, b_quotient⟩) rfl rfl ?_⟩
  simp only [E_var, E_cst, E_glb, E_bin, E_neg, negV_int, E_vand, E_vor, E_vone, E_vnot, E_tand, E_tor, E_tone, E_tnot, E_tval, E_cmp, E_ife, E_idx, E_nop, E_tup, E_lst, E_nil, E_cons, E_call, E_callp, E_callk, E_isi, E_bi, E_mt, asTup_tup, onB_t, onB_f, onN_nx, onN_rt, onN_bk, onN_ct, S_seq, S_skip, S_pass, S_brk, S_cont, S_set, S_setC, S_setT, S_par, S_setI, S_exp, S_ret, onBS_t, onBS_f, S_ifs, augA_int, b_add, b_addT, b_sub, c_lt, c_le, c_gt, c_ge, c_eqI, c_neI, t_int, t_bl, bi_abs, bi_int, bi_lenT, bi_lenL, bi_tupL, bi_tupT, gx0, gx1, gx2, gx3, gx4, gr0, gr1, gr2, gr3, gfr0, gfr1, st1, st2, st3, Tg.bind, Rf.bindAll, List.replicate_succ, List.replicate_zero, List.map_cons, List.map_nil, List.cons_append, List.nil_append, List.append_nil, List.set_cons_zero, List.set_cons_succ, List.getElem?_cons_zero, List.getElem?_cons_succ, List.length_cons, List.length_nil, Option.bind_some, Option.map_some, Option.bind_none, Option.map_none, if_true, Bool.false_eq_true, if_false, decide_true, decide_false, Bool.not_true, Bool.not_false, b_quotient, e1, Nat.add_zero, e2]
  rfl
end
end K36
end
section
/-! k36: the law's quotient and rate; the sorted states. -/
namespace K36
open PySem Rf Pl
section
variable {w : Wd} {s n : Nat} {B T : MH} {L : Nat} {CF : Nat → List PV → MH → MH → M} {G : List (Str × PV)}
theorem rd1 {xs : List PV} : rd B [xs] B.length = some xs := by
  show (B ++ [xs])[B.length]? = _
  rw [List.getElem?_append_right (Nat.le_refl _), Nat.sub_self]; rfl
theorem app1 {xs : List PV} {v : PV} (h : xs.length < big) : Rf.mt B [xs] .append (.ref B.length) [v] = some (.non, [xs ++ [v]]) := by
  rw [append_put rd1 (Nat.le_refl _) h]
  show some (_, List.set [xs] (B.length - B.length) _) = _
  rw [Nat.sub_self]; rfl
theorem mk1 : mk B [] [] = some (.ref B.length, [[]]) := mk_ok (Nat.zero_le _)
theorem num_pos (q : Rat) : decide ((0 : Int) < q.num) = decide (0 < q) := by
  refine decide_eq_decide.mpr ?_
  rw [Rat.lt_iff]
  simp
theorem num_zero (q : Rat) : decide (q.num = (0 : Int)) = decide (q = 0) := decide_eq_decide.mpr Rat.num_eq_zero
def bLQ : S := (.seq (.ifs (.cmp .gt (.idx (.idx (.idx (.var 2) (.cst (.int 1))) (.var 3)) (.cst (.int 0))) (.cst (.int 0))) (.seq (.exp (.mt .append (.var 1) (.cons (.callp 31 (.cons (.idx (.idx (.var 2) (.cst (.int 0))) (.var 3)) (.cons (.idx (.idx (.var 2) (.cst (.int 1))) (.var 3)) .nil))) .nil))) .skip) .skip) .skip)
def bLQ2 : S := (.seq (.for_ (.nm 3) (.itr (.cons (.bi .len (.cons (.idx (.var 2) (.cst (.int 1))) .nil)) .nil)) bLQ) .skip)
theorem filter_take {p : Nat → Bool} {R i : Nat} (h : i < R) : ((List.range R).take (i + 1)).filter p = ((List.range R).take i).filter p ++ (if p i = true then [i] else []) := by
  rw [List.take_succ_eq_append_getElem (by simpa using h), List.filter_append, List.getElem_range]
  congr 1
  by_cases z : p i = true
  · rw [if_pos z, List.filter_cons_of_pos z]; rfl
  · rw [if_neg z, List.filter_cons_of_neg z]; rfl
theorem lq_inner (ok : Ok w) (hn : 3 ≤ n) {x : List Rat × List Rat} (hx : x ∈ w.ch) {acc : List Rat} (hacc : acc.length ≤ 100) (c : Option PV) : ∃ c', semS (Rf.run Ps gs LL n) gs LL bLQ2 [some (enc w), some (.ref B.length), some (encC x), c] B [acc.map fr] = some (.nx, [some (enc w), some (.ref B.length), some (encC x), c'], [(acc ++ qs1 (res w) x).map fr]) := by
  have hl := ok.r x hx
  have hr3 := ok.r3
  have hb := big_L
  have hbig : 200 < big := by decide +kernel
  obtain ⟨σ', T', e, c', e1, e2⟩ := for_inv (B := B) (it := .rng 0 (res w)) (tg := .nm 3) (b := fun σ T => semS (Rf.run Ps gs LL n) gs LL bLQ σ B T) (m := res w)
    (fun i σ T => ∃ c, σ = [some (enc w), some (.ref B.length), some (encC x), c] ∧ T = [(acc ++ (((List.range (res w)).take i).filter fun r => decide (0 < x.2.getD r 0)).map fun r => x.1.getD r 0 / x.2.getD r 0).map fr])
    (by
      rintro i σ T hi ⟨c, rfl, rfl⟩
      have hr1 : i < x.1.length := by rw [hl.1]; exact hi
      have hr2 : i < x.2.length := by rw [hl.2]; exact hi
      rw [filter_take hi]
      have hlen : ((((List.range (res w)).take i).filter fun r => decide (0 < x.2.getD r 0)).map fun r => x.1.getD r 0 / x.2.getD r 0).length ≤ 3 := by
        rw [List.length_map]
        refine Nat.le_trans (List.length_filter_le _ _) ?_
        rw [List.length_take, List.length_range]; omega
      generalize hA : (((List.range (res w)).take i).filter fun r => decide (0 < x.2.getD r 0)).map (fun r => x.1.getD r 0 / x.2.getD r 0) = A at hlen
      refine ⟨_, _, [some (enc w), some (.ref B.length), some (encC x), some (.int (i : Nat))], _, rng_at hi, rfl, .inl ?_, some (.int (i : Nat)), rfl, rfl⟩
      rw [Int.zero_add, List.map_append (f := fun r => x.1.getD r 0 / x.2.getD r 0), hA]
      by_cases hp : 0 < x.2.getD i 0
      · have z : decide (0 < x.2.getD i 0) = true := decide_eq_true hp
        have e := dropT_ret (T := [(acc ++ A).map fr]) (divL (n := n) (by omega) (x.1.getD i 0) (x.2.getD i 0) 14 14 (B ++ [(acc ++ A).map fr]) ((ok.bh x hx).1 _ (getD_mem 0 hr1)).1 ((ok.bh x hx).2.1 _ (getD_mem 0 hr2)).1 (by decide) (Rat.ne_of_gt hp)) rfl
        have a := app1 (B := B) (xs := (acc ++ A).map fr) (v := fr (x.1.getD i 0 / x.2.getD i 0)) (by rw [List.length_map, List.length_append]; omega)
        rw [if_pos z]
        have l1 : (acc ++ A).map fr ++ [fr (x.1.getD i 0 / x.2.getD i 0)] = (acc ++ (A ++ [x.1.getD i 0 / x.2.getD i 0])).map fr := by simp only [List.map_append, List.map_cons, List.map_nil, List.append_assoc]
        rw [l1] at a
        simp only [E_var, E_cst, E_glb, E_bin, E_neg, negV_int, E_vand, E_vor, E_vone, E_vnot, E_tand, E_tor, E_tone, E_tnot, E_tval, E_cmp, E_ife, E_idx, E_nop, E_tup, E_lst, E_nil, E_cons, E_call, E_callp, E_callk, E_isi, E_bi, E_mt, asTup_tup, onB_t, onB_f, onN_nx, onN_rt, onN_bk, onN_ct, S_seq, S_skip, S_pass, S_brk, S_cont, S_set, S_setC, S_setT, S_par, S_setI, S_exp, S_ret, onBS_t, onBS_f, S_ifs, augA_int, b_add, b_addT, b_sub, c_lt, c_le, c_gt, c_ge, c_eqI, c_neI, t_int, t_bl, bi_abs, bi_int, bi_lenT, bi_lenL, bi_tupL, bi_tupT, gx0, gx1, gx2, gx3, gx4, gr0, gr1, gr2, gr3, gfr0, gfr1, st1, st2, st3, Tg.bind, Rf.bindAll, List.replicate_succ, List.replicate_zero, List.map_cons, List.map_nil, List.cons_append, List.nil_append, List.append_nil, List.set_cons_zero, List.set_cons_succ, List.getElem?_cons_zero, List.getElem?_cons_succ, List.length_cons, List.length_nil, Option.bind_some, Option.map_some, Option.bind_none, Option.map_none, if_true, Bool.false_eq_true, if_false, decide_true, decide_false, Bool.not_true, Bool.not_false, bLQ, gc0, gc1, g_row hr1, g_row hr2, num_pos, z, e, a]
      · have z : decide (0 < x.2.getD i 0) = false := decide_eq_false hp
        rw [if_neg (by rw [z]; exact Bool.false_ne_true)]
        simp only [E_var, E_cst, E_glb, E_bin, E_neg, negV_int, E_vand, E_vor, E_vone, E_vnot, E_tand, E_tor, E_tone, E_tnot, E_tval, E_cmp, E_ife, E_idx, E_nop, E_tup, E_lst, E_nil, E_cons, E_call, E_callp, E_callk, E_isi, E_bi, E_mt, asTup_tup, onB_t, onB_f, onN_nx, onN_rt, onN_bk, onN_ct, S_seq, S_skip, S_pass, S_brk, S_cont, S_set, S_setC, S_setT, S_par, S_setI, S_exp, S_ret, onBS_t, onBS_f, S_ifs, augA_int, b_add, b_addT, b_sub, c_lt, c_le, c_gt, c_ge, c_eqI, c_neI, t_int, t_bl, bi_abs, bi_int, bi_lenT, bi_lenL, bi_tupL, bi_tupT, gx0, gx1, gx2, gx3, gx4, gr0, gr1, gr2, gr3, gfr0, gfr1, st1, st2, st3, Tg.bind, Rf.bindAll, List.replicate_succ, List.replicate_zero, List.map_cons, List.map_nil, List.cons_append, List.nil_append, List.append_nil, List.set_cons_zero, List.set_cons_succ, List.getElem?_cons_zero, List.getElem?_cons_succ, List.length_cons, List.length_nil, Option.bind_some, Option.map_some, Option.bind_none, Option.map_none, if_true, Bool.false_eq_true, if_false, decide_true, decide_false, Bool.not_true, Bool.not_false, bLQ, gc1, g_row hr2, num_pos, z])
    (by
      rintro σ T ⟨c, rfl, rfl⟩
      exact rng_end (Nat.le_refl _))
    (res w) LL 0 [some (enc w), some (.ref B.length), some (encC x), c] [acc.map fr] (by omega) (by omega) ⟨c, rfl, by simp⟩
  subst e1 e2
  rw [List.take_of_length_le (by rw [List.length_range]; exact Nat.le_refl _)] at e
  refine ⟨c', ?_⟩
  have hlen : (x.2.map fr).length = res w := by rw [List.length_map, hl.2]
  have e3 : semS (Rf.run Ps gs LL n) gs LL (.for_ (.nm 3) (.itr (.cons (.bi .len (.cons (.idx (.var 2) (.cst (.int 1))) .nil)) .nil)) bLQ) [some (enc w), some (.ref B.length), some (encC x), c] B [acc.map fr] = some (.nx, [some (enc w), some (.ref B.length), some (encC x), c'], [(acc ++ qs1 (res w) x).map fr]) := by
    rw [S_for, E_itrN (j := res w) (T1 := [acc.map fr]) (by omega) (by simp only [E_var, E_cst, E_glb, E_bin, E_neg, negV_int, E_vand, E_vor, E_vone, E_vnot, E_tand, E_tor, E_tone, E_tnot, E_tval, E_cmp, E_ife, E_idx, E_nop, E_tup, E_lst, E_nil, E_cons, E_call, E_callp, E_callk, E_isi, E_bi, E_mt, asTup_tup, onB_t, onB_f, onN_nx, onN_rt, onN_bk, onN_ct, S_seq, S_skip, S_pass, S_brk, S_cont, S_set, S_setC, S_setT, S_par, S_setI, S_exp, S_ret, onBS_t, onBS_f, S_ifs, augA_int, b_add, b_addT, b_sub, c_lt, c_le, c_gt, c_ge, c_eqI, c_neI, t_int, t_bl, bi_abs, bi_int, bi_lenT, bi_lenL, bi_tupL, bi_tupT, gx0, gx1, gx2, gx3, gx4, gr0, gr1, gr2, gr3, gfr0, gfr1, st1, st2, st3, Tg.bind, Rf.bindAll, List.replicate_succ, List.replicate_zero, List.map_cons, List.map_nil, List.cons_append, List.nil_append, List.append_nil, List.set_cons_zero, List.set_cons_succ, List.getElem?_cons_zero, List.getElem?_cons_succ, List.length_cons, List.length_nil, Option.bind_some, Option.map_some, Option.bind_none, Option.map_none, if_true, Bool.false_eq_true, if_false, decide_true, decide_false, Bool.not_true, Bool.not_false, gc1, hlen])]
    unfold qs1
    exact e
  show semS _ gs LL (.seq _ .skip) _ B _ = _
  rw [S_seq, e3]; rfl
theorem lawquo_spec (ok : Ok w) (hn : 5 ≤ n) : Ret Ps gs LL n 37 [enc w] B (fr (quo w)) := by
  obtain ⟨m, rfl⟩ : ∃ m, n = m + 1 := ⟨n - 1, by omega⟩
  have hb := big_L
  have hs4 := ok.s4
  have hlh := ok.lh
  have hr3 := ok.r3
  obtain ⟨σ', T', e, c, c', e1, e2⟩ := for_inv (B := B) (it := .seq (w.ch.map encC)) (tg := .nm 2) (b := fun σ T => semS (Rf.run Ps gs LL m) gs LL bLQ2 σ B T) (m := w.ch.length)
    (fun i σ T => ∃ c c', σ = [some (enc w), some (.ref B.length), c, c'] ∧ T = [((w.ch.take i).flatMap (qs1 (res w))).map fr])
    (by
      rintro i σ T hi ⟨c, c', rfl, rfl⟩
      have hm : w.ch[i] ∈ w.ch := List.getElem_mem hi
      have hlen : ((w.ch.take i).flatMap (qs1 (res w))).length ≤ 100 := by
        have h : ∀ l : List (List Rat × List Rat), (l.flatMap (qs1 (res w))).length ≤ l.length * res w := by
          intro l
          induction l with
          | nil => simp
          | cons a l ih =>
            rw [List.flatMap_cons, List.length_append, List.length_cons, Nat.add_mul, Nat.one_mul]
            have := qs1_len (w := w) a
            omega
        have h1 := h (w.ch.take i)
        rw [List.length_take] at h1
        have : min i w.ch.length * res w ≤ 4 * 3 := Nat.mul_le_mul (by omega) hr3
        omega
      obtain ⟨c2, e⟩ := lq_inner (B := B) (n := m) ok (by omega) hm hlen c'
      refine ⟨encC w.ch[i], _, _, _, ?_, rfl, .inl e, some (encC w.ch[i]), c2, rfl, ?_⟩
      · rw [at_seq, List.getElem?_map, List.getElem?_eq_getElem hi]; rfl
      · rw [List.take_succ_eq_append_getElem hi, List.flatMap_append]; simp)
    (by
      rintro σ T ⟨c, c', rfl, rfl⟩
      rw [at_seq, List.getElem?_eq_none (by simp)])
    w.ch.length LL 0 [some (enc w), some (.ref B.length), none, none] [[]] (by omega) (by omega) ⟨none, none, rfl, rfl⟩
  subst e1 e2
  rw [List.take_length] at e
  have e3 : semS (Rf.run Ps gs LL m) gs LL (.for_ (.nm 2) (.itv (.idx (.var 0) (.cst (.int 2)))) bLQ2) [some (enc w), some (.ref B.length), none, none] B [[]] = some (.nx, [some (enc w), some (.ref B.length), c, c'], [(qlist w).map fr]) := by
    rw [S_for, I_itvT (T1 := [[]]) (xs := w.ch.map encC) (by simp only [E_var, E_cst, E_glb, E_bin, E_neg, negV_int, E_vand, E_vor, E_vone, E_vnot, E_tand, E_tor, E_tone, E_tnot, E_tval, E_cmp, E_ife, E_idx, E_nop, E_tup, E_lst, E_nil, E_cons, E_call, E_callp, E_callk, E_isi, E_bi, E_mt, asTup_tup, onB_t, onB_f, onN_nx, onN_rt, onN_bk, onN_ct, S_seq, S_skip, S_pass, S_brk, S_cont, S_set, S_setC, S_setT, S_par, S_setI, S_exp, S_ret, onBS_t, onBS_f, S_ifs, augA_int, b_add, b_addT, b_sub, c_lt, c_le, c_gt, c_ge, c_eqI, c_neI, t_int, t_bl, bi_abs, bi_int, bi_lenT, bi_lenL, bi_tupL, bi_tupT, gx0, gx1, gx2, gx3, gx4, gr0, gr1, gr2, gr3, gfr0, gfr1, st1, st2, st3, Tg.bind, Rf.bindAll, List.replicate_succ, List.replicate_zero, List.map_cons, List.map_nil, List.cons_append, List.nil_append, List.append_nil, List.set_cons_zero, List.set_cons_succ, List.getElem?_cons_zero, List.getElem?_cons_succ, List.length_cons, List.length_nil, Option.bind_some, Option.map_some, Option.bind_none, Option.map_none, if_true, Bool.false_eq_true, if_false, decide_true, decide_false, Bool.not_true, Bool.not_false, gw2])]
    unfold qlist
    exact e
  have e4 := dropT_ret (T := [(qlist w).map fr]) (lowL (n := m) (by omega) (.ref B.length) (qlist w) 28 (B ++ [(qlist w).map fr]) (.inr ⟨_, rfl, by rw [List.getElem?_append_right (Nat.le_refl _), Nat.sub_self]; rfl⟩) (qs_ne ok) (qs_bd ok) (by decide) (by have := qs_len ok; omega)) rfl
  refine ⟨[(qlist w).map fr], run_rt (σ := [some (enc w), some (.ref B.length), c, c']) (fn := ⟨1, 4, b__law_quotient⟩) rfl rfl ?_⟩
  simp only [bLQ2, bLQ] at e3
  simp only [E_var, E_cst, E_glb, E_bin, E_neg, negV_int, E_vand, E_vor, E_vone, E_vnot, E_tand, E_tor, E_tone, E_tnot, E_tval, E_cmp, E_ife, E_idx, E_nop, E_tup, E_lst, E_nil, E_cons, E_call, E_callp, E_callk, E_isi, E_bi, E_mt, asTup_tup, onB_t, onB_f, onN_nx, onN_rt, onN_bk, onN_ct, S_seq, S_skip, S_pass, S_brk, S_cont, S_set, S_setC, S_setT, S_par, S_setI, S_exp, S_ret, onBS_t, onBS_f, S_ifs, augA_int, b_add, b_addT, b_sub, c_lt, c_le, c_gt, c_ge, c_eqI, c_neI, t_int, t_bl, bi_abs, bi_int, bi_lenT, bi_lenL, bi_tupL, bi_tupT, gx0, gx1, gx2, gx3, gx4, gr0, gr1, gr2, gr3, gfr0, gfr1, st1, st2, st3, Tg.bind, Rf.bindAll, List.replicate_succ, List.replicate_zero, List.map_cons, List.map_nil, List.cons_append, List.nil_append, List.append_nil, List.set_cons_zero, List.set_cons_succ, List.getElem?_cons_zero, List.getElem?_cons_succ, List.length_cons, List.length_nil, Option.bind_some, Option.map_some, Option.bind_none, Option.map_none, if_true, Bool.false_eq_true, if_false, decide_true, decide_false, Bool.not_true, Bool.not_false, b__law_quotient, mk1, e3, e4]
  rfl
/-! ### the rate -/
def seen (w : Wd) : Rat := 1 - quo w
theorem seen_nonneg (ok : Ok w) : 0 ≤ seen w := by
  have := quo_le ok
  unfold seen
  grind
theorem seen_bd (ok : Ok w) : Bd 30 (seen w) := (Bd.one (k := 1) (by decide)).sub (quo_bd ok)
def rateV (w : Wd) : PV := if 0 < seen w then fr (1 / seen w) else .tup []
theorem ife_fr (q : Rat) {t f : MH → M} {T : MH} : onB (some (.bl (decide (0 < q)), T)) t f = if 0 < q then t T else f T := onB_d
theorem rate_spec (ok : Ok w) (hn : 6 ≤ n) : Ret Ps gs LL n 41 [enc w] B (rateV w) := by
  obtain ⟨m, rfl⟩ : ∃ m, n = m + 1 := ⟨n - 1, by omega⟩
  have e1 := dropT_ret (T := []) (lawquo_spec (B := B) ok (n := m) (by omega)) rfl
  have e2 := dropT_ret (T := []) (subL (n := m) (by omega) 1 (quo w) 1 28 B (Bd.one (by decide)) (quo_bd ok) (by decide) trivial) rfl
  have e2 : dropT (Rf.run Ps gs LL m 29 [.tup [.int 1, .int 1], fr (quo w)] B []) [] = some (fr (seen w), []) := e2
  refine ⟨[], run_rt (σ := [some (enc w), some (fr (seen w))]) (fn := ⟨1, 2, b__law_rate⟩) rfl rfl ?_⟩
  unfold rateV
  by_cases h : 0 < seen w
  · have z : decide (0 < seen w) = true := decide_eq_true h
    have e3 := dropT_ret (T := []) (divL (n := m) (by omega) 1 (seen w) 1 30 B (Bd.one (by decide)) (seen_bd ok) (by decide) (Rat.ne_of_gt h)) rfl
    have e3 : dropT (Rf.run Ps gs LL m 31 [.tup [.int 1, .int 1], fr (seen w)] B []) [] = some (fr (1 / seen w), []) := e3
    rw [if_pos h]
    simp only [E_var, E_cst, E_glb, E_bin, E_neg, negV_int, E_vand, E_vor, E_vone, E_vnot, E_tand, E_tor, E_tone, E_tnot, E_tval, E_cmp, E_ife, E_idx, E_nop, E_tup, E_lst, E_nil, E_cons, E_call, E_callp, E_callk, E_isi, E_bi, E_mt, asTup_tup, onB_t, onB_f, onN_nx, onN_rt, onN_bk, onN_ct, S_seq, S_skip, S_pass, S_brk, S_cont, S_set, S_setC, S_setT, S_par, S_setI, S_exp, S_ret, onBS_t, onBS_f, S_ifs, augA_int, b_add, b_addT, b_sub, c_lt, c_le, c_gt, c_ge, c_eqI, c_neI, t_int, t_bl, bi_abs, bi_int, bi_lenT, bi_lenL, bi_tupL, bi_tupT, gx0, gx1, gx2, gx3, gx4, gr0, gr1, gr2, gr3, gfr0, gfr1, st1, st2, st3, Tg.bind, Rf.bindAll, List.replicate_succ, List.replicate_zero, List.map_cons, List.map_nil, List.cons_append, List.nil_append, List.append_nil, List.set_cons_zero, List.set_cons_succ, List.getElem?_cons_zero, List.getElem?_cons_succ, List.length_cons, List.length_nil, Option.bind_some, Option.map_some, Option.bind_none, Option.map_none, if_true, Bool.false_eq_true, if_false, decide_true, decide_false, Bool.not_true, Bool.not_false, b__law_rate, tup2, e1, e2, num_pos, z, e3]
  · have z : decide (0 < seen w) = false := decide_eq_false h
    have t0 : tup' [] ([] : MH) = some (.tup [], []) := rfl
    rw [if_neg h]
    simp only [E_var, E_cst, E_glb, E_bin, E_neg, negV_int, E_vand, E_vor, E_vone, E_vnot, E_tand, E_tor, E_tone, E_tnot, E_tval, E_cmp, E_ife, E_idx, E_nop, E_tup, E_lst, E_nil, E_cons, E_call, E_callp, E_callk, E_isi, E_bi, E_mt, asTup_tup, onB_t, onB_f, onN_nx, onN_rt, onN_bk, onN_ct, S_seq, S_skip, S_pass, S_brk, S_cont, S_set, S_setC, S_setT, S_par, S_setI, S_exp, S_ret, onBS_t, onBS_f, S_ifs, augA_int, b_add, b_addT, b_sub, c_lt, c_le, c_gt, c_ge, c_eqI, c_neI, t_int, t_bl, bi_abs, bi_int, bi_lenT, bi_lenL, bi_tupL, bi_tupT, gx0, gx1, gx2, gx3, gx4, gr0, gr1, gr2, gr3, gfr0, gfr1, st1, st2, st3, Tg.bind, Rf.bindAll, List.replicate_succ, List.replicate_zero, List.map_cons, List.map_nil, List.cons_append, List.nil_append, List.append_nil, List.set_cons_zero, List.set_cons_succ, List.getElem?_cons_zero, List.getElem?_cons_succ, List.length_cons, List.length_nil, Option.bind_some, Option.map_some, Option.bind_none, Option.map_none, if_true, Bool.false_eq_true, if_false, decide_true, decide_false, Bool.not_true, Bool.not_false, b__law_rate, tup2, e1, e2, num_pos, z, t0]
end
end K36
end
section
/-! k36: the sorted states. -/
namespace K36
open PySem Rf Pl
section
variable {w : Wd} {s n : Nat} {B T : MH} {L : Nat} {CF : Nat → List PV → MH → MH → M} {G : List (Str × PV)}
/-- a while loop whose turns are known -/
theorem while_seq {c : En → MH → M} {b : En → MH → MS} {st : Nat → En} {m : Nat} (hc : ∀ i, i < m → c (st i) T = some (.bl true, T)) (hb : ∀ i, i < m → b (st i) T = some (.nx, st (i + 1), T)) (he : c (st m) T = some (.bl false, T)) : ∀ (d i n : Nat), i + d = m → d < n → loopW c b n (st i) T = some (.nx, st m, T) := by
  intro d
  induction d with
  | zero =>
    intro i n h hn
    obtain ⟨n, rfl⟩ : ∃ k, n = k + 1 := ⟨n - 1, by omega⟩
    have : i = m := by omega
    subst this
    unfold loopW
    rw [he]
  | succ d ih =>
    intro i n h hn
    obtain ⟨n, rfl⟩ : ∃ k, n = k + 1 := ⟨n - 1, by omega⟩
    unfold loopW
    rw [hc i (by omega)]
    dsimp only
    rw [hb i (by omega)]
    exact ih (i + 1) n (by omega) (by omega)
def encS (x : Rat × Nat) : PV := .tup [fr x.1, .int (x.2 : Nat)]
theorem gS0 (x : Rat × Nat) : getIx B T (encS x) (.int 0) = some (fr x.1) := (rfl)
theorem gS1 (x : Rat × Nat) : getIx B T (encS x) (.int 1) = some (.int (x.2 : Nat)) := (rfl)
/-- into its place: behind all that are not less -/
def ins (x : Rat × Nat) : List (Rat × Nat) → List (Rat × Nat)
  | [] => [x]
  | y :: r => if x.1 ≤ y.1 then y :: ins x r else x :: y :: r
def plc (x : Rat × Nat) : List (Rat × Nat) → Nat
  | [] => 0
  | y :: r => if x.1 ≤ y.1 then plc x r + 1 else 0
theorem plc_le (x : Rat × Nat) : ∀ l, plc x l ≤ l.length
  | [] => Nat.le_refl _
  | y :: r => by
    unfold plc
    split
    · exact Nat.succ_le_succ (plc_le x r)
    · exact Nat.zero_le _
theorem plc_lt {x : Rat × Nat} : ∀ {l : List (Rat × Nat)} {i : Nat}, i < plc x l → ∃ y, l[i]? = some y ∧ x.1 ≤ y.1
  | [], i, h => by cases h
  | y :: r, i, h => by
    unfold plc at h
    by_cases hy : x.1 ≤ y.1
    · rw [if_pos hy] at h
      cases i with
      | zero => exact ⟨y, rfl, hy⟩
      | succ i => exact plc_lt (l := r) (i := i) (by omega)
    · rw [if_neg hy] at h; omega
theorem plc_at {x : Rat × Nat} : ∀ {l : List (Rat × Nat)}, plc x l < l.length → ∃ y, l[plc x l]? = some y ∧ ¬ x.1 ≤ y.1
  | [], h => by cases h
  | y :: r, h => by
    unfold plc at h ⊢
    by_cases hy : x.1 ≤ y.1
    · rw [if_pos hy] at h ⊢
      exact plc_at (l := r) (by simpa using h)
    · rw [if_neg hy]
      exact ⟨y, rfl, hy⟩
theorem ins_eq (x : Rat × Nat) : ∀ l, ins x l = l.take (plc x l) ++ x :: l.drop (plc x l)
  | [] => rfl
  | y :: r => by
    unfold ins plc
    by_cases hy : x.1 ≤ y.1
    · rw [if_pos hy, if_pos hy, ins_eq x r]; rfl
    · rw [if_neg hy, if_neg hy]; rfl
theorem ins_len (x : Rat × Nat) : ∀ l, (ins x l).length = l.length + 1
  | [] => rfl
  | y :: r => by
    unfold ins
    split
    · rw [List.length_cons, ins_len x r]; rfl
    · rfl
theorem ins_mem {x y : Rat × Nat} : ∀ {l : List (Rat × Nat)}, y ∈ ins x l ↔ y = x ∨ y ∈ l
  | [] => by simp [ins]
  | z :: r => by
    unfold ins
    split
    · rw [List.mem_cons, ins_mem (l := r), List.mem_cons]
      constructor
      · rintro (h | h | h)
        · exact .inr (.inl h)
        · exact .inl h
        · exact .inr (.inr h)
      · rintro (h | h | h)
        · exact .inr (.inl h)
        · exact .inl h
        · exact .inr (.inr h)
    · simp
/-- told states: dearer and better -/
def told (w : Wd) (s : Nat) : Bool := decide (0 < rise w s) && decide (0 < more w s)
def ratio (w : Wd) (s : Nat) : Rat := rise w s / more w s
def sortedTo (w : Wd) : Nat → List (Rat × Nat)
  | 0 => []
  | i + 1 => if told w i = true then ins (ratio w i, i) (sortedTo w i) else sortedTo w i
def sorted (w : Wd) : List (Rat × Nat) := sortedTo w w.p.length
theorem sorted_len : ∀ i, (sortedTo w i).length ≤ i
  | 0 => Nat.le_refl _
  | i + 1 => by
    unfold sortedTo
    have := sorted_len i
    split
    · rw [ins_len]; omega
    · omega
theorem sorted_mem : ∀ {i : Nat} {y : Rat × Nat}, y ∈ sortedTo w i → y.2 < i ∧ told w y.2 = true ∧ y.1 = ratio w y.2
  | 0, y, h => by cases h
  | i + 1, y, h => by
    unfold sortedTo at h
    split at h
    · rename_i ht
      rcases ins_mem.mp h with e | e
      · rw [e]; exact ⟨Nat.lt_succ_self _, ht, rfl⟩
      · obtain ⟨h1, h2, h3⟩ := sorted_mem e
        exact ⟨by omega, h2, h3⟩
    · obtain ⟨h1, h2, h3⟩ := sorted_mem h
      exact ⟨by omega, h2, h3⟩
theorem ratio_bd (ok : Ok w) (h : s < w.p.length) : Bd 58 (ratio w s) := (bd_rise ok h).div (bd_more ok h)
def bSort : S := (.seq (.ifs (.tand (.tval (.callp 6 (.cons (.glb 0) (.cons (.callp 14 (.cons (.var 0) (.cons (.var 2) .nil))) .nil)))) (.tone (.tval (.callp 6 (.cons (.glb 0) (.cons (.callp 15 (.cons (.var 0) (.cons (.var 2) .nil))) .nil)))))) (.seq (.set 3 (.callp 5 (.cons (.callp 14 (.cons (.var 0) (.cons (.var 2) .nil))) (.cons (.callp 15 (.cons (.var 0) (.cons (.var 2) .nil))) .nil)))) (.seq (.set 4 (.cst (.int 0))) (.seq (.whl (.tand (.cmp .lt (.var 4) (.bi .len (.cons (.var 1) .nil))) (.tone (.tval (.callp 7 (.cons (.var 3) (.cons (.idx (.idx (.var 1) (.var 4)) (.cst (.int 0))) .nil)))))) (.seq (.aug 4 .add (.cst (.int 1))) .skip)) (.seq (.exp (.mt .insert (.var 1) (.cons (.var 4) (.cons (.tup (.cons (.var 3) (.cons (.var 2) .nil))) .nil)))) .skip)))) .skip) .skip)
theorem insert_put {k i : Nat} {xs : List PV} {v : PV} (h : rd B T k = some xs) (hn : B.length ≤ k) (hl : xs.length < big) (hi : i < 2 ^ 60) (hx : i ≤ xs.length) : Rf.mt B T .insert (.ref k) [.int (i : Nat), v] = some (.non, put B T k (xs.take i ++ v :: xs.drop i)) := by
  show (rd B T k).bind _ = _
  rw [h]
  show (if xs.length < big then (insV xs (i : Int) v).bind _ else none) = _
  rw [if_pos hl]
  have e : insV xs (i : Int) v = some (xs.take i ++ v :: xs.drop i) := by
    unfold insV
    rw [if_pos (by omega), Int.toNat_natCast]
  rw [e]
  show (wr B T k _).map _ = _
  rw [wr_put h hn (by rw [List.length_append, List.length_cons, List.length_take, List.length_drop]; omega)]; rfl
theorem put_last {xs ys : List PV} : put B (T ++ [xs]) (B.length + T.length) ys = T ++ [ys] := by
  unfold put
  rw [show B.length + T.length - B.length = T.length by omega, List.set_append_right _ _ (Nat.le_refl _), Nat.sub_self]; rfl
def bWhl : S := (.seq (.aug 4 .add (.cst (.int 1))) .skip)
def cWhl : C := (.tand (.cmp .lt (.var 4) (.bi .len (.cons (.var 1) .nil))) (.tone (.tval (.callp 7 (.cons (.var 3) (.cons (.idx (.idx (.var 1) (.var 4)) (.cst (.int 0))) .nil))))))
theorem sort_while (hn : 1 ≤ n) {e0 sv : PV} {x : Rat × Nat} {l : List (Rat × Nat)} {k : Nat} {T : MH} (hk : rd B T k = some (l.map encS)) (hx : Bd 58 x.1) (hl : ∀ y ∈ l, Bd 58 y.1) (hlen : l.length ≤ 10) :
    semS (Rf.run Ps gs LL n) gs LL (.whl cWhl bWhl) [some e0, some (.ref k), some sv, some (fr x.1), some (.int 0)] B T = some (.nx, [some e0, some (.ref k), some sv, some (fr x.1), some (.int (plc x l : Nat))], T) := by
  have hb := big_L
  have hp := plc_le x l
  rw [S_whl]
  have := while_seq (T := T) (c := fun σ T => (sem (Rf.run Ps gs LL n) gs LL cWhl).e σ B T) (b := fun σ T => semS (Rf.run Ps gs LL n) gs LL bWhl σ B T) (st := fun i => [some e0, some (.ref k), some sv, some (fr x.1), some (.int (i : Nat))]) (m := plc x l)
    (fun i hi => by
      obtain ⟨y, e1, e2⟩ := plc_lt hi
      have z1 : decide ((i : Int) < (l.length : Int)) = true := decide_eq_true (by omega)
      have z2 : decide (x.1 ≤ y.1) = true := decide_eq_true e2
      have hy : y ∈ l := List.mem_of_getElem? e1
      have g1 : getIx B T (.ref k) (.int (i : Nat)) = some (encS y) := by rw [grn, hk, Option.bind_some, List.getElem?_map, e1]; rfl
      have e := dropT_ret (T := T) (mostP (n := n) (by omega) x.1 y.1 58 58 (B ++ T) hx (hl y hy) (by decide) trivial) rfl
      simp only [E_var, E_cst, E_glb, E_bin, E_neg, negV_int, E_vand, E_vor, E_vone, E_vnot, E_tand, E_tor, E_tone, E_tnot, E_tval, E_cmp, E_ife, E_idx, E_nop, E_tup, E_lst, E_nil, E_cons, E_call, E_callp, E_callk, E_isi, E_bi, E_mt, asTup_tup, onB_t, onB_f, onN_nx, onN_rt, onN_bk, onN_ct, S_seq, S_skip, S_pass, S_brk, S_cont, S_set, S_setC, S_setT, S_par, S_setI, S_exp, S_ret, onBS_t, onBS_f, S_ifs, augA_int, b_add, b_addT, b_sub, c_lt, c_le, c_gt, c_ge, c_eqI, c_neI, t_int, t_bl, bi_abs, bi_int, bi_lenT, bi_lenL, bi_tupL, bi_tupT, gx0, gx1, gx2, gx3, gx4, gr0, gr1, gr2, gr3, gfr0, gfr1, st1, st2, st3, Tg.bind, Rf.bindAll, List.replicate_succ, List.replicate_zero, List.map_cons, List.map_nil, List.cons_append, List.nil_append, List.append_nil, List.set_cons_zero, List.set_cons_succ, List.getElem?_cons_zero, List.getElem?_cons_succ, List.length_cons, List.length_nil, Option.bind_some, Option.map_some, Option.bind_none, Option.map_none, if_true, Bool.false_eq_true, if_false, decide_true, decide_false, Bool.not_true, Bool.not_false, cWhl, hk, List.length_map, z1, g1, gS0, e, z2])
    (fun i hi => by
      have a := S_augA (CF := Rf.run Ps gs LL n) (G := gs) (L := LL) (B := B) (T := T) (σ := [some e0, some (.ref k), some sv, some (fr x.1), some (.int (i : Nat))]) (a := .cst (.int 1)) 4 (u := i) rfl
      simp only [E_var, E_cst, E_glb, E_bin, E_neg, negV_int, E_vand, E_vor, E_vone, E_vnot, E_tand, E_tor, E_tone, E_tnot, E_tval, E_cmp, E_ife, E_idx, E_nop, E_tup, E_lst, E_nil, E_cons, E_call, E_callp, E_callk, E_isi, E_bi, E_mt, asTup_tup, onB_t, onB_f, onN_nx, onN_rt, onN_bk, onN_ct, S_seq, S_skip, S_pass, S_brk, S_cont, S_set, S_setC, S_setT, S_par, S_setI, S_exp, S_ret, onBS_t, onBS_f, S_ifs, augA_int, b_add, b_addT, b_sub, c_lt, c_le, c_gt, c_ge, c_eqI, c_neI, t_int, t_bl, bi_abs, bi_int, bi_lenT, bi_lenL, bi_tupL, bi_tupT, gx0, gx1, gx2, gx3, gx4, gr0, gr1, gr2, gr3, gfr0, gfr1, st1, st2, st3, Tg.bind, Rf.bindAll, List.replicate_succ, List.replicate_zero, List.map_cons, List.map_nil, List.cons_append, List.nil_append, List.append_nil, List.set_cons_zero, List.set_cons_succ, List.getElem?_cons_zero, List.getElem?_cons_succ, List.length_cons, List.length_nil, Option.bind_some, Option.map_some, Option.bind_none, Option.map_none, if_true, Bool.false_eq_true, if_false, decide_true, decide_false, Bool.not_true, Bool.not_false, bWhl, a]
      rfl)
    (by
      by_cases hq : plc x l < l.length
      · obtain ⟨y, e1, e2⟩ := plc_at hq
        have z1 : decide (((plc x l : Nat) : Int) < (l.length : Int)) = true := decide_eq_true (by omega)
        have z2 : decide (x.1 ≤ y.1) = false := decide_eq_false e2
        have hy : y ∈ l := List.mem_of_getElem? e1
        have g1 : getIx B T (.ref k) (.int (plc x l : Nat)) = some (encS y) := by rw [grn, hk, Option.bind_some, List.getElem?_map, e1]; rfl
        have e := dropT_ret (T := T) (mostP (n := n) (by omega) x.1 y.1 58 58 (B ++ T) hx (hl y hy) (by decide) trivial) rfl
        simp only [E_var, E_cst, E_glb, E_bin, E_neg, negV_int, E_vand, E_vor, E_vone, E_vnot, E_tand, E_tor, E_tone, E_tnot, E_tval, E_cmp, E_ife, E_idx, E_nop, E_tup, E_lst, E_nil, E_cons, E_call, E_callp, E_callk, E_isi, E_bi, E_mt, asTup_tup, onB_t, onB_f, onN_nx, onN_rt, onN_bk, onN_ct, S_seq, S_skip, S_pass, S_brk, S_cont, S_set, S_setC, S_setT, S_par, S_setI, S_exp, S_ret, onBS_t, onBS_f, S_ifs, augA_int, b_add, b_addT, b_sub, c_lt, c_le, c_gt, c_ge, c_eqI, c_neI, t_int, t_bl, bi_abs, bi_int, bi_lenT, bi_lenL, bi_tupL, bi_tupT, gx0, gx1, gx2, gx3, gx4, gr0, gr1, gr2, gr3, gfr0, gfr1, st1, st2, st3, Tg.bind, Rf.bindAll, List.replicate_succ, List.replicate_zero, List.map_cons, List.map_nil, List.cons_append, List.nil_append, List.append_nil, List.set_cons_zero, List.set_cons_succ, List.getElem?_cons_zero, List.getElem?_cons_succ, List.length_cons, List.length_nil, Option.bind_some, Option.map_some, Option.bind_none, Option.map_none, if_true, Bool.false_eq_true, if_false, decide_true, decide_false, Bool.not_true, Bool.not_false, cWhl, hk, List.length_map, z1, g1, gS0, e, z2]
      · have z1 : decide (((plc x l : Nat) : Int) < (l.length : Int)) = false := decide_eq_false (by omega)
        simp only [E_var, E_cst, E_glb, E_bin, E_neg, negV_int, E_vand, E_vor, E_vone, E_vnot, E_tand, E_tor, E_tone, E_tnot, E_tval, E_cmp, E_ife, E_idx, E_nop, E_tup, E_lst, E_nil, E_cons, E_call, E_callp, E_callk, E_isi, E_bi, E_mt, asTup_tup, onB_t, onB_f, onN_nx, onN_rt, onN_bk, onN_ct, S_seq, S_skip, S_pass, S_brk, S_cont, S_set, S_setC, S_setT, S_par, S_setI, S_exp, S_ret, onBS_t, onBS_f, S_ifs, augA_int, b_add, b_addT, b_sub, c_lt, c_le, c_gt, c_ge, c_eqI, c_neI, t_int, t_bl, bi_abs, bi_int, bi_lenT, bi_lenL, bi_tupL, bi_tupT, gx0, gx1, gx2, gx3, gx4, gr0, gr1, gr2, gr3, gfr0, gfr1, st1, st2, st3, Tg.bind, Rf.bindAll, List.replicate_succ, List.replicate_zero, List.map_cons, List.map_nil, List.cons_append, List.nil_append, List.append_nil, List.set_cons_zero, List.set_cons_succ, List.getElem?_cons_zero, List.getElem?_cons_succ, List.length_cons, List.length_nil, Option.bind_some, Option.map_some, Option.bind_none, Option.map_none, if_true, Bool.false_eq_true, if_false, decide_true, decide_false, Bool.not_true, Bool.not_false, cWhl, hk, List.length_map, z1])
    (plc x l) 0 LL (by omega) (by omega)
  exact this
theorem sort_turn (ok : Ok w) (hn : 5 ≤ n) (hs : s < w.p.length) (c3 c4 : Option PV) : ∃ c3' c4', semS (Rf.run Ps gs LL n) gs LL bSort [some (enc w), some (.ref (B.length + T.length)), some (.int (s : Nat)), c3, c4] B (T ++ [(sortedTo w s).map encS]) = some (.nx, [some (enc w), some (.ref (B.length + T.length)), some (.int (s : Nat)), c3', c4'], T ++ [(sortedTo w (s + 1)).map encS]) := by
  have hs4 := ok.s4
  have hbig : 200 < big := by decide +kernel
  have e1 := dropT_ret (T := T ++ [(sortedTo w s).map encS]) (moregain_spec (B := B ++ (T ++ [(sortedTo w s).map encS])) ok (n := n) (by omega) hs) rfl
  have e2 := dropT_ret (T := T ++ [(sortedTo w s).map encS]) (morecost_spec (B := B ++ (T ++ [(sortedTo w s).map encS])) ok (n := n) (by omega) hs) rfl
  have e3 := dropT_ret (T := T ++ [(sortedTo w s).map encS]) (lessP (n := n) (by omega) 0 (rise w s) 1 29 (B ++ (T ++ [(sortedTo w s).map encS])) (Bd.zero (by decide)) (bd_rise ok hs) (by decide) trivial) rfl
  have e4 := dropT_ret (T := T ++ [(sortedTo w s).map encS]) (lessP (n := n) (by omega) 0 (more w s) 1 29 (B ++ (T ++ [(sortedTo w s).map encS])) (Bd.zero (by decide)) (bd_more ok hs) (by decide) trivial) rfl
  by_cases h1 : 0 < rise w s
  · have z1 : decide (0 < rise w s) = true := decide_eq_true h1
    by_cases h2 : 0 < more w s
    · have z2 : decide (0 < more w s) = true := decide_eq_true h2
      have ht : told w s = true := by unfold told; rw [z1, z2]; rfl
      have hlen := sorted_len (w := w) s
      have hk : rd B (T ++ [(sortedTo w s).map encS]) (B.length + T.length) = some ((sortedTo w s).map encS) := rd_new
      have e5 := dropT_ret (T := T ++ [(sortedTo w s).map encS]) (overP (n := n) (by omega) (rise w s) (more w s) 29 29 (B ++ (T ++ [(sortedTo w s).map encS])) (bd_rise ok hs) (bd_more ok hs) (by decide) (Rat.ne_of_gt h2)) rfl
      have e6 := sort_while (B := B) (n := n) (by omega) (e0 := enc w) (sv := .int (s : Nat)) (x := (ratio w s, s)) hk (ratio_bd ok hs) (fun y hy => by
        obtain ⟨q1, q2, q3⟩ := sorted_mem hy
        rw [q3]; exact ratio_bd ok (by omega)) (by omega)
      have hp := plc_le (ratio w s, s) (sortedTo w s)
      have e7 := insert_put (v := encS (ratio w s, s)) hk (by omega) (by rw [List.length_map]; omega) (i := plc (ratio w s, s) (sortedTo w s)) (by omega) (by rw [List.length_map]; exact hp)
      have l1 : ((sortedTo w s).map encS).take (plc (ratio w s, s) (sortedTo w s)) ++ encS (ratio w s, s) :: ((sortedTo w s).map encS).drop (plc (ratio w s, s) (sortedTo w s)) = (sortedTo w (s + 1)).map encS := by
        rw [show sortedTo w (s + 1) = ins (ratio w s, s) (sortedTo w s) from if_pos ht, ins_eq, List.map_append, List.map_cons, List.map_take, List.map_drop]
      rw [l1, put_last] at e7
      refine ⟨some (fr (ratio w s)), some (.int (plc (ratio w s, s) (sortedTo w s) : Nat)), ?_⟩
      have e5 : dropT (Rf.run Ps gs LL n 5 [fr (rise w s), fr (more w s)] (B ++ (T ++ [(sortedTo w s).map encS])) []) (T ++ [(sortedTo w s).map encS]) = some (fr (ratio w s), T ++ [(sortedTo w s).map encS]) := e5
      have e7 : Rf.mt B (T ++ [(sortedTo w s).map encS]) .insert (.ref (B.length + T.length)) [.int (plc (ratio w s, s) (sortedTo w s) : Nat), .tup [fr (ratio w s), .int (s : Nat)]] = some (.non, T ++ [(sortedTo w (s + 1)).map encS]) := e7
      simp only [cWhl, bWhl] at e6
      simp only [E_var, E_cst, E_glb, E_bin, E_neg, negV_int, E_vand, E_vor, E_vone, E_vnot, E_tand, E_tor, E_tone, E_tnot, E_tval, E_cmp, E_ife, E_idx, E_nop, E_tup, E_lst, E_nil, E_cons, E_call, E_callp, E_callk, E_isi, E_bi, E_mt, asTup_tup, onB_t, onB_f, onN_nx, onN_rt, onN_bk, onN_ct, S_seq, S_skip, S_pass, S_brk, S_cont, S_set, S_setC, S_setT, S_par, S_setI, S_exp, S_ret, onBS_t, onBS_f, S_ifs, augA_int, b_add, b_addT, b_sub, c_lt, c_le, c_gt, c_ge, c_eqI, c_neI, t_int, t_bl, bi_abs, bi_int, bi_lenT, bi_lenL, bi_tupL, bi_tupT, gx0, gx1, gx2, gx3, gx4, gr0, gr1, gr2, gr3, gfr0, gfr1, st1, st2, st3, Tg.bind, Rf.bindAll, List.replicate_succ, List.replicate_zero, List.map_cons, List.map_nil, List.cons_append, List.nil_append, List.append_nil, List.set_cons_zero, List.set_cons_succ, List.getElem?_cons_zero, List.getElem?_cons_succ, List.length_cons, List.length_nil, Option.bind_some, Option.map_some, Option.bind_none, Option.map_none, if_true, Bool.false_eq_true, if_false, decide_true, decide_false, Bool.not_true, Bool.not_false, E_glb, gs0, bSort, e1, e2, e3, e4, z1, z2, e5, e6, tup2, e7]
    · have z2 : decide (0 < more w s) = false := decide_eq_false h2
      have ht : told w s = false := by unfold told; rw [z1, z2]; rfl
      rw [show sortedTo w (s + 1) = sortedTo w s from if_neg (by rw [ht]; exact Bool.false_ne_true)]
      exact ⟨c3, c4, by simp only [E_var, E_cst, E_glb, E_bin, E_neg, negV_int, E_vand, E_vor, E_vone, E_vnot, E_tand, E_tor, E_tone, E_tnot, E_tval, E_cmp, E_ife, E_idx, E_nop, E_tup, E_lst, E_nil, E_cons, E_call, E_callp, E_callk, E_isi, E_bi, E_mt, asTup_tup, onB_t, onB_f, onN_nx, onN_rt, onN_bk, onN_ct, S_seq, S_skip, S_pass, S_brk, S_cont, S_set, S_setC, S_setT, S_par, S_setI, S_exp, S_ret, onBS_t, onBS_f, S_ifs, augA_int, b_add, b_addT, b_sub, c_lt, c_le, c_gt, c_ge, c_eqI, c_neI, t_int, t_bl, bi_abs, bi_int, bi_lenT, bi_lenL, bi_tupL, bi_tupT, gx0, gx1, gx2, gx3, gx4, gr0, gr1, gr2, gr3, gfr0, gfr1, st1, st2, st3, Tg.bind, Rf.bindAll, List.replicate_succ, List.replicate_zero, List.map_cons, List.map_nil, List.cons_append, List.nil_append, List.append_nil, List.set_cons_zero, List.set_cons_succ, List.getElem?_cons_zero, List.getElem?_cons_succ, List.length_cons, List.length_nil, Option.bind_some, Option.map_some, Option.bind_none, Option.map_none, if_true, Bool.false_eq_true, if_false, decide_true, decide_false, Bool.not_true, Bool.not_false, E_glb, gs0, bSort, e1, e2, e3, e4, z1, z2]⟩
  · have z1 : decide (0 < rise w s) = false := decide_eq_false h1
    have ht : told w s = false := by unfold told; rw [z1]; rfl
    rw [show sortedTo w (s + 1) = sortedTo w s from if_neg (by rw [ht]; exact Bool.false_ne_true)]
    exact ⟨c3, c4, by simp only [E_var, E_cst, E_glb, E_bin, E_neg, negV_int, E_vand, E_vor, E_vone, E_vnot, E_tand, E_tor, E_tone, E_tnot, E_tval, E_cmp, E_ife, E_idx, E_nop, E_tup, E_lst, E_nil, E_cons, E_call, E_callp, E_callk, E_isi, E_bi, E_mt, asTup_tup, onB_t, onB_f, onN_nx, onN_rt, onN_bk, onN_ct, S_seq, S_skip, S_pass, S_brk, S_cont, S_set, S_setC, S_setT, S_par, S_setI, S_exp, S_ret, onBS_t, onBS_f, S_ifs, augA_int, b_add, b_addT, b_sub, c_lt, c_le, c_gt, c_ge, c_eqI, c_neI, t_int, t_bl, bi_abs, bi_int, bi_lenT, bi_lenL, bi_tupL, bi_tupT, gx0, gx1, gx2, gx3, gx4, gr0, gr1, gr2, gr3, gfr0, gfr1, st1, st2, st3, Tg.bind, Rf.bindAll, List.replicate_succ, List.replicate_zero, List.map_cons, List.map_nil, List.cons_append, List.nil_append, List.append_nil, List.set_cons_zero, List.set_cons_succ, List.getElem?_cons_zero, List.getElem?_cons_succ, List.length_cons, List.length_nil, Option.bind_some, Option.map_some, Option.bind_none, Option.map_none, if_true, Bool.false_eq_true, if_false, decide_true, decide_false, Bool.not_true, Bool.not_false, E_glb, gs0, bSort, e1, e3, z1]⟩
/-- sorted_states: a new list -/
theorem sorted_spec (ok : Ok w) (hn : 6 ≤ n) : Rf.run Ps gs LL n 17 [enc w] B T = some (.ref (B.length + T.length), T ++ [(sorted w).map encS]) := by
  obtain ⟨m, rfl⟩ : ∃ m, n = m + 1 := ⟨n - 1, by omega⟩
  have hb := big_L
  have hs4 := ok.s4
  have mk0 : mk B T [] = some (.ref (B.length + T.length), T ++ [[]]) := mk_ok (Nat.zero_le _)
  have d0 := dropT_ret (T := T ++ [[]]) (states_spec (w := w) (B := B ++ (T ++ [[]])) (n := m) (by omega)) rfl
  obtain ⟨σ', T', e, c2, c3, c4, e1, e2⟩ := for_inv (B := B) (it := .rng 0 w.p.length) (tg := .nm 2) (b := fun σ T => semS (Rf.run Ps gs LL m) gs LL bSort σ B T) (m := w.p.length)
    (fun i σ T' => ∃ c2 c3 c4, σ = [some (enc w), some (.ref (B.length + T.length)), c2, c3, c4] ∧ T' = T ++ [(sortedTo w i).map encS])
    (by
      rintro i σ T' hi ⟨c2, c3, c4, rfl, rfl⟩
      obtain ⟨c3', c4', e⟩ := sort_turn (B := B) (T := T) (n := m) ok (by omega) hi c3 c4
      refine ⟨_, _, _, _, rng_at hi, rfl, .inl ?_, some (.int (i : Nat)), c3', c4', rfl, rfl⟩
      rw [Int.zero_add]
      exact e)
    (by
      rintro σ T' ⟨c2, c3, c4, rfl, rfl⟩
      exact rng_end (Nat.le_refl _))
    w.p.length LL 0 [some (enc w), some (.ref (B.length + T.length)), none, none, none] (T ++ [[]]) (by omega) (by omega) ⟨none, none, none, rfl, rfl⟩
  subst e1 e2
  have e3 : semS (Rf.run Ps gs LL m) gs LL (.for_ (.nm 2) (.itr (.cons (.callp 11 (.cons (.var 0) .nil)) .nil)) bSort) [some (enc w), some (.ref (B.length + T.length)), none, none, none] B (T ++ [[]]) = some (.nx, [some (enc w), some (.ref (B.length + T.length)), c2, c3, c4], T ++ [(sorted w).map encS]) := by
    rw [S_for, E_itrN (j := w.p.length) (T1 := T ++ [[]]) (by omega) (by simp only [E_var, E_cst, E_glb, E_bin, E_neg, negV_int, E_vand, E_vor, E_vone, E_vnot, E_tand, E_tor, E_tone, E_tnot, E_tval, E_cmp, E_ife, E_idx, E_nop, E_tup, E_lst, E_nil, E_cons, E_call, E_callp, E_callk, E_isi, E_bi, E_mt, asTup_tup, onB_t, onB_f, onN_nx, onN_rt, onN_bk, onN_ct, S_seq, S_skip, S_pass, S_brk, S_cont, S_set, S_setC, S_setT, S_par, S_setI, S_exp, S_ret, onBS_t, onBS_f, S_ifs, augA_int, b_add, b_addT, b_sub, c_lt, c_le, c_gt, c_ge, c_eqI, c_neI, t_int, t_bl, bi_abs, bi_int, bi_lenT, bi_lenL, bi_tupL, bi_tupT, gx0, gx1, gx2, gx3, gx4, gr0, gr1, gr2, gr3, gfr0, gfr1, st1, st2, st3, Tg.bind, Rf.bindAll, List.replicate_succ, List.replicate_zero, List.map_cons, List.map_nil, List.cons_append, List.nil_append, List.append_nil, List.set_cons_zero, List.set_cons_succ, List.getElem?_cons_zero, List.getElem?_cons_succ, List.length_cons, List.length_nil, Option.bind_some, Option.map_some, Option.bind_none, Option.map_none, if_true, Bool.false_eq_true, if_false, decide_true, decide_false, Bool.not_true, Bool.not_false, d0])]
    unfold sorted
    exact e
  refine run_rt (σ := [some (enc w), some (.ref (B.length + T.length)), c2, c3, c4]) (fn := ⟨1, 5, b_sorted_states⟩) rfl rfl ?_
  simp only [bSort] at e3
  simp only [E_var, E_cst, E_glb, E_bin, E_neg, negV_int, E_vand, E_vor, E_vone, E_vnot, E_tand, E_tor, E_tone, E_tnot, E_tval, E_cmp, E_ife, E_idx, E_nop, E_tup, E_lst, E_nil, E_cons, E_call, E_callp, E_callk, E_isi, E_bi, E_mt, asTup_tup, onB_t, onB_f, onN_nx, onN_rt, onN_bk, onN_ct, S_seq, S_skip, S_pass, S_brk, S_cont, S_set, S_setC, S_setT, S_par, S_setI, S_exp, S_ret, onBS_t, onBS_f, S_ifs, augA_int, b_add, b_addT, b_sub, c_lt, c_le, c_gt, c_ge, c_eqI, c_neI, t_int, t_bl, bi_abs, bi_int, bi_lenT, bi_lenL, bi_tupL, bi_tupT, gx0, gx1, gx2, gx3, gx4, gr0, gr1, gr2, gr3, gfr0, gfr1, st1, st2, st3, Tg.bind, Rf.bindAll, List.replicate_succ, List.replicate_zero, List.map_cons, List.map_nil, List.cons_append, List.nil_append, List.append_nil, List.set_cons_zero, List.set_cons_succ, List.getElem?_cons_zero, List.getElem?_cons_succ, List.length_cons, List.length_nil, Option.bind_some, Option.map_some, Option.bind_none, Option.map_none, if_true, Bool.false_eq_true, if_false, decide_true, decide_false, Bool.not_true, Bool.not_false, b_sorted_states, mk0, e3]
end
end K36
end
section
/-! k36: free_gain, filled, filled_mass. -/
namespace K36
open PySem Rf Pl
section
variable {w : Wd} {s n : Nat} {B T : MH} {L : Nat} {CF : Nat → List PV → MH → MH → M} {G : List (Str × PV)}
/-! ### free_gain -/
def actw (w : Wd) (s : Nat) : Rat := if free w s = true then (gw w s).2 else (gw w s).1
def fgain (w : Wd) : Rat := ((List.range w.p.length).map fun s => pw w s * actw w s).sum
theorem actw_bd (ok : Ok w) (h : s < w.p.length) : Bd 14 (actw w s) := by
  unfold actw
  split
  · exact (bd_g ok h).2
  · exact (bd_g ok h).1
def bFree : S := (.seq (.set 3 (.ife (.tval (.callp 16 (.cons (.var 0) (.cons (.var 2) .nil)))) (.cst (.int 1)) (.cst (.int 0)))) (.seq (.exp (.mt .append (.var 1) (.cons (.callp 4 (.cons (.idx (.idx (.var 0) (.cst (.int 0))) (.var 2)) (.cons (.idx (.idx (.idx (.var 0) (.cst (.int 3))) (.var 2)) (.var 3)) .nil))) .nil))) .skip))
theorem free_turn (ok : Ok w) (hn : 5 ≤ n) (hs : s < w.p.length) (c : Option PV) {acc : List Rat} (ha : acc.length ≤ 10) : ∃ c', semS (Rf.run Ps gs LL n) gs LL bFree [some (enc w), some (.ref B.length), some (.int (s : Nat)), c] B [acc.map fr] = some (.nx, [some (enc w), some (.ref B.length), some (.int (s : Nat)), c'], [(acc ++ [pw w s * actw w s]).map fr]) := by
  have hbig : 200 < big := by decide +kernel
  have e1 := dropT_ret (T := [acc.map fr]) (isfree_spec (B := B ++ [acc.map fr]) ok (n := n) (by omega) hs) rfl
  have e2 := dropT_ret (T := [acc.map fr]) (timesP (n := n) (by omega) (pw w s) (actw w s) 14 14 (B ++ [acc.map fr]) (bd_p ok hs).1 (actw_bd ok hs) (by decide) trivial) rfl
  have e2 : dropT (Rf.run Ps gs LL n 4 [fr (pw w s), fr (actw w s)] (B ++ [acc.map fr]) []) [acc.map fr] = some (fr (pw w s * actw w s), [acc.map fr]) := e2
  have a := app1 (B := B) (xs := acc.map fr) (v := fr (pw w s * actw w s)) (by rw [List.length_map]; omega)
  rw [show acc.map fr ++ [fr (pw w s * actw w s)] = (acc ++ [pw w s * actw w s]).map fr by rw [List.map_append]; rfl] at a
  cases hf : free w s with
  | true =>
    rw [hf] at e1
    have ea : actw w s = (gw w s).2 := if_pos hf
    rw [ea] at e2 a ⊢
    exact ⟨some (.int 1), by simp only [E_var, E_cst, E_glb, E_bin, E_neg, negV_int, E_vand, E_vor, E_vone, E_vnot, E_tand, E_tor, E_tone, E_tnot, E_tval, E_cmp, E_ife, E_idx, E_nop, E_tup, E_lst, E_nil, E_cons, E_call, E_callp, E_callk, E_isi, E_bi, E_mt, asTup_tup, onB_t, onB_f, onN_nx, onN_rt, onN_bk, onN_ct, S_seq, S_skip, S_pass, S_brk, S_cont, S_set, S_setC, S_setT, S_par, S_setI, S_exp, S_ret, onBS_t, onBS_f, S_ifs, augA_int, b_add, b_addT, b_sub, c_lt, c_le, c_gt, c_ge, c_eqI, c_neI, t_int, t_bl, bi_abs, bi_int, bi_lenT, bi_lenL, bi_tupL, bi_tupT, gx0, gx1, gx2, gx3, gx4, gr0, gr1, gr2, gr3, gfr0, gfr1, st1, st2, st3, Tg.bind, Rf.bindAll, List.replicate_succ, List.replicate_zero, List.map_cons, List.map_nil, List.cons_append, List.nil_append, List.append_nil, List.set_cons_zero, List.set_cons_succ, List.getElem?_cons_zero, List.getElem?_cons_succ, List.length_cons, List.length_nil, Option.bind_some, Option.map_some, Option.bind_none, Option.map_none, if_true, Bool.false_eq_true, if_false, decide_true, decide_false, Bool.not_true, Bool.not_false, bFree, e1, gw0, g_p hs, gw3, g_g ok hs, ge1, e2, a]⟩
  | false =>
    rw [hf] at e1
    have ea : actw w s = (gw w s).1 := if_neg (by rw [hf]; exact Bool.false_ne_true)
    rw [ea] at e2 a ⊢
    exact ⟨some (.int 0), by simp only [E_var, E_cst, E_glb, E_bin, E_neg, negV_int, E_vand, E_vor, E_vone, E_vnot, E_tand, E_tor, E_tone, E_tnot, E_tval, E_cmp, E_ife, E_idx, E_nop, E_tup, E_lst, E_nil, E_cons, E_call, E_callp, E_callk, E_isi, E_bi, E_mt, asTup_tup, onB_t, onB_f, onN_nx, onN_rt, onN_bk, onN_ct, S_seq, S_skip, S_pass, S_brk, S_cont, S_set, S_setC, S_setT, S_par, S_setI, S_exp, S_ret, onBS_t, onBS_f, S_ifs, augA_int, b_add, b_addT, b_sub, c_lt, c_le, c_gt, c_ge, c_eqI, c_neI, t_int, t_bl, bi_abs, bi_int, bi_lenT, bi_lenL, bi_tupL, bi_tupT, gx0, gx1, gx2, gx3, gx4, gr0, gr1, gr2, gr3, gfr0, gfr1, st1, st2, st3, Tg.bind, Rf.bindAll, List.replicate_succ, List.replicate_zero, List.map_cons, List.map_nil, List.cons_append, List.nil_append, List.append_nil, List.set_cons_zero, List.set_cons_succ, List.getElem?_cons_zero, List.getElem?_cons_succ, List.length_cons, List.length_nil, Option.bind_some, Option.map_some, Option.bind_none, Option.map_none, if_true, Bool.false_eq_true, if_false, decide_true, decide_false, Bool.not_true, Bool.not_false, bFree, e1, gw0, g_p hs, gw3, g_g ok hs, ge0, e2, a]⟩
theorem range_take {i m : Nat} (h : i ≤ m) : (List.range m).take i = List.range i := by
  rw [List.take_range, Nat.min_eq_left h]
theorem fgain_bd (ok : Ok w) : Bd 120 (fgain w) := by
  have h := Bd.sum (t := 28) (qs := (List.range w.p.length).map fun s => pw w s * actw w s) fun q hq => by
    obtain ⟨i, hi, rfl⟩ := List.mem_map.mp hq
    have hi := List.mem_range.mp hi
    exact (bd_p ok hi).1.mul (actw_bd ok hi)
  have := ok.s4
  rw [List.length_map, List.length_range] at h
  exact h.mono (by have : w.p.length * (28 + 1) ≤ 4 * (28 + 1) := Nat.mul_le_mul_right _ ok.s4; omega)
theorem freegain_spec (ok : Ok w) (hn : 6 ≤ n) : Ret Ps gs LL n 18 [enc w] B (fr (fgain w)) := by
  obtain ⟨m, rfl⟩ : ∃ m, n = m + 1 := ⟨n - 1, by omega⟩
  have hb := big_L
  have hs4 := ok.s4
  have d0 := dropT_ret (T := [[]]) (states_spec (w := w) (B := B ++ [[]]) (n := m) (by omega)) rfl
  obtain ⟨σ', T', e, c2, c3, e1, e2⟩ := for_inv (B := B) (it := .rng 0 w.p.length) (tg := .nm 2) (b := fun σ T => semS (Rf.run Ps gs LL m) gs LL bFree σ B T) (m := w.p.length)
    (fun i σ T' => ∃ c2 c3, σ = [some (enc w), some (.ref B.length), c2, c3] ∧ T' = [((List.range i).map fun s => pw w s * actw w s).map fr])
    (by
      rintro i σ T' hi ⟨c2, c3, rfl, rfl⟩
      obtain ⟨c', e⟩ := free_turn (B := B) (n := m) ok (by omega) hi c3 (acc := (List.range i).map fun s => pw w s * actw w s) (by rw [List.length_map, List.length_range]; omega)
      refine ⟨_, _, [some (enc w), some (.ref B.length), some (.int (i : Nat)), c'], _, rng_at hi, rfl, .inl ?_, some (.int (i : Nat)), c', rfl, rfl⟩
      rw [Int.zero_add, List.range_succ, List.map_append]
      exact e)
    (by
      rintro σ T' ⟨c2, c3, rfl, rfl⟩
      exact rng_end (Nat.le_refl _))
    w.p.length LL 0 [some (enc w), some (.ref B.length), none, none] [[]] (by omega) (by omega) ⟨none, none, rfl, rfl⟩
  subst e1 e2
  have e3 : semS (Rf.run Ps gs LL m) gs LL (.for_ (.nm 2) (.itr (.cons (.callp 11 (.cons (.var 0) .nil)) .nil)) bFree) [some (enc w), some (.ref B.length), none, none] B [[]] = some (.nx, [some (enc w), some (.ref B.length), c2, c3], [((List.range w.p.length).map fun s => pw w s * actw w s).map fr]) := by
    rw [S_for, E_itrN (j := w.p.length) (T1 := [[]]) (by omega) (by simp only [E_var, E_cst, E_glb, E_bin, E_neg, negV_int, E_vand, E_vor, E_vone, E_vnot, E_tand, E_tor, E_tone, E_tnot, E_tval, E_cmp, E_ife, E_idx, E_nop, E_tup, E_lst, E_nil, E_cons, E_call, E_callp, E_callk, E_isi, E_bi, E_mt, asTup_tup, onB_t, onB_f, onN_nx, onN_rt, onN_bk, onN_ct, S_seq, S_skip, S_pass, S_brk, S_cont, S_set, S_setC, S_setT, S_par, S_setI, S_exp, S_ret, onBS_t, onBS_f, S_ifs, augA_int, b_add, b_addT, b_sub, c_lt, c_le, c_gt, c_ge, c_eqI, c_neI, t_int, t_bl, bi_abs, bi_int, bi_lenT, bi_lenL, bi_tupL, bi_tupT, gx0, gx1, gx2, gx3, gx4, gr0, gr1, gr2, gr3, gfr0, gfr1, st1, st2, st3, Tg.bind, Rf.bindAll, List.replicate_succ, List.replicate_zero, List.map_cons, List.map_nil, List.cons_append, List.nil_append, List.append_nil, List.set_cons_zero, List.set_cons_succ, List.getElem?_cons_zero, List.getElem?_cons_succ, List.length_cons, List.length_nil, Option.bind_some, Option.map_some, Option.bind_none, Option.map_none, if_true, Bool.false_eq_true, if_false, decide_true, decide_false, Bool.not_true, Bool.not_false, d0])]
    exact e
  have e4 := dropT_ret (T := [((List.range w.p.length).map fun s => pw w s * actw w s).map fr]) (sumofP (n := m) (by omega) (qs := (List.range w.p.length).map fun s => pw w s * actw w s) (t := 28) (k := B.length) (B := B ++ [((List.range w.p.length).map fun s => pw w s * actw w s).map fr]) (by rw [List.getElem?_append_right (Nat.le_refl _), Nat.sub_self]; rfl) (fun q hq => by
    obtain ⟨i, hi, rfl⟩ := List.mem_map.mp hq
    have hi := List.mem_range.mp hi
    exact (bd_p ok hi).1.mul (actw_bd ok hi)) (by
      rw [List.length_map, List.length_range]
      have : (w.p.length + 1) * (28 + 1) ≤ 5 * (28 + 1) := Nat.mul_le_mul_right _ (by omega)
      omega)) rfl
  refine ⟨_, run_rt (σ := [some (enc w), some (.ref B.length), c2, c3]) (T1 := [((List.range w.p.length).map fun s => pw w s * actw w s).map fr]) (fn := ⟨1, 4, b_free_gain⟩) rfl rfl ?_⟩
  simp only [bFree] at e3
  simp only [E_var, E_cst, E_glb, E_bin, E_neg, negV_int, E_vand, E_vor, E_vone, E_vnot, E_tand, E_tor, E_tone, E_tnot, E_tval, E_cmp, E_ife, E_idx, E_nop, E_tup, E_lst, E_nil, E_cons, E_call, E_callp, E_callk, E_isi, E_bi, E_mt, asTup_tup, onB_t, onB_f, onN_nx, onN_rt, onN_bk, onN_ct, S_seq, S_skip, S_pass, S_brk, S_cont, S_set, S_setC, S_setT, S_par, S_setI, S_exp, S_ret, onBS_t, onBS_f, S_ifs, augA_int, b_add, b_addT, b_sub, c_lt, c_le, c_gt, c_ge, c_eqI, c_neI, t_int, t_bl, bi_abs, bi_int, bi_lenT, bi_lenL, bi_tupL, bi_tupT, gx0, gx1, gx2, gx3, gx4, gr0, gr1, gr2, gr3, gfr0, gfr1, st1, st2, st3, Tg.bind, Rf.bindAll, List.replicate_succ, List.replicate_zero, List.map_cons, List.map_nil, List.cons_append, List.nil_append, List.append_nil, List.set_cons_zero, List.set_cons_succ, List.getElem?_cons_zero, List.getElem?_cons_succ, List.length_cons, List.length_nil, Option.bind_some, Option.map_some, Option.bind_none, Option.map_none, if_true, Bool.false_eq_true, if_false, decide_true, decide_false, Bool.not_true, Bool.not_false, b_free_gain, mk1, e3, e4]
  rfl
/-! ### filled -/
/-- the corners ahead of the last one, the last one, the kept ratio -/
structure Fs where
  cs : List (Rat × Rat)
  last : Rat × Rat
  kept : Option Rat
def keptV : Option Rat → PV
  | none => .tup []
  | some q => fr q
def corner (w : Wd) (f : Fs) (x : Rat × Nat) : Rat × Rat := (f.last.1 + pw w x.2 * more w x.2 / seen w, f.last.2 + pw w x.2 * rise w x.2)
/-- one sorted state more -/
def fstep (w : Wd) (f : Fs) (x : Rat × Nat) : Fs := if some x.1 = f.kept then ⟨f.cs, corner w f x, some x.1⟩ else ⟨f.cs ++ [f.last], corner w f x, some x.1⟩
def F0 (w : Wd) : Fs := ⟨[], (0, fgain w), none⟩
def all (f : Fs) : List (Rat × Rat) := f.cs ++ [f.last]
def filledL (w : Wd) : List (Rat × Rat) := if seen w = 0 then [(0, fgain w)] else all ((sorted w).foldl (fstep w) (F0 w))
theorem ix_last {m : Nat} (h : 0 < m) : L2.ixN m (-1) = some (m - 1) := by
  unfold L2.ixN
  rw [if_neg (by decide), if_pos (by omega)]
  congr 1
  omega
theorem g_last {k : Nat} {xs : List PV} {x : PV} (h : rd B T k = some (xs ++ [x])) : getIx B T (.ref k) (.int (-1)) = some x := by
  show (rd B T k).bind (fun xs => (L2.ixN xs.length (-1)).bind fun j => xs[j]?) = _
  rw [h, Option.bind_some, List.length_append, ix_last (by simp), Option.bind_some]
  simp
theorem gT_last {xs : List PV} {x : PV} : getIx B T (.tup (xs ++ [x])) (.int (-1)) = some x := by
  show (some (xs ++ [x])).bind (fun xs => (L2.ixN xs.length (-1)).bind fun j => xs[j]?) = _
  rw [Option.bind_some, List.length_append, ix_last (by simp), Option.bind_some]
  simp
theorem set_last {k : Nat} {xs : List PV} {x v : PV} (h : rd B T k = some (xs ++ [x])) (hn : B.length ≤ k) (hl : xs.length < big) : setIx B T (.ref k) (.int (-1)) v = some (put B T k (xs ++ [v])) := by
  show (rd B T k).bind _ = _
  rw [h]
  show (L2.ixN (xs ++ [x]).length (-1)).bind _ = _
  rw [ix_last (by simp)]
  have e : (xs ++ [x]).set ((xs ++ [x]).length - 1) v = xs ++ [v] := by
    rw [List.length_append]; simp
  show wr B T k ((xs ++ [x]).set ((xs ++ [x]).length - 1) v) = _
  rw [e]
  exact wr_put h hn (by rw [List.length_append]; exact hl)
theorem eqv_kept (q : Rat) (o : Option Rat) : Rf.cmp B T .eq (fr q) (keptV o) = some (decide (some q = o)) := by
  cases o with
  | some p =>
    rw [show keptV (some p) = fr p from rfl, eqv_fr]
    congr 1
    exact decide_eq_decide.mpr ⟨fun h => by rw [h], fun h => Option.some.inj h⟩
  | none =>
    rw [decide_eq_false (by intro z; cases z)]
    show eqv _ _ = _
    rfl
def bFill : S := (.seq (.set 6 (.callp 4 (.cons (.idx (.idx (.var 0) (.cst (.int 0))) (.var 5)) (.cons (.callp 15 (.cons (.var 0) (.cons (.var 5) .nil))) .nil)))) (.seq (.set 7 (.callp 2 (.cons (.idx (.idx (.var 2) (.neg (.cst (.int 1)))) (.cst (.int 0))) (.cons (.callp 5 (.cons (.var 6) (.cons (.var 1) .nil))) .nil)))) (.seq (.set 8 (.callp 2 (.cons (.idx (.idx (.var 2) (.neg (.cst (.int 1)))) (.cst (.int 1))) (.cons (.callp 4 (.cons (.idx (.idx (.var 0) (.cst (.int 0))) (.var 5)) (.cons (.callp 14 (.cons (.var 0) (.cons (.var 5) .nil))) .nil))) .nil)))) (.seq (.ifs (.cmp .eq (.var 4) (.var 3)) (.seq (.setI (.var 2) (.neg (.cst (.int 1))) (.tup (.cons (.var 7) (.cons (.var 8) .nil)))) .skip) (.seq (.exp (.mt .append (.var 2) (.cons (.tup (.cons (.var 7) (.cons (.var 8) .nil))) .nil))) .skip)) (.seq (.set 3 (.var 4)) .skip)))))
theorem neg1 : (-(1 : Int)) = -1 := rfl
theorem fill_turn (ok : Ok w) (hn : 5 ≤ n) (hs0 : 0 < seen w) {x : Rat × Nat} (hx : x.2 < w.p.length) {f : Fs} {i : Nat} (hi : i ≤ 4) (b1 : Bd (1 + 74 * i) f.last.1) (b2 : Bd (120 + 44 * i) f.last.2) (hl : f.cs.length ≤ 10) {S2 : List PV} (c6 c7 c8 : Option PV) :
    ∃ d6 d7 d8, semS (Rf.run Ps gs LL n) gs LL bFill [some (enc w), some (fr (seen w)), some (.ref B.length), some (keptV f.kept), some (fr x.1), some (.int (x.2 : Nat)), c6, c7, c8] B [(all f).map encP, S2] = some (.nx, [some (enc w), some (fr (seen w)), some (.ref B.length), some (keptV (fstep w f x).kept), some (fr x.1), some (.int (x.2 : Nat)), d6, d7, d8], [(all (fstep w f x)).map encP, S2]) := by
  have hbig : 200 < big := by decide +kernel
  have hr : rd B [(all f).map encP, S2] B.length = some (f.cs.map encP ++ [encP f.last]) := by
    show (B ++ [(all f).map encP, S2])[B.length]? = _
    rw [List.getElem?_append_right (Nat.le_refl _), Nat.sub_self]
    show some ((f.cs ++ [f.last]).map encP) = _
    rw [List.map_append]; rfl
  have gl := g_last hr
  have e1 := dropT_ret (T := [(all f).map encP, S2]) (morecost_spec (B := B ++ [(all f).map encP, S2]) ok (n := n) (by omega) hx) rfl
  have e2 := dropT_ret (T := [(all f).map encP, S2]) (timesP (n := n) (by omega) (pw w x.2) (more w x.2) 14 29 (B ++ [(all f).map encP, S2]) (bd_p ok hx).1 (bd_more ok hx) (by decide) trivial) rfl
  have bcost := (bd_p ok hx).1.mul (bd_more ok hx)
  have e3 := dropT_ret (T := [(all f).map encP, S2]) (overP (n := n) (by omega) (pw w x.2 * more w x.2) (seen w) 43 30 (B ++ [(all f).map encP, S2]) bcost (seen_bd ok) (by decide) (Rat.ne_of_gt hs0)) rfl
  have bov := bcost.div (seen_bd ok)
  have e4 := dropT_ret (T := [(all f).map encP, S2]) (plusP (n := n) (by omega) f.last.1 (pw w x.2 * more w x.2 / seen w) (1 + 74 * i) 73 (B ++ [(all f).map encP, S2]) b1 bov (by omega) trivial) rfl
  have e5 := dropT_ret (T := [(all f).map encP, S2]) (moregain_spec (B := B ++ [(all f).map encP, S2]) ok (n := n) (by omega) hx) rfl
  have e6 := dropT_ret (T := [(all f).map encP, S2]) (timesP (n := n) (by omega) (pw w x.2) (rise w x.2) 14 29 (B ++ [(all f).map encP, S2]) (bd_p ok hx).1 (bd_rise ok hx) (by decide) trivial) rfl
  have e7 := dropT_ret (T := [(all f).map encP, S2]) (plusP (n := n) (by omega) f.last.2 (pw w x.2 * rise w x.2) (120 + 44 * i) 43 (B ++ [(all f).map encP, S2]) b2 ((bd_p ok hx).1.mul (bd_rise ok hx)) (by omega) trivial) rfl
  have e4 : dropT (Rf.run Ps gs LL n 2 [fr f.last.1, fr (pw w x.2 * more w x.2 / seen w)] (B ++ [(all f).map encP, S2]) []) [(all f).map encP, S2] = some (fr (corner w f x).1, [(all f).map encP, S2]) := e4
  have e7 : dropT (Rf.run Ps gs LL n 2 [fr f.last.2, fr (pw w x.2 * rise w x.2)] (B ++ [(all f).map encP, S2]) []) [(all f).map encP, S2] = some (fr (corner w f x).2, [(all f).map encP, S2]) := e7
  refine ⟨some (fr (pw w x.2 * more w x.2)), some (fr (corner w f x).1), some (fr (corner w f x).2), ?_⟩
  by_cases hk : some x.1 = f.kept
  · have z : decide (some x.1 = f.kept) = true := decide_eq_true hk
    have s1 := set_last (v := .tup [fr (corner w f x).1, fr (corner w f x).2]) hr (Nat.le_refl _) (by rw [List.length_map]; omega)
    have p1 : put B [(all f).map encP, S2] B.length (f.cs.map encP ++ [.tup [fr (corner w f x).1, fr (corner w f x).2]]) = [(all (fstep w f x)).map encP, S2] := by
      unfold put
      rw [Nat.sub_self, List.set_cons_zero]
      have : fstep w f x = ⟨f.cs, corner w f x, some x.1⟩ := if_pos hk
      rw [this]
      show [_, S2] = [(f.cs ++ [corner w f x]).map encP, S2]
      rw [List.map_append]; rfl
    rw [p1] at s1
    have kk : keptV (fstep w f x).kept = fr x.1 := by
      have : fstep w f x = ⟨f.cs, corner w f x, some x.1⟩ := if_pos hk
      rw [this]; rfl
    rw [kk]
    simp only [E_var, E_cst, E_glb, E_bin, E_neg, negV_int, E_vand, E_vor, E_vone, E_vnot, E_tand, E_tor, E_tone, E_tnot, E_tval, E_cmp, E_ife, E_idx, E_nop, E_tup, E_lst, E_nil, E_cons, E_call, E_callp, E_callk, E_isi, E_bi, E_mt, asTup_tup, onB_t, onB_f, onN_nx, onN_rt, onN_bk, onN_ct, S_seq, S_skip, S_pass, S_brk, S_cont, S_set, S_setC, S_setT, S_par, S_setI, S_exp, S_ret, onBS_t, onBS_f, S_ifs, augA_int, b_add, b_addT, b_sub, c_lt, c_le, c_gt, c_ge, c_eqI, c_neI, t_int, t_bl, bi_abs, bi_int, bi_lenT, bi_lenL, bi_tupL, bi_tupT, gx0, gx1, gx2, gx3, gx4, gr0, gr1, gr2, gr3, gfr0, gfr1, st1, st2, st3, Tg.bind, Rf.bindAll, List.replicate_succ, List.replicate_zero, List.map_cons, List.map_nil, List.cons_append, List.nil_append, List.append_nil, List.set_cons_zero, List.set_cons_succ, List.getElem?_cons_zero, List.getElem?_cons_succ, List.length_cons, List.length_nil, Option.bind_some, Option.map_some, Option.bind_none, Option.map_none, if_true, Bool.false_eq_true, if_false, decide_true, decide_false, Bool.not_true, Bool.not_false, bFill, gw0, g_p hx, e1, e2, neg1, gl, ge0, ge1, e3, e4, e5, e6, e7, eqv_kept, z, tup2, s1]
  · have z : decide (some x.1 = f.kept) = false := decide_eq_false hk
    have s1 := append_put (v := .tup [fr (corner w f x).1, fr (corner w f x).2]) hr (Nat.le_refl _) (by rw [List.length_append, List.length_map]; simp only [List.length_cons, List.length_nil]; omega)
    have p1 : put B [(all f).map encP, S2] B.length (f.cs.map encP ++ [encP f.last] ++ [.tup [fr (corner w f x).1, fr (corner w f x).2]]) = [(all (fstep w f x)).map encP, S2] := by
      unfold put
      rw [Nat.sub_self, List.set_cons_zero]
      have : fstep w f x = ⟨f.cs ++ [f.last], corner w f x, some x.1⟩ := if_neg hk
      rw [this]
      show [_, S2] = [((f.cs ++ [f.last]) ++ [corner w f x]).map encP, S2]
      rw [List.map_append, List.map_append]; rfl
    rw [p1] at s1
    have kk : keptV (fstep w f x).kept = fr x.1 := by
      have : fstep w f x = ⟨f.cs ++ [f.last], corner w f x, some x.1⟩ := if_neg hk
      rw [this]; rfl
    rw [kk]
    simp only [E_var, E_cst, E_glb, E_bin, E_neg, negV_int, E_vand, E_vor, E_vone, E_vnot, E_tand, E_tor, E_tone, E_tnot, E_tval, E_cmp, E_ife, E_idx, E_nop, E_tup, E_lst, E_nil, E_cons, E_call, E_callp, E_callk, E_isi, E_bi, E_mt, asTup_tup, onB_t, onB_f, onN_nx, onN_rt, onN_bk, onN_ct, S_seq, S_skip, S_pass, S_brk, S_cont, S_set, S_setC, S_setT, S_par, S_setI, S_exp, S_ret, onBS_t, onBS_f, S_ifs, augA_int, b_add, b_addT, b_sub, c_lt, c_le, c_gt, c_ge, c_eqI, c_neI, t_int, t_bl, bi_abs, bi_int, bi_lenT, bi_lenL, bi_tupL, bi_tupT, gx0, gx1, gx2, gx3, gx4, gr0, gr1, gr2, gr3, gfr0, gfr1, st1, st2, st3, Tg.bind, Rf.bindAll, List.replicate_succ, List.replicate_zero, List.map_cons, List.map_nil, List.cons_append, List.nil_append, List.append_nil, List.set_cons_zero, List.set_cons_succ, List.getElem?_cons_zero, List.getElem?_cons_succ, List.length_cons, List.length_nil, Option.bind_some, Option.map_some, Option.bind_none, Option.map_none, if_true, Bool.false_eq_true, if_false, decide_true, decide_false, Bool.not_true, Bool.not_false, bFill, gw0, g_p hx, e1, e2, neg1, gl, ge0, ge1, e3, e4, e5, e6, e7, eqv_kept, z, tup2, s1]
end
end K36
end
section
/-! k36: filled, filled_mass, number_at. -/
namespace K36
open PySem Rf Pl
section
variable {w : Wd} {s n : Nat} {B T : MH} {L : Nat} {CF : Nat → List PV → MH → MH → M} {G : List (Str × PV)}
theorem sorted_lt (ok : Ok w) {i : Nat} (hi : i < (sorted w).length) : ((sorted w)[i]).2 < w.p.length := (sorted_mem (List.getElem_mem hi)).1
theorem sorted_l4 (ok : Ok w) : (sorted w).length ≤ 4 := Nat.le_trans (sorted_len _) ok.s4
theorem foldl_takeA {α β : Type} {h : α → β → α} {z : α} {qs : List β} {i : Nat} (hi : i < qs.length) : (qs.take (i + 1)).foldl h z = h ((qs.take i).foldl h z) qs[i] := by
  rw [List.take_succ_eq_append_getElem hi, List.foldl_append]; rfl
theorem fs_last (f : Fs) (x : Rat × Nat) : (fstep w f x).last = corner w f x := by
  unfold fstep
  split <;> rfl
theorem fs_len (f : Fs) (x : Rat × Nat) : (fstep w f x).cs.length ≤ f.cs.length + 1 := by
  unfold fstep
  split
  · exact Nat.le_succ _
  · rw [List.length_append]; exact Nat.le_refl _
/-- bits along the fold -/
theorem fs_bd (ok : Ok w) (h0 : 0 < seen w) : ∀ i, i ≤ (sorted w).length → Bd (1 + 74 * i) ((((sorted w).take i).foldl (fstep w) (F0 w)).last.1) ∧ Bd (120 + 44 * i) ((((sorted w).take i).foldl (fstep w) (F0 w)).last.2) ∧ (((sorted w).take i).foldl (fstep w) (F0 w)).cs.length ≤ i := by
  intro i
  induction i with
  | zero => exact fun _ => ⟨Bd.zero (by decide), fgain_bd ok, Nat.le_refl _⟩
  | succ i ih =>
    intro hi
    obtain ⟨h1, h2, h3⟩ := ih (by omega)
    have hx := sorted_lt ok (show i < (sorted w).length by omega)
    rw [foldl_takeA (show i < (sorted w).length by omega)]
    refine ⟨?_, ?_, Nat.le_trans (fs_len _ _) (by omega)⟩
    · rw [fs_last]
      exact (h1.add (((bd_p ok hx).1.mul (bd_more ok hx)).div (seen_bd ok))).mono (by omega)
    · rw [fs_last]
      exact (h2.add ((bd_p ok hx).1.mul (bd_rise ok hx))).mono (by omega)
theorem tupL {k : Nat} {xs : List PV} (h : rd B T k = some xs) : Rf.bi B T .tuple [.ref k] = some (.tup xs, T) := by
  rw [bi_tupL, h]; rfl
theorem bindE {x : Rat × Nat} {a b c d v0 v1 v2 v3 v4 : Option PV} : (Tg.tp [4, 5]).bind (encS x) [v0, v1, v2, v3, v4, a, b, c, d] = some [v0, v1, v2, v3, some (fr x.1), some (.int (x.2 : Nat)), b, c, d] := rfl
theorem filled_spec (ok : Ok w) (hn : 7 ≤ n) : Ret Ps gs LL n 19 [enc w] B (.tup ((filledL w).map encP)) := by
  obtain ⟨m, rfl⟩ : ∃ m, n = m + 1 := ⟨n - 1, by omega⟩
  have hb := big_L
  have h4 := sorted_l4 ok
  have e1 := dropT_ret (T := []) (quo_spec (B := B) ok (n := m) (by omega)) rfl
  have e2 := dropT_ret (T := []) (minusP (n := m) (by omega) 1 (quo w) 1 28 B (Bd.one (by decide)) (quo_bd ok) (by decide) trivial) rfl
  have e2 : dropT (Rf.run Ps gs LL m 3 [fr 1, fr (quo w)] B []) [] = some (fr (seen w), []) := e2
  have e3 := dropT_ret (T := []) (freegain_spec (B := B) ok (n := m) (by omega)) rfl
  have mk0 : mk B [] [.tup [fr 0, fr (fgain w)]] = some (.ref B.length, [[encP (0, fgain w)]]) := mk_ok (by show 1 ≤ big; decide +kernel)
  have r0 : rd B [[encP (0, fgain w)]] B.length = some [encP (0, fgain w)] := rd1
  by_cases h0 : seen w = 0
  · have z : decide (seen w = 0) = true := decide_eq_true h0
    have ef : filledL w = [(0, fgain w)] := if_pos h0
    rw [ef]
    refine ⟨_, run_rt (σ := [some (enc w), some (fr (seen w)), some (.ref B.length), none, none, none, none, none, none]) (T1 := [[encP (0, fgain w)]]) (fn := ⟨1, 9, b_filled⟩) rfl rfl ?_⟩
    simp only [E_var, E_cst, E_glb, E_bin, E_neg, negV_int, E_vand, E_vor, E_vone, E_vnot, E_tand, E_tor, E_tone, E_tnot, E_tval, E_cmp, E_ife, E_idx, E_nop, E_tup, E_lst, E_nil, E_cons, E_call, E_callp, E_callk, E_isi, E_bi, E_mt, asTup_tup, onB_t, onB_f, onN_nx, onN_rt, onN_bk, onN_ct, S_seq, S_skip, S_pass, S_brk, S_cont, S_set, S_setC, S_setT, S_par, S_setI, S_exp, S_ret, onBS_t, onBS_f, S_ifs, augA_int, b_add, b_addT, b_sub, c_lt, c_le, c_gt, c_ge, c_eqI, c_neI, t_int, t_bl, bi_abs, bi_int, bi_lenT, bi_lenL, bi_tupL, bi_tupT, gx0, gx1, gx2, gx3, gx4, gr0, gr1, gr2, gr3, gfr0, gfr1, st1, st2, st3, Tg.bind, Rf.bindAll, List.replicate_succ, List.replicate_zero, List.map_cons, List.map_nil, List.cons_append, List.nil_append, List.append_nil, List.set_cons_zero, List.set_cons_succ, List.getElem?_cons_zero, List.getElem?_cons_succ, List.length_cons, List.length_nil, Option.bind_some, Option.map_some, Option.bind_none, Option.map_none, if_true, Bool.false_eq_true, if_false, decide_true, decide_false, Bool.not_true, Bool.not_false, E_glb, gs0, gs1, b_filled, e1, e2, e3, tup2, mk0, eqv_fr, z, r0]
  · have hs0 : 0 < seen w := by
      have := seen_nonneg ok
      grind
    have z : decide (seen w = 0) = false := decide_eq_false h0
    have ef : filledL w = all ((sorted w).foldl (fstep w) (F0 w)) := if_neg h0
    rw [ef]
    have es := sorted_spec (B := B) (T := [[encP (0, fgain w)]]) ok (n := m) (by omega)
    have hk2 : ∀ S1, rd B [S1, (sorted w).map encS] (B.length + 1) = some ((sorted w).map encS) := fun S1 => by
      show (B ++ [S1, (sorted w).map encS])[B.length + 1]? = _
      rw [List.getElem?_append_right (by omega), show B.length + 1 - B.length = 1 by omega]; rfl
    obtain ⟨σ', T', e, k3, c4, c5, c6, c7, c8, f1, f2⟩ := for_inv (B := B) (it := .lref (B.length + 1)) (tg := .tp [4, 5]) (b := fun σ T => semS (Rf.run Ps gs LL m) gs LL bFill σ B T) (m := (sorted w).length)
      (fun i σ T' => ∃ k3 c4 c5 c6 c7 c8, (σ = [some (enc w), some (fr (seen w)), some (.ref B.length), some k3, c4, c5, c6, c7, c8] ∧ k3 = keptV (((sorted w).take i).foldl (fstep w) (F0 w)).kept) ∧ T' = [(all (((sorted w).take i).foldl (fstep w) (F0 w))).map encP, (sorted w).map encS])
      (by
        rintro i σ T' hi ⟨k3, c4, c5, c6, c7, c8, ⟨rfl, rfl⟩, rfl⟩
        obtain ⟨b1, b2, b3⟩ := fs_bd ok hs0 i (by omega)
        obtain ⟨c6', c7', c8', e⟩ := fill_turn (B := B) (n := m) ok (by omega) hs0 (x := (sorted w)[i]) (sorted_lt ok hi) (i := i) (by omega) b1 b2 (by omega) (S2 := (sorted w).map encS) c6 c7 c8
        refine ⟨encS (sorted w)[i], _, _, _, ?_, bindE, .inl e, _, some (fr (sorted w)[i].1), some (.int ((sorted w)[i].2 : Nat)), c6', c7', c8', ⟨rfl, ?_⟩, ?_⟩
        · rw [at_lref (hk2 _), List.getElem?_map, List.getElem?_eq_getElem hi]; rfl
        · rw [foldl_takeA hi]
        · rw [foldl_takeA hi])
      (by
        rintro σ T' ⟨k3, c4, c5, c6, c7, c8, ⟨rfl, rfl⟩, rfl⟩
        rw [at_lref (hk2 _), List.getElem?_eq_none (by simp)])
      (sorted w).length LL 0 [some (enc w), some (fr (seen w)), some (.ref B.length), some (.tup []), none, none, none, none, none] [[encP (0, fgain w)], (sorted w).map encS] (by omega) (by omega) ⟨_, none, none, none, none, none, ⟨rfl, rfl⟩, rfl⟩
    obtain ⟨f1, f3⟩ := f1
    subst f1 f2
    rw [List.take_length] at e
    have e5 : semS (Rf.run Ps gs LL m) gs LL (.for_ (.tp [4, 5]) (.itv (.call 17 (.cons (.var 0) .nil))) bFill) [some (enc w), some (fr (seen w)), some (.ref B.length), some (.tup []), none, none, none, none, none] B [[encP (0, fgain w)]] = some (.nx, [some (enc w), some (fr (seen w)), some (.ref B.length), some k3, c4, c5, c6, c7, c8], [(all ((sorted w).foldl (fstep w) (F0 w))).map encP, (sorted w).map encS]) := by
      rw [S_for, I_itvL (T1 := [[encP (0, fgain w)], (sorted w).map encS]) (k := B.length + 1) (by
        simp only [E_var, E_cst, E_glb, E_bin, E_neg, negV_int, E_vand, E_vor, E_vone, E_vnot, E_tand, E_tor, E_tone, E_tnot, E_tval, E_cmp, E_ife, E_idx, E_nop, E_tup, E_lst, E_nil, E_cons, E_call, E_callp, E_callk, E_isi, E_bi, E_mt, asTup_tup, onB_t, onB_f, onN_nx, onN_rt, onN_bk, onN_ct, S_seq, S_skip, S_pass, S_brk, S_cont, S_set, S_setC, S_setT, S_par, S_setI, S_exp, S_ret, onBS_t, onBS_f, S_ifs, augA_int, b_add, b_addT, b_sub, c_lt, c_le, c_gt, c_ge, c_eqI, c_neI, t_int, t_bl, bi_abs, bi_int, bi_lenT, bi_lenL, bi_tupL, bi_tupT, gx0, gx1, gx2, gx3, gx4, gr0, gr1, gr2, gr3, gfr0, gfr1, st1, st2, st3, Tg.bind, Rf.bindAll, List.replicate_succ, List.replicate_zero, List.map_cons, List.map_nil, List.cons_append, List.nil_append, List.append_nil, List.set_cons_zero, List.set_cons_succ, List.getElem?_cons_zero, List.getElem?_cons_succ, List.length_cons, List.length_nil, Option.bind_some, Option.map_some, Option.bind_none, Option.map_none, if_true, Bool.false_eq_true, if_false, decide_true, decide_false, Bool.not_true, Bool.not_false, es]) (hk2 _)]
      exact e
    have r1 : rd B [(all ((sorted w).foldl (fstep w) (F0 w))).map encP, (sorted w).map encS] B.length = some ((all ((sorted w).foldl (fstep w) (F0 w))).map encP) := by
      show (B ++ _)[B.length]? = _
      rw [List.getElem?_append_right (Nat.le_refl _), Nat.sub_self]; rfl
    have t0 : tup' [] [[encP (0, fgain w)]] = some (.tup [], [[encP (0, fgain w)]]) := rfl
    refine ⟨_, run_rt (σ := [some (enc w), some (fr (seen w)), some (.ref B.length), some k3, c4, c5, c6, c7, c8]) (T1 := [(all ((sorted w).foldl (fstep w) (F0 w))).map encP, (sorted w).map encS]) (fn := ⟨1, 9, b_filled⟩) rfl rfl ?_⟩
    simp only [bFill] at e5
    simp only [E_var, E_cst, E_glb, E_bin, E_neg, negV_int, E_vand, E_vor, E_vone, E_vnot, E_tand, E_tor, E_tone, E_tnot, E_tval, E_cmp, E_ife, E_idx, E_nop, E_tup, E_lst, E_nil, E_cons, E_call, E_callp, E_callk, E_isi, E_bi, E_mt, asTup_tup, onB_t, onB_f, onN_nx, onN_rt, onN_bk, onN_ct, S_seq, S_skip, S_pass, S_brk, S_cont, S_set, S_setC, S_setT, S_par, S_setI, S_exp, S_ret, onBS_t, onBS_f, S_ifs, augA_int, b_add, b_addT, b_sub, c_lt, c_le, c_gt, c_ge, c_eqI, c_neI, t_int, t_bl, bi_abs, bi_int, bi_lenT, bi_lenL, bi_tupL, bi_tupT, gx0, gx1, gx2, gx3, gx4, gr0, gr1, gr2, gr3, gfr0, gfr1, st1, st2, st3, Tg.bind, Rf.bindAll, List.replicate_succ, List.replicate_zero, List.map_cons, List.map_nil, List.cons_append, List.nil_append, List.append_nil, List.set_cons_zero, List.set_cons_succ, List.getElem?_cons_zero, List.getElem?_cons_succ, List.length_cons, List.length_nil, Option.bind_some, Option.map_some, Option.bind_none, Option.map_none, if_true, Bool.false_eq_true, if_false, decide_true, decide_false, Bool.not_true, Bool.not_false, E_glb, gs0, gs1, b_filled, e1, e2, e3, tup2, mk0, eqv_fr, z, t0, e5, r1]
end
end K36
end
section
/-! k36: filled_mass. -/
namespace K36
open PySem Rf Pl
section
variable {w : Wd} {s n : Nat} {B T : MH} {L : Nat} {CF : Nat → List PV → MH → MH → M} {G : List (Str × PV)}
/-- the mass that a state is told, of what is left -/
def tell (w : Wd) (left : Rat) (s : Nat) : Rat := if left < pw w s * more w s then left / more w s else pw w s
def mstep (w : Wd) (f : Rat × List Rat) (x : Rat × Nat) : Rat × List Rat := (f.1 - tell w f.1 x.2 * more w x.2, f.2.set x.2 (tell w f.1 x.2))
def M0 (w : Wd) (purse : Rat) : Rat × List Rat := (purse * seen w, (List.range w.p.length).map fun s => if free w s = true then pw w s else 0)
def massL (w : Wd) (purse : Rat) : List Rat := ((sorted w).foldl (mstep w) (M0 w purse)).2
theorem tell_bd (ok : Ok w) (h : s < w.p.length) {k : Nat} {left : Rat} (hb : Bd k left) : Bd (k + 29) (tell w left s) := by
  unfold tell
  split
  · exact hb.div (bd_more ok h)
  · exact (bd_p ok h).1.mono (by omega)
theorem left_bd (ok : Ok w) (h : s < w.p.length) (hm : 0 < more w s) {k : Nat} {left : Rat} (hb : Bd k left) : Bd (k + 44) (left - tell w left s * more w s) := by
  unfold tell
  split
  · rw [Rat.div_mul_cancel (Rat.ne_of_gt hm), Rat.sub_self]
    exact Bd.zero (by omega)
  · exact (hb.sub ((bd_p ok h).1.mul (bd_more ok h))).mono (by omega)
def bMass : S := (.seq (.set 6 (.callp 15 (.cons (.var 0) (.cons (.var 5) .nil)))) (.seq (.set 7 (.idx (.idx (.var 0) (.cst (.int 0))) (.var 5))) (.seq (.ifs (.tval (.callp 6 (.cons (.var 2) (.cons (.callp 4 (.cons (.var 7) (.cons (.var 6) .nil))) .nil)))) (.seq (.set 7 (.callp 5 (.cons (.var 2) (.cons (.var 6) .nil)))) .skip) .skip) (.seq (.setI (.var 3) (.var 5) (.var 7)) (.seq (.set 2 (.callp 3 (.cons (.var 2) (.cons (.callp 4 (.cons (.var 7) (.cons (.var 6) .nil))) .nil)))) .skip)))))
theorem mass_turn (ok : Ok w) (hn : 5 ≤ n) {x : Rat × Nat} (hx : x.2 < w.p.length) (hm : 0 < more w x.2) {f : Rat × List Rat} {k : Nat} (hk : k ≤ 4000) (hb : Bd k f.1) (hl : f.2.length = w.p.length) {pu : PV} {S2 : List PV} (c6 c7 : Option PV) :
    ∃ d6 d7, semS (Rf.run Ps gs LL n) gs LL bMass [some (enc w), some pu, some (fr f.1), some (.ref B.length), some (fr x.1), some (.int (x.2 : Nat)), c6, c7] B [f.2.map fr, S2] = some (.nx, [some (enc w), some pu, some (fr (mstep w f x).1), some (.ref B.length), some (fr x.1), some (.int (x.2 : Nat)), d6, d7], [(mstep w f x).2.map fr, S2]) := by
  have hs4 := ok.s4
  have hbig : 200 < big := by decide +kernel
  have hr : rd B [f.2.map fr, S2] B.length = some (f.2.map fr) := by
    show (B ++ _)[B.length]? = _
    rw [List.getElem?_append_right (Nat.le_refl _), Nat.sub_self]; rfl
  have e1 := dropT_ret (T := [f.2.map fr, S2]) (morecost_spec (B := B ++ [f.2.map fr, S2]) ok (n := n) (by omega) hx) rfl
  have e2 := dropT_ret (T := [f.2.map fr, S2]) (timesP (n := n) (by omega) (pw w x.2) (more w x.2) 14 29 (B ++ [f.2.map fr, S2]) (bd_p ok hx).1 (bd_more ok hx) (by decide) trivial) rfl
  have e3 := dropT_ret (T := [f.2.map fr, S2]) (lessP (n := n) (by omega) f.1 (pw w x.2 * more w x.2) k 43 (B ++ [f.2.map fr, S2]) hb ((bd_p ok hx).1.mul (bd_more ok hx)) (by omega) trivial) rfl
  have s1 := setIx_put (v := fr (tell w f.1 x.2)) hr (Nat.le_refl _) (i := x.2) (by rw [List.length_map]; omega) (by rw [List.length_map]; omega)
  have p1 : put B [f.2.map fr, S2] B.length ((f.2.map fr).set x.2 (fr (tell w f.1 x.2))) = [(mstep w f x).2.map fr, S2] := by
    unfold put
    rw [Nat.sub_self, List.set_cons_zero]
    show _ = [(f.2.set x.2 (tell w f.1 x.2)).map fr, S2]
    rw [List.map_set]
  rw [p1] at s1
  have tb := tell_bd ok hx hb
  have e5 := dropT_ret (T := [(mstep w f x).2.map fr, S2]) (timesP (n := n) (by omega) (tell w f.1 x.2) (more w x.2) (k + 29) 29 (B ++ [(mstep w f x).2.map fr, S2]) tb (bd_more ok hx) (by omega) trivial) rfl
  have e6 := dropT_ret (T := [(mstep w f x).2.map fr, S2]) (minusP (n := n) (by omega) f.1 (tell w f.1 x.2 * more w x.2) k (k + 29 + 29) (B ++ [(mstep w f x).2.map fr, S2]) hb (tb.mul (bd_more ok hx)) (by omega) trivial) rfl
  have e6 : dropT (Rf.run Ps gs LL n 3 [fr f.1, fr (tell w f.1 x.2 * more w x.2)] (B ++ [(mstep w f x).2.map fr, S2]) []) [(mstep w f x).2.map fr, S2] = some (fr (mstep w f x).1, [(mstep w f x).2.map fr, S2]) := e6
  refine ⟨some (fr (more w x.2)), some (fr (tell w f.1 x.2)), ?_⟩
  by_cases h : f.1 < pw w x.2 * more w x.2
  · have z : decide (f.1 < pw w x.2 * more w x.2) = true := decide_eq_true h
    have e4 := dropT_ret (T := [f.2.map fr, S2]) (overP (n := n) (by omega) f.1 (more w x.2) k 29 (B ++ [f.2.map fr, S2]) hb (bd_more ok hx) (by omega) (Rat.ne_of_gt hm)) rfl
    have et : tell w f.1 x.2 = f.1 / more w x.2 := if_pos h
    have e4 : dropT (Rf.run Ps gs LL n 5 [fr f.1, fr (more w x.2)] (B ++ [f.2.map fr, S2]) []) [f.2.map fr, S2] = some (fr (tell w f.1 x.2), [f.2.map fr, S2]) := by rw [et]; exact e4
    simp only [E_var, E_cst, E_glb, E_bin, E_neg, negV_int, E_vand, E_vor, E_vone, E_vnot, E_tand, E_tor, E_tone, E_tnot, E_tval, E_cmp, E_ife, E_idx, E_nop, E_tup, E_lst, E_nil, E_cons, E_call, E_callp, E_callk, E_isi, E_bi, E_mt, asTup_tup, onB_t, onB_f, onN_nx, onN_rt, onN_bk, onN_ct, S_seq, S_skip, S_pass, S_brk, S_cont, S_set, S_setC, S_setT, S_par, S_setI, S_exp, S_ret, onBS_t, onBS_f, S_ifs, augA_int, b_add, b_addT, b_sub, c_lt, c_le, c_gt, c_ge, c_eqI, c_neI, t_int, t_bl, bi_abs, bi_int, bi_lenT, bi_lenL, bi_tupL, bi_tupT, gx0, gx1, gx2, gx3, gx4, gr0, gr1, gr2, gr3, gfr0, gfr1, st1, st2, st3, Tg.bind, Rf.bindAll, List.replicate_succ, List.replicate_zero, List.map_cons, List.map_nil, List.cons_append, List.nil_append, List.append_nil, List.set_cons_zero, List.set_cons_succ, List.getElem?_cons_zero, List.getElem?_cons_succ, List.length_cons, List.length_nil, Option.bind_some, Option.map_some, Option.bind_none, Option.map_none, if_true, Bool.false_eq_true, if_false, decide_true, decide_false, Bool.not_true, Bool.not_false, bMass, e1, gw0, g_p hx, e2, e3, z, e4, s1, e5, e6]
  · have z : decide (f.1 < pw w x.2 * more w x.2) = false := decide_eq_false h
    have et : tell w f.1 x.2 = pw w x.2 := if_neg h
    rw [et] at s1 e5 e6 ⊢
    simp only [E_var, E_cst, E_glb, E_bin, E_neg, negV_int, E_vand, E_vor, E_vone, E_vnot, E_tand, E_tor, E_tone, E_tnot, E_tval, E_cmp, E_ife, E_idx, E_nop, E_tup, E_lst, E_nil, E_cons, E_call, E_callp, E_callk, E_isi, E_bi, E_mt, asTup_tup, onB_t, onB_f, onN_nx, onN_rt, onN_bk, onN_ct, S_seq, S_skip, S_pass, S_brk, S_cont, S_set, S_setC, S_setT, S_par, S_setI, S_exp, S_ret, onBS_t, onBS_f, S_ifs, augA_int, b_add, b_addT, b_sub, c_lt, c_le, c_gt, c_ge, c_eqI, c_neI, t_int, t_bl, bi_abs, bi_int, bi_lenT, bi_lenL, bi_tupL, bi_tupT, gx0, gx1, gx2, gx3, gx4, gr0, gr1, gr2, gr3, gfr0, gfr1, st1, st2, st3, Tg.bind, Rf.bindAll, List.replicate_succ, List.replicate_zero, List.map_cons, List.map_nil, List.cons_append, List.nil_append, List.append_nil, List.set_cons_zero, List.set_cons_succ, List.getElem?_cons_zero, List.getElem?_cons_succ, List.length_cons, List.length_nil, Option.bind_some, Option.map_some, Option.bind_none, Option.map_none, if_true, Bool.false_eq_true, if_false, decide_true, decide_false, Bool.not_true, Bool.not_false, bMass, e1, gw0, g_p hx, e2, e3, z, s1, e5, e6]
theorem ms_len (ok : Ok w) (purse : Rat) : ∀ i, i ≤ (sorted w).length → (((sorted w).take i).foldl (mstep w) (M0 w purse)).2.length = w.p.length := by
  intro i
  induction i with
  | zero => intro _; simp [M0]
  | succ i ih =>
    intro hi
    rw [foldl_takeA (show i < (sorted w).length by omega)]
    show (List.set _ _ _).length = _
    rw [List.length_set]
    exact ih (by omega)
theorem sorted_more (ok : Ok w) {i : Nat} (hi : i < (sorted w).length) : 0 < more w ((sorted w)[i]).2 := by
  have := (sorted_mem (List.getElem_mem hi)).2.1
  unfold told at this
  rw [Bool.and_eq_true] at this
  exact of_decide_eq_true this.2
theorem ms_bd (ok : Ok w) {purse : Rat} {k : Nat} (hp : Bd k purse) : ∀ i, i ≤ (sorted w).length → Bd (k + 30 + 44 * i) (((sorted w).take i).foldl (mstep w) (M0 w purse)).1 := by
  intro i
  induction i with
  | zero => exact fun _ => hp.mul (seen_bd ok)
  | succ i ih =>
    intro hi
    rw [foldl_takeA (show i < (sorted w).length by omega)]
    exact (left_bd ok (sorted_lt ok (show i < (sorted w).length by omega)) (sorted_more ok (show i < (sorted w).length by omega)) (ih (by omega))).mono (by omega)
theorem bindM {x : Rat × Nat} {a b c v0 v1 v2 v3 v4 : Option PV} : (Tg.tp [4, 5]).bind (encS x) [v0, v1, v2, v3, v4, a, b, c] = some [v0, v1, v2, v3, some (fr x.1), some (.int (x.2 : Nat)), b, c] := rfl
theorem mass_spec (ok : Ok w) (hn : 7 ≤ n) {purse : Rat} {k : Nat} (hp : Bd k purse) (hk : k ≤ 3000) : Ret Ps gs LL n 20 [enc w, fr purse] B (.tup ((massL w purse).map fr)) := by
  obtain ⟨m, rfl⟩ : ∃ m, n = m + 1 := ⟨n - 1, by omega⟩
  have hb := big_L
  have h4 := sorted_l4 ok
  have hs4 := ok.s4
  have hbig : 200 < big := by decide +kernel
  have e1 := dropT_ret (T := []) (quo_spec (B := B) ok (n := m) (by omega)) rfl
  have e2 := dropT_ret (T := []) (minusP (n := m) (by omega) 1 (quo w) 1 28 B (Bd.one (by decide)) (quo_bd ok) (by decide) trivial) rfl
  have e2 : dropT (Rf.run Ps gs LL m 3 [fr 1, fr (quo w)] B []) [] = some (fr (seen w), []) := e2
  have e3 := dropT_ret (T := []) (timesP (n := m) (by omega) purse (seen w) k 30 B hp (seen_bd ok) (by omega) trivial) rfl
  have d0 := dropT_ret (T := []) (states_spec (w := w) (B := B) (n := m) (by omega)) rfl
  have e4 : (sem (Rf.run Ps gs LL m) gs LL (.comp (.ife (.tval (.callp 16 (.cons (.var 0) (.cons (.var 5) .nil)))) (.idx (.idx (.var 0) (.cst (.int 0))) (.var 5)) (.glb 0)) (.gen (.nm 5) (.itr (.cons (.callp 11 (.cons (.var 0) .nil)) .nil)) .nop .gnil) [("state", 5)])).e [some (enc w), some (fr purse), some (fr (purse * seen w)), none, none, none, none, none] B [] = some (.ref B.length, [(M0 w purse).2.map fr]) := by
    have := comp_pure (CF := Rf.run Ps gs LL m) (G := gs) (L := LL) (B := B) (T := []) (T1 := []) (as := List.range w.p.length) (enc := fun (s : Nat) => PV.int s) (g := fun s => fr (if free w s = true then pw w s else 0)) (p := fun _ => true) (bd := fun s => [some (enc w), some (fr purse), some (fr (purse * seen w)), none, none, some (.int (s : Nat)), none, none]) (σ := [some (enc w), some (fr purse), some (fr (purse * seen w)), none, none, none, none, none]) (tg := .nm 5) (it := .itr (.cons (.callp 11 (.cons (.var 0) .nil)) .nil)) (test := .nop) (elt := .ife (.tval (.callp 16 (.cons (.var 0) (.cons (.var 5) .nil)))) (.idx (.idx (.var 0) (.cst (.int 0))) (.var 5)) (.glb 0)) (own := [("state", 5)])
      (E_itrN (j := w.p.length) (by omega) (by simp only [E_var, E_cst, E_glb, E_bin, E_neg, negV_int, E_vand, E_vor, E_vone, E_vnot, E_tand, E_tor, E_tone, E_tnot, E_tval, E_cmp, E_ife, E_idx, E_nop, E_tup, E_lst, E_nil, E_cons, E_call, E_callp, E_callk, E_isi, E_bi, E_mt, asTup_tup, onB_t, onB_f, onN_nx, onN_rt, onN_bk, onN_ct, S_seq, S_skip, S_pass, S_brk, S_cont, S_set, S_setC, S_setT, S_par, S_setI, S_exp, S_ret, onBS_t, onBS_f, S_ifs, augA_int, b_add, b_addT, b_sub, c_lt, c_le, c_gt, c_ge, c_eqI, c_neI, t_int, t_bl, bi_abs, bi_int, bi_lenT, bi_lenL, bi_tupL, bi_tupT, gx0, gx1, gx2, gx3, gx4, gr0, gr1, gr2, gr3, gfr0, gfr1, st1, st2, st3, Tg.bind, Rf.bindAll, List.replicate_succ, List.replicate_zero, List.map_cons, List.map_nil, List.cons_append, List.nil_append, List.append_nil, List.set_cons_zero, List.set_cons_succ, List.getElem?_cons_zero, List.getElem?_cons_succ, List.length_cons, List.length_nil, Option.bind_some, Option.map_some, Option.bind_none, Option.map_none, if_true, Bool.false_eq_true, if_false, decide_true, decide_false, Bool.not_true, Bool.not_false, wipeE, d0])) (fun i => at_rng0) (fun a _ => rfl) (fun a _ => rfl) (fun a ha _ => by
        have ha := List.mem_range.mp ha
        have e := dropT_ret (T := []) (isfree_spec (B := B) ok (n := m) (by omega) ha) rfl
        cases hf : free w a with
        | true =>
          rw [hf] at e
          simp only [E_var, E_cst, E_glb, E_bin, E_neg, negV_int, E_vand, E_vor, E_vone, E_vnot, E_tand, E_tor, E_tone, E_tnot, E_tval, E_cmp, E_ife, E_idx, E_nop, E_tup, E_lst, E_nil, E_cons, E_call, E_callp, E_callk, E_isi, E_bi, E_mt, asTup_tup, onB_t, onB_f, onN_nx, onN_rt, onN_bk, onN_ct, S_seq, S_skip, S_pass, S_brk, S_cont, S_set, S_setC, S_setT, S_par, S_setI, S_exp, S_ret, onBS_t, onBS_f, S_ifs, augA_int, b_add, b_addT, b_sub, c_lt, c_le, c_gt, c_ge, c_eqI, c_neI, t_int, t_bl, bi_abs, bi_int, bi_lenT, bi_lenL, bi_tupL, bi_tupT, gx0, gx1, gx2, gx3, gx4, gr0, gr1, gr2, gr3, gfr0, gfr1, st1, st2, st3, Tg.bind, Rf.bindAll, List.replicate_succ, List.replicate_zero, List.map_cons, List.map_nil, List.cons_append, List.nil_append, List.append_nil, List.set_cons_zero, List.set_cons_succ, List.getElem?_cons_zero, List.getElem?_cons_succ, List.length_cons, List.length_nil, Option.bind_some, Option.map_some, Option.bind_none, Option.map_none, if_true, Bool.false_eq_true, if_false, decide_true, decide_false, Bool.not_true, Bool.not_false, E_glb, e, gw0, g_p ha]
        | false =>
          rw [hf] at e
          simp only [E_var, E_cst, E_glb, E_bin, E_neg, negV_int, E_vand, E_vor, E_vone, E_vnot, E_tand, E_tor, E_tone, E_tnot, E_tval, E_cmp, E_ife, E_idx, E_nop, E_tup, E_lst, E_nil, E_cons, E_call, E_callp, E_callk, E_isi, E_bi, E_mt, asTup_tup, onB_t, onB_f, onN_nx, onN_rt, onN_bk, onN_ct, S_seq, S_skip, S_pass, S_brk, S_cont, S_set, S_setC, S_setT, S_par, S_setI, S_exp, S_ret, onBS_t, onBS_f, S_ifs, augA_int, b_add, b_addT, b_sub, c_lt, c_le, c_gt, c_ge, c_eqI, c_neI, t_int, t_bl, bi_abs, bi_int, bi_lenT, bi_lenL, bi_tupL, bi_tupT, gx0, gx1, gx2, gx3, gx4, gr0, gr1, gr2, gr3, gfr0, gfr1, st1, st2, st3, Tg.bind, Rf.bindAll, List.replicate_succ, List.replicate_zero, List.map_cons, List.map_nil, List.cons_append, List.nil_append, List.append_nil, List.set_cons_zero, List.set_cons_succ, List.getElem?_cons_zero, List.getElem?_cons_succ, List.length_cons, List.length_nil, Option.bind_some, Option.map_some, Option.bind_none, Option.map_none, if_true, Bool.false_eq_true, if_false, decide_true, decide_false, Bool.not_true, Bool.not_false, E_glb, gs0, e]) (by rw [List.length_range]; omega) (by rw [List.length_range]; omega)
    rw [filter_true] at this
    rw [this]
    unfold M0
    rw [List.map_map]; rfl
  have es := sorted_spec (B := B) (T := [(M0 w purse).2.map fr]) ok (n := m) (by omega)
  have hk2 : ∀ S1, rd B [S1, (sorted w).map encS] (B.length + 1) = some ((sorted w).map encS) := fun S1 => by
    show (B ++ [S1, (sorted w).map encS])[B.length + 1]? = _
    rw [List.getElem?_append_right (by omega), show B.length + 1 - B.length = 1 by omega]; rfl
  obtain ⟨σ', T', e, v2, c4, c5, c6, c7, f1, f2⟩ := for_inv (B := B) (it := .lref (B.length + 1)) (tg := .tp [4, 5]) (b := fun σ T => semS (Rf.run Ps gs LL m) gs LL bMass σ B T) (m := (sorted w).length)
    (fun i σ T' => ∃ v2 c4 c5 c6 c7, (σ = [some (enc w), some (fr purse), some v2, some (.ref B.length), c4, c5, c6, c7] ∧ v2 = fr (((sorted w).take i).foldl (mstep w) (M0 w purse)).1) ∧ T' = [(((sorted w).take i).foldl (mstep w) (M0 w purse)).2.map fr, (sorted w).map encS])
    (by
      rintro i σ T' hi ⟨v2, c4, c5, c6, c7, ⟨rfl, rfl⟩, rfl⟩
      have b1 := ms_bd ok hp i (by omega)
      obtain ⟨c6', c7', e⟩ := mass_turn (B := B) (n := m) ok (by omega) (x := (sorted w)[i]) (sorted_lt ok hi) (sorted_more ok hi) (by omega) b1 (ms_len ok purse i (by omega)) (pu := fr purse) (S2 := (sorted w).map encS) c6 c7
      refine ⟨encS (sorted w)[i], _, _, _, ?_, bindM, .inl e, _, some (fr (sorted w)[i].1), some (.int ((sorted w)[i].2 : Nat)), c6', c7', ⟨rfl, ?_⟩, ?_⟩
      · rw [at_lref (hk2 _), List.getElem?_map, List.getElem?_eq_getElem hi]; rfl
      · rw [foldl_takeA hi]
      · rw [foldl_takeA hi])
    (by
      rintro σ T' ⟨v2, c4, c5, c6, c7, ⟨rfl, rfl⟩, rfl⟩
      rw [at_lref (hk2 _), List.getElem?_eq_none (by simp)])
    (sorted w).length LL 0 [some (enc w), some (fr purse), some (fr (purse * seen w)), some (.ref B.length), none, none, none, none] [(M0 w purse).2.map fr, (sorted w).map encS] (by omega) (by omega) ⟨_, none, none, none, none, ⟨rfl, rfl⟩, rfl⟩
  obtain ⟨f1, f3⟩ := f1
  subst f1 f2
  rw [List.take_length] at e
  have e5 : semS (Rf.run Ps gs LL m) gs LL (.for_ (.tp [4, 5]) (.itv (.call 17 (.cons (.var 0) .nil))) bMass) [some (enc w), some (fr purse), some (fr (purse * seen w)), some (.ref B.length), none, none, none, none] B [(M0 w purse).2.map fr] = some (.nx, [some (enc w), some (fr purse), some v2, some (.ref B.length), c4, c5, c6, c7], [(massL w purse).map fr, (sorted w).map encS]) := by
    rw [S_for, I_itvL (T1 := [(M0 w purse).2.map fr, (sorted w).map encS]) (k := B.length + 1) (by
      simp only [E_var, E_cst, E_glb, E_bin, E_neg, negV_int, E_vand, E_vor, E_vone, E_vnot, E_tand, E_tor, E_tone, E_tnot, E_tval, E_cmp, E_ife, E_idx, E_nop, E_tup, E_lst, E_nil, E_cons, E_call, E_callp, E_callk, E_isi, E_bi, E_mt, asTup_tup, onB_t, onB_f, onN_nx, onN_rt, onN_bk, onN_ct, S_seq, S_skip, S_pass, S_brk, S_cont, S_set, S_setC, S_setT, S_par, S_setI, S_exp, S_ret, onBS_t, onBS_f, S_ifs, augA_int, b_add, b_addT, b_sub, c_lt, c_le, c_gt, c_ge, c_eqI, c_neI, t_int, t_bl, bi_abs, bi_int, bi_lenT, bi_lenL, bi_tupL, bi_tupT, gx0, gx1, gx2, gx3, gx4, gr0, gr1, gr2, gr3, gfr0, gfr1, st1, st2, st3, Tg.bind, Rf.bindAll, List.replicate_succ, List.replicate_zero, List.map_cons, List.map_nil, List.cons_append, List.nil_append, List.append_nil, List.set_cons_zero, List.set_cons_succ, List.getElem?_cons_zero, List.getElem?_cons_succ, List.length_cons, List.length_nil, Option.bind_some, Option.map_some, Option.bind_none, Option.map_none, if_true, Bool.false_eq_true, if_false, decide_true, decide_false, Bool.not_true, Bool.not_false, es]) (hk2 _)]
    exact e
  have r1 : rd B [(massL w purse).map fr, (sorted w).map encS] B.length = some ((massL w purse).map fr) := by
    show (B ++ _)[B.length]? = _
    rw [List.getElem?_append_right (Nat.le_refl _), Nat.sub_self]; rfl
  refine ⟨_, run_rt (σ := [some (enc w), some (fr purse), some v2, some (.ref B.length), c4, c5, c6, c7]) (T1 := [(massL w purse).map fr, (sorted w).map encS]) (fn := ⟨2, 8, b_filled_mass⟩) rfl rfl ?_⟩
  simp only [bMass] at e5
  simp only [E_var, E_cst, E_glb, E_bin, E_neg, negV_int, E_vand, E_vor, E_vone, E_vnot, E_tand, E_tor, E_tone, E_tnot, E_tval, E_cmp, E_ife, E_idx, E_nop, E_tup, E_lst, E_nil, E_cons, E_call, E_callp, E_callk, E_isi, E_bi, E_mt, asTup_tup, onB_t, onB_f, onN_nx, onN_rt, onN_bk, onN_ct, S_seq, S_skip, S_pass, S_brk, S_cont, S_set, S_setC, S_setT, S_par, S_setI, S_exp, S_ret, onBS_t, onBS_f, S_ifs, augA_int, b_add, b_addT, b_sub, c_lt, c_le, c_gt, c_ge, c_eqI, c_neI, t_int, t_bl, bi_abs, bi_int, bi_lenT, bi_lenL, bi_tupL, bi_tupT, gx0, gx1, gx2, gx3, gx4, gr0, gr1, gr2, gr3, gfr0, gfr1, st1, st2, st3, Tg.bind, Rf.bindAll, List.replicate_succ, List.replicate_zero, List.map_cons, List.map_nil, List.cons_append, List.nil_append, List.append_nil, List.set_cons_zero, List.set_cons_succ, List.getElem?_cons_zero, List.getElem?_cons_succ, List.length_cons, List.length_nil, Option.bind_some, Option.map_some, Option.bind_none, Option.map_none, if_true, Bool.false_eq_true, if_false, decide_true, decide_false, Bool.not_true, Bool.not_false, E_glb, gs0, gs1, b_filled_mass, e1, e2, e3, e4, e5, r1]
end
end K36
end
section
/-! k36: number_at. -/
namespace K36
open PySem Rf Pl
section
variable {w : Wd} {s n : Nat} {B T : MH} {L : Nat} {CF : Nat → List PV → MH → MH → M} {G : List (Str × PV)}
/-- how many corners behind the first one the purse reaches -/
def nAt (purse : Rat) : List (Rat × Rat) → Nat
  | [] => 0
  | b :: r => if b.1 ≤ purse then nAt purse r + 1 else 0
theorem nAt_le (purse : Rat) : ∀ l, nAt purse l ≤ l.length
  | [] => Nat.le_refl _
  | y :: r => by
    unfold nAt
    split
    · exact Nat.succ_le_succ (nAt_le purse r)
    · exact Nat.zero_le _
theorem nAt_lt {purse : Rat} : ∀ {l : List (Rat × Rat)} {i : Nat}, i < nAt purse l → ∃ y, l[i]? = some y ∧ y.1 ≤ purse
  | [], i, h => by cases h
  | y :: r, i, h => by
    unfold nAt at h
    by_cases hy : y.1 ≤ purse
    · rw [if_pos hy] at h
      cases i with
      | zero => exact ⟨y, rfl, hy⟩
      | succ i => exact nAt_lt (l := r) (i := i) (by omega)
    · rw [if_neg hy] at h; omega
theorem nAt_at {purse : Rat} : ∀ {l : List (Rat × Rat)}, nAt purse l < l.length → ∃ y, l[nAt purse l]? = some y ∧ purse < y.1
  | [], h => by cases h
  | y :: r, h => by
    unfold nAt at h ⊢
    by_cases hy : y.1 ≤ purse
    · rw [if_pos hy] at h ⊢
      exact nAt_at (l := r) (by simpa using h)
    · rw [if_neg hy]
      exact ⟨y, rfl, Rat.not_le.mp hy⟩
/-- between two corners -/
def interp (a b : Rat × Rat) (purse : Rat) : Rat := a.2 + (purse - a.1) / (b.1 - a.1) * (b.2 - a.2)
theorem nAt_all {purse : Rat} : ∀ {l : List (Rat × Rat)}, nAt purse l = l.length → ∀ y ∈ l, y.1 ≤ purse
  | [], _, y, hy => by cases hy
  | z :: r, h, y, hy => by
    unfold nAt at h
    by_cases hz : z.1 ≤ purse
    · rw [if_pos hz] at h
      rcases List.mem_cons.mp hy with e | e
      · rw [e]; exact hz
      · exact nAt_all (l := r) (by simpa using h) y e
    · rw [if_neg hz] at h; cases h
def cNum : C := (.tval (.callp 7 (.cons (.idx (.idx (.var 0) (.bin .add (.var 2) (.cst (.int 1)))) (.cst (.int 0))) (.cons (.var 1) .nil))))
def bNum : S := (.seq (.aug 2 .add (.cst (.int 1))) .skip)
theorem g_c1 {a : Rat × Rat} {tl : List (Rat × Rat)} {i : Nat} {y : Rat × Rat} (h : tl[i]? = some y) : getIx B T (.tup ((a :: tl).map encP)) (.int ((i : Int) + 1)) = some (encP y) := by
  have := gxn (B := B) (T := T) (xs := (a :: tl).map encP) (i + 1)
  rw [show (((i + 1 : Nat) : Int)) = (i : Int) + 1 by omega] at this
  rw [this, List.map_cons, List.getElem?_cons_succ, List.getElem?_map, h]; rfl
theorem g_c0 {cs : List (Rat × Rat)} {i : Nat} {y : Rat × Rat} (h : cs[i]? = some y) : getIx B T (.tup (cs.map encP)) (.int (i : Nat)) = some (encP y) := by
  rw [gxn, List.getElem?_map, h]; rfl
theorem num_while (hn : 1 ≤ n) {a : Rat × Rat} {tl : List (Rat × Rat)} {purse : Rat} {k : Nat} (hk : k ≤ 4000) (hp : Bd k purse) (hb : ∀ y ∈ tl, Bd k y.1 ∧ Bd k y.2) (hlen : tl.length ≤ 100) (hlt : nAt purse tl < tl.length) {c3 c4 c5 : Option PV} :
    semS (Rf.run Ps gs LL n) gs LL (.whl cNum bNum) [some (.tup ((a :: tl).map encP)), some (fr purse), some (.int 0), c3, c4, c5] B [] = some (.nx, [some (.tup ((a :: tl).map encP)), some (fr purse), some (.int (nAt purse tl : Nat)), c3, c4, c5], []) := by
  have hbL := big_L
  rw [S_whl]
  exact while_seq (T := []) (c := fun σ T => (sem (Rf.run Ps gs LL n) gs LL cNum).e σ B T) (b := fun σ T => semS (Rf.run Ps gs LL n) gs LL bNum σ B T) (st := fun i => [some (.tup ((a :: tl).map encP)), some (fr purse), some (.int (i : Nat)), c3, c4, c5]) (m := nAt purse tl)
    (fun i hi => by
      obtain ⟨y, e1, e2⟩ := nAt_lt hi
      have z2 : decide (y.1 ≤ purse) = true := decide_eq_true e2
      have hy := (hb y (List.mem_of_getElem? e1)).1
      have e := dropT_ret (T := []) (mostP (n := n) (by omega) y.1 purse k k B hy hp (by omega) trivial) rfl
      have g := g_c1 (B := B) (T := []) (a := a) e1
      generalize (a :: tl).map encP = V at g ⊢
      simp only [E_var, E_cst, E_glb, E_bin, E_neg, negV_int, E_vand, E_vor, E_vone, E_vnot, E_tand, E_tor, E_tone, E_tnot, E_tval, E_cmp, E_ife, E_idx, E_nop, E_tup, E_lst, E_nil, E_cons, E_call, E_callp, E_callk, E_isi, E_bi, E_mt, asTup_tup, onB_t, onB_f, onN_nx, onN_rt, onN_bk, onN_ct, S_seq, S_skip, S_pass, S_brk, S_cont, S_set, S_setC, S_setT, S_par, S_setI, S_exp, S_ret, onBS_t, onBS_f, S_ifs, augA_int, b_add, b_addT, b_sub, c_lt, c_le, c_gt, c_ge, c_eqI, c_neI, t_int, t_bl, bi_abs, bi_int, bi_lenT, bi_lenL, bi_tupL, bi_tupT, gx0, gx1, gx2, gx3, gx4, gr0, gr1, gr2, gr3, gfr0, gfr1, st1, st2, st3, Tg.bind, Rf.bindAll, List.replicate_succ, List.replicate_zero, List.map_cons, List.map_nil, List.cons_append, List.nil_append, List.append_nil, List.set_cons_zero, List.set_cons_succ, List.getElem?_cons_zero, List.getElem?_cons_succ, List.length_cons, List.length_nil, Option.bind_some, Option.map_some, Option.bind_none, Option.map_none, if_true, Bool.false_eq_true, if_false, decide_true, decide_false, Bool.not_true, Bool.not_false, cNum, g, ge0, e, z2])
    (fun i hi => by
      have a := S_augA (CF := Rf.run Ps gs LL n) (G := gs) (L := LL) (B := B) (T := []) (σ := [some (.tup ((a :: tl).map encP)), some (fr purse), some (.int (i : Nat)), c3, c4, c5]) (a := .cst (.int 1)) 2 (u := i) rfl
      simp only [E_var, E_cst, E_glb, E_bin, E_neg, negV_int, E_vand, E_vor, E_vone, E_vnot, E_tand, E_tor, E_tone, E_tnot, E_tval, E_cmp, E_ife, E_idx, E_nop, E_tup, E_lst, E_nil, E_cons, E_call, E_callp, E_callk, E_isi, E_bi, E_mt, asTup_tup, onB_t, onB_f, onN_nx, onN_rt, onN_bk, onN_ct, S_seq, S_skip, S_pass, S_brk, S_cont, S_set, S_setC, S_setT, S_par, S_setI, S_exp, S_ret, onBS_t, onBS_f, S_ifs, augA_int, b_add, b_addT, b_sub, c_lt, c_le, c_gt, c_ge, c_eqI, c_neI, t_int, t_bl, bi_abs, bi_int, bi_lenT, bi_lenL, bi_tupL, bi_tupT, gx0, gx1, gx2, gx3, gx4, gr0, gr1, gr2, gr3, gfr0, gfr1, st1, st2, st3, Tg.bind, Rf.bindAll, List.replicate_succ, List.replicate_zero, List.map_cons, List.map_nil, List.cons_append, List.nil_append, List.append_nil, List.set_cons_zero, List.set_cons_succ, List.getElem?_cons_zero, List.getElem?_cons_succ, List.length_cons, List.length_nil, Option.bind_some, Option.map_some, Option.bind_none, Option.map_none, if_true, Bool.false_eq_true, if_false, decide_true, decide_false, Bool.not_true, Bool.not_false, bNum, a]
      rfl)
    (by
      obtain ⟨y, e1, e2⟩ := nAt_at hlt
      have z2 : decide (y.1 ≤ purse) = false := decide_eq_false (Rat.not_le.mpr e2)
      have hy := (hb y (List.mem_of_getElem? e1)).1
      have e := dropT_ret (T := []) (mostP (n := n) (by omega) y.1 purse k k B hy hp (by omega) trivial) rfl
      have g := g_c1 (B := B) (T := []) (a := a) e1
      generalize (a :: tl).map encP = V at g ⊢
      simp only [E_var, E_cst, E_glb, E_bin, E_neg, negV_int, E_vand, E_vor, E_vone, E_vnot, E_tand, E_tor, E_tone, E_tnot, E_tval, E_cmp, E_ife, E_idx, E_nop, E_tup, E_lst, E_nil, E_cons, E_call, E_callp, E_callk, E_isi, E_bi, E_mt, asTup_tup, onB_t, onB_f, onN_nx, onN_rt, onN_bk, onN_ct, S_seq, S_skip, S_pass, S_brk, S_cont, S_set, S_setC, S_setT, S_par, S_setI, S_exp, S_ret, onBS_t, onBS_f, S_ifs, augA_int, b_add, b_addT, b_sub, c_lt, c_le, c_gt, c_ge, c_eqI, c_neI, t_int, t_bl, bi_abs, bi_int, bi_lenT, bi_lenL, bi_tupL, bi_tupT, gx0, gx1, gx2, gx3, gx4, gr0, gr1, gr2, gr3, gfr0, gfr1, st1, st2, st3, Tg.bind, Rf.bindAll, List.replicate_succ, List.replicate_zero, List.map_cons, List.map_nil, List.cons_append, List.nil_append, List.append_nil, List.set_cons_zero, List.set_cons_succ, List.getElem?_cons_zero, List.getElem?_cons_succ, List.length_cons, List.length_nil, Option.bind_some, Option.map_some, Option.bind_none, Option.map_none, if_true, Bool.false_eq_true, if_false, decide_true, decide_false, Bool.not_true, Bool.not_false, cNum, g, ge0, e, z2])
    (nAt purse tl) 0 LL (by omega) (by omega)
theorem interp_bd {k : Nat} {a b : Rat × Rat} {purse : Rat} (ha1 : Bd k a.1) (ha2 : Bd k a.2) (hb1 : Bd k b.1) (hb2 : Bd k b.2) (hp : Bd k purse) : Bd (7 * k + 4) (interp a b purse) := by
  unfold interp
  exact (ha2.add (((hp.sub ha1).div (hb1.sub ha1)).mul (hb2.sub ha2))).mono (by omega)
/-- number_at of corners init ++ [last] -/
def numAt (a : Rat × Rat) (tl : List (Rat × Rat)) (purse : Rat) : Rat :=
  if ((a :: tl).getLast (by simp)).1 ≤ purse then ((a :: tl).getLast (by simp)).2 else interp ((a :: tl).getD (nAt purse tl) (0, 0)) (tl.getD (nAt purse tl) (0, 0)) purse
theorem number_spec (hn : 5 ≤ n) {a : Rat × Rat} {tl : List (Rat × Rat)} {purse : Rat} {k : Nat} (hk : k ≤ 1000) (hp : Bd k purse) (hb : ∀ y ∈ a :: tl, Bd k y.1 ∧ Bd k y.2) (hlen : tl.length ≤ 100) (ha : a.1 ≤ purse) :
    Ret Ps gs LL n 21 [.tup ((a :: tl).map encP), fr purse] B (fr (numAt a tl purse)) := by
  obtain ⟨m, rfl⟩ : ∃ m, n = m + 1 := ⟨n - 1, by omega⟩
  have gl : getIx B [] (.tup ((a :: tl).map encP)) (.int (-1)) = some (encP ((a :: tl).getLast (by simp))) := by
    have e : (a :: tl).map encP = ((a :: tl).dropLast.map encP) ++ [encP ((a :: tl).getLast (by simp))] := by
      rw [← List.map_singleton, ← List.map_append, List.dropLast_concat_getLast]
    rw [e]; exact gT_last
  have hlast := hb _ (List.getLast_mem (l := a :: tl) (by simp))
  have e1 := dropT_ret (T := []) (mostP (n := m) (by omega) ((a :: tl).getLast (by simp)).1 purse k k B hlast.1 hp (by omega) trivial) rfl
  unfold numAt
  by_cases h : ((a :: tl).getLast (by simp)).1 ≤ purse
  · have z : decide (((a :: tl).getLast (by simp)).1 ≤ purse) = true := decide_eq_true h
    rw [if_pos h]
    refine ⟨[], run_rt (σ := [some (.tup ((a :: tl).map encP)), some (fr purse), none, none, none, none]) (fn := ⟨2, 6, b_number_at⟩) rfl rfl ?_⟩
    generalize (a :: tl).map encP = V at *
    simp only [E_var, E_cst, E_glb, E_bin, E_neg, negV_int, E_vand, E_vor, E_vone, E_vnot, E_tand, E_tor, E_tone, E_tnot, E_tval, E_cmp, E_ife, E_idx, E_nop, E_tup, E_lst, E_nil, E_cons, E_call, E_callp, E_callk, E_isi, E_bi, E_mt, asTup_tup, onB_t, onB_f, onN_nx, onN_rt, onN_bk, onN_ct, S_seq, S_skip, S_pass, S_brk, S_cont, S_set, S_setC, S_setT, S_par, S_setI, S_exp, S_ret, onBS_t, onBS_f, S_ifs, augA_int, b_add, b_addT, b_sub, c_lt, c_le, c_gt, c_ge, c_eqI, c_neI, t_int, t_bl, bi_abs, bi_int, bi_lenT, bi_lenL, bi_tupL, bi_tupT, gx0, gx1, gx2, gx3, gx4, gr0, gr1, gr2, gr3, gfr0, gfr1, st1, st2, st3, Tg.bind, Rf.bindAll, List.replicate_succ, List.replicate_zero, List.map_cons, List.map_nil, List.cons_append, List.nil_append, List.append_nil, List.set_cons_zero, List.set_cons_succ, List.getElem?_cons_zero, List.getElem?_cons_succ, List.length_cons, List.length_nil, Option.bind_some, Option.map_some, Option.bind_none, Option.map_none, if_true, Bool.false_eq_true, if_false, decide_true, decide_false, Bool.not_true, Bool.not_false, b_number_at, neg1, gl, ge0, ge1, e1, z]
  · have z : decide (((a :: tl).getLast (by simp)).1 ≤ purse) = false := decide_eq_false h
    have hlt : nAt purse tl < tl.length := by
      rcases Nat.lt_or_ge (nAt purse tl) tl.length with q | q
      · exact q
      · have q2 : nAt purse tl = tl.length := Nat.le_antisymm (nAt_le _ _) q
        have hall := nAt_all q2
        rcases List.mem_cons.mp (List.getLast_mem (l := a :: tl) (by simp)) with e | e
        · exact absurd (by rw [e]; exact ha) h
        · exact absurd (hall _ e) h
    rw [if_neg h]
    obtain ⟨y, ey, hy⟩ := nAt_at hlt
    have e2 := num_while (B := B) (n := m) (by omega) (a := a) (tl := tl) (purse := purse) (k := k) (by omega) hp (fun y hy => hb y (List.mem_cons_of_mem _ hy)) hlen hlt (c3 := none) (c4 := none) (c5 := none)
    have hx : (a :: tl)[nAt purse tl]? = some ((a :: tl).getD (nAt purse tl) (0, 0)) := get_of (0, 0) (by rw [List.length_cons]; omega)
    have ey2 : tl.getD (nAt purse tl) (0, 0) = y := by rw [List.getD_eq_getElem?_getD, ey]; rfl
    rw [ey2]
    have hxm : (a :: tl).getD (nAt purse tl) (0, 0) ∈ a :: tl := getD_mem _ (by rw [List.length_cons]; omega)
    have hxle : ((a :: tl).getD (nAt purse tl) (0, 0)).1 ≤ purse := by
      cases hq : nAt purse tl with
      | zero => exact ha
      | succ i =>
        obtain ⟨z, ez, hz⟩ := nAt_lt (purse := purse) (l := tl) (i := i) (by omega)
        have : (a :: tl).getD (i + 1) (0, 0) = z := by rw [List.getD_eq_getElem?_getD, List.getElem?_cons_succ, ez]; rfl
        rw [this]; exact hz
    generalize (a :: tl).getD (nAt purse tl) (0, 0) = x at hx hxm hxle
    have bx := hb x hxm
    have by' := hb y (List.mem_cons_of_mem _ (List.mem_of_getElem? ey))
    have hne : y.1 - x.1 ≠ 0 := by
      have : 0 < y.1 - x.1 := by grind
      exact Rat.ne_of_gt this
    have g1 := g_c0 (B := B) (T := []) hx
    have g2 := g_c1 (B := B) (T := []) (a := a) ey
    have q1 := dropT_ret (T := []) (minusP (n := m) (by omega) purse x.1 k k B hp bx.1 (by omega) trivial) rfl
    have q2 := dropT_ret (T := []) (minusP (n := m) (by omega) y.1 x.1 k k B by'.1 bx.1 (by omega) trivial) rfl
    have q3 := dropT_ret (T := []) (overP (n := m) (by omega) (purse - x.1) (y.1 - x.1) (k + k + 1) (k + k + 1) B (hp.sub bx.1) (by'.1.sub bx.1) (by omega) hne) rfl
    have q4 := dropT_ret (T := []) (minusP (n := m) (by omega) y.2 x.2 k k B by'.2 bx.2 (by omega) trivial) rfl
    have b1 := (hp.sub bx.1).div (by'.1.sub bx.1)
    have q5 := dropT_ret (T := []) (timesP (n := m) (by omega) ((purse - x.1) / (y.1 - x.1)) (y.2 - x.2) ((k + k + 1) + (k + k + 1)) (k + k + 1) B b1 (by'.2.sub bx.2) (by omega) trivial) rfl
    have q6 := dropT_ret (T := []) (plusP (n := m) (by omega) x.2 ((purse - x.1) / (y.1 - x.1) * (y.2 - x.2)) k (((k + k + 1) + (k + k + 1)) + (k + k + 1)) B bx.2 (b1.mul (by'.2.sub bx.2)) (by omega) trivial) rfl
    refine ⟨[], run_rt (σ := [some (.tup ((a :: tl).map encP)), some (fr purse), some (.int (nAt purse tl : Nat)), some (encP x), some (encP y), some (fr ((purse - x.1) / (y.1 - x.1)))]) (fn := ⟨2, 6, b_number_at⟩) rfl rfl ?_⟩
    simp only [cNum, bNum] at e2
    generalize (a :: tl).map encP = V at *
    simp only [E_var, E_cst, E_glb, E_bin, E_neg, negV_int, E_vand, E_vor, E_vone, E_vnot, E_tand, E_tor, E_tone, E_tnot, E_tval, E_cmp, E_ife, E_idx, E_nop, E_tup, E_lst, E_nil, E_cons, E_call, E_callp, E_callk, E_isi, E_bi, E_mt, asTup_tup, onB_t, onB_f, onN_nx, onN_rt, onN_bk, onN_ct, S_seq, S_skip, S_pass, S_brk, S_cont, S_set, S_setC, S_setT, S_par, S_setI, S_exp, S_ret, onBS_t, onBS_f, S_ifs, augA_int, b_add, b_addT, b_sub, c_lt, c_le, c_gt, c_ge, c_eqI, c_neI, t_int, t_bl, bi_abs, bi_int, bi_lenT, bi_lenL, bi_tupL, bi_tupT, gx0, gx1, gx2, gx3, gx4, gr0, gr1, gr2, gr3, gfr0, gfr1, st1, st2, st3, Tg.bind, Rf.bindAll, List.replicate_succ, List.replicate_zero, List.map_cons, List.map_nil, List.cons_append, List.nil_append, List.append_nil, List.set_cons_zero, List.set_cons_succ, List.getElem?_cons_zero, List.getElem?_cons_succ, List.length_cons, List.length_nil, Option.bind_some, Option.map_some, Option.bind_none, Option.map_none, if_true, Bool.false_eq_true, if_false, decide_true, decide_false, Bool.not_true, Bool.not_false, b_number_at, neg1, gl, ge0, ge1, e1, z, e2, g1, g2, q1, q2, q3, q4, q5, q6]
    rfl
end
end K36
end
section
/-! k36: the law's reading of the corners. -/
namespace K36
open PySem Rf Pl
section
variable {w : Wd} {s n : Nat} {B T : MH} {L : Nat} {CF : Nat → List PV → MH → MH → M} {G : List (Str × PV)}
/-- a loop that answers at turn m -/
theorem for_ret {it : Rf.It} {tg : Tg} {b : En → MH → MS} {m : Nat} {v : PV} (I : Nat → En → MH → Prop)
    (turn : ∀ i σ T, i < m → I i σ T → ∃ x σ1 σ2 T2, it.at B T i = some (some x) ∧ tg.bind x σ = some σ1 ∧ b σ1 T = some (.nx, σ2, T2) ∧ I (i + 1) σ2 T2)
    (fin : ∀ σ T, I m σ T → ∃ x σ1 σ2 T2, it.at B T m = some (some x) ∧ tg.bind x σ = some σ1 ∧ b σ1 T = some (.rt v, σ2, T2)) : ∀ (d n i : Nat) (σ : En) (T : MH), i + d = m → d < n → I i σ T → ∃ σ' T', loopF B it tg b n i σ T = some (.rt v, σ', T') := by
  intro d
  induction d with
  | zero =>
    intro n i σ T h hn h0
    obtain ⟨n, rfl⟩ : ∃ k, n = k + 1 := ⟨n - 1, by omega⟩
    have : i = m := by omega
    subst this
    obtain ⟨x, σ1, σ2, T2, e1, e2, e3⟩ := fin σ T h0
    refine ⟨σ2, T2, ?_⟩
    unfold loopF
    rw [e1]
    dsimp only
    rw [e2]
    dsimp only
    rw [e3]
  | succ d ih =>
    intro n i σ T h hn h0
    obtain ⟨n, rfl⟩ : ∃ k, n = k + 1 := ⟨n - 1, by omega⟩
    obtain ⟨x, σ1, σ2, T2, e1, e2, e3, h2⟩ := turn i σ T (by omega) h0
    obtain ⟨σ', T', e4⟩ := ih n (i + 1) σ2 T2 (by omega) (by omega) h2
    refine ⟨σ', T', ?_⟩
    unfold loopF
    rw [e1]
    dsimp only
    rw [e2]
    dsimp only
    rw [e3]
    exact e4
def bOn : S := (.seq (.par [3, 4] (.cons (.idx (.var 0) (.var 2)) (.cons (.idx (.var 0) (.bin .add (.var 2) (.cst (.int 1)))) .nil))) (.seq (.ifs (.tand (.tnot (.tval (.callp 33 (.cons (.var 1) (.cons (.idx (.var 3) (.cst (.int 0))) .nil))))) (.tone (.tval (.callp 33 (.cons (.var 1) (.cons (.idx (.var 4) (.cst (.int 0))) .nil)))))) (.seq (.set 5 (.callp 31 (.cons (.callp 29 (.cons (.idx (.var 4) (.cst (.int 1))) (.cons (.idx (.var 3) (.cst (.int 1))) .nil))) (.cons (.callp 29 (.cons (.idx (.var 4) (.cst (.int 0))) (.cons (.idx (.var 3) (.cst (.int 0))) .nil))) .nil)))) (.seq (.ret (.callp 28 (.cons (.idx (.var 3) (.cst (.int 1))) (.cons (.callp 30 (.cons (.var 5) (.cons (.callp 29 (.cons (.var 1) (.cons (.idx (.var 3) (.cst (.int 0))) .nil))) .nil))) .nil)))) .skip)) .skip) .skip))
theorem interp_alt {x y : Rat × Rat} {purse : Rat} (h : y.1 - x.1 ≠ 0) : x.2 + (y.2 - x.2) / (y.1 - x.1) * (purse - x.1) = interp x y purse := by
  unfold interp
  rw [Rat.div_def, Rat.div_def]
  grind
section
variable {V : PV} {x y : Rat × Rat} {purse : Rat} {k i : Nat} {c3 c4 c5 : Option PV}
theorem on_no (hn : 4 ≤ n) (hk : k ≤ 1000) (hp : Bd k purse) (bx : Bd k x.1 ∧ Bd k x.2) (bY : Bd k y.1 ∧ Bd k y.2) (g1 : getIx B [] V (.int (i : Nat)) = some (encP x)) (g2 : getIx B [] V (.int ((i : Int) + 1)) = some (encP y)) (h : ¬ (x.1 ≤ purse ∧ purse < y.1)) :
    semS (Rf.run Ps gs LL n) gs LL bOn [some V, some (fr purse), some (.int (i : Nat)), c3, c4, c5] B [] = some (.nx, [some V, some (fr purse), some (.int (i : Nat)), some (encP x), some (encP y), c5], []) := by
  have e1 := dropT_ret (T := []) (ltL (n := n) (by omega) purse x.1 k k B hp bx.1 (by omega) trivial) rfl
  have e2 := dropT_ret (T := []) (ltL (n := n) (by omega) purse y.1 k k B hp bY.1 (by omega) trivial) rfl
  by_cases h1 : purse < x.1
  · have z1 : decide (purse < x.1) = true := decide_eq_true h1
    simp only [E_var, E_cst, E_glb, E_bin, E_neg, negV_int, E_vand, E_vor, E_vone, E_vnot, E_tand, E_tor, E_tone, E_tnot, E_tval, E_cmp, E_ife, E_idx, E_nop, E_tup, E_lst, E_nil, E_cons, E_call, E_callp, E_callk, E_isi, E_bi, E_mt, asTup_tup, onB_t, onB_f, onN_nx, onN_rt, onN_bk, onN_ct, S_seq, S_skip, S_pass, S_brk, S_cont, S_set, S_setC, S_setT, S_par, S_setI, S_exp, S_ret, onBS_t, onBS_f, S_ifs, augA_int, b_add, b_addT, b_sub, c_lt, c_le, c_gt, c_ge, c_eqI, c_neI, t_int, t_bl, bi_abs, bi_int, bi_lenT, bi_lenL, bi_tupL, bi_tupT, gx0, gx1, gx2, gx3, gx4, gr0, gr1, gr2, gr3, gfr0, gfr1, st1, st2, st3, Tg.bind, Rf.bindAll, List.replicate_succ, List.replicate_zero, List.map_cons, List.map_nil, List.cons_append, List.nil_append, List.append_nil, List.set_cons_zero, List.set_cons_succ, List.getElem?_cons_zero, List.getElem?_cons_succ, List.length_cons, List.length_nil, Option.bind_some, Option.map_some, Option.bind_none, Option.map_none, if_true, Bool.false_eq_true, if_false, decide_true, decide_false, Bool.not_true, Bool.not_false, bOn, g1, g2, ge0, e1, z1]
  · have z1 : decide (purse < x.1) = false := decide_eq_false h1
    have z2 : decide (purse < y.1) = false := decide_eq_false fun z => h ⟨Rat.not_lt.mp h1, z⟩
    simp only [E_var, E_cst, E_glb, E_bin, E_neg, negV_int, E_vand, E_vor, E_vone, E_vnot, E_tand, E_tor, E_tone, E_tnot, E_tval, E_cmp, E_ife, E_idx, E_nop, E_tup, E_lst, E_nil, E_cons, E_call, E_callp, E_callk, E_isi, E_bi, E_mt, asTup_tup, onB_t, onB_f, onN_nx, onN_rt, onN_bk, onN_ct, S_seq, S_skip, S_pass, S_brk, S_cont, S_set, S_setC, S_setT, S_par, S_setI, S_exp, S_ret, onBS_t, onBS_f, S_ifs, augA_int, b_add, b_addT, b_sub, c_lt, c_le, c_gt, c_ge, c_eqI, c_neI, t_int, t_bl, bi_abs, bi_int, bi_lenT, bi_lenL, bi_tupL, bi_tupT, gx0, gx1, gx2, gx3, gx4, gr0, gr1, gr2, gr3, gfr0, gfr1, st1, st2, st3, Tg.bind, Rf.bindAll, List.replicate_succ, List.replicate_zero, List.map_cons, List.map_nil, List.cons_append, List.nil_append, List.append_nil, List.set_cons_zero, List.set_cons_succ, List.getElem?_cons_zero, List.getElem?_cons_succ, List.length_cons, List.length_nil, Option.bind_some, Option.map_some, Option.bind_none, Option.map_none, if_true, Bool.false_eq_true, if_false, decide_true, decide_false, Bool.not_true, Bool.not_false, bOn, g1, g2, ge0, e1, z1, e2, z2]
theorem on_yes (hn : 4 ≤ n) (hk : k ≤ 1000) (hp : Bd k purse) (bx : Bd k x.1 ∧ Bd k x.2) (bY : Bd k y.1 ∧ Bd k y.2) (g1 : getIx B [] V (.int (i : Nat)) = some (encP x)) (g2 : getIx B [] V (.int ((i : Int) + 1)) = some (encP y)) (h : x.1 ≤ purse ∧ purse < y.1) :
    ∃ σ', semS (Rf.run Ps gs LL n) gs LL bOn [some V, some (fr purse), some (.int (i : Nat)), c3, c4, c5] B [] = some (.rt (fr (interp x y purse)), σ', []) := by
  have e1 := dropT_ret (T := []) (ltL (n := n) (by omega) purse x.1 k k B hp bx.1 (by omega) trivial) rfl
  have e2 := dropT_ret (T := []) (ltL (n := n) (by omega) purse y.1 k k B hp bY.1 (by omega) trivial) rfl
  have z1 : decide (purse < x.1) = false := decide_eq_false (Rat.not_lt.mpr h.1)
  have z2 : decide (purse < y.1) = true := decide_eq_true h.2
  have hne : y.1 - x.1 ≠ 0 := by
    have := h.1
    have := h.2
    have : 0 < y.1 - x.1 := by grind
    exact Rat.ne_of_gt this
  have q1 := dropT_ret (T := []) (subL (n := n) (by omega) purse x.1 k k B hp bx.1 (by omega) trivial) rfl
  have q2 := dropT_ret (T := []) (subL (n := n) (by omega) y.1 x.1 k k B bY.1 bx.1 (by omega) trivial) rfl
  have q4 := dropT_ret (T := []) (subL (n := n) (by omega) y.2 x.2 k k B bY.2 bx.2 (by omega) trivial) rfl
  have q3 := dropT_ret (T := []) (divL (n := n) (by omega) (y.2 - x.2) (y.1 - x.1) (k + k + 1) (k + k + 1) B (bY.2.sub bx.2) (bY.1.sub bx.1) (by omega) hne) rfl
  have b1 := (bY.2.sub bx.2).div (bY.1.sub bx.1)
  have q5 := dropT_ret (T := []) (mulL (n := n) (by omega) ((y.2 - x.2) / (y.1 - x.1)) (purse - x.1) ((k + k + 1) + (k + k + 1)) (k + k + 1) B b1 (hp.sub bx.1) (by omega) trivial) rfl
  have q6 := dropT_ret (T := []) (addL (n := n) (by omega) x.2 ((y.2 - x.2) / (y.1 - x.1) * (purse - x.1)) k (((k + k + 1) + (k + k + 1)) + (k + k + 1)) B bx.2 (b1.mul (hp.sub bx.1)) (by omega) trivial) rfl
  rw [← interp_alt hne]
  refine ⟨[some V, some (fr purse), some (.int (i : Nat)), some (encP x), some (encP y), some (fr ((y.2 - x.2) / (y.1 - x.1)))], ?_⟩
  simp only [E_var, E_cst, E_glb, E_bin, E_neg, negV_int, E_vand, E_vor, E_vone, E_vnot, E_tand, E_tor, E_tone, E_tnot, E_tval, E_cmp, E_ife, E_idx, E_nop, E_tup, E_lst, E_nil, E_cons, E_call, E_callp, E_callk, E_isi, E_bi, E_mt, asTup_tup, onB_t, onB_f, onN_nx, onN_rt, onN_bk, onN_ct, S_seq, S_skip, S_pass, S_brk, S_cont, S_set, S_setC, S_setT, S_par, S_setI, S_exp, S_ret, onBS_t, onBS_f, S_ifs, augA_int, b_add, b_addT, b_sub, c_lt, c_le, c_gt, c_ge, c_eqI, c_neI, t_int, t_bl, bi_abs, bi_int, bi_lenT, bi_lenL, bi_tupL, bi_tupT, gx0, gx1, gx2, gx3, gx4, gr0, gr1, gr2, gr3, gfr0, gfr1, st1, st2, st3, Tg.bind, Rf.bindAll, List.replicate_succ, List.replicate_zero, List.map_cons, List.map_nil, List.cons_append, List.nil_append, List.append_nil, List.set_cons_zero, List.set_cons_succ, List.getElem?_cons_zero, List.getElem?_cons_succ, List.length_cons, List.length_nil, Option.bind_some, Option.map_some, Option.bind_none, Option.map_none, if_true, Bool.false_eq_true, if_false, decide_true, decide_false, Bool.not_true, Bool.not_false, bOn, g1, g2, ge0, ge1, e1, z1, e2, z2, q1, q2, q3, q4, q5, q6]
end
/-- the purses of the corners rise -/
def Rising : List (Rat × Rat) → Prop
  | [] => True
  | [_] => True
  | a :: b :: r => a.1 ≤ b.1 ∧ Rising (b :: r)
theorem rising_last : ∀ {a : Rat × Rat} {tl : List (Rat × Rat)}, Rising (a :: tl) → ∀ y ∈ a :: tl, y.1 ≤ ((a :: tl).getLast (by simp)).1
  | a, [], _, y, hy => by
    simp at hy; subst hy; exact Rat.le_refl
  | a, b :: r, h, y, hy => by
    have ih := rising_last (a := b) (tl := r) h.2
    rw [List.getLast_cons (by simp)]
    rcases List.mem_cons.mp hy with e | e
    · rw [e]
      have := ih b (List.mem_cons_self ..)
      have := h.1
      grind
    · exact ih y e
theorem on_spec (hn : 5 ≤ n) {a : Rat × Rat} {tl : List (Rat × Rat)} {purse : Rat} {k : Nat} (hk : k ≤ 1000) (hp : Bd k purse) (hb : ∀ y ∈ a :: tl, Bd k y.1 ∧ Bd k y.2) (hlen : tl.length ≤ 100) (ha : a.1 ≤ purse) (hr : Rising (a :: tl)) :
    Ret Ps gs LL n 44 [.tup ((a :: tl).map encP), fr purse] B (fr (numAt a tl purse)) := by
  obtain ⟨m, rfl⟩ : ∃ m, n = m + 1 := ⟨n - 1, by omega⟩
  have hbL := big_L
  have gl : getIx B [] (.tup ((a :: tl).map encP)) (.int (-1)) = some (encP ((a :: tl).getLast (by simp))) := by
    have e : (a :: tl).map encP = ((a :: tl).dropLast.map encP) ++ [encP ((a :: tl).getLast (by simp))] := by
      rw [← List.map_singleton, ← List.map_append, List.dropLast_concat_getLast]
    rw [e]; exact gT_last
  have hlenV : ((a :: tl).map encP).length = tl.length + 1 := by rw [List.length_map]; rfl
  have hgx : ∀ i, i < tl.length → getIx B [] (.tup ((a :: tl).map encP)) (.int (i : Nat)) = some (encP ((a :: tl).getD i (0, 0))) := fun i hi => g_c0 (get_of (0, 0) (by rw [List.length_cons]; omega))
  have hgy : ∀ i, i < tl.length → getIx B [] (.tup ((a :: tl).map encP)) (.int ((i : Int) + 1)) = some (encP (tl.getD i (0, 0))) := fun i hi => g_c1 (get_of (0, 0) hi)
  have hbx : ∀ i, i < tl.length → Bd k ((a :: tl).getD i (0, 0)).1 ∧ Bd k ((a :: tl).getD i (0, 0)).2 := fun i hi => hb _ (getD_mem _ (by rw [List.length_cons]; omega))
  have hby : ∀ i, i < tl.length → Bd k (tl.getD i (0, 0)).1 ∧ Bd k (tl.getD i (0, 0)).2 := fun i hi => hb _ (List.mem_cons_of_mem _ (getD_mem _ hi))
  have e0 : ∀ (σ' : En) (r : Rs), loopF B (.rng 0 tl.length) (.nm 2) (fun σ T => semS (Rf.run Ps gs LL m) gs LL bOn σ B T) LL 0 [some (.tup ((a :: tl).map encP)), some (fr purse), none, none, none, none] [] = some (r, σ', []) → semS (Rf.run Ps gs LL m) gs LL (.for_ (.nm 2) (.itr (.cons (.bin .sub (.bi .len (.cons (.var 0) .nil)) (.cst (.int 1))) .nil)) bOn) [some (.tup ((a :: tl).map encP)), some (fr purse), none, none, none, none] B [] = some (r, σ', []) := fun σ' r e => by
    rw [S_for, E_itrN (j := tl.length) (T1 := []) (by omega) (by
      simp only [E_cons, E_nil, E_bin, E_bi, E_var, E_cst, List.getElem?_cons_zero, Option.bind_some, Option.map_some, asTup_tup, bi_lenT, b_sub, hlenV]
      rw [show ((tl.length + 1 : Nat) : Int) - 1 = (tl.length : Int) by omega])]
    exact e
  by_cases h : ((a :: tl).getLast (by simp)).1 ≤ purse
  · have ev : numAt a tl purse = ((a :: tl).getLast (by simp)).2 := if_pos h
    rw [ev]
    obtain ⟨σ', T', e, c2, c3, c4, c5, f1, f2⟩ := for_inv (B := B) (it := .rng 0 tl.length) (tg := .nm 2) (b := fun σ T => semS (Rf.run Ps gs LL m) gs LL bOn σ B T) (m := tl.length)
      (fun i σ T' => ∃ c2 c3 c4 c5, σ = [some (.tup ((a :: tl).map encP)), some (fr purse), c2, c3, c4, c5] ∧ T' = [])
      (by
        rintro i σ T' hi ⟨c2, c3, c4, c5, rfl, rfl⟩
        refine ⟨_, _, _, _, rng_at hi, rfl, .inl ?_, some (.int (i : Nat)), some (encP ((a :: tl).getD i (0, 0))), some (encP (tl.getD i (0, 0))), c5, rfl, rfl⟩
        rw [Int.zero_add]
        refine on_no (by omega) hk hp (hbx i hi) (hby i hi) (hgx i hi) (hgy i hi) fun z => ?_
        have := rising_last hr _ (List.mem_cons_of_mem _ (getD_mem (0, 0) hi))
        have := z.2
        grind)
      (by
        rintro σ T' ⟨c2, c3, c4, c5, rfl, rfl⟩
        exact rng_end (Nat.le_refl _))
      tl.length LL 0 [some (.tup ((a :: tl).map encP)), some (fr purse), none, none, none, none] [] (by omega) (by omega) ⟨none, none, none, none, rfl, rfl⟩
    subst f1 f2
    have e2 := e0 _ _ e
    refine ⟨[], run_rt (σ := [some (.tup ((a :: tl).map encP)), some (fr purse), c2, c3, c4, c5]) (fn := ⟨2, 6, b__law_on⟩) rfl rfl ?_⟩
    simp only [bOn] at e2
    generalize (a :: tl).map encP = V at *
    simp only [E_var, E_cst, E_glb, E_bin, E_neg, negV_int, E_vand, E_vor, E_vone, E_vnot, E_tand, E_tor, E_tone, E_tnot, E_tval, E_cmp, E_ife, E_idx, E_nop, E_tup, E_lst, E_nil, E_cons, E_call, E_callp, E_callk, E_isi, E_bi, E_mt, asTup_tup, onB_t, onB_f, onN_nx, onN_rt, onN_bk, onN_ct, S_seq, S_skip, S_pass, S_brk, S_cont, S_set, S_setC, S_setT, S_par, S_setI, S_exp, S_ret, onBS_t, onBS_f, S_ifs, augA_int, b_add, b_addT, b_sub, c_lt, c_le, c_gt, c_ge, c_eqI, c_neI, t_int, t_bl, bi_abs, bi_int, bi_lenT, bi_lenL, bi_tupL, bi_tupT, gx0, gx1, gx2, gx3, gx4, gr0, gr1, gr2, gr3, gfr0, gfr1, st1, st2, st3, Tg.bind, Rf.bindAll, List.replicate_succ, List.replicate_zero, List.map_cons, List.map_nil, List.cons_append, List.nil_append, List.append_nil, List.set_cons_zero, List.set_cons_succ, List.getElem?_cons_zero, List.getElem?_cons_succ, List.length_cons, List.length_nil, Option.bind_some, Option.map_some, Option.bind_none, Option.map_none, if_true, Bool.false_eq_true, if_false, decide_true, decide_false, Bool.not_true, Bool.not_false, b__law_on, e2, neg1, gl, ge1]
  · have hlt : nAt purse tl < tl.length := by
      rcases Nat.lt_or_ge (nAt purse tl) tl.length with q | q
      · exact q
      · have q2 : nAt purse tl = tl.length := Nat.le_antisymm (nAt_le _ _) q
        have hall := nAt_all q2
        rcases List.mem_cons.mp (List.getLast_mem (l := a :: tl) (by simp)) with e | e
        · exact absurd (by rw [e]; exact ha) h
        · exact absurd (hall _ e) h
    have ev : numAt a tl purse = interp ((a :: tl).getD (nAt purse tl) (0, 0)) (tl.getD (nAt purse tl) (0, 0)) purse := if_neg h
    rw [ev]
    obtain ⟨y, ey, hy⟩ := nAt_at hlt
    have ey2 : tl.getD (nAt purse tl) (0, 0) = y := by rw [List.getD_eq_getElem?_getD, ey]; rfl
    have hxle : ((a :: tl).getD (nAt purse tl) (0, 0)).1 ≤ purse := by
      cases hq : nAt purse tl with
      | zero => exact ha
      | succ i =>
        obtain ⟨z, ez, hz⟩ := nAt_lt (purse := purse) (l := tl) (i := i) (by omega)
        have : (a :: tl).getD (i + 1) (0, 0) = z := by rw [List.getD_eq_getElem?_getD, List.getElem?_cons_succ, ez]; rfl
        rw [this]; exact hz
    obtain ⟨σ', T', e⟩ := for_ret (B := B) (it := .rng 0 tl.length) (tg := .nm 2) (b := fun σ T => semS (Rf.run Ps gs LL m) gs LL bOn σ B T) (m := nAt purse tl) (v := fr (interp ((a :: tl).getD (nAt purse tl) (0, 0)) (tl.getD (nAt purse tl) (0, 0)) purse))
      (fun i σ T' => ∃ c2 c3 c4 c5, σ = [some (.tup ((a :: tl).map encP)), some (fr purse), c2, c3, c4, c5] ∧ T' = [])
      (by
        rintro i σ T' hi ⟨c2, c3, c4, c5, rfl, rfl⟩
        have hi2 : i < tl.length := by omega
        refine ⟨_, _, _, _, rng_at hi2, rfl, ?_, some (.int (i : Nat)), some (encP ((a :: tl).getD i (0, 0))), some (encP (tl.getD i (0, 0))), c5, rfl, rfl⟩
        rw [Int.zero_add]
        refine on_no (by omega) hk hp (hbx i hi2) (hby i hi2) (hgx i hi2) (hgy i hi2) fun z => ?_
        obtain ⟨u, eu, hu⟩ := nAt_lt hi
        have : tl.getD i (0, 0) = u := by rw [List.getD_eq_getElem?_getD, eu]; rfl
        rw [this] at z
        have := z.2
        grind)
      (by
        rintro σ T' ⟨c2, c3, c4, c5, rfl, rfl⟩
        obtain ⟨σ', e⟩ := on_yes (B := B) (n := m) (c3 := c3) (c4 := c4) (c5 := c5) (by omega) hk hp (hbx _ hlt) (hby _ hlt) (hgx _ hlt) (hgy _ hlt) ⟨hxle, by rw [ey2]; exact hy⟩
        refine ⟨_, _, σ', [], rng_at hlt, rfl, ?_⟩
        rw [Int.zero_add]
        exact e)
      (nAt purse tl) LL 0 [some (.tup ((a :: tl).map encP)), some (fr purse), none, none, none, none] [] (by omega) (by omega) ⟨none, none, none, none, rfl, rfl⟩
    refine ⟨T', run_rt (σ := σ') (fn := ⟨2, 6, b__law_on⟩) rfl rfl ?_⟩
    have e2 : semS (Rf.run Ps gs LL m) gs LL (.for_ (.nm 2) (.itr (.cons (.bin .sub (.bi .len (.cons (.var 0) .nil)) (.cst (.int 1))) .nil)) bOn) [some (.tup ((a :: tl).map encP)), some (fr purse), none, none, none, none] B [] = some (.rt (fr (interp ((a :: tl).getD (nAt purse tl) (0, 0)) (tl.getD (nAt purse tl) (0, 0)) purse)), σ', T') := by
      rw [S_for, E_itrN (j := tl.length) (T1 := []) (by omega) (by
        simp only [E_cons, E_nil, E_bin, E_bi, E_var, E_cst, List.getElem?_cons_zero, Option.bind_some, Option.map_some, asTup_tup, bi_lenT, b_sub, hlenV]
        rw [show ((tl.length + 1 : Nat) : Int) - 1 = (tl.length : Int) by omega])]
      exact e
    simp only [bOn] at e2
    generalize (a :: tl).map encP = V at *
    simp only [E_var, E_cst, E_glb, E_bin, E_neg, negV_int, E_vand, E_vor, E_vone, E_vnot, E_tand, E_tor, E_tone, E_tnot, E_tval, E_cmp, E_ife, E_idx, E_nop, E_tup, E_lst, E_nil, E_cons, E_call, E_callp, E_callk, E_isi, E_bi, E_mt, asTup_tup, onB_t, onB_f, onN_nx, onN_rt, onN_bk, onN_ct, S_seq, S_skip, S_pass, S_brk, S_cont, S_set, S_setC, S_setT, S_par, S_setI, S_exp, S_ret, onBS_t, onBS_f, S_ifs, augA_int, b_add, b_addT, b_sub, c_lt, c_le, c_gt, c_ge, c_eqI, c_neI, t_int, t_bl, bi_abs, bi_int, bi_lenT, bi_lenL, bi_tupL, bi_tupT, gx0, gx1, gx2, gx3, gx4, gr0, gr1, gr2, gr3, gfr0, gfr1, st1, st2, st3, Tg.bind, Rf.bindAll, List.replicate_succ, List.replicate_zero, List.map_cons, List.map_nil, List.cons_append, List.nil_append, List.append_nil, List.set_cons_zero, List.set_cons_succ, List.getElem?_cons_zero, List.getElem?_cons_succ, List.length_cons, List.length_nil, Option.bind_some, Option.map_some, Option.bind_none, Option.map_none, if_true, Bool.false_eq_true, if_false, decide_true, decide_false, Bool.not_true, Bool.not_false, b__law_on, e2]
end
end K36
end
section
/-! k36: the law's steps. -/
namespace K36
open PySem Rf Pl
section
variable {w : Wd} {s n : Nat} {B T : MH} {L : Nat} {CF : Nat → List PV → MH → MH → M} {G : List (Str × PV)}
def ni (l : List Nat) : List PV := l.map fun (s : Nat) => PV.int s
def high (w : Wd) (l : List Nat) : Rat := topR (l.map (ratio w))
def grp (w : Wd) (l : List Nat) : List Nat := l.filter fun s => decide (ratio w s = high w l)
def rest (w : Wd) (l : List Nat) : List Nat := l.filter fun s => !decide (ratio w s = high w l)
def stp (w : Wd) (f : List Nat × List (List Nat × Rat)) : List Nat × List (List Nat × Rat) := if f.1 = [] then f else (rest w f.1, f.2 ++ [(grp w f.1, high w f.1)])
def stpN (w : Wd) (f : List Nat × List (List Nat × Rat)) : Nat → List Nat × List (List Nat × Rat)
  | 0 => f
  | i + 1 => stp w (stpN w f i)
theorem range_get {l : List Nat} {p : Nat → Bool} : ((List.range l.length).filter fun k => p (l.getD k 0)).map (fun k => PV.int (l.getD k 0 : Nat)) = ni (l.filter p) := by
  have e : (List.range l.length).map (fun k => l.getD k 0) = l := by
    apply List.ext_getElem
    · simp
    · intro i h1 h2
      rw [List.getElem_map, List.getElem_range, List.getD_eq_getElem?_getD, List.getElem?_eq_getElem h2]; rfl
  unfold ni
  conv => rhs; rw [← e]
  rw [List.filter_map, List.map_map]
  rfl
/-- items: pairs of a list's place and a ratio, as the steps say; none stands at kf -/
def Grp (B T : MH) (kf : Nat) : List PV → List (List Nat × Rat) → Prop
  | [], [] => True
  | x :: xs, s :: ss => (∃ g, x = .tup [.ref g, fr s.2] ∧ g ≠ kf ∧ rd B T g = some (ni s.1)) ∧ Grp B T kf xs ss
  | _, _ => False
theorem Grp.mono {T' : MH} {kf : Nat} (h : ∀ k xs, k ≠ kf → rd B T k = some xs → rd B T' k = some xs) : ∀ {xs : List PV} {ss : List (List Nat × Rat)}, Grp B T kf xs ss → Grp B T' kf xs ss
  | [], [], _ => trivial
  | x :: xs, s :: ss, ⟨⟨g, e1, e2, e3⟩, r⟩ => ⟨⟨g, e1, e2, h g _ e2 e3⟩, Grp.mono h r⟩
  | [], _ :: _, r => r.elim
  | _ :: _, [], r => r.elim
theorem Grp.snoc {kf g : Nat} {s : List Nat × Rat} (h : g ≠ kf) (hg : rd B T g = some (ni s.1)) : ∀ {xs : List PV} {ss : List (List Nat × Rat)}, Grp B T kf xs ss → Grp B T kf (xs ++ [.tup [.ref g, fr s.2]]) (ss ++ [s])
  | [], [], _ => ⟨⟨g, rfl, h, hg⟩, trivial⟩
  | x :: xs, s' :: ss, ⟨q, r⟩ => ⟨q, Grp.snoc h hg r⟩
  | [], _ :: _, r => r.elim
  | _ :: _, [], r => r.elim
theorem Grp.len {kf : Nat} : ∀ {xs : List PV} {ss : List (List Nat × Rat)}, Grp B T kf xs ss → xs.length = ss.length
  | [], [], _ => rfl
  | x :: xs, s :: ss, ⟨_, r⟩ => congrArg Nat.succ (Grp.len r)
  | [], _ :: _, r => r.elim
  | _ :: _, [], r => r.elim
def bStep : S := (.seq (.ifs (.cmp .gt (.bi .len (.cons (.var 2) .nil)) (.cst (.int 0))) (.seq (.set 5 (.comp (.callp 31 (.cons (.callp 39 (.cons (.var 0) (.cons (.var 7) .nil))) (.cons (.callp 38 (.cons (.var 0) (.cons (.var 7) .nil))) .nil))) (.gen (.nm 7) (.itv (.var 2)) .nop .gnil) [("w", 7)])) (.seq (.set 6 (.callp 35 (.cons (.var 5) .nil))) (.seq (.exp (.mt .append (.var 3) (.cons (.tup (.cons (.comp (.idx (.var 2) (.var 8)) (.gen (.nm 8) (.itr (.cons (.bi .len (.cons (.var 2) .nil)) .nil)) (.cmp .eq (.idx (.var 5) (.var 8)) (.var 6)) .gnil) [("k", 8)]) (.cons (.var 6) .nil))) .nil))) (.seq (.set 2 (.comp (.idx (.var 2) (.var 8)) (.gen (.nm 8) (.itr (.cons (.bi .len (.cons (.var 2) .nil)) .nil)) (.cmp .ne (.idx (.var 5) (.var 8)) (.var 6)) .gnil) [("k", 8)])) .skip)))) .skip) .skip)
theorem high_bd (ok : Ok w) {l : List Nat} (hl : ∀ s ∈ l, s < w.p.length) (hne : l ≠ []) : Bd 58 (high w l) := by
  have : topR (l.map (ratio w)) ∈ l.map (ratio w) := by
    cases l with
    | nil => exact absurd rfl hne
    | cons a r =>
      rcases fold_mem top_hh ((a :: r).map (ratio w)) (ratio w a) with e | e
      · rw [List.map_cons] at e ⊢
        show List.foldl _ _ _ ∈ _
        rw [e]; exact List.mem_cons_self ..
      · exact e
  obtain ⟨s, hs, e⟩ := List.mem_map.mp this
  unfold high
  rw [← e]
  exact ratio_bd ok (hl s hs)
theorem step_turn (ok : Ok w) (hn : 5 ≤ n) {l : List Nat} (hl : ∀ s ∈ l, s < w.p.length ∧ 0 < more w s) (hlen : l.length ≤ 4) (hne : l ≠ []) {kl kf : Nat} {items : List PV} (hkl : rd B T kl = some (ni l)) (hkf : rd B T kf = some items) (hf0 : B.length ≤ kf) (hkn : kl ≠ kf) (hil : items.length ≤ 10) {rt : PV} (c4 c5 c6 : Option PV) :
    ∃ kl' kg c5' c6' T', semS (Rf.run Ps gs LL n) gs LL bStep [some (enc w), some rt, some (.ref kl), some (.ref kf), c4, c5, c6, none, none] B T = some (.nx, [some (enc w), some rt, some (.ref kl'), some (.ref kf), c4, c5', c6', none, none], T') ∧
      rd B T' kl' = some (ni (rest w l)) ∧ kl' ≠ kf ∧ rd B T' kg = some (ni (grp w l)) ∧ kg ≠ kf ∧ rd B T' kf = some (items ++ [.tup [.ref kg, fr (high w l)]]) ∧ (∀ k xs, k ≠ kf → rd B T k = some xs → rd B T' k = some xs) := by
  have hb := big_L
  have hbig : 200 < big := by decide +kernel
  have hl0 : 0 < l.length := List.length_pos_iff.mpr hne
  have nil_len : (ni l).length = l.length := List.length_map ..
  -- the ratios
  have e1 : (sem (Rf.run Ps gs LL n) gs LL (.comp (.callp 31 (.cons (.callp 39 (.cons (.var 0) (.cons (.var 7) .nil))) (.cons (.callp 38 (.cons (.var 0) (.cons (.var 7) .nil))) .nil))) (.gen (.nm 7) (.itv (.var 2)) .nop .gnil) [("w", 7)])).e [some (enc w), some rt, some (.ref kl), some (.ref kf), c4, c5, c6, none, none] B T = some (.ref (B.length + T.length), T ++ [(l.map (ratio w)).map fr]) := by
    have := comp_pure (CF := Rf.run Ps gs LL n) (G := gs) (L := LL) (B := B) (T := T) (T1 := T) (as := l) (enc := fun (s : Nat) => PV.int s) (g := fun s => fr (ratio w s)) (p := fun _ => true) (bd := fun s => [some (enc w), some rt, some (.ref kl), some (.ref kf), c4, c5, c6, some (.int (s : Nat)), none]) (σ := [some (enc w), some rt, some (.ref kl), some (.ref kf), c4, c5, c6, none, none]) (tg := .nm 7) (it := .itv (.var 2)) (test := .nop) (elt := .callp 31 (.cons (.callp 39 (.cons (.var 0) (.cons (.var 7) .nil))) (.cons (.callp 38 (.cons (.var 0) (.cons (.var 7) .nil))) .nil))) (own := [("w", 7)])
      (I_itvL (by simp only [E_var, E_cst, E_glb, E_bin, E_neg, negV_int, E_vand, E_vor, E_vone, E_vnot, E_tand, E_tor, E_tone, E_tnot, E_tval, E_cmp, E_ife, E_idx, E_nop, E_tup, E_lst, E_nil, E_cons, E_call, E_callp, E_callk, E_isi, E_bi, E_mt, asTup_tup, onB_t, onB_f, onN_nx, onN_rt, onN_bk, onN_ct, S_seq, S_skip, S_pass, S_brk, S_cont, S_set, S_setC, S_setT, S_par, S_setI, S_exp, S_ret, onBS_t, onBS_f, S_ifs, augA_int, b_add, b_addT, b_sub, c_lt, c_le, c_gt, c_ge, c_eqI, c_neI, t_int, t_bl, bi_abs, bi_int, bi_lenT, bi_lenL, bi_tupL, bi_tupT, gx0, gx1, gx2, gx3, gx4, gr0, gr1, gr2, gr3, gfr0, gfr1, st1, st2, st3, Tg.bind, Rf.bindAll, List.replicate_succ, List.replicate_zero, List.map_cons, List.map_nil, List.cons_append, List.nil_append, List.append_nil, List.set_cons_zero, List.set_cons_succ, List.getElem?_cons_zero, List.getElem?_cons_succ, List.length_cons, List.length_nil, Option.bind_some, Option.map_some, Option.bind_none, Option.map_none, if_true, Bool.false_eq_true, if_false, decide_true, decide_false, Bool.not_true, Bool.not_false, wipeE]) hkl) (fun i => at_lref hkl) (fun a _ => rfl) (fun a _ => rfl) (fun a ha _ => by
        obtain ⟨h1, h2⟩ := hl a ha
        have q1 := dropT_ret (T := T) (lawrise_spec (B := B ++ T) ok (n := n) (by omega) h1) rfl
        have q2 := dropT_ret (T := T) (lawmore_spec (B := B ++ T) ok (n := n) (by omega) h1) rfl
        have q3 := dropT_ret (T := T) (divL (n := n) (by omega) (rise w a) (more w a) 29 29 (B ++ T) (bd_rise ok h1) (bd_more ok h1) (by decide) (Rat.ne_of_gt h2)) rfl
        simp only [E_var, E_cst, E_glb, E_bin, E_neg, negV_int, E_vand, E_vor, E_vone, E_vnot, E_tand, E_tor, E_tone, E_tnot, E_tval, E_cmp, E_ife, E_idx, E_nop, E_tup, E_lst, E_nil, E_cons, E_call, E_callp, E_callk, E_isi, E_bi, E_mt, asTup_tup, onB_t, onB_f, onN_nx, onN_rt, onN_bk, onN_ct, S_seq, S_skip, S_pass, S_brk, S_cont, S_set, S_setC, S_setT, S_par, S_setI, S_exp, S_ret, onBS_t, onBS_f, S_ifs, augA_int, b_add, b_addT, b_sub, c_lt, c_le, c_gt, c_ge, c_eqI, c_neI, t_int, t_bl, bi_abs, bi_int, bi_lenT, bi_lenL, bi_tupL, bi_tupT, gx0, gx1, gx2, gx3, gx4, gr0, gr1, gr2, gr3, gfr0, gfr1, st1, st2, st3, Tg.bind, Rf.bindAll, List.replicate_succ, List.replicate_zero, List.map_cons, List.map_nil, List.cons_append, List.nil_append, List.append_nil, List.set_cons_zero, List.set_cons_succ, List.getElem?_cons_zero, List.getElem?_cons_succ, List.length_cons, List.length_nil, Option.bind_some, Option.map_some, Option.bind_none, Option.map_none, if_true, Bool.false_eq_true, if_false, decide_true, decide_false, Bool.not_true, Bool.not_false, q1, q2, q3]
        rfl) (by omega) (by omega)
    rw [filter_true] at this
    rw [this, List.map_map]; rfl
  -- the highest
  have r1 : rd B (T ++ [(l.map (ratio w)).map fr]) (B.length + T.length) = some ((l.map (ratio w)).map fr) := rd_new
  have e2 := dropT_ret (T := T ++ [(l.map (ratio w)).map fr]) (topL (n := n) (by omega) (.ref (B.length + T.length)) (l.map (ratio w)) 58 (B ++ (T ++ [(l.map (ratio w)).map fr])) (.inr ⟨_, rfl, r1⟩) (by intro z; exact hne (List.map_eq_nil_iff.mp z)) (fun q hq => by
    obtain ⟨s, hs, rfl⟩ := List.mem_map.mp hq
    exact ratio_bd ok (hl s hs).1) (by decide) (by rw [List.length_map]; omega)) rfl
  have e2 : dropT (Rf.run Ps gs LL n 35 [.ref (B.length + T.length)] (B ++ (T ++ [(l.map (ratio w)).map fr])) []) (T ++ [(l.map (ratio w)).map fr]) = some (fr (high w l), T ++ [(l.map (ratio w)).map fr]) := e2
  have k1 : rd B (T ++ [(l.map (ratio w)).map fr]) kl = some (ni l) := rd_app hkl
  have f1 : rd B (T ++ [(l.map (ratio w)).map fr]) kf = some items := rd_app hkf
  have hkf_lt := rd_lt hkf
  -- the group
  have pick : ∀ (T1 : MH) (c : CO) (p : Nat → Bool) (q : Rat → Bool), rd B T1 kl = some (ni l) → rd B T1 (B.length + T.length) = some ((l.map (ratio w)).map fr) → (∀ (a : Rat), Rf.cmp B T1 c (fr a) (fr (high w l)) = some (q a)) → (∀ s, p s = q (ratio w s)) →
      (sem (Rf.run Ps gs LL n) gs LL (.comp (.idx (.var 2) (.var 8)) (.gen (.nm 8) (.itr (.cons (.bi .len (.cons (.var 2) .nil)) .nil)) (.cmp c (.idx (.var 5) (.var 8)) (.var 6)) .gnil) [("k", 8)])).e [some (enc w), some rt, some (.ref kl), some (.ref kf), c4, some (.ref (B.length + T.length)), some (fr (high w l)), none, none] B T1 = some (.ref (B.length + T1.length), T1 ++ [ni (l.filter p)]) := fun T1 c p q h1 h2 hc hp => by
    have := comp_pure (CF := Rf.run Ps gs LL n) (G := gs) (L := LL) (B := B) (T := T1) (T1 := T1) (as := List.range l.length) (enc := fun (s : Nat) => PV.int s) (g := fun k => PV.int (l.getD k 0 : Nat)) (p := fun k => p (l.getD k 0)) (bd := fun k => [some (enc w), some rt, some (.ref kl), some (.ref kf), c4, some (.ref (B.length + T.length)), some (fr (high w l)), none, some (.int (k : Nat))]) (σ := [some (enc w), some rt, some (.ref kl), some (.ref kf), c4, some (.ref (B.length + T.length)), some (fr (high w l)), none, none]) (tg := .nm 8) (it := .itr (.cons (.bi .len (.cons (.var 2) .nil)) .nil)) (test := .cmp c (.idx (.var 5) (.var 8)) (.var 6)) (elt := .idx (.var 2) (.var 8)) (own := [("k", 8)])
      (E_itrN (j := l.length) (by omega) (by simp only [E_var, E_cst, E_glb, E_bin, E_neg, negV_int, E_vand, E_vor, E_vone, E_vnot, E_tand, E_tor, E_tone, E_tnot, E_tval, E_cmp, E_ife, E_idx, E_nop, E_tup, E_lst, E_nil, E_cons, E_call, E_callp, E_callk, E_isi, E_bi, E_mt, asTup_tup, onB_t, onB_f, onN_nx, onN_rt, onN_bk, onN_ct, S_seq, S_skip, S_pass, S_brk, S_cont, S_set, S_setC, S_setT, S_par, S_setI, S_exp, S_ret, onBS_t, onBS_f, S_ifs, augA_int, b_add, b_addT, b_sub, c_lt, c_le, c_gt, c_ge, c_eqI, c_neI, t_int, t_bl, bi_abs, bi_int, bi_lenT, bi_lenL, bi_tupL, bi_tupT, gx0, gx1, gx2, gx3, gx4, gr0, gr1, gr2, gr3, gfr0, gfr1, st1, st2, st3, Tg.bind, Rf.bindAll, List.replicate_succ, List.replicate_zero, List.map_cons, List.map_nil, List.cons_append, List.nil_append, List.append_nil, List.set_cons_zero, List.set_cons_succ, List.getElem?_cons_zero, List.getElem?_cons_succ, List.length_cons, List.length_nil, Option.bind_some, Option.map_some, Option.bind_none, Option.map_none, if_true, Bool.false_eq_true, if_false, decide_true, decide_false, Bool.not_true, Bool.not_false, wipeE, h1, nil_len])) (fun i => at_rng0) (fun a _ => rfl)
      (fun k hk => by
        have hk := List.mem_range.mp hk
        have g1 : getIx B T1 (.ref (B.length + T.length)) (.int (k : Nat)) = some (fr (ratio w (l.getD k 0))) := by
          rw [grn, h2, Option.bind_some, List.getElem?_map, List.getElem?_map, get_of 0 hk]; rfl
        simp only [E_cmp, E_idx, E_var, List.getElem?_cons_zero, List.getElem?_cons_succ, Option.bind_some, Option.map_some, g1, hc, hp])
      (fun k hk _ => by
        have hk := List.mem_range.mp hk
        have g1 : getIx B T1 (.ref kl) (.int (k : Nat)) = some (.int (l.getD k 0 : Nat)) := by
          rw [grn, h1, Option.bind_some]
          unfold ni
          rw [List.getElem?_map, get_of 0 hk]; rfl
        simp only [E_var, E_cst, E_glb, E_bin, E_neg, negV_int, E_vand, E_vor, E_vone, E_vnot, E_tand, E_tor, E_tone, E_tnot, E_tval, E_cmp, E_ife, E_idx, E_nop, E_tup, E_lst, E_nil, E_cons, E_call, E_callp, E_callk, E_isi, E_bi, E_mt, asTup_tup, onB_t, onB_f, onN_nx, onN_rt, onN_bk, onN_ct, S_seq, S_skip, S_pass, S_brk, S_cont, S_set, S_setC, S_setT, S_par, S_setI, S_exp, S_ret, onBS_t, onBS_f, S_ifs, augA_int, b_add, b_addT, b_sub, c_lt, c_le, c_gt, c_ge, c_eqI, c_neI, t_int, t_bl, bi_abs, bi_int, bi_lenT, bi_lenL, bi_tupL, bi_tupT, gx0, gx1, gx2, gx3, gx4, gr0, gr1, gr2, gr3, gfr0, gfr1, st1, st2, st3, Tg.bind, Rf.bindAll, List.replicate_succ, List.replicate_zero, List.map_cons, List.map_nil, List.cons_append, List.nil_append, List.append_nil, List.set_cons_zero, List.set_cons_succ, List.getElem?_cons_zero, List.getElem?_cons_succ, List.length_cons, List.length_nil, Option.bind_some, Option.map_some, Option.bind_none, Option.map_none, if_true, Bool.false_eq_true, if_false, decide_true, decide_false, Bool.not_true, Bool.not_false, g1]) (by rw [List.length_range]; omega) (by rw [List.length_range]; omega)
    rw [this, range_get]
  have e3 := pick (T ++ [(l.map (ratio w)).map fr]) .eq (fun s => decide (ratio w s = high w l)) (fun a => decide (a = high w l)) k1 r1 (fun a => eqv_fr _ _) (fun s => rfl)
  have e3 : _ = some (PV.ref (B.length + (T ++ [(l.map (ratio w)).map fr]).length), (T ++ [(l.map (ratio w)).map fr]) ++ [ni (grp w l)]) := e3
  have len1 : (T ++ [(l.map (ratio w)).map fr]).length = T.length + 1 := by rw [List.length_append]; rfl
  generalize hT1 : T ++ [(l.map (ratio w)).map fr] = T1 at e1 e2 k1 f1 r1 e3 len1
  have kp1 : ∀ k xs, rd B T k = some xs → rd B T1 k = some xs := fun k xs h => by rw [← hT1]; exact rd_app h
  have g2 : rd B (T1 ++ [ni (grp w l)]) (B.length + T1.length) = some (ni (grp w l)) := rd_new
  have f2 : rd B (T1 ++ [ni (grp w l)]) kf = some items := rd_app f1
  have a3 := append_put (v := .tup [.ref (B.length + T1.length), fr (high w l)]) f2 hf0 (by omega)
  have f3 : rd B (put B (T1 ++ [ni (grp w l)]) kf (items ++ [.tup [.ref (B.length + T1.length), fr (high w l)]])) kf = _ := rd_put f2 hf0
  have kp3 : ∀ k xs, k ≠ kf → rd B (T1 ++ [ni (grp w l)]) k = some xs → rd B (put B (T1 ++ [ni (grp w l)]) kf (items ++ [.tup [.ref (B.length + T1.length), fr (high w l)]])) k = some xs := fun k xs h e => by rw [rd_put_ne h hf0]; exact e
  have len3 : (put B (T1 ++ [ni (grp w l)]) kf (items ++ [.tup [.ref (B.length + T1.length), fr (high w l)]])).length = T1.length + 1 := by rw [put_len, List.length_append]; rfl
  generalize put B (T1 ++ [ni (grp w l)]) kf (items ++ [.tup [.ref (B.length + T1.length), fr (high w l)]]) = T3 at a3 f3 kp3 len3
  have k3 : rd B T3 kl = some (ni l) := kp3 _ _ hkn (rd_app k1)
  have r3 : rd B T3 (B.length + T.length) = some ((l.map (ratio w)).map fr) := kp3 _ _ (by omega) (rd_app r1)
  have e4 := pick T3 .ne (fun s => !decide (ratio w s = high w l)) (fun a => !decide (a = high w l)) k3 r3 (fun a => nev_fr _ _) (fun s => rfl)
  have e4 : _ = some (PV.ref (B.length + T3.length), T3 ++ [ni (rest w l)]) := e4
  have z : decide ((0 : Int) < (l.length : Int)) = true := decide_eq_true (by omega)
  refine ⟨B.length + T3.length, B.length + T1.length, some (.ref (B.length + T.length)), some (fr (high w l)), T3 ++ [ni (rest w l)], ?_, rd_new, by omega, rd_app (kp3 _ _ (by omega) g2), by omega, rd_app f3, fun k xs h e => rd_app (kp3 k xs h (rd_app (kp1 k xs e)))⟩
  simp only [E_var, E_cst, E_glb, E_bin, E_neg, negV_int, E_vand, E_vor, E_vone, E_vnot, E_tand, E_tor, E_tone, E_tnot, E_tval, E_cmp, E_ife, E_idx, E_nop, E_tup, E_lst, E_nil, E_cons, E_call, E_callp, E_callk, E_isi, E_bi, E_mt, asTup_tup, onB_t, onB_f, onN_nx, onN_rt, onN_bk, onN_ct, S_seq, S_skip, S_pass, S_brk, S_cont, S_set, S_setC, S_setT, S_par, S_setI, S_exp, S_ret, onBS_t, onBS_f, S_ifs, augA_int, b_add, b_addT, b_sub, c_lt, c_le, c_gt, c_ge, c_eqI, c_neI, t_int, t_bl, bi_abs, bi_int, bi_lenT, bi_lenL, bi_tupL, bi_tupT, gx0, gx1, gx2, gx3, gx4, gr0, gr1, gr2, gr3, gfr0, gfr1, st1, st2, st3, Tg.bind, Rf.bindAll, List.replicate_succ, List.replicate_zero, List.map_cons, List.map_nil, List.cons_append, List.nil_append, List.append_nil, List.set_cons_zero, List.set_cons_succ, List.getElem?_cons_zero, List.getElem?_cons_succ, List.length_cons, List.length_nil, Option.bind_some, Option.map_some, Option.bind_none, Option.map_none, if_true, Bool.false_eq_true, if_false, decide_true, decide_false, Bool.not_true, Bool.not_false, bStep, hkl, nil_len, z, e1, e2, e3, tup2, a3, e4]
end
end K36
end
section
/-! k36: the law's steps, whole. -/
namespace K36
open PySem Rf Pl
section
variable {w : Wd} {s n : Nat} {B T : MH} {L : Nat} {CF : Nat → List PV → MH → MH → M} {G : List (Str × PV)}
def left0 (w : Wd) : List Nat := if 0 < seen w then (List.range w.p.length).filter (told w) else []
def steps (w : Wd) : List (List Nat × Rat) := (stpN w (left0 w, []) (left0 w).length).2
theorem left0_mem {s : Nat} (h : s ∈ left0 w) : s < w.p.length ∧ told w s = true := by
  unfold left0 at h
  split at h
  · obtain ⟨h1, h2⟩ := List.mem_filter.mp h
    exact ⟨List.mem_range.mp h1, h2⟩
  · cases h
theorem told_more {s : Nat} (h : told w s = true) : 0 < rise w s ∧ 0 < more w s := by
  unfold told at h
  rw [Bool.and_eq_true] at h
  exact ⟨of_decide_eq_true h.1, of_decide_eq_true h.2⟩
theorem left0_len (ok : Ok w) : (left0 w).length ≤ 4 := by
  unfold left0
  split
  · exact Nat.le_trans (List.length_filter_le _ _) (by rw [List.length_range]; exact ok.s4)
  · exact Nat.zero_le _
theorem stp_sub : ∀ i, (∀ s ∈ (stpN w (left0 w, []) i).1, s ∈ left0 w) ∧ (stpN w (left0 w, []) i).1.length ≤ (left0 w).length ∧ (stpN w (left0 w, []) i).2.length ≤ i := by
  intro i
  induction i with
  | zero => exact ⟨fun s h => h, Nat.le_refl _, Nat.le_refl _⟩
  | succ i ih =>
    obtain ⟨h1, h2, h3⟩ := ih
    show (∀ s ∈ (stp w (stpN w (left0 w, []) i)).1, _) ∧ (stp w (stpN w (left0 w, []) i)).1.length ≤ _ ∧ (stp w (stpN w (left0 w, []) i)).2.length ≤ _
    unfold stp
    split
    · exact ⟨h1, h2, by omega⟩
    · refine ⟨fun s hs => h1 s (List.mem_filter.mp hs).1, Nat.le_trans (List.length_filter_le _ _) h2, ?_⟩
      show ((stpN w (left0 w, []) i).2 ++ [_]).length ≤ _
      rw [List.length_append]; simp only [List.length_cons, List.length_nil]; omega
theorem ne_unit (q : Rat) : Rf.cmp B T .ne (fr q) (.tup []) = some true := by
  have h : eqv (fr q) (.tup []) = some false := rfl
  have h2 : Rf.cmp B T .ne (fr q) (.tup []) = (eqv (fr q) (.tup [])).map (!·) := rfl
  rw [h2, h]; rfl
theorem ne_unit0 : Rf.cmp B T .ne (.tup []) (.tup []) = some false := by
  have h : eqv (.tup []) (.tup []) = some true := rfl
  have h2 : Rf.cmp B T .ne (.tup []) (.tup []) = (eqv (.tup []) (.tup [])).map (!·) := rfl
  rw [h2, h]; rfl
theorem left_comp (ok : Ok w) (hn : 5 ≤ n) : (sem (Rf.run Ps gs LL n) gs LL (.comp (.var 7) (.gen (.nm 7) (.itr (.cons (.bi .len (.cons (.idx (.var 0) (.cst (.int 0))) .nil)) .nil)) (.tand (.cmp .ne (.var 1) (.tup .nil)) (.tand (.cmp .gt (.idx (.callp 38 (.cons (.var 0) (.cons (.var 7) .nil))) (.cst (.int 0))) (.cst (.int 0))) (.tone (.cmp .gt (.idx (.callp 39 (.cons (.var 0) (.cons (.var 7) .nil))) (.cst (.int 0))) (.cst (.int 0)))))) .gnil) [("w", 7)])).e [some (enc w), some (rateV w), none, none, none, none, none, none, none] B T = some (.ref (B.length + T.length), T ++ [ni (left0 w)]) := by
  have hb := big_L
  have hbig : 200 < big := by decide +kernel
  have hs4 := ok.s4
  have pl : (w.p.map fr).length = w.p.length := List.length_map ..
  have t0 : tup' [] T = some (.tup [], T) := rfl
  have := comp_pure (CF := Rf.run Ps gs LL n) (G := gs) (L := LL) (B := B) (T := T) (T1 := T) (as := List.range w.p.length) (enc := fun (s : Nat) => PV.int s) (g := fun s => PV.int (s : Nat)) (p := fun s => decide (0 < seen w) && told w s) (bd := fun s => [some (enc w), some (rateV w), none, none, none, none, none, some (.int (s : Nat)), none]) (σ := [some (enc w), some (rateV w), none, none, none, none, none, none, none]) (tg := .nm 7) (it := .itr (.cons (.bi .len (.cons (.idx (.var 0) (.cst (.int 0))) .nil)) .nil)) (test := .tand (.cmp .ne (.var 1) (.tup .nil)) (.tand (.cmp .gt (.idx (.callp 38 (.cons (.var 0) (.cons (.var 7) .nil))) (.cst (.int 0))) (.cst (.int 0))) (.tone (.cmp .gt (.idx (.callp 39 (.cons (.var 0) (.cons (.var 7) .nil))) (.cst (.int 0))) (.cst (.int 0)))))) (elt := .var 7) (own := [("w", 7)])
    (E_itrN (j := w.p.length) (by omega) (by simp only [E_var, E_cst, E_glb, E_bin, E_neg, negV_int, E_vand, E_vor, E_vone, E_vnot, E_tand, E_tor, E_tone, E_tnot, E_tval, E_cmp, E_ife, E_idx, E_nop, E_tup, E_lst, E_nil, E_cons, E_call, E_callp, E_callk, E_isi, E_bi, E_mt, asTup_tup, onB_t, onB_f, onN_nx, onN_rt, onN_bk, onN_ct, S_seq, S_skip, S_pass, S_brk, S_cont, S_set, S_setC, S_setT, S_par, S_setI, S_exp, S_ret, onBS_t, onBS_f, S_ifs, augA_int, b_add, b_addT, b_sub, c_lt, c_le, c_gt, c_ge, c_eqI, c_neI, t_int, t_bl, bi_abs, bi_int, bi_lenT, bi_lenL, bi_tupL, bi_tupT, gx0, gx1, gx2, gx3, gx4, gr0, gr1, gr2, gr3, gfr0, gfr1, st1, st2, st3, Tg.bind, Rf.bindAll, List.replicate_succ, List.replicate_zero, List.map_cons, List.map_nil, List.cons_append, List.nil_append, List.append_nil, List.set_cons_zero, List.set_cons_succ, List.getElem?_cons_zero, List.getElem?_cons_succ, List.length_cons, List.length_nil, Option.bind_some, Option.map_some, Option.bind_none, Option.map_none, if_true, Bool.false_eq_true, if_false, decide_true, decide_false, Bool.not_true, Bool.not_false, wipeE, gw0, pl])) (fun i => at_rng0) (fun a _ => rfl)
    (fun s hs => by
      have hs := List.mem_range.mp hs
      have q1 := dropT_ret (T := T) (lawrise_spec (B := B ++ T) ok (n := n) (by omega) hs) rfl
      have q2 := dropT_ret (T := T) (lawmore_spec (B := B ++ T) ok (n := n) (by omega) hs) rfl
      unfold rateV told
      by_cases h0 : 0 < seen w
      · have z0 : decide (0 < seen w) = true := decide_eq_true h0
        rw [if_pos h0, z0]
        by_cases h1 : 0 < more w s
        · have z1 : decide (0 < more w s) = true := decide_eq_true h1
          simp only [E_var, E_cst, E_glb, E_bin, E_neg, negV_int, E_vand, E_vor, E_vone, E_vnot, E_tand, E_tor, E_tone, E_tnot, E_tval, E_cmp, E_ife, E_idx, E_nop, E_tup, E_lst, E_nil, E_cons, E_call, E_callp, E_callk, E_isi, E_bi, E_mt, asTup_tup, onB_t, onB_f, onN_nx, onN_rt, onN_bk, onN_ct, S_seq, S_skip, S_pass, S_brk, S_cont, S_set, S_setC, S_setT, S_par, S_setI, S_exp, S_ret, onBS_t, onBS_f, S_ifs, augA_int, b_add, b_addT, b_sub, c_lt, c_le, c_gt, c_ge, c_eqI, c_neI, t_int, t_bl, bi_abs, bi_int, bi_lenT, bi_lenL, bi_tupL, bi_tupT, gx0, gx1, gx2, gx3, gx4, gr0, gr1, gr2, gr3, gfr0, gfr1, st1, st2, st3, Tg.bind, Rf.bindAll, List.replicate_succ, List.replicate_zero, List.map_cons, List.map_nil, List.cons_append, List.nil_append, List.append_nil, List.set_cons_zero, List.set_cons_succ, List.getElem?_cons_zero, List.getElem?_cons_succ, List.length_cons, List.length_nil, Option.bind_some, Option.map_some, Option.bind_none, Option.map_none, if_true, Bool.false_eq_true, if_false, decide_true, decide_false, Bool.not_true, Bool.not_false, t0, ne_unit, q1, q2, num_pos, z1, Bool.and_true, Bool.true_and]
        · have z1 : decide (0 < more w s) = false := decide_eq_false h1
          simp only [E_var, E_cst, E_glb, E_bin, E_neg, negV_int, E_vand, E_vor, E_vone, E_vnot, E_tand, E_tor, E_tone, E_tnot, E_tval, E_cmp, E_ife, E_idx, E_nop, E_tup, E_lst, E_nil, E_cons, E_call, E_callp, E_callk, E_isi, E_bi, E_mt, asTup_tup, onB_t, onB_f, onN_nx, onN_rt, onN_bk, onN_ct, S_seq, S_skip, S_pass, S_brk, S_cont, S_set, S_setC, S_setT, S_par, S_setI, S_exp, S_ret, onBS_t, onBS_f, S_ifs, augA_int, b_add, b_addT, b_sub, c_lt, c_le, c_gt, c_ge, c_eqI, c_neI, t_int, t_bl, bi_abs, bi_int, bi_lenT, bi_lenL, bi_tupL, bi_tupT, gx0, gx1, gx2, gx3, gx4, gr0, gr1, gr2, gr3, gfr0, gfr1, st1, st2, st3, Tg.bind, Rf.bindAll, List.replicate_succ, List.replicate_zero, List.map_cons, List.map_nil, List.cons_append, List.nil_append, List.append_nil, List.set_cons_zero, List.set_cons_succ, List.getElem?_cons_zero, List.getElem?_cons_succ, List.length_cons, List.length_nil, Option.bind_some, Option.map_some, Option.bind_none, Option.map_none, if_true, Bool.false_eq_true, if_false, decide_true, decide_false, Bool.not_true, Bool.not_false, t0, ne_unit, q1, q2, num_pos, z1, Bool.and_false]
      · have z0 : decide (0 < seen w) = false := decide_eq_false h0
        rw [if_neg h0, z0]
        simp only [E_var, E_cst, E_glb, E_bin, E_neg, negV_int, E_vand, E_vor, E_vone, E_vnot, E_tand, E_tor, E_tone, E_tnot, E_tval, E_cmp, E_ife, E_idx, E_nop, E_tup, E_lst, E_nil, E_cons, E_call, E_callp, E_callk, E_isi, E_bi, E_mt, asTup_tup, onB_t, onB_f, onN_nx, onN_rt, onN_bk, onN_ct, S_seq, S_skip, S_pass, S_brk, S_cont, S_set, S_setC, S_setT, S_par, S_setI, S_exp, S_ret, onBS_t, onBS_f, S_ifs, augA_int, b_add, b_addT, b_sub, c_lt, c_le, c_gt, c_ge, c_eqI, c_neI, t_int, t_bl, bi_abs, bi_int, bi_lenT, bi_lenL, bi_tupL, bi_tupT, gx0, gx1, gx2, gx3, gx4, gr0, gr1, gr2, gr3, gfr0, gfr1, st1, st2, st3, Tg.bind, Rf.bindAll, List.replicate_succ, List.replicate_zero, List.map_cons, List.map_nil, List.cons_append, List.nil_append, List.append_nil, List.set_cons_zero, List.set_cons_succ, List.getElem?_cons_zero, List.getElem?_cons_succ, List.length_cons, List.length_nil, Option.bind_some, Option.map_some, Option.bind_none, Option.map_none, if_true, Bool.false_eq_true, if_false, decide_true, decide_false, Bool.not_true, Bool.not_false, t0, ne_unit0, Bool.false_and]) (fun a ha _ => by simp only [E_var, E_cst, E_glb, E_bin, E_neg, negV_int, E_vand, E_vor, E_vone, E_vnot, E_tand, E_tor, E_tone, E_tnot, E_tval, E_cmp, E_ife, E_idx, E_nop, E_tup, E_lst, E_nil, E_cons, E_call, E_callp, E_callk, E_isi, E_bi, E_mt, asTup_tup, onB_t, onB_f, onN_nx, onN_rt, onN_bk, onN_ct, S_seq, S_skip, S_pass, S_brk, S_cont, S_set, S_setC, S_setT, S_par, S_setI, S_exp, S_ret, onBS_t, onBS_f, S_ifs, augA_int, b_add, b_addT, b_sub, c_lt, c_le, c_gt, c_ge, c_eqI, c_neI, t_int, t_bl, bi_abs, bi_int, bi_lenT, bi_lenL, bi_tupL, bi_tupT, gx0, gx1, gx2, gx3, gx4, gr0, gr1, gr2, gr3, gfr0, gfr1, st1, st2, st3, Tg.bind, Rf.bindAll, List.replicate_succ, List.replicate_zero, List.map_cons, List.map_nil, List.cons_append, List.nil_append, List.append_nil, List.set_cons_zero, List.set_cons_succ, List.getElem?_cons_zero, List.getElem?_cons_succ, List.length_cons, List.length_nil, Option.bind_some, Option.map_some, Option.bind_none, Option.map_none, if_true, Bool.false_eq_true, if_false, decide_true, decide_false, Bool.not_true, Bool.not_false]) (by rw [List.length_range]; omega) (by rw [List.length_range]; omega)
  rw [this]
  unfold left0 ni
  by_cases h0 : 0 < seen w
  · have z0 : decide (0 < seen w) = true := decide_eq_true h0
    rw [if_pos h0]
    simp only [z0, Bool.true_and]
  · have z0 : decide (0 < seen w) = false := decide_eq_false h0
    rw [if_neg h0]
    simp only [z0, Bool.false_and]
    simp
theorem steps_spec (ok : Ok w) (hn : 6 ≤ n) : ∃ (kf : Nat) (items : List PV) (T' : MH), Rf.run Ps gs LL n 40 [enc w, rateV w] B T = some (.ref kf, T') ∧ B.length + T.length ≤ kf ∧ rd B T' kf = some items ∧ Grp B T' kf items (steps w) ∧ ∀ k xs, rd B T k = some xs → rd B T' k = some xs := by
  obtain ⟨m, rfl⟩ : ∃ m, n = m + 1 := ⟨n - 1, by omega⟩
  have hb := big_L
  have h4 := left0_len ok
  have e1 := left_comp (B := B) (T := T) (n := m) ok (by omega)
  have mk0 : mk B (T ++ [ni (left0 w)]) [] = some (.ref (B.length + (T ++ [ni (left0 w)]).length), (T ++ [ni (left0 w)]) ++ [[]]) := mk_ok (Nat.zero_le _)
  have l1 : (T ++ [ni (left0 w)]).length = T.length + 1 := by rw [List.length_append]; rfl
  rw [l1] at mk0
  have hk0 : rd B ((T ++ [ni (left0 w)]) ++ [[]]) (B.length + T.length) = some (ni (left0 w)) := rd_app rd_new
  have hf0 : rd B ((T ++ [ni (left0 w)]) ++ [[]]) (B.length + (T.length + 1)) = some [] := by rw [← l1]; exact rd_new
  have nil_len : (ni (left0 w)).length = (left0 w).length := List.length_map ..
  obtain ⟨σ', T', e, kl, c4, c5, c6, items, f1, f2, f3, f4, f5, f6⟩ := for_inv (B := B) (it := .rng 0 (left0 w).length) (tg := .nm 4) (b := fun σ T => semS (Rf.run Ps gs LL m) gs LL bStep σ B T) (m := (left0 w).length)
    (fun i σ T' => ∃ kl c4 c5 c6 items, σ = [some (enc w), some (rateV w), some (.ref kl), some (.ref (B.length + (T.length + 1))), c4, c5, c6, none, none] ∧ kl ≠ B.length + (T.length + 1) ∧ rd B T' kl = some (ni (stpN w (left0 w, []) i).1) ∧ rd B T' (B.length + (T.length + 1)) = some items ∧ Grp B T' (B.length + (T.length + 1)) items (stpN w (left0 w, []) i).2 ∧ ∀ k xs, rd B T k = some xs → rd B T' k = some xs)
    (by
      rintro i σ T' hi ⟨kl, c4, c5, c6, items, rfl, h1, h2, h3, h4', h5⟩
      obtain ⟨s1, s2, s3⟩ := stp_sub (w := w) i
      have hil : items.length ≤ 10 := by rw [Grp.len h4']; omega
      by_cases hne : (stpN w (left0 w, []) i).1 = []
      · have es : stpN w (left0 w, []) (i + 1) = stpN w (left0 w, []) i := if_pos hne
        rw [es]
        have nl : ni (stpN w (left0 w, []) i).1 = [] := by rw [hne]; rfl
        rw [nl] at h2
        refine ⟨_, _, [some (enc w), some (rateV w), some (.ref kl), some (.ref (B.length + (T.length + 1))), some (.int (0 + i)), c5, c6, none, none], T', rng_at hi, rfl, .inl ?_, kl, some (.int (0 + i)), c5, c6, items, rfl, h1, by rw [nl]; exact h2, h3, h4', h5⟩
        have z : decide ((0 : Int) < ((0 : Nat) : Int)) = false := rfl
        simp only [E_var, E_cst, E_glb, E_bin, E_neg, negV_int, E_vand, E_vor, E_vone, E_vnot, E_tand, E_tor, E_tone, E_tnot, E_tval, E_cmp, E_ife, E_idx, E_nop, E_tup, E_lst, E_nil, E_cons, E_call, E_callp, E_callk, E_isi, E_bi, E_mt, asTup_tup, onB_t, onB_f, onN_nx, onN_rt, onN_bk, onN_ct, S_seq, S_skip, S_pass, S_brk, S_cont, S_set, S_setC, S_setT, S_par, S_setI, S_exp, S_ret, onBS_t, onBS_f, S_ifs, augA_int, b_add, b_addT, b_sub, c_lt, c_le, c_gt, c_ge, c_eqI, c_neI, t_int, t_bl, bi_abs, bi_int, bi_lenT, bi_lenL, bi_tupL, bi_tupT, gx0, gx1, gx2, gx3, gx4, gr0, gr1, gr2, gr3, gfr0, gfr1, st1, st2, st3, Tg.bind, Rf.bindAll, List.replicate_succ, List.replicate_zero, List.map_cons, List.map_nil, List.cons_append, List.nil_append, List.append_nil, List.set_cons_zero, List.set_cons_succ, List.getElem?_cons_zero, List.getElem?_cons_succ, List.length_cons, List.length_nil, Option.bind_some, Option.map_some, Option.bind_none, Option.map_none, if_true, Bool.false_eq_true, if_false, decide_true, decide_false, Bool.not_true, Bool.not_false, bStep, h2, z]
      · have es : stpN w (left0 w, []) (i + 1) = (rest w (stpN w (left0 w, []) i).1, (stpN w (left0 w, []) i).2 ++ [(grp w (stpN w (left0 w, []) i).1, high w (stpN w (left0 w, []) i).1)]) := if_neg hne
        rw [es]
        obtain ⟨kl', kg, c5', c6', T2, e, q1, q2, q3, q4, q5, q6⟩ := step_turn (B := B) (T := T') (n := m) ok (by omega) (l := (stpN w (left0 w, []) i).1) (fun s hs => ⟨(left0_mem (s1 s hs)).1, (told_more (left0_mem (s1 s hs)).2).2⟩) (by omega) hne h2 h3 (by omega) h1 hil (rt := rateV w) (some (.int (0 + i))) c5 c6
        refine ⟨_, _, _, T2, rng_at hi, rfl, .inl e, kl', _, c5', c6', _, rfl, q2, q1, q5, ?_, fun k xs h => ?_⟩
        · exact Grp.snoc (s := (grp w (stpN w (left0 w, []) i).1, high w (stpN w (left0 w, []) i).1)) q4 q3 (Grp.mono q6 h4')
        · have := rd_lt h
          exact q6 k xs (by omega) (h5 k xs h))
    (by
      rintro σ T' ⟨kl, c4, c5, c6, items, rfl, _⟩
      exact rng_end (Nat.le_refl _))
    (left0 w).length LL 0 [some (enc w), some (rateV w), some (.ref (B.length + T.length)), some (.ref (B.length + (T.length + 1))), none, none, none, none, none] ((T ++ [ni (left0 w)]) ++ [[]]) (by omega) (by omega) ⟨B.length + T.length, none, none, none, [], rfl, by omega, hk0, hf0, trivial, fun k xs h => rd_app (rd_app h)⟩
  subst f1
  have e2 : semS (Rf.run Ps gs LL m) gs LL (.for_ (.nm 4) (.itr (.cons (.bi .len (.cons (.var 2) .nil)) .nil)) bStep) [some (enc w), some (rateV w), some (.ref (B.length + T.length)), some (.ref (B.length + (T.length + 1))), none, none, none, none, none] B ((T ++ [ni (left0 w)]) ++ [[]]) = some (.nx, [some (enc w), some (rateV w), some (.ref kl), some (.ref (B.length + (T.length + 1))), c4, c5, c6, none, none], T') := by
    rw [S_for, E_itrN (j := (left0 w).length) (T1 := (T ++ [ni (left0 w)]) ++ [[]]) (by omega) (by simp only [E_var, E_cst, E_glb, E_bin, E_neg, negV_int, E_vand, E_vor, E_vone, E_vnot, E_tand, E_tor, E_tone, E_tnot, E_tval, E_cmp, E_ife, E_idx, E_nop, E_tup, E_lst, E_nil, E_cons, E_call, E_callp, E_callk, E_isi, E_bi, E_mt, asTup_tup, onB_t, onB_f, onN_nx, onN_rt, onN_bk, onN_ct, S_seq, S_skip, S_pass, S_brk, S_cont, S_set, S_setC, S_setT, S_par, S_setI, S_exp, S_ret, onBS_t, onBS_f, S_ifs, augA_int, b_add, b_addT, b_sub, c_lt, c_le, c_gt, c_ge, c_eqI, c_neI, t_int, t_bl, bi_abs, bi_int, bi_lenT, bi_lenL, bi_tupL, bi_tupT, gx0, gx1, gx2, gx3, gx4, gr0, gr1, gr2, gr3, gfr0, gfr1, st1, st2, st3, Tg.bind, Rf.bindAll, List.replicate_succ, List.replicate_zero, List.map_cons, List.map_nil, List.cons_append, List.nil_append, List.append_nil, List.set_cons_zero, List.set_cons_succ, List.getElem?_cons_zero, List.getElem?_cons_succ, List.length_cons, List.length_nil, Option.bind_some, Option.map_some, Option.bind_none, Option.map_none, if_true, Bool.false_eq_true, if_false, decide_true, decide_false, Bool.not_true, Bool.not_false, hk0, nil_len])]
    exact e
  refine ⟨B.length + (T.length + 1), items, T', run_rt (σ := [some (enc w), some (rateV w), some (.ref kl), some (.ref (B.length + (T.length + 1))), c4, c5, c6, none, none]) (fn := ⟨2, 9, b__law_steps⟩) rfl rfl ?_, by omega, f4, f5, f6⟩
  simp only [bStep] at e2
  simp only [E_var, E_cst, E_glb, E_bin, E_neg, negV_int, E_vand, E_vor, E_vone, E_vnot, E_tand, E_tor, E_tone, E_tnot, E_tval, E_cmp, E_ife, E_idx, E_nop, E_tup, E_lst, E_nil, E_cons, E_call, E_callp, E_callk, E_isi, E_bi, E_mt, asTup_tup, onB_t, onB_f, onN_nx, onN_rt, onN_bk, onN_ct, S_seq, S_skip, S_pass, S_brk, S_cont, S_set, S_setC, S_setT, S_par, S_setI, S_exp, S_ret, onBS_t, onBS_f, S_ifs, augA_int, b_add, b_addT, b_sub, c_lt, c_le, c_gt, c_ge, c_eqI, c_neI, t_int, t_bl, bi_abs, bi_int, bi_lenT, bi_lenL, bi_tupL, bi_tupT, gx0, gx1, gx2, gx3, gx4, gr0, gr1, gr2, gr3, gfr0, gfr1, st1, st2, st3, Tg.bind, Rf.bindAll, List.replicate_succ, List.replicate_zero, List.map_cons, List.map_nil, List.cons_append, List.nil_append, List.append_nil, List.set_cons_zero, List.set_cons_succ, List.getElem?_cons_zero, List.getElem?_cons_succ, List.length_cons, List.length_nil, Option.bind_some, Option.map_some, Option.bind_none, Option.map_none, if_true, Bool.false_eq_true, if_false, decide_true, decide_false, Bool.not_true, Bool.not_false, b__law_steps, e1, mk0, e2]
end
end K36
end
section
/-! k36: the law's curve. -/
namespace K36
open PySem Rf Pl
section
variable {w : Wd} {s n : Nat} {B T : MH} {L : Nat} {CF : Nat → List PV → MH → MH → M} {G : List (Str × PV)}
theorem best_eq (ok : Ok w) : (if more w s = 0 then topR [(gw w s).1, (gw w s).2] else (gw w s).1) = actw w s := by
  unfold actw free
  by_cases h : more w s = 0
  · rw [if_pos h, decide_eq_true h]
    show (if (if (gw w s).1 < (gw w s).1 then (gw w s).1 else (gw w s).1) < (gw w s).2 then (gw w s).2 else (if (gw w s).1 < (gw w s).1 then (gw w s).1 else (gw w s).1)) = _
    rw [if_neg Rat.lt_irrefl]
    by_cases h1 : 0 < rise w s
    · have h2 : (gw w s).1 < (gw w s).2 := by
        unfold rise at h1
        grind
      rw [if_pos h2, decide_eq_true h1]; rfl
    · have h2 : ¬ (gw w s).1 < (gw w s).2 := fun z => h1 (by unfold rise; grind)
      rw [if_neg h2, decide_eq_false h1]; rfl
  · rw [if_neg h, decide_eq_false h, Bool.and_false]; rfl
def bCur1 : S := (.seq (.set 5 (.ife (.cmp .eq (.idx (.callp 38 (.cons (.var 0) (.cons (.var 4) .nil))) (.cst (.int 0))) (.cst (.int 0))) (.callp 35 (.cons (.idx (.idx (.var 0) (.cst (.int 3))) (.var 4)) .nil)) (.idx (.idx (.idx (.var 0) (.cst (.int 3))) (.var 4)) (.cst (.int 0))))) (.seq (.set 2 (.callp 28 (.cons (.var 2) (.cons (.callp 30 (.cons (.idx (.idx (.var 0) (.cst (.int 0))) (.var 4)) (.cons (.var 5) .nil))) .nil)))) .skip))
theorem cur1_turn (ok : Ok w) (hn : 5 ≤ n) (hs : s < w.p.length) {z : Rat} {k : Nat} (hk : k ≤ 4000) (hz : Bd k z) {rt pu : PV} {c5 c6 c7 c8 c9 : Option PV} :
    ∃ d5, semS (Rf.run Ps gs LL n) gs LL bCur1 [some (enc w), some rt, some (fr z), some pu, some (.int (s : Nat)), c5, c6, c7, c8, c9] B T = some (.nx, [some (enc w), some rt, some (fr (z + pw w s * actw w s)), some pu, some (.int (s : Nat)), d5, c6, c7, c8, c9], T) := by
  have hb := big_L
  have q1 := dropT_ret (T := T) (lawmore_spec (B := B ++ T) ok (n := n) (by omega) hs) rfl
  have q2 := dropT_ret (T := T) (mulL (n := n) (by omega) (pw w s) (actw w s) 14 14 (B ++ T) (bd_p ok hs).1 (actw_bd ok hs) (by decide) trivial) rfl
  have q3 := dropT_ret (T := T) (addL (n := n) (by omega) z (pw w s * actw w s) k 28 (B ++ T) hz ((bd_p ok hs).1.mul (actw_bd ok hs)) (by omega) trivial) rfl
  have be := best_eq (s := s) ok
  refine ⟨some (fr (actw w s)), ?_⟩
  by_cases h : more w s = 0
  · have z1 : decide (more w s = 0) = true := decide_eq_true h
    rw [if_pos h] at be
    have q4 := dropT_ret (T := T) (topL (n := n) (by omega) (encP (gw w s)) [(gw w s).1, (gw w s).2] 14 (B ++ T) (.inl rfl) (by simp) (fun q hq => by
      simp only [List.mem_cons, List.not_mem_nil, or_false] at hq
      rcases hq with rfl | rfl
      · exact (bd_g ok hs).1
      · exact (bd_g ok hs).2) (by decide) (by show 2 < LL; omega)) rfl
    rw [be] at q4
    simp only [E_var, E_cst, E_glb, E_bin, E_neg, negV_int, E_vand, E_vor, E_vone, E_vnot, E_tand, E_tor, E_tone, E_tnot, E_tval, E_cmp, E_ife, E_idx, E_nop, E_tup, E_lst, E_nil, E_cons, E_call, E_callp, E_callk, E_isi, E_bi, E_mt, asTup_tup, onB_t, onB_f, onN_nx, onN_rt, onN_bk, onN_ct, S_seq, S_skip, S_pass, S_brk, S_cont, S_set, S_setC, S_setT, S_par, S_setI, S_exp, S_ret, onBS_t, onBS_f, S_ifs, augA_int, b_add, b_addT, b_sub, c_lt, c_le, c_gt, c_ge, c_eqI, c_neI, t_int, t_bl, bi_abs, bi_int, bi_lenT, bi_lenL, bi_tupL, bi_tupT, gx0, gx1, gx2, gx3, gx4, gr0, gr1, gr2, gr3, gfr0, gfr1, st1, st2, st3, Tg.bind, Rf.bindAll, List.replicate_succ, List.replicate_zero, List.map_cons, List.map_nil, List.cons_append, List.nil_append, List.append_nil, List.set_cons_zero, List.set_cons_succ, List.getElem?_cons_zero, List.getElem?_cons_succ, List.length_cons, List.length_nil, Option.bind_some, Option.map_some, Option.bind_none, Option.map_none, if_true, Bool.false_eq_true, if_false, decide_true, decide_false, Bool.not_true, Bool.not_false, bCur1, q1, num_zero, z1, gw3, g_g ok hs, q4, gw0, g_p hs, q2, q3]
  · have z1 : decide (more w s = 0) = false := decide_eq_false h
    rw [if_neg h] at be
    simp only [E_var, E_cst, E_glb, E_bin, E_neg, negV_int, E_vand, E_vor, E_vone, E_vnot, E_tand, E_tor, E_tone, E_tnot, E_tval, E_cmp, E_ife, E_idx, E_nop, E_tup, E_lst, E_nil, E_cons, E_call, E_callp, E_callk, E_isi, E_bi, E_mt, asTup_tup, onB_t, onB_f, onN_nx, onN_rt, onN_bk, onN_ct, S_seq, S_skip, S_pass, S_brk, S_cont, S_set, S_setC, S_setT, S_par, S_setI, S_exp, S_ret, onBS_t, onBS_f, S_ifs, augA_int, b_add, b_addT, b_sub, c_lt, c_le, c_gt, c_ge, c_eqI, c_neI, t_int, t_bl, bi_abs, bi_int, bi_lenT, bi_lenL, bi_tupL, bi_tupT, gx0, gx1, gx2, gx3, gx4, gr0, gr1, gr2, gr3, gfr0, gfr1, st1, st2, st3, Tg.bind, Rf.bindAll, List.replicate_succ, List.replicate_zero, List.map_cons, List.map_nil, List.cons_append, List.nil_append, List.append_nil, List.set_cons_zero, List.set_cons_succ, List.getElem?_cons_zero, List.getElem?_cons_succ, List.length_cons, List.length_nil, Option.bind_some, Option.map_some, Option.bind_none, Option.map_none, if_true, Bool.false_eq_true, if_false, decide_true, decide_false, Bool.not_true, Bool.not_false, bCur1, q1, num_zero, z1, gw3, g_g ok hs, ge0, be, gw0, g_p hs, q2, q3]
/-- the debt of a group -/
def debt (w : Wd) (g : List Nat) : Rat := (g.map fun s => pw w s * more w s).sum
theorem debt_bd (ok : Ok w) {g : List Nat} (hg : ∀ s ∈ g, s < w.p.length) (hl : g.length ≤ 4) : Bd 177 (debt w g) := by
  have h := Bd.sum (t := 43) (qs := g.map fun s => pw w s * more w s) fun q hq => by
    obtain ⟨s, hs, rfl⟩ := List.mem_map.mp hq
    exact (bd_p ok (hg s hs)).1.mul (bd_more ok (hg s hs))
  rw [List.length_map] at h
  exact h.mono (by have : g.length * (43 + 1) ≤ 4 * (43 + 1) := Nat.mul_le_mul_right _ hl; omega)
def bCur2 : S := (.seq (.set 9 (.callp 34 (.cons (.comp (.callp 30 (.cons (.idx (.idx (.var 0) (.cst (.int 0))) (.var 4)) (.cons (.callp 38 (.cons (.var 0) (.cons (.var 4) .nil))) .nil))) (.gen (.nm 4) (.itv (.var 7)) .nop .gnil) [("w", 4)]) .nil))) (.seq (.par [3, 2] (.cons (.callp 28 (.cons (.var 3) (.cons (.callp 30 (.cons (.var 9) (.cons (.var 1) .nil))) .nil))) (.cons (.callp 28 (.cons (.var 2) (.cons (.callp 30 (.cons (.var 9) (.cons (.var 8) .nil))) .nil))) .nil))) (.seq (.exp (.mt .append (.var 6) (.cons (.tup (.cons (.var 3) (.cons (.var 2) .nil))) .nil))) .skip)))
theorem cur2_turn (ok : Ok w) (hn : 5 ≤ n) {g : List Nat} (hg : ∀ s ∈ g, s < w.p.length) (hgl : g.length ≤ 4) {r q pu z : Rat} (hr : Bd 31 r) (hq : Bd 58 q) {k : Nat} (hk : k ≤ 4000) (hp : Bd k pu) (hz : Bd k z) {kg kc : Nat} {items : List PV} (hkg : rd B T kg = some (ni g)) (hkc : rd B T kc = some items) (hc0 : B.length ≤ kc) (hne : kg ≠ kc) (hil : items.length ≤ 10) {c4 c5 c9 : Option PV} :
    ∃ d9 T', semS (Rf.run Ps gs LL n) gs LL bCur2 [some (enc w), some (fr r), some (fr z), some (fr pu), c4, c5, some (.ref kc), some (.ref kg), some (fr q), c9] B T = some (.nx, [some (enc w), some (fr r), some (fr (z + debt w g * q)), some (fr (pu + debt w g * r)), c4, c5, some (.ref kc), some (.ref kg), some (fr q), d9], T') ∧
      rd B T' kc = some (items ++ [encP (pu + debt w g * r, z + debt w g * q)]) ∧ ∀ j xs, j ≠ kc → rd B T j = some xs → rd B T' j = some xs := by
  have hb := big_L
  have hbig : 200 < big := by decide +kernel
  have e1 : (sem (Rf.run Ps gs LL n) gs LL (.comp (.callp 30 (.cons (.idx (.idx (.var 0) (.cst (.int 0))) (.var 4)) (.cons (.callp 38 (.cons (.var 0) (.cons (.var 4) .nil))) .nil))) (.gen (.nm 4) (.itv (.var 7)) .nop .gnil) [("w", 4)])).e [some (enc w), some (fr r), some (fr z), some (fr pu), c4, c5, some (.ref kc), some (.ref kg), some (fr q), c9] B T = some (.ref (B.length + T.length), T ++ [(g.map fun s => pw w s * more w s).map fr]) := by
    have := comp_pure (CF := Rf.run Ps gs LL n) (G := gs) (L := LL) (B := B) (T := T) (T1 := T) (as := g) (enc := fun (s : Nat) => PV.int s) (g := fun s => fr (pw w s * more w s)) (p := fun _ => true) (bd := fun s => [some (enc w), some (fr r), some (fr z), some (fr pu), some (.int (s : Nat)), c5, some (.ref kc), some (.ref kg), some (fr q), c9]) (σ := [some (enc w), some (fr r), some (fr z), some (fr pu), c4, c5, some (.ref kc), some (.ref kg), some (fr q), c9]) (tg := .nm 4) (it := .itv (.var 7)) (test := .nop) (elt := .callp 30 (.cons (.idx (.idx (.var 0) (.cst (.int 0))) (.var 4)) (.cons (.callp 38 (.cons (.var 0) (.cons (.var 4) .nil))) .nil))) (own := [("w", 4)])
      (I_itvL (by simp only [E_var, E_cst, E_glb, E_bin, E_neg, negV_int, E_vand, E_vor, E_vone, E_vnot, E_tand, E_tor, E_tone, E_tnot, E_tval, E_cmp, E_ife, E_idx, E_nop, E_tup, E_lst, E_nil, E_cons, E_call, E_callp, E_callk, E_isi, E_bi, E_mt, asTup_tup, onB_t, onB_f, onN_nx, onN_rt, onN_bk, onN_ct, S_seq, S_skip, S_pass, S_brk, S_cont, S_set, S_setC, S_setT, S_par, S_setI, S_exp, S_ret, onBS_t, onBS_f, S_ifs, augA_int, b_add, b_addT, b_sub, c_lt, c_le, c_gt, c_ge, c_eqI, c_neI, t_int, t_bl, bi_abs, bi_int, bi_lenT, bi_lenL, bi_tupL, bi_tupT, gx0, gx1, gx2, gx3, gx4, gr0, gr1, gr2, gr3, gfr0, gfr1, st1, st2, st3, Tg.bind, Rf.bindAll, List.replicate_succ, List.replicate_zero, List.map_cons, List.map_nil, List.cons_append, List.nil_append, List.append_nil, List.set_cons_zero, List.set_cons_succ, List.getElem?_cons_zero, List.getElem?_cons_succ, List.length_cons, List.length_nil, Option.bind_some, Option.map_some, Option.bind_none, Option.map_none, if_true, Bool.false_eq_true, if_false, decide_true, decide_false, Bool.not_true, Bool.not_false, wipeE]) hkg) (fun i => at_lref hkg) (fun a _ => rfl) (fun a _ => rfl) (fun a ha _ => by
        have h1 := hg a ha
        have q2 := dropT_ret (T := T) (lawmore_spec (B := B ++ T) ok (n := n) (by omega) h1) rfl
        have q3 := dropT_ret (T := T) (mulL (n := n) (by omega) (pw w a) (more w a) 14 29 (B ++ T) (bd_p ok h1).1 (bd_more ok h1) (by decide) trivial) rfl
        simp only [E_var, E_cst, E_glb, E_bin, E_neg, negV_int, E_vand, E_vor, E_vone, E_vnot, E_tand, E_tor, E_tone, E_tnot, E_tval, E_cmp, E_ife, E_idx, E_nop, E_tup, E_lst, E_nil, E_cons, E_call, E_callp, E_callk, E_isi, E_bi, E_mt, asTup_tup, onB_t, onB_f, onN_nx, onN_rt, onN_bk, onN_ct, S_seq, S_skip, S_pass, S_brk, S_cont, S_set, S_setC, S_setT, S_par, S_setI, S_exp, S_ret, onBS_t, onBS_f, S_ifs, augA_int, b_add, b_addT, b_sub, c_lt, c_le, c_gt, c_ge, c_eqI, c_neI, t_int, t_bl, bi_abs, bi_int, bi_lenT, bi_lenL, bi_tupL, bi_tupT, gx0, gx1, gx2, gx3, gx4, gr0, gr1, gr2, gr3, gfr0, gfr1, st1, st2, st3, Tg.bind, Rf.bindAll, List.replicate_succ, List.replicate_zero, List.map_cons, List.map_nil, List.cons_append, List.nil_append, List.append_nil, List.set_cons_zero, List.set_cons_succ, List.getElem?_cons_zero, List.getElem?_cons_succ, List.length_cons, List.length_nil, Option.bind_some, Option.map_some, Option.bind_none, Option.map_none, if_true, Bool.false_eq_true, if_false, decide_true, decide_false, Bool.not_true, Bool.not_false, gw0, g_p h1, q2, q3]) (by omega) (by omega)
    rw [filter_true] at this
    rw [this, List.map_map]; rfl
  have r1 : rd B (T ++ [(g.map fun s => pw w s * more w s).map fr]) (B.length + T.length) = some ((g.map fun s => pw w s * more w s).map fr) := rd_new
  have e2 := dropT_ret (T := T ++ [(g.map fun s => pw w s * more w s).map fr]) (sumL (n := n) (by omega) (B := B ++ (T ++ [(g.map fun s => pw w s * more w s).map fr])) (a := .ref (B.length + T.length)) (qs := g.map fun s => pw w s * more w s) (t := 43) (.inr ⟨_, rfl, r1⟩) (fun x hx => by
    obtain ⟨s, hs, rfl⟩ := List.mem_map.mp hx
    exact (bd_p ok (hg s hs)).1.mul (bd_more ok (hg s hs))) (by
      rw [List.length_map]
      have : (g.length + 1) * (43 + 1) ≤ 5 * (43 + 1) := Nat.mul_le_mul_right _ (by omega)
      omega)) rfl
  have e2 : dropT (Rf.run Ps gs LL n 34 [.ref (B.length + T.length)] (B ++ (T ++ [(g.map fun s => pw w s * more w s).map fr])) []) (T ++ [(g.map fun s => pw w s * more w s).map fr]) = some (fr (debt w g), T ++ [(g.map fun s => pw w s * more w s).map fr]) := e2
  have c1 : rd B (T ++ [(g.map fun s => pw w s * more w s).map fr]) kc = some items := rd_app hkc
  have kp1 : ∀ j xs, rd B T j = some xs → rd B (T ++ [(g.map fun s => pw w s * more w s).map fr]) j = some xs := fun j xs h => rd_app h
  generalize T ++ [(g.map fun s => pw w s * more w s).map fr] = T1 at e1 e2 c1 kp1
  have db := debt_bd ok hg hgl
  have e3 := dropT_ret (T := T1) (mulL (n := n) (by omega) (debt w g) r 177 31 (B ++ T1) db hr (by decide) trivial) rfl
  have e4 := dropT_ret (T := T1) (addL (n := n) (by omega) pu (debt w g * r) k 208 (B ++ T1) hp (db.mul hr) (by omega) trivial) rfl
  have e5 := dropT_ret (T := T1) (mulL (n := n) (by omega) (debt w g) q 177 58 (B ++ T1) db hq (by decide) trivial) rfl
  have e6 := dropT_ret (T := T1) (addL (n := n) (by omega) z (debt w g * q) k 235 (B ++ T1) hz (db.mul hq) (by omega) trivial) rfl
  have a1 := append_put (v := .tup [fr (pu + debt w g * r), fr (z + debt w g * q)]) c1 hc0 (by omega)
  refine ⟨some (fr (debt w g)), put B T1 kc (items ++ [.tup [fr (pu + debt w g * r), fr (z + debt w g * q)]]), ?_, rd_put c1 hc0, fun j xs h e => by rw [rd_put_ne h hc0]; exact kp1 j xs e⟩
  simp only [E_var, E_cst, E_glb, E_bin, E_neg, negV_int, E_vand, E_vor, E_vone, E_vnot, E_tand, E_tor, E_tone, E_tnot, E_tval, E_cmp, E_ife, E_idx, E_nop, E_tup, E_lst, E_nil, E_cons, E_call, E_callp, E_callk, E_isi, E_bi, E_mt, asTup_tup, onB_t, onB_f, onN_nx, onN_rt, onN_bk, onN_ct, S_seq, S_skip, S_pass, S_brk, S_cont, S_set, S_setC, S_setT, S_par, S_setI, S_exp, S_ret, onBS_t, onBS_f, S_ifs, augA_int, b_add, b_addT, b_sub, c_lt, c_le, c_gt, c_ge, c_eqI, c_neI, t_int, t_bl, bi_abs, bi_int, bi_lenT, bi_lenL, bi_tupL, bi_tupT, gx0, gx1, gx2, gx3, gx4, gr0, gr1, gr2, gr3, gfr0, gfr1, st1, st2, st3, Tg.bind, Rf.bindAll, List.replicate_succ, List.replicate_zero, List.map_cons, List.map_nil, List.cons_append, List.nil_append, List.append_nil, List.set_cons_zero, List.set_cons_succ, List.getElem?_cons_zero, List.getElem?_cons_succ, List.length_cons, List.length_nil, Option.bind_some, Option.map_some, Option.bind_none, Option.map_none, if_true, Bool.false_eq_true, if_false, decide_true, decide_false, Bool.not_true, Bool.not_false, bCur2, e1, e2, e3, e4, e5, e6, tup2, a1]
end
end K36
end
section
/-! k36: the law's curve, whole. -/
namespace K36
open PySem Rf Pl
section
variable {w : Wd} {s n : Nat} {B T : MH} {L : Nat} {CF : Nat → List PV → MH → MH → M} {G : List (Str × PV)}
def cstep (w : Wd) (f : List (Rat × Rat) × (Rat × Rat)) (g : List Nat × Rat) : List (Rat × Rat) × (Rat × Rat) := (f.1 ++ [(f.2.1 + debt w g.1 * (1 / seen w), f.2.2 + debt w g.1 * g.2)], (f.2.1 + debt w g.1 * (1 / seen w), f.2.2 + debt w g.1 * g.2))
def C0 (w : Wd) : List (Rat × Rat) × (Rat × Rat) := ([(0, fgain w)], (0, fgain w))
def curveL (w : Wd) : List (Rat × Rat) := ((steps w).foldl (cstep w) (C0 w)).1
theorem Grp.get {kf : Nat} : ∀ {xs : List PV} {ss : List (List Nat × Rat)} {i : Nat} (h : i < ss.length), Grp B T kf xs ss → ∃ g, xs[i]? = some (.tup [.ref g, fr ss[i].2]) ∧ rd B T g = some (ni ss[i].1)
  | [], [], i, h, _ => by cases h
  | x :: xs, s :: ss, 0, _, ⟨⟨g, e1, e2, e3⟩, r⟩ => ⟨g, by rw [e1]; rfl, e3⟩
  | x :: xs, s :: ss, i + 1, h, ⟨_, r⟩ => Grp.get (xs := xs) (ss := ss) (i := i) (by simpa using h) r
  | [], _ :: _, _, _, r => r.elim
  | _ :: _, [], _, _, r => r.elim
theorem steps_mem (ok : Ok w) : ∀ i, ∀ g ∈ (stpN w (left0 w, []) i).2, (∀ s ∈ g.1, s < w.p.length) ∧ g.1.length ≤ 4 ∧ Bd 58 g.2 := by
  intro i
  induction i with
  | zero => intro g hg; cases hg
  | succ i ih =>
    obtain ⟨s1, s2, s3⟩ := stp_sub (w := w) i
    have h4 := left0_len ok
    intro g hg
    have hg : g ∈ (stp w (stpN w (left0 w, []) i)).2 := hg
    unfold stp at hg
    split at hg
    · exact ih g hg
    · rename_i hne
      rcases List.mem_append.mp hg with h | h
      · exact ih g h
      · have e : g = (grp w (stpN w (left0 w, []) i).1, high w (stpN w (left0 w, []) i).1) := by simpa using h
        subst e
        exact ⟨fun s hs => (left0_mem (s1 s (List.mem_filter.mp hs).1)).1, Nat.le_trans (List.length_filter_le _ _) (by omega), high_bd ok (fun s hs => (left0_mem (s1 s hs)).1) hne⟩
theorem steps_len (ok : Ok w) : (steps w).length ≤ 4 := Nat.le_trans (stp_sub _).2.2 (left0_len ok)
theorem steps_seen {i : Nat} (h : i < (steps w).length) : 0 < seen w := by
  rcases Classical.em (0 < seen w) with q | q
  · exact q
  · have e : left0 w = [] := if_neg q
    unfold steps at h
    rw [e] at h
    cases h
theorem ni_ne {g : List Nat} {x : Rat × Rat} {r : List PV} (h : ni g = encP x :: r) : False := by
  cases g with
  | nil => cases h
  | cons a l => cases h
theorem cf_len (i : Nat) (hi : i ≤ (steps w).length) : (((steps w).take i).foldl (cstep w) (C0 w)).1.length = i + 1 := by
  induction i with
  | zero => rfl
  | succ i ih =>
    rw [foldl_takeA (show i < (steps w).length by omega)]
    show (_ ++ [_]).length = _
    rw [List.length_append, ih (by omega)]; rfl
theorem cf_bd (ok : Ok w) : ∀ i, i ≤ (steps w).length → Bd (120 + 240 * i) (((steps w).take i).foldl (cstep w) (C0 w)).2.1 ∧ Bd (120 + 240 * i) (((steps w).take i).foldl (cstep w) (C0 w)).2.2 := by
  intro i
  induction i with
  | zero => exact fun _ => ⟨Bd.zero (by decide), fgain_bd ok⟩
  | succ i ih =>
    intro hi
    obtain ⟨h1, h2⟩ := ih (by omega)
    have hi' : i < (steps w).length := by omega
    have hm := steps_mem ok (left0 w).length (steps w)[i] (show (steps w)[i] ∈ steps w from List.getElem_mem hi')
    rw [foldl_takeA (show i < (steps w).length by omega)]
    have db := debt_bd ok hm.1 hm.2.1
    exact ⟨(h1.add (db.mul ((Bd.one (k := 1) (by decide)).div (seen_bd ok)))).mono (by omega), (h2.add (db.mul hm.2.2)).mono (by omega)⟩
theorem bindC {x y : PV} {v0 v1 v2 v3 v4 v5 v6 v7 v8 v9 : Option PV} : (Tg.tp [7, 8]).bind (.tup [x, y]) [v0, v1, v2, v3, v4, v5, v6, v7, v8, v9] = some [v0, v1, v2, v3, v4, v5, v6, some x, some y, v9] := rfl
theorem curve_spec (ok : Ok w) (hn : 7 ≤ n) : Ret Ps gs LL n 42 [enc w, rateV w] B (.tup ((curveL w).map encP)) := by
  obtain ⟨m, rfl⟩ : ∃ m, n = m + 1 := ⟨n - 1, by omega⟩
  have hb := big_L
  have hs4 := ok.s4
  have h4 := steps_len ok
  have pl : (w.p.map fr).length = w.p.length := List.length_map ..
  -- the free gain
  obtain ⟨σ1, T1, e1, z, c4, c5, f1, f2, f3⟩ := for_inv (B := B) (it := .rng 0 w.p.length) (tg := .nm 4) (b := fun σ T => semS (Rf.run Ps gs LL m) gs LL bCur1 σ B T) (m := w.p.length)
    (fun i σ T' => ∃ z c4 c5, σ = [some (enc w), some (rateV w), some (fr z), some (fr 0), c4, c5, none, none, none, none] ∧ T' = [] ∧ z = ((List.range i).map fun s => pw w s * actw w s).sum)
    (by
      rintro i σ T' hi ⟨z, c4, c5, rfl, rfl, ez⟩
      have bz : Bd 120 z := by
        have h := Bd.sum (t := 28) (qs := (List.range i).map fun s => pw w s * actw w s) fun q hq => by
          obtain ⟨j, hj, rfl⟩ := List.mem_map.mp hq
          have hj := List.mem_range.mp hj
          exact (bd_p ok (by omega)).1.mul (actw_bd ok (by omega))
        rw [List.length_map, List.length_range, ← ez] at h
        exact h.mono (by have : i * (28 + 1) ≤ 4 * (28 + 1) := Nat.mul_le_mul_right _ (by omega); omega)
      obtain ⟨d5, e⟩ := cur1_turn (B := B) (T := []) (n := m) ok (by omega) hi (by omega) bz (rt := rateV w) (pu := fr 0) (c5 := c5) (c6 := none) (c7 := none) (c8 := none) (c9 := none)
      refine ⟨_, _, _, _, rng_at hi, rfl, .inl ?_, z + pw w i * actw w i, some (.int (i : Nat)), d5, rfl, rfl, ?_⟩
      · rw [Int.zero_add]; exact e
      · rw [List.range_succ, List.map_append, List.sum_append, ← ez]; simp [Rat.add_zero])
    (by
      rintro σ T' ⟨z, c4, c5, rfl, rfl, _⟩
      exact rng_end (Nat.le_refl _))
    w.p.length LL 0 [some (enc w), some (rateV w), some (fr 0), some (fr 0), none, none, none, none, none, none] [] (by omega) (by omega) ⟨0, none, none, rfl, rfl, rfl⟩
  subst f1 f2
  have ez : z = fgain w := f3
  subst ez
  have e2 : semS (Rf.run Ps gs LL m) gs LL (.for_ (.nm 4) (.itr (.cons (.bi .len (.cons (.idx (.var 0) (.cst (.int 0))) .nil)) .nil)) bCur1) [some (enc w), some (rateV w), some (.tup [.int 0, .int 1]), some (.tup [.int 0, .int 1]), none, none, none, none, none, none] B [] = some (.nx, [some (enc w), some (rateV w), some (fr (fgain w)), some (fr 0), c4, c5, none, none, none, none], []) := by
    rw [S_for, E_itrN (j := w.p.length) (T1 := []) (by omega) (by simp only [E_var, E_cst, E_glb, E_bin, E_neg, negV_int, E_vand, E_vor, E_vone, E_vnot, E_tand, E_tor, E_tone, E_tnot, E_tval, E_cmp, E_ife, E_idx, E_nop, E_tup, E_lst, E_nil, E_cons, E_call, E_callp, E_callk, E_isi, E_bi, E_mt, asTup_tup, onB_t, onB_f, onN_nx, onN_rt, onN_bk, onN_ct, S_seq, S_skip, S_pass, S_brk, S_cont, S_set, S_setC, S_setT, S_par, S_setI, S_exp, S_ret, onBS_t, onBS_f, S_ifs, augA_int, b_add, b_addT, b_sub, c_lt, c_le, c_gt, c_ge, c_eqI, c_neI, t_int, t_bl, bi_abs, bi_int, bi_lenT, bi_lenL, bi_tupL, bi_tupT, gx0, gx1, gx2, gx3, gx4, gr0, gr1, gr2, gr3, gfr0, gfr1, st1, st2, st3, Tg.bind, Rf.bindAll, List.replicate_succ, List.replicate_zero, List.map_cons, List.map_nil, List.cons_append, List.nil_append, List.append_nil, List.set_cons_zero, List.set_cons_succ, List.getElem?_cons_zero, List.getElem?_cons_succ, List.length_cons, List.length_nil, Option.bind_some, Option.map_some, Option.bind_none, Option.map_none, if_true, Bool.false_eq_true, if_false, decide_true, decide_false, Bool.not_true, Bool.not_false, gw0, pl])]
    exact e1
  have mk0 : mk B [] [.tup [fr 0, fr (fgain w)]] = some (.ref B.length, [[encP (0, fgain w)]]) := mk_ok (by show 1 ≤ big; decide +kernel)
  have c0 : rd B [[encP (0, fgain w)]] B.length = some [encP (0, fgain w)] := rd1
  obtain ⟨kf, items, T2, es, hkf, hitems, hg, hkeep⟩ := steps_spec (B := B) (T := [[encP (0, fgain w)]]) ok (n := m) (by omega)
  have hkf : B.length + 1 ≤ kf := hkf
  have hlen := Grp.len hg
  obtain ⟨σ', T', e3, z, pu, c7, c8, c9, f1, f2, f3⟩ := for_inv (B := B) (it := .lref kf) (tg := .tp [7, 8]) (b := fun σ T => semS (Rf.run Ps gs LL m) gs LL bCur2 σ B T) (m := (steps w).length)
    (fun i σ T' => ∃ z pu c7 c8 c9, (σ = [some (enc w), some (rateV w), some (fr z), some (fr pu), c4, c5, some (.ref B.length), c7, c8, c9] ∧ (pu, z) = (((steps w).take i).foldl (cstep w) (C0 w)).2) ∧ rd B T' B.length = some ((((steps w).take i).foldl (cstep w) (C0 w)).1.map encP) ∧ ∀ j xs, j ≠ B.length → rd B T2 j = some xs → rd B T' j = some xs)
    (by
      rintro i σ T' hi ⟨z, pu, c7, c8, c9, ⟨rfl, ep⟩, hc, hk⟩
      obtain ⟨g, g1, g2⟩ := Grp.get hi hg
      have gne : g ≠ B.length := fun ee => by
        rw [ee, hkeep _ _ c0] at g2
        exact ni_ne (Option.some.inj g2).symm
      have hm := steps_mem ok (left0 w).length (steps w)[i] (show (steps w)[i] ∈ steps w from List.getElem_mem hi)
      have hs0 := steps_seen hi
      have er : rateV w = fr (1 / seen w) := if_pos hs0
      obtain ⟨b1, b2⟩ := cf_bd ok i (by omega)
      rw [← ep] at b1 b2
      have hl := cf_len (w := w) i (by omega)
      rw [er]
      obtain ⟨d9, T3, e, q1, q2⟩ := cur2_turn (B := B) (T := T') (n := m) ok (by omega) hm.1 hm.2.1 (r := 1 / seen w) (q := (steps w)[i].2) (pu := pu) (z := z) ((Bd.one (k := 1) (by decide)).div (seen_bd ok)) hm.2.2 (k := 120 + 240 * i) (by omega) b1 b2 (kg := g) (kc := B.length) (hk _ _ gne g2) hc (Nat.le_refl _) gne (by rw [List.length_map, hl]; omega) (c4 := c4) (c5 := c5) (c9 := c9)
      refine ⟨.tup [.ref g, fr (steps w)[i].2], _, _, T3, ?_, bindC, .inl e, _, _, some (.ref g), some (fr (steps w)[i].2), d9, ⟨rfl, ?_⟩, ?_, fun j xs h1 h2 => q2 j xs h1 (hk j xs h1 h2)⟩
      · rw [at_lref (hk _ _ (by omega) hitems), g1]
      · rw [foldl_takeA hi]
        show _ = ((_, _) : Rat × Rat)
        rw [← ep]
      · rw [q1, foldl_takeA hi]
        show _ = some ((_ ++ [((_, _) : Rat × Rat)]).map encP)
        rw [← ep, List.map_append]; rfl)
    (by
      rintro σ T' ⟨z, pu, c7, c8, c9, ⟨rfl, ep⟩, hc, hk⟩
      rw [at_lref (hk _ _ (by omega) hitems), List.getElem?_eq_none (by omega)])
    (steps w).length LL 0 [some (enc w), some (rateV w), some (fr (fgain w)), some (fr 0), c4, c5, some (.ref B.length), none, none, none] T2 (by omega) (by omega) ⟨fgain w, 0, none, none, none, ⟨rfl, rfl⟩, hkeep _ _ c0, fun j xs _ h => h⟩
  obtain ⟨f1, f4⟩ := f1
  subst f1
  rw [List.take_length] at f2
  have e4 : semS (Rf.run Ps gs LL m) gs LL (.for_ (.tp [7, 8]) (.itv (.call 40 (.cons (.var 0) (.cons (.var 1) .nil)))) bCur2) [some (enc w), some (rateV w), some (fr (fgain w)), some (fr 0), c4, c5, some (.ref B.length), none, none, none] B [[encP (0, fgain w)]] = some (.nx, [some (enc w), some (rateV w), some (fr z), some (fr pu), c4, c5, some (.ref B.length), c7, c8, c9], T') := by
    rw [S_for, I_itvL (T1 := T2) (k := kf) (by simp only [E_var, E_cst, E_glb, E_bin, E_neg, negV_int, E_vand, E_vor, E_vone, E_vnot, E_tand, E_tor, E_tone, E_tnot, E_tval, E_cmp, E_ife, E_idx, E_nop, E_tup, E_lst, E_nil, E_cons, E_call, E_callp, E_callk, E_isi, E_bi, E_mt, asTup_tup, onB_t, onB_f, onN_nx, onN_rt, onN_bk, onN_ct, S_seq, S_skip, S_pass, S_brk, S_cont, S_set, S_setC, S_setT, S_par, S_setI, S_exp, S_ret, onBS_t, onBS_f, S_ifs, augA_int, b_add, b_addT, b_sub, c_lt, c_le, c_gt, c_ge, c_eqI, c_neI, t_int, t_bl, bi_abs, bi_int, bi_lenT, bi_lenL, bi_tupL, bi_tupT, gx0, gx1, gx2, gx3, gx4, gr0, gr1, gr2, gr3, gfr0, gfr1, st1, st2, st3, Tg.bind, Rf.bindAll, List.replicate_succ, List.replicate_zero, List.map_cons, List.map_nil, List.cons_append, List.nil_append, List.append_nil, List.set_cons_zero, List.set_cons_succ, List.getElem?_cons_zero, List.getElem?_cons_succ, List.length_cons, List.length_nil, Option.bind_some, Option.map_some, Option.bind_none, Option.map_none, if_true, Bool.false_eq_true, if_false, decide_true, decide_false, Bool.not_true, Bool.not_false, es]) hitems]
    exact e3
  refine ⟨T', run_rt (σ := [some (enc w), some (rateV w), some (fr z), some (fr pu), c4, c5, some (.ref B.length), c7, c8, c9]) (fn := ⟨2, 10, b__law_curve⟩) rfl rfl ?_⟩
  have st : startE 10 [enc w, rateV w] = [some (enc w), some (rateV w), none, none, none, none, none, none, none, none] := rfl
  simp only [bCur1] at e2
  simp only [bCur2] at e4
  rw [show (⟨2, 10, b__law_curve⟩ : Fn).ns = 10 from rfl, st]
  have f2 : rd B T' B.length = some ((curveL w).map encP) := f2
  simp only [E_var, E_cst, E_glb, E_bin, E_neg, negV_int, E_vand, E_vor, E_vone, E_vnot, E_tand, E_tor, E_tone, E_tnot, E_tval, E_cmp, E_ife, E_idx, E_nop, E_tup, E_lst, E_nil, E_cons, E_call, E_callp, E_callk, E_isi, E_bi, E_mt, asTup_tup, onB_t, onB_f, onN_nx, onN_rt, onN_bk, onN_ct, S_seq, S_skip, S_pass, S_brk, S_cont, S_set, S_setC, S_setT, S_par, S_setI, S_exp, S_ret, onBS_t, onBS_f, S_ifs, augA_int, b_add, b_addT, b_sub, c_lt, c_le, c_gt, c_ge, c_eqI, c_neI, t_int, t_bl, bi_abs, bi_int, bi_lenT, bi_lenL, bi_tupL, bi_tupT, gx0, gx1, gx2, gx3, gx4, gr0, gr1, gr2, gr3, gfr0, gfr1, st1, st2, st3, Tg.bind, Rf.bindAll, List.replicate_succ, List.replicate_zero, List.map_cons, List.map_nil, List.cons_append, List.nil_append, List.append_nil, List.set_cons_zero, List.set_cons_succ, List.getElem?_cons_zero, List.getElem?_cons_succ, List.length_cons, List.length_nil, Option.bind_some, Option.map_some, Option.bind_none, Option.map_none, if_true, Bool.false_eq_true, if_false, decide_true, decide_false, Bool.not_true, Bool.not_false, b__law_curve, tup2, e2, mk0, e4, f2]
end
end K36
end
section
/-! k36: the law's filling. -/
namespace K36
open PySem Rf Pl
section
variable {w : Wd} {s n : Nat} {B T : MH} {L : Nat} {CF : Nat → List PV → MH → MH → M} {G : List (Str × PV)}
def posR (q : Rat) : Rat := if 0 < q then q else 0
theorem pos_spec (hn : 1 ≤ n) (q : Rat) : Ret Ps gs LL n 32 [fr q] B (fr (posR q)) := by
  obtain ⟨m, rfl⟩ : ∃ m, n = m + 1 := ⟨n - 1, by omega⟩
  refine ⟨[], run_rt (σ := [some (fr q)]) (fn := ⟨1, 1, b__law_pos⟩) rfl rfl ?_⟩
  unfold posR
  by_cases h : 0 < q
  · have z : decide (0 < q) = true := decide_eq_true h
    rw [if_pos h]
    simp only [E_var, E_cst, E_glb, E_bin, E_neg, negV_int, E_vand, E_vor, E_vone, E_vnot, E_tand, E_tor, E_tone, E_tnot, E_tval, E_cmp, E_ife, E_idx, E_nop, E_tup, E_lst, E_nil, E_cons, E_call, E_callp, E_callk, E_isi, E_bi, E_mt, asTup_tup, onB_t, onB_f, onN_nx, onN_rt, onN_bk, onN_ct, S_seq, S_skip, S_pass, S_brk, S_cont, S_set, S_setC, S_setT, S_par, S_setI, S_exp, S_ret, onBS_t, onBS_f, S_ifs, augA_int, b_add, b_addT, b_sub, c_lt, c_le, c_gt, c_ge, c_eqI, c_neI, t_int, t_bl, bi_abs, bi_int, bi_lenT, bi_lenL, bi_tupL, bi_tupT, gx0, gx1, gx2, gx3, gx4, gr0, gr1, gr2, gr3, gfr0, gfr1, st1, st2, st3, Tg.bind, Rf.bindAll, List.replicate_succ, List.replicate_zero, List.map_cons, List.map_nil, List.cons_append, List.nil_append, List.append_nil, List.set_cons_zero, List.set_cons_succ, List.getElem?_cons_zero, List.getElem?_cons_succ, List.length_cons, List.length_nil, Option.bind_some, Option.map_some, Option.bind_none, Option.map_none, if_true, Bool.false_eq_true, if_false, decide_true, decide_false, Bool.not_true, Bool.not_false, b__law_pos, num_pos, z]
  · have z : decide (0 < q) = false := decide_eq_false h
    rw [if_neg h]
    simp only [E_var, E_cst, E_glb, E_bin, E_neg, negV_int, E_vand, E_vor, E_vone, E_vnot, E_tand, E_tor, E_tone, E_tnot, E_tval, E_cmp, E_ife, E_idx, E_nop, E_tup, E_lst, E_nil, E_cons, E_call, E_callp, E_callk, E_isi, E_bi, E_mt, asTup_tup, onB_t, onB_f, onN_nx, onN_rt, onN_bk, onN_ct, S_seq, S_skip, S_pass, S_brk, S_cont, S_set, S_setC, S_setT, S_par, S_setI, S_exp, S_ret, onBS_t, onBS_f, S_ifs, augA_int, b_add, b_addT, b_sub, c_lt, c_le, c_gt, c_ge, c_eqI, c_neI, t_int, t_bl, bi_abs, bi_int, bi_lenT, bi_lenL, bi_tupL, bi_tupT, gx0, gx1, gx2, gx3, gx4, gr0, gr1, gr2, gr3, gfr0, gfr1, st1, st2, st3, Tg.bind, Rf.bindAll, List.replicate_succ, List.replicate_zero, List.map_cons, List.map_nil, List.cons_append, List.nil_append, List.append_nil, List.set_cons_zero, List.set_cons_succ, List.getElem?_cons_zero, List.getElem?_cons_succ, List.length_cons, List.length_nil, Option.bind_some, Option.map_some, Option.bind_none, Option.map_none, if_true, Bool.false_eq_true, if_false, decide_true, decide_false, Bool.not_true, Bool.not_false, b__law_pos, num_pos, z, tup2]
    rfl
theorem posR_bd {k : Nat} {q : Rat} (h : Bd k q) : Bd k (posR q) := by
  unfold posR
  split
  · exact h
  · exact ⟨Nat.two_pow_pos k, by have := h.2; have := q.den_pos; show 1 < 2 ^ k; omega⟩
/-- one state of the law's filling: the purse that is left, the masses -/
def each (w : Wd) (s : Nat) : Rat := 1 / seen w * more w s
def take_ (w : Wd) (pu : Rat) (s : Nat) : Rat := if pu < each w s * pw w s then pu / each w s else pw w s
def lstep (w : Wd) (f : Rat × List Rat) (s : Nat) : Rat × List Rat := (posR (f.1 - each w s * pw w s), f.2.set s (take_ w f.1 s))
def bFil : S := (.seq (.set 7 (.callp 30 (.cons (.var 1) (.cons (.callp 38 (.cons (.var 0) (.cons (.var 6) .nil))) .nil)))) (.seq (.set 8 (.callp 30 (.cons (.var 7) (.cons (.idx (.idx (.var 0) (.cst (.int 0))) (.var 6)) .nil)))) (.seq (.setI (.var 3) (.var 6) (.ife (.tval (.callp 33 (.cons (.var 2) (.cons (.var 8) .nil)))) (.callp 31 (.cons (.var 2) (.cons (.var 7) .nil))) (.idx (.idx (.var 0) (.cst (.int 0))) (.var 6)))) (.seq (.set 2 (.callp 32 (.cons (.callp 29 (.cons (.var 2) (.cons (.var 8) .nil))) .nil))) .skip))))
theorem fil_turn (ok : Ok w) (hn : 5 ≤ n) (hs : s < w.p.length) (hm : 0 < more w s) (h0 : 0 < seen w) {f : Rat × List Rat} {k : Nat} (hk : k ≤ 4000) (hb : Bd k f.1) (hl : f.2.length = w.p.length) {kc : Nat} (hc : rd B T kc = some (f.2.map fr)) (hc0 : B.length ≤ kc) {c4 c5 c7 c8 : Option PV} :
    ∃ d7 d8, semS (Rf.run Ps gs LL n) gs LL bFil [some (enc w), some (fr (1 / seen w)), some (fr f.1), some (.ref kc), c4, c5, some (.int (s : Nat)), c7, c8] B T = some (.nx, [some (enc w), some (fr (1 / seen w)), some (fr (lstep w f s).1), some (.ref kc), c4, c5, some (.int (s : Nat)), d7, d8], put B T kc ((lstep w f s).2.map fr)) := by
  have hs4 := ok.s4
  have hbig : 200 < big := by decide +kernel
  have br : Bd 31 (1 / seen w) := (Bd.one (k := 1) (by decide)).div (seen_bd ok)
  have be : Bd 60 (each w s) := br.mul (bd_more ok hs)
  have bn : Bd 74 (each w s * pw w s) := be.mul (bd_p ok hs).1
  have e1 := dropT_ret (T := T) (lawmore_spec (B := B ++ T) ok (n := n) (by omega) hs) rfl
  have e2 := dropT_ret (T := T) (mulL (n := n) (by omega) (1 / seen w) (more w s) 31 29 (B ++ T) br (bd_more ok hs) (by decide) trivial) rfl
  have e2 : dropT (Rf.run Ps gs LL n 30 [fr (1 / seen w), fr (more w s)] (B ++ T) []) T = some (fr (each w s), T) := e2
  have e3 := dropT_ret (T := T) (mulL (n := n) (by omega) (each w s) (pw w s) 60 14 (B ++ T) be (bd_p ok hs).1 (by decide) trivial) rfl
  have e4 := dropT_ret (T := T) (ltL (n := n) (by omega) f.1 (each w s * pw w s) k 74 (B ++ T) hb bn (by omega) trivial) rfl
  have hne : each w s ≠ 0 := by
    have h1 : 0 < 1 / seen w := by
      rw [Rat.div_def, Rat.one_mul]; exact Rat.inv_pos.mpr h0
    exact Rat.ne_of_gt (Rat.mul_pos h1 hm)
  have e5 := dropT_ret (T := T) (divL (n := n) (by omega) f.1 (each w s) k 60 (B ++ T) hb be (by omega) hne) rfl
  have s1 := setIx_put (v := fr (take_ w f.1 s)) hc hc0 (i := s) (by rw [List.length_map]; omega) (by rw [List.length_map]; omega)
  rw [show (f.2.map fr).set s (fr (take_ w f.1 s)) = (lstep w f s).2.map fr by unfold lstep; rw [List.map_set]] at s1
  generalize put B T kc ((lstep w f s).2.map fr) = T2 at s1 ⊢
  have e6 := dropT_ret (T := T2) (subL (n := n) (by omega) f.1 (each w s * pw w s) k 74 (B ++ T2) hb bn (by omega) trivial) rfl
  have e7 := dropT_ret (T := T2) (pos_spec (n := n) (B := B ++ T2) (by omega) (f.1 - each w s * pw w s)) rfl
  have e7 : dropT (Rf.run Ps gs LL n 32 [fr (f.1 - each w s * pw w s)] (B ++ T2) []) T2 = some (fr (lstep w f s).1, T2) := e7
  refine ⟨some (fr (each w s)), some (fr (each w s * pw w s)), ?_⟩
  by_cases h : f.1 < each w s * pw w s
  · have z : decide (f.1 < each w s * pw w s) = true := decide_eq_true h
    have et : take_ w f.1 s = f.1 / each w s := if_pos h
    rw [et] at s1
    simp only [E_var, E_cst, E_glb, E_bin, E_neg, negV_int, E_vand, E_vor, E_vone, E_vnot, E_tand, E_tor, E_tone, E_tnot, E_tval, E_cmp, E_ife, E_idx, E_nop, E_tup, E_lst, E_nil, E_cons, E_call, E_callp, E_callk, E_isi, E_bi, E_mt, asTup_tup, onB_t, onB_f, onN_nx, onN_rt, onN_bk, onN_ct, S_seq, S_skip, S_pass, S_brk, S_cont, S_set, S_setC, S_setT, S_par, S_setI, S_exp, S_ret, onBS_t, onBS_f, S_ifs, augA_int, b_add, b_addT, b_sub, c_lt, c_le, c_gt, c_ge, c_eqI, c_neI, t_int, t_bl, bi_abs, bi_int, bi_lenT, bi_lenL, bi_tupL, bi_tupT, gx0, gx1, gx2, gx3, gx4, gr0, gr1, gr2, gr3, gfr0, gfr1, st1, st2, st3, Tg.bind, Rf.bindAll, List.replicate_succ, List.replicate_zero, List.map_cons, List.map_nil, List.cons_append, List.nil_append, List.append_nil, List.set_cons_zero, List.set_cons_succ, List.getElem?_cons_zero, List.getElem?_cons_succ, List.length_cons, List.length_nil, Option.bind_some, Option.map_some, Option.bind_none, Option.map_none, if_true, Bool.false_eq_true, if_false, decide_true, decide_false, Bool.not_true, Bool.not_false, bFil, e1, e2, gw0, g_p hs, e3, e4, z, e5, s1, e6, e7]
  · have z : decide (f.1 < each w s * pw w s) = false := decide_eq_false h
    have et : take_ w f.1 s = pw w s := if_neg h
    rw [et] at s1
    simp only [E_var, E_cst, E_glb, E_bin, E_neg, negV_int, E_vand, E_vor, E_vone, E_vnot, E_tand, E_tor, E_tone, E_tnot, E_tval, E_cmp, E_ife, E_idx, E_nop, E_tup, E_lst, E_nil, E_cons, E_call, E_callp, E_callk, E_isi, E_bi, E_mt, asTup_tup, onB_t, onB_f, onN_nx, onN_rt, onN_bk, onN_ct, S_seq, S_skip, S_pass, S_brk, S_cont, S_set, S_setC, S_setT, S_par, S_setI, S_exp, S_ret, onBS_t, onBS_f, S_ifs, augA_int, b_add, b_addT, b_sub, c_lt, c_le, c_gt, c_ge, c_eqI, c_neI, t_int, t_bl, bi_abs, bi_int, bi_lenT, bi_lenL, bi_tupL, bi_tupT, gx0, gx1, gx2, gx3, gx4, gr0, gr1, gr2, gr3, gfr0, gfr1, st1, st2, st3, Tg.bind, Rf.bindAll, List.replicate_succ, List.replicate_zero, List.map_cons, List.map_nil, List.cons_append, List.nil_append, List.append_nil, List.set_cons_zero, List.set_cons_succ, List.getElem?_cons_zero, List.getElem?_cons_succ, List.length_cons, List.length_nil, Option.bind_some, Option.map_some, Option.bind_none, Option.map_none, if_true, Bool.false_eq_true, if_false, decide_true, decide_false, Bool.not_true, Bool.not_false, bFil, e1, e2, gw0, g_p hs, e3, e4, z, s1, e6, e7]
end
end K36
end
section
/-! k36: the law's filling, whole. -/
namespace K36
open PySem Rf Pl
section
variable {w : Wd} {s n : Nat} {B T : MH} {L : Nat} {CF : Nat → List PV → MH → MH → M} {G : List (Str × PV)}
theorem lf_bd (ok : Ok w) (h0 : 0 < seen w) : ∀ (g : List Nat) (f : Rat × List Rat) (k : Nat), (∀ s ∈ g, s < w.p.length) → Bd k f.1 → Bd (k + 75 * g.length) (g.foldl (lstep w) f).1
  | [], f, k, _, h => h
  | s :: g, f, k, hg, h => by
    have hs := hg s (List.mem_cons_self ..)
    have be : Bd 60 (each w s) := ((Bd.one (k := 1) (by decide)).div (seen_bd ok)).mul (bd_more ok hs)
    have h1 : Bd (k + 75) (lstep w f s).1 := (posR_bd (h.sub (be.mul (bd_p ok hs).1))).mono (by omega)
    have := lf_bd ok h0 g (lstep w f s) (k + 75) (fun u hu => hg u (List.mem_cons_of_mem _ hu)) h1
    exact this.mono (by rw [List.length_cons]; omega)
theorem lf_len (w : Wd) : ∀ (g : List Nat) (f : Rat × List Rat), (g.foldl (lstep w) f).2.length = f.2.length
  | [], f => rfl
  | s :: g, f => by
    rw [List.foldl_cons, lf_len w g]
    show (List.set _ _ _).length = _
    rw [List.length_set]
def bFilG : S := (.seq (.for_ (.nm 6) (.itv (.var 4)) bFil) .skip)
theorem fil_group (ok : Ok w) (hn : 5 ≤ n) (h0 : 0 < seen w) {g : List Nat} (hg : ∀ s ∈ g, s < w.p.length ∧ 0 < more w s) (hgl : g.length ≤ 4) {f : Rat × List Rat} {k : Nat} (hk : k ≤ 3000) (hb : Bd k f.1) (hl : f.2.length = w.p.length) {kc kg : Nat} (hc : rd B T kc = some (f.2.map fr)) (hc0 : B.length ≤ kc) (hkg : rd B T kg = some (ni g)) (hne : kg ≠ kc) {c5 c6 c7 c8 : Option PV} :
    ∃ d6 d7 d8 T', semS (Rf.run Ps gs LL n) gs LL bFilG [some (enc w), some (fr (1 / seen w)), some (fr f.1), some (.ref kc), some (.ref kg), c5, c6, c7, c8] B T = some (.nx, [some (enc w), some (fr (1 / seen w)), some (fr (g.foldl (lstep w) f).1), some (.ref kc), some (.ref kg), c5, d6, d7, d8], T') ∧
      rd B T' kc = some ((g.foldl (lstep w) f).2.map fr) ∧ ∀ j xs, j ≠ kc → rd B T j = some xs → rd B T' j = some xs := by
  have hbL := big_L
  obtain ⟨σ', T', e, v, d6, d7, d8, f1, f2, f3⟩ := for_inv (B := B) (it := .lref kg) (tg := .nm 6) (b := fun σ T => semS (Rf.run Ps gs LL n) gs LL bFil σ B T) (m := g.length)
    (fun i σ T' => ∃ v d6 d7 d8, (σ = [some (enc w), some (fr (1 / seen w)), some v, some (.ref kc), some (.ref kg), c5, d6, d7, d8] ∧ v = fr ((g.take i).foldl (lstep w) f).1) ∧ rd B T' kc = some (((g.take i).foldl (lstep w) f).2.map fr) ∧ ∀ j xs, j ≠ kc → rd B T j = some xs → rd B T' j = some xs)
    (by
      rintro i σ T' hi ⟨v, d6, d7, d8, ⟨rfl, rfl⟩, h1, h2⟩
      have hm := hg g[i] (List.getElem_mem hi)
      have b1 := lf_bd ok h0 (g.take i) f k (fun s hs => (hg s (List.mem_of_mem_take hs)).1) hb
      rw [List.length_take, Nat.min_eq_left (by omega)] at b1
      obtain ⟨e7, e8, e⟩ := fil_turn (B := B) (T := T') (n := n) ok hn hm.1 hm.2 h0 (f := (g.take i).foldl (lstep w) f) (k := k + 75 * i) (by omega) b1 (by rw [lf_len]; exact hl) h1 hc0 (c4 := some (.ref kg)) (c5 := c5) (c7 := d7) (c8 := d8)
      refine ⟨.int (g[i] : Nat), _, _, _, ?_, rfl, .inl e, _, some (.int (g[i] : Nat)), e7, e8, ⟨rfl, ?_⟩, ?_, fun j xs hj hx => ?_⟩
      · rw [at_lref (h2 _ _ hne hkg)]
        unfold ni
        rw [List.getElem?_map, List.getElem?_eq_getElem hi]; rfl
      · rw [foldl_takeA hi]
      · rw [foldl_takeA hi]; exact rd_put h1 hc0
      · rw [rd_put_ne hj hc0]; exact h2 j xs hj hx)
    (by
      rintro σ T' ⟨v, d6, d7, d8, ⟨rfl, rfl⟩, h1, h2⟩
      rw [at_lref (h2 _ _ hne hkg), List.getElem?_eq_none (by unfold ni; simp)])
    g.length LL 0 [some (enc w), some (fr (1 / seen w)), some (fr f.1), some (.ref kc), some (.ref kg), c5, c6, c7, c8] T (by omega) (by omega) ⟨_, c6, c7, c8, ⟨rfl, rfl⟩, hc, fun j xs _ h => h⟩
  obtain ⟨f1, f4⟩ := f1
  rw [List.take_length] at f2 f4
  subst f1 f4
  refine ⟨d6, d7, d8, T', ?_, f2, f3⟩
  have e2 : semS (Rf.run Ps gs LL n) gs LL (.for_ (.nm 6) (.itv (.var 4)) bFil) [some (enc w), some (fr (1 / seen w)), some (fr f.1), some (.ref kc), some (.ref kg), c5, c6, c7, c8] B T = some (.nx, [some (enc w), some (fr (1 / seen w)), some (fr (g.foldl (lstep w) f).1), some (.ref kc), some (.ref kg), c5, d6, d7, d8], T') := by
    rw [S_for, I_itvL (T1 := T) (k := kg) (by simp only [E_var, E_cst, E_glb, E_bin, E_neg, negV_int, E_vand, E_vor, E_vone, E_vnot, E_tand, E_tor, E_tone, E_tnot, E_tval, E_cmp, E_ife, E_idx, E_nop, E_tup, E_lst, E_nil, E_cons, E_call, E_callp, E_callk, E_isi, E_bi, E_mt, asTup_tup, onB_t, onB_f, onN_nx, onN_rt, onN_bk, onN_ct, S_seq, S_skip, S_pass, S_brk, S_cont, S_set, S_setC, S_setT, S_par, S_setI, S_exp, S_ret, onBS_t, onBS_f, S_ifs, augA_int, b_add, b_addT, b_sub, c_lt, c_le, c_gt, c_ge, c_eqI, c_neI, t_int, t_bl, bi_abs, bi_int, bi_lenT, bi_lenL, bi_tupL, bi_tupT, gx0, gx1, gx2, gx3, gx4, gr0, gr1, gr2, gr3, gfr0, gfr1, st1, st2, st3, Tg.bind, Rf.bindAll, List.replicate_succ, List.replicate_zero, List.map_cons, List.map_nil, List.cons_append, List.nil_append, List.append_nil, List.set_cons_zero, List.set_cons_succ, List.getElem?_cons_zero, List.getElem?_cons_succ, List.length_cons, List.length_nil, Option.bind_some, Option.map_some, Option.bind_none, Option.map_none, if_true, Bool.false_eq_true, if_false, decide_true, decide_false, Bool.not_true, Bool.not_false]) hkg]
    exact e
  unfold bFilG
  rw [S_seq, e2]; rfl
end
end K36
end
section
/-! k36: the law's filling, the end. -/
namespace K36
open PySem Rf Pl
section
variable {w : Wd} {s n : Nat} {B T : MH} {L : Nat} {CF : Nat → List PV → MH → MH → M} {G : List (Str × PV)}
def gstep (w : Wd) (f : Rat × List Rat) (g : List Nat × Rat) : Rat × List Rat := g.1.foldl (lstep w) f
def fillL (w : Wd) (purse : Rat) : List Rat := ((steps w).foldl (gstep w) (purse, (M0 w purse).2)).2
theorem steps_told : ∀ i, ∀ g ∈ (stpN w (left0 w, []) i).2, ∀ s ∈ g.1, told w s = true := by
  intro i
  induction i with
  | zero => intro g hg; cases hg
  | succ i ih =>
    obtain ⟨s1, s2, s3⟩ := stp_sub (w := w) i
    intro g hg
    have hg : g ∈ (stp w (stpN w (left0 w, []) i)).2 := hg
    unfold stp at hg
    split at hg
    · exact ih g hg
    · rcases List.mem_append.mp hg with h | h
      · exact ih g h
      · have e : g = (grp w (stpN w (left0 w, []) i).1, high w (stpN w (left0 w, []) i).1) := by simpa using h
        subst e
        exact fun s hs => (left0_mem (s1 s (List.mem_filter.mp hs).1)).2
theorem gf_bd (ok : Ok w) {purse : Rat} {k : Nat} (hp : Bd k purse) : ∀ i, i ≤ (steps w).length → Bd (k + 300 * i) (((steps w).take i).foldl (gstep w) (purse, (M0 w purse).2)).1 ∧ (((steps w).take i).foldl (gstep w) (purse, (M0 w purse).2)).2.length = w.p.length := by
  intro i
  induction i with
  | zero => exact fun _ => ⟨hp, by simp [M0]⟩
  | succ i ih =>
    intro hi
    have hi' : i < (steps w).length := by omega
    obtain ⟨h1, h2⟩ := ih (by omega)
    have hm := steps_mem ok (left0 w).length (steps w)[i] (show (steps w)[i] ∈ steps w from List.getElem_mem hi')
    rw [foldl_takeA hi']
    refine ⟨?_, by unfold gstep; rw [lf_len]; exact h2⟩
    have := lf_bd ok (steps_seen hi') (steps w)[i].1 _ _ hm.1 h1
    exact this.mono (by have := hm.2.1; omega)
theorem bindF {x y : PV} {v0 v1 v2 v3 v4 v5 v6 v7 v8 : Option PV} : (Tg.tp [4, 5]).bind (.tup [x, y]) [v0, v1, v2, v3, v4, v5, v6, v7, v8] = some [v0, v1, v2, v3, some x, some y, v6, v7, v8] := rfl
theorem ni_ne2 {g : List Nat} {q : Rat} {r : List PV} (h : ni g = fr q :: r) : False := by
  cases g with
  | nil => cases h
  | cons a l => cases h
theorem filling_spec (ok : Ok w) (hn : 7 ≤ n) {purse : Rat} {k : Nat} (hp : Bd k purse) (hk : k ≤ 1500) : Ret Ps gs LL n 43 [enc w, rateV w, fr purse] B (.tup ((fillL w purse).map fr)) := by
  obtain ⟨m, rfl⟩ : ∃ m, n = m + 1 := ⟨n - 1, by omega⟩
  have hb := big_L
  have hs0 := ok.s0
  have hs4 := ok.s4
  have h4 := steps_len ok
  have hbig : 200 < big := by decide +kernel
  have pl : (w.p.map fr).length = w.p.length := List.length_map ..
  have e4 : (sem (Rf.run Ps gs LL m) gs LL (.comp (.ife (.tand (.cmp .eq (.idx (.callp 38 (.cons (.var 0) (.cons (.var 6) .nil))) (.cst (.int 0))) (.cst (.int 0))) (.tone (.cmp .gt (.idx (.callp 39 (.cons (.var 0) (.cons (.var 6) .nil))) (.cst (.int 0))) (.cst (.int 0))))) (.idx (.idx (.var 0) (.cst (.int 0))) (.var 6)) (.tup (.cons (.cst (.int 0)) (.cons (.cst (.int 1)) .nil)))) (.gen (.nm 6) (.itr (.cons (.bi .len (.cons (.idx (.var 0) (.cst (.int 0))) .nil)) .nil)) .nop .gnil) [("w", 6)])).e [some (enc w), some (rateV w), some (fr purse), none, none, none, none, none, none] B [] = some (.ref B.length, [(M0 w purse).2.map fr]) := by
    have := comp_pure (CF := Rf.run Ps gs LL m) (G := gs) (L := LL) (B := B) (T := []) (T1 := []) (as := List.range w.p.length) (enc := fun (s : Nat) => PV.int s) (g := fun s => fr (if free w s = true then pw w s else 0)) (p := fun _ => true) (bd := fun s => [some (enc w), some (rateV w), some (fr purse), none, none, none, some (.int (s : Nat)), none, none]) (σ := [some (enc w), some (rateV w), some (fr purse), none, none, none, none, none, none]) (tg := .nm 6) (it := .itr (.cons (.bi .len (.cons (.idx (.var 0) (.cst (.int 0))) .nil)) .nil)) (test := .nop) (elt := .ife (.tand (.cmp .eq (.idx (.callp 38 (.cons (.var 0) (.cons (.var 6) .nil))) (.cst (.int 0))) (.cst (.int 0))) (.tone (.cmp .gt (.idx (.callp 39 (.cons (.var 0) (.cons (.var 6) .nil))) (.cst (.int 0))) (.cst (.int 0))))) (.idx (.idx (.var 0) (.cst (.int 0))) (.var 6)) (.tup (.cons (.cst (.int 0)) (.cons (.cst (.int 1)) .nil)))) (own := [("w", 6)])
      (E_itrN (j := w.p.length) (by omega) (by simp only [E_var, E_cst, E_glb, E_bin, E_neg, negV_int, E_vand, E_vor, E_vone, E_vnot, E_tand, E_tor, E_tone, E_tnot, E_tval, E_cmp, E_ife, E_idx, E_nop, E_tup, E_lst, E_nil, E_cons, E_call, E_callp, E_callk, E_isi, E_bi, E_mt, asTup_tup, onB_t, onB_f, onN_nx, onN_rt, onN_bk, onN_ct, S_seq, S_skip, S_pass, S_brk, S_cont, S_set, S_setC, S_setT, S_par, S_setI, S_exp, S_ret, onBS_t, onBS_f, S_ifs, augA_int, b_add, b_addT, b_sub, c_lt, c_le, c_gt, c_ge, c_eqI, c_neI, t_int, t_bl, bi_abs, bi_int, bi_lenT, bi_lenL, bi_tupL, bi_tupT, gx0, gx1, gx2, gx3, gx4, gr0, gr1, gr2, gr3, gfr0, gfr1, st1, st2, st3, Tg.bind, Rf.bindAll, List.replicate_succ, List.replicate_zero, List.map_cons, List.map_nil, List.cons_append, List.nil_append, List.append_nil, List.set_cons_zero, List.set_cons_succ, List.getElem?_cons_zero, List.getElem?_cons_succ, List.length_cons, List.length_nil, Option.bind_some, Option.map_some, Option.bind_none, Option.map_none, if_true, Bool.false_eq_true, if_false, decide_true, decide_false, Bool.not_true, Bool.not_false, wipeE, gw0, pl])) (fun i => at_rng0) (fun a _ => rfl) (fun a _ => rfl) (fun a ha _ => by
        have ha := List.mem_range.mp ha
        have q1 := dropT_ret (T := []) (lawmore_spec (B := B) ok (n := m) (by omega) ha) rfl
        have q2 := dropT_ret (T := []) (lawrise_spec (B := B) ok (n := m) (by omega) ha) rfl
        unfold free
        by_cases h1 : more w a = 0
        · have z1 : decide (more w a = 0) = true := decide_eq_true h1
          by_cases h2 : 0 < rise w a
          · have z2 : decide (0 < rise w a) = true := decide_eq_true h2
            rw [z1, z2]
            simp only [E_var, E_cst, E_glb, E_bin, E_neg, negV_int, E_vand, E_vor, E_vone, E_vnot, E_tand, E_tor, E_tone, E_tnot, E_tval, E_cmp, E_ife, E_idx, E_nop, E_tup, E_lst, E_nil, E_cons, E_call, E_callp, E_callk, E_isi, E_bi, E_mt, asTup_tup, onB_t, onB_f, onN_nx, onN_rt, onN_bk, onN_ct, S_seq, S_skip, S_pass, S_brk, S_cont, S_set, S_setC, S_setT, S_par, S_setI, S_exp, S_ret, onBS_t, onBS_f, S_ifs, augA_int, b_add, b_addT, b_sub, c_lt, c_le, c_gt, c_ge, c_eqI, c_neI, t_int, t_bl, bi_abs, bi_int, bi_lenT, bi_lenL, bi_tupL, bi_tupT, gx0, gx1, gx2, gx3, gx4, gr0, gr1, gr2, gr3, gfr0, gfr1, st1, st2, st3, Tg.bind, Rf.bindAll, List.replicate_succ, List.replicate_zero, List.map_cons, List.map_nil, List.cons_append, List.nil_append, List.append_nil, List.set_cons_zero, List.set_cons_succ, List.getElem?_cons_zero, List.getElem?_cons_succ, List.length_cons, List.length_nil, Option.bind_some, Option.map_some, Option.bind_none, Option.map_none, if_true, Bool.false_eq_true, if_false, decide_true, decide_false, Bool.not_true, Bool.not_false, q1, q2, num_zero, num_pos, z1, z2, gw0, g_p ha, Bool.and_self]
          · have z2 : decide (0 < rise w a) = false := decide_eq_false h2
            rw [z1, z2]
            simp only [E_var, E_cst, E_glb, E_bin, E_neg, negV_int, E_vand, E_vor, E_vone, E_vnot, E_tand, E_tor, E_tone, E_tnot, E_tval, E_cmp, E_ife, E_idx, E_nop, E_tup, E_lst, E_nil, E_cons, E_call, E_callp, E_callk, E_isi, E_bi, E_mt, asTup_tup, onB_t, onB_f, onN_nx, onN_rt, onN_bk, onN_ct, S_seq, S_skip, S_pass, S_brk, S_cont, S_set, S_setC, S_setT, S_par, S_setI, S_exp, S_ret, onBS_t, onBS_f, S_ifs, augA_int, b_add, b_addT, b_sub, c_lt, c_le, c_gt, c_ge, c_eqI, c_neI, t_int, t_bl, bi_abs, bi_int, bi_lenT, bi_lenL, bi_tupL, bi_tupT, gx0, gx1, gx2, gx3, gx4, gr0, gr1, gr2, gr3, gfr0, gfr1, st1, st2, st3, Tg.bind, Rf.bindAll, List.replicate_succ, List.replicate_zero, List.map_cons, List.map_nil, List.cons_append, List.nil_append, List.append_nil, List.set_cons_zero, List.set_cons_succ, List.getElem?_cons_zero, List.getElem?_cons_succ, List.length_cons, List.length_nil, Option.bind_some, Option.map_some, Option.bind_none, Option.map_none, if_true, Bool.false_eq_true, if_false, decide_true, decide_false, Bool.not_true, Bool.not_false, q1, q2, num_zero, num_pos, z1, z2, tup2, Bool.false_and]
            rfl
        · have z1 : decide (more w a = 0) = false := decide_eq_false h1
          rw [z1]
          simp only [E_var, E_cst, E_glb, E_bin, E_neg, negV_int, E_vand, E_vor, E_vone, E_vnot, E_tand, E_tor, E_tone, E_tnot, E_tval, E_cmp, E_ife, E_idx, E_nop, E_tup, E_lst, E_nil, E_cons, E_call, E_callp, E_callk, E_isi, E_bi, E_mt, asTup_tup, onB_t, onB_f, onN_nx, onN_rt, onN_bk, onN_ct, S_seq, S_skip, S_pass, S_brk, S_cont, S_set, S_setC, S_setT, S_par, S_setI, S_exp, S_ret, onBS_t, onBS_f, S_ifs, augA_int, b_add, b_addT, b_sub, c_lt, c_le, c_gt, c_ge, c_eqI, c_neI, t_int, t_bl, bi_abs, bi_int, bi_lenT, bi_lenL, bi_tupL, bi_tupT, gx0, gx1, gx2, gx3, gx4, gr0, gr1, gr2, gr3, gfr0, gfr1, st1, st2, st3, Tg.bind, Rf.bindAll, List.replicate_succ, List.replicate_zero, List.map_cons, List.map_nil, List.cons_append, List.nil_append, List.append_nil, List.set_cons_zero, List.set_cons_succ, List.getElem?_cons_zero, List.getElem?_cons_succ, List.length_cons, List.length_nil, Option.bind_some, Option.map_some, Option.bind_none, Option.map_none, if_true, Bool.false_eq_true, if_false, decide_true, decide_false, Bool.not_true, Bool.not_false, q1, num_zero, z1, tup2, Bool.and_false]
          rfl) (by rw [List.length_range]; omega) (by rw [List.length_range]; omega)
    rw [filter_true] at this
    rw [this]
    unfold M0
    rw [List.map_map]; rfl
  have c0 : rd B [(M0 w purse).2.map fr] B.length = some ((M0 w purse).2.map fr) := rd1
  obtain ⟨kf, items, T2, es, hkf, hitems, hg, hkeep⟩ := steps_spec (B := B) (T := [(M0 w purse).2.map fr]) ok (n := m) (by omega)
  have hkf : B.length + 1 ≤ kf := hkf
  have hlen := Grp.len hg
  have hM : ∃ q r, (M0 w purse).2.map fr = fr q :: r := by
    have hl : ((M0 w purse).2.map fr).length = w.p.length := by simp [M0]
    cases hq : (M0 w purse).2 with
    | nil => rw [hq] at hl; simp at hl; omega
    | cons q r => exact ⟨q, r.map fr, rfl⟩
  obtain ⟨σ', T', e3, v, c4, c5, c6, c7, c8, f1, f2, f3⟩ := for_inv (B := B) (it := .lref kf) (tg := .tp [4, 5]) (b := fun σ T => semS (Rf.run Ps gs LL m) gs LL bFilG σ B T) (m := (steps w).length)
    (fun i σ T' => ∃ v c4 c5 c6 c7 c8, (σ = [some (enc w), some (rateV w), some v, some (.ref B.length), c4, c5, c6, c7, c8] ∧ v = fr (((steps w).take i).foldl (gstep w) (purse, (M0 w purse).2)).1) ∧ rd B T' B.length = some ((((steps w).take i).foldl (gstep w) (purse, (M0 w purse).2)).2.map fr) ∧ ∀ j xs, j ≠ B.length → rd B T2 j = some xs → rd B T' j = some xs)
    (by
      rintro i σ T' hi ⟨v, c4, c5, c6, c7, c8, ⟨rfl, rfl⟩, hc, hk2⟩
      obtain ⟨g, g1, g2⟩ := Grp.get hi hg
      have gne : g ≠ B.length := fun ee => by
        rw [ee, hkeep _ _ c0] at g2
        obtain ⟨q, r, hqr⟩ := hM
        rw [hqr] at g2
        exact ni_ne2 (Option.some.inj g2).symm
      have hm := steps_mem ok (left0 w).length (steps w)[i] (show (steps w)[i] ∈ steps w from List.getElem_mem hi)
      have ht := steps_told (w := w) (left0 w).length (steps w)[i] (show (steps w)[i] ∈ steps w from List.getElem_mem hi)
      have hs0 := steps_seen hi
      have er : rateV w = fr (1 / seen w) := if_pos hs0
      obtain ⟨b1, b2⟩ := gf_bd ok hp i (by omega)
      rw [er]
      obtain ⟨d6, d7, d8, T3, e, q1, q2⟩ := fil_group (B := B) (T := T') (n := m) ok (by omega) hs0 (g := (steps w)[i].1) (fun s hs => ⟨hm.1 s hs, (told_more (ht s hs)).2⟩) hm.2.1 (f := ((steps w).take i).foldl (gstep w) (purse, (M0 w purse).2)) (k := k + 300 * i) (by omega) b1 b2 hc (Nat.le_refl _) (hk2 _ _ gne g2) gne (c5 := some (fr (steps w)[i].2)) (c6 := c6) (c7 := c7) (c8 := c8)
      refine ⟨.tup [.ref g, fr (steps w)[i].2], _, _, T3, ?_, bindF, .inl e, _, some (.ref g), some (fr (steps w)[i].2), d6, d7, d8, ⟨rfl, ?_⟩, ?_, fun j xs h1 h2 => q2 j xs h1 (hk2 j xs h1 h2)⟩
      · rw [at_lref (hk2 _ _ (by omega) hitems), g1]
      · rw [foldl_takeA hi]; rfl
      · rw [q1, foldl_takeA hi]; rfl)
    (by
      rintro σ T' ⟨v, c4, c5, c6, c7, c8, ⟨rfl, rfl⟩, hc, hk2⟩
      rw [at_lref (hk2 _ _ (by omega) hitems), List.getElem?_eq_none (by omega)])
    (steps w).length LL 0 [some (enc w), some (rateV w), some (fr purse), some (.ref B.length), none, none, none, none, none] T2 (by omega) (by omega) ⟨_, none, none, none, none, none, ⟨rfl, rfl⟩, hkeep _ _ c0, fun j xs _ h => h⟩
  obtain ⟨f1, f4⟩ := f1
  subst f1
  rw [List.take_length] at f2
  have e5 : semS (Rf.run Ps gs LL m) gs LL (.for_ (.tp [4, 5]) (.itv (.call 40 (.cons (.var 0) (.cons (.var 1) .nil)))) bFilG) [some (enc w), some (rateV w), some (fr purse), some (.ref B.length), none, none, none, none, none] B [(M0 w purse).2.map fr] = some (.nx, [some (enc w), some (rateV w), some v, some (.ref B.length), c4, c5, c6, c7, c8], T') := by
    rw [S_for, I_itvL (T1 := T2) (k := kf) (by simp only [E_var, E_cst, E_glb, E_bin, E_neg, negV_int, E_vand, E_vor, E_vone, E_vnot, E_tand, E_tor, E_tone, E_tnot, E_tval, E_cmp, E_ife, E_idx, E_nop, E_tup, E_lst, E_nil, E_cons, E_call, E_callp, E_callk, E_isi, E_bi, E_mt, asTup_tup, onB_t, onB_f, onN_nx, onN_rt, onN_bk, onN_ct, S_seq, S_skip, S_pass, S_brk, S_cont, S_set, S_setC, S_setT, S_par, S_setI, S_exp, S_ret, onBS_t, onBS_f, S_ifs, augA_int, b_add, b_addT, b_sub, c_lt, c_le, c_gt, c_ge, c_eqI, c_neI, t_int, t_bl, bi_abs, bi_int, bi_lenT, bi_lenL, bi_tupL, bi_tupT, gx0, gx1, gx2, gx3, gx4, gr0, gr1, gr2, gr3, gfr0, gfr1, st1, st2, st3, Tg.bind, Rf.bindAll, List.replicate_succ, List.replicate_zero, List.map_cons, List.map_nil, List.cons_append, List.nil_append, List.append_nil, List.set_cons_zero, List.set_cons_succ, List.getElem?_cons_zero, List.getElem?_cons_succ, List.length_cons, List.length_nil, Option.bind_some, Option.map_some, Option.bind_none, Option.map_none, if_true, Bool.false_eq_true, if_false, decide_true, decide_false, Bool.not_true, Bool.not_false, es]) hitems]
    exact e3
  refine ⟨T', run_rt (σ := [some (enc w), some (rateV w), some v, some (.ref B.length), c4, c5, c6, c7, c8]) (fn := ⟨3, 9, b__law_filling⟩) rfl rfl ?_⟩
  simp only [bFilG, bFil] at e5
  have f2 : rd B T' B.length = some ((fillL w purse).map fr) := f2
  simp only [E_var, E_cst, E_glb, E_bin, E_neg, negV_int, E_vand, E_vor, E_vone, E_vnot, E_tand, E_tor, E_tone, E_tnot, E_tval, E_cmp, E_ife, E_idx, E_nop, E_tup, E_lst, E_nil, E_cons, E_call, E_callp, E_callk, E_isi, E_bi, E_mt, asTup_tup, onB_t, onB_f, onN_nx, onN_rt, onN_bk, onN_ct, S_seq, S_skip, S_pass, S_brk, S_cont, S_set, S_setC, S_setT, S_par, S_setI, S_exp, S_ret, onBS_t, onBS_f, S_ifs, augA_int, b_add, b_addT, b_sub, c_lt, c_le, c_gt, c_ge, c_eqI, c_neI, t_int, t_bl, bi_abs, bi_int, bi_lenT, bi_lenL, bi_tupL, bi_tupT, gx0, gx1, gx2, gx3, gx4, gr0, gr1, gr2, gr3, gfr0, gfr1, st1, st2, st3, Tg.bind, Rf.bindAll, List.replicate_succ, List.replicate_zero, List.map_cons, List.map_nil, List.cons_append, List.nil_append, List.append_nil, List.set_cons_zero, List.set_cons_succ, List.getElem?_cons_zero, List.getElem?_cons_succ, List.length_cons, List.length_nil, Option.bind_some, Option.map_some, Option.bind_none, Option.map_none, if_true, Bool.false_eq_true, if_false, decide_true, decide_false, Bool.not_true, Bool.not_false, b__law_filling, e4, e5, f2]
end
end K36
end
section
/-! k36, plain: the stable order is the order of the groups. -/
namespace K36
open PySem Rf Pl
section
variable {w : Wd} {s n : Nat}
theorem snoc_ind {α : Type} {P : List α → Prop} (h0 : P []) (hs : ∀ l a, P l → P (l ++ [a])) : ∀ l, P l := by
  have key : ∀ r : List α, P r.reverse := by
    intro r
    induction r with
    | nil => exact h0
    | cons a r ih => rw [List.reverse_cons]; exact hs _ _ ih
  intro l
  have := key l.reverse
  rwa [List.reverse_reverse] at this
def sortOf (w : Wd) (l : List Nat) : List (Rat × Nat) := l.foldl (fun acc s => ins (ratio w s, s) acc) []
theorem sortOf_snoc (l : List Nat) (s : Nat) : sortOf w (l ++ [s]) = ins (ratio w s, s) (sortOf w l) := by
  unfold sortOf
  rw [List.foldl_append]; rfl
theorem sortedTo_eq : ∀ i, sortedTo w i = sortOf w ((List.range i).filter (told w))
  | 0 => rfl
  | i + 1 => by
    rw [List.range_succ, List.filter_append]
    unfold sortedTo
    by_cases h : told w i = true
    · rw [if_pos h, sortedTo_eq i, List.filter_cons_of_pos h, List.filter_nil, sortOf_snoc]
    · rw [if_neg h, sortedTo_eq i, List.filter_cons_of_neg h, List.filter_nil, List.append_nil]
theorem ins_append {x : Rat × Nat} : ∀ {A Bs : List (Rat × Nat)}, (∀ y ∈ A, x.1 ≤ y.1) → ins x (A ++ Bs) = A ++ ins x Bs
  | [], Bs, _ => rfl
  | a :: A, Bs, h => by
    show (if x.1 ≤ a.1 then a :: ins x (A ++ Bs) else x :: a :: (A ++ Bs)) = _
    rw [if_pos (h a (List.mem_cons_self ..)), ins_append fun y hy => h y (List.mem_cons_of_mem _ hy)]
    rfl
theorem ins_head {x : Rat × Nat} {Bs : List (Rat × Nat)} (h : ∀ y ∈ Bs, y.1 < x.1) : ins x Bs = x :: Bs := by
  cases Bs with
  | nil => rfl
  | cons y r =>
    unfold ins
    rw [if_neg (Rat.not_le.mpr (h y (List.mem_cons_self ..)))]
theorem sortOf_mem : ∀ {l : List Nat} {y : Rat × Nat}, y ∈ sortOf w l → y.2 ∈ l ∧ y.1 = ratio w y.2 := by
  intro l
  refine snoc_ind (P := fun l => ∀ {y : Rat × Nat}, y ∈ sortOf w l → y.2 ∈ l ∧ y.1 = ratio w y.2) ?_ ?_ l
  · intro y h; cases h
  · intro l s ih y h
    rw [sortOf_snoc] at h
    rcases ins_mem.mp h with e | e
    · rw [e]; exact ⟨by simp, rfl⟩
    · obtain ⟨h1, h2⟩ := ih e
      exact ⟨List.mem_append_left _ h1, h2⟩
/-- the highest ones come first, in their order -/
theorem sortOf_split {h : Rat} : ∀ {l : List Nat}, (∀ s ∈ l, ratio w s ≤ h) → sortOf w l = ((l.filter fun s => decide (ratio w s = h)).map fun s => (h, s)) ++ sortOf w (l.filter fun s => !decide (ratio w s = h)) := by
  intro l
  refine snoc_ind (P := fun l => (∀ s ∈ l, ratio w s ≤ h) → sortOf w l = ((l.filter fun s => decide (ratio w s = h)).map fun s => (h, s)) ++ sortOf w (l.filter fun s => !decide (ratio w s = h))) ?_ ?_ l
  · intro _; rfl
  · intro l s ih hl
    rw [sortOf_snoc, ih fun u hu => hl u (List.mem_append_left _ hu), List.filter_append, List.filter_append]
    have hs := hl s (by simp)
    have hA : ∀ y ∈ (l.filter fun s => decide (ratio w s = h)).map fun s => (h, s), (ratio w s, s).1 ≤ y.1 := fun y hy => by
      obtain ⟨u, _, rfl⟩ := List.mem_map.mp hy
      exact hs
    rw [ins_append hA]
    by_cases e : ratio w s = h
    · have z : decide (ratio w s = h) = true := decide_eq_true e
      have z2 : (!decide (ratio w s = h)) = false := by rw [z]; rfl
      rw [List.filter_cons_of_pos (by exact z), List.filter_cons_of_neg (by rw [z2]; exact Bool.false_ne_true), List.filter_nil, List.filter_nil, List.append_nil, List.map_append, ins_head, e, List.append_assoc]
      · rfl
      · intro y hy
        obtain ⟨h1, h2⟩ := sortOf_mem hy
        obtain ⟨h3, h4⟩ := List.mem_filter.mp h1
        have h5 := hl y.2 (List.mem_append_left _ h3)
        have h6 : ratio w y.2 ≠ h := fun q => by rw [decide_eq_true q] at h4; cases h4
        show y.1 < ratio w s
        rw [h2, e]
        grind
    · have z : decide (ratio w s = h) = false := decide_eq_false e
      have z2 : (!decide (ratio w s = h)) = true := by rw [z]; rfl
      rw [List.filter_cons_of_neg (by rw [z]; exact Bool.false_ne_true), List.filter_cons_of_pos (by exact z2), List.filter_nil, List.filter_nil, List.append_nil, sortOf_snoc]
/-! ### the groups one behind another -/
def flat (ss : List (List Nat × Rat)) : List (Rat × Nat) := ss.flatMap fun g => g.1.map fun s => (g.2, s)
theorem stpN_acc (l : List Nat) (acc : List (List Nat × Rat)) : ∀ i, stpN w (l, acc) i = ((stpN w (l, []) i).1, acc ++ (stpN w (l, []) i).2)
  | 0 => by simp [stpN]
  | i + 1 => by
    show stp w (stpN w (l, acc) i) = ((stp w (stpN w (l, []) i)).1, acc ++ (stp w (stpN w (l, []) i)).2)
    rw [stpN_acc l acc i]
    unfold stp
    split
    · rfl
    · show _ = (_, _ ++ (_ ++ _))
      rw [← List.append_assoc]
theorem stpN_succ (f : List Nat × List (List Nat × Rat)) : ∀ i, stpN w f (i + 1) = stpN w (stp w f) i
  | 0 => rfl
  | i + 1 => by
    show stp w (stpN w f (i + 1)) = stp w (stpN w (stp w f) i)
    rw [stpN_succ f i]
theorem topR_ge : ∀ {qs : List Rat} {q : Rat}, q ∈ qs → q ≤ topR qs := by
  have key : ∀ (qs : List Rat) (z : Rat), z ≤ qs.foldl (fun b x => if b < x then x else b) z ∧ ∀ q ∈ qs, q ≤ qs.foldl (fun b x => if b < x then x else b) z := by
    intro qs
    induction qs with
    | nil => exact fun z => ⟨Rat.le_refl, fun q h => by cases h⟩
    | cons a l ih =>
      intro z
      rw [List.foldl_cons]
      obtain ⟨h1, h2⟩ := ih (if z < a then a else z)
      by_cases h : z < a
      · rw [if_pos h] at h1 h2 ⊢
        exact ⟨by grind, fun q hq => by
          rcases List.mem_cons.mp hq with e | e
          · rw [e]; exact h1
          · exact h2 q e⟩
      · rw [if_neg h] at h1 h2 ⊢
        exact ⟨h1, fun q hq => by
          rcases List.mem_cons.mp hq with e | e
          · rw [e]; grind
          · exact h2 q e⟩
  intro qs q hq
  cases qs with
  | nil => cases hq
  | cons a l => exact (key (a :: l) a).2 q hq
theorem topR_mem {qs : List Rat} (h : qs ≠ []) : topR qs ∈ qs := by
  cases qs with
  | nil => exact absurd rfl h
  | cons a l =>
    rcases fold_mem top_hh (a :: l) a with e | e
    · show (a :: l).foldl _ a ∈ _
      rw [e]; exact List.mem_cons_self ..
    · exact e
theorem rest_lt {l : List Nat} (h : l ≠ []) : (rest w l).length < l.length := by
  have hm : high w l ∈ l.map (ratio w) := topR_mem fun z => h (List.map_eq_nil_iff.mp z)
  obtain ⟨s, hs, e⟩ := List.mem_map.mp hm
  unfold rest
  rcases Nat.lt_or_ge (l.filter fun s => !decide (ratio w s = high w l)).length l.length with q | q
  · exact q
  · have hall := List.length_filter_eq_length_iff.mp (Nat.le_antisymm (List.length_filter_le _ _) q) s hs
    rw [decide_eq_true e] at hall
    cases hall
theorem flat_steps : ∀ (i : Nat) (l : List Nat), l.length ≤ i → sortOf w l = flat (stpN w (l, []) i).2 := by
  intro i
  induction i with
  | zero =>
    intro l h
    have : l = [] := List.length_eq_zero_iff.mp (by omega)
    subst this; rfl
  | succ i ih =>
    intro l h
    rw [stpN_succ]
    by_cases hl : l = []
    · subst hl
      rw [show stp w (([] : List Nat), ([] : List (List Nat × Rat))) = ([], []) from rfl]
      exact ih [] (Nat.zero_le _)
    · rw [show stp w (l, []) = (rest w l, [] ++ [(grp w l, high w l)]) from if_neg hl, List.nil_append, stpN_acc]
      have hr := rest_lt (w := w) hl
      rw [sortOf_split (h := high w l) fun s hs => topR_ge (List.mem_map.mpr ⟨s, hs, rfl⟩)]
      show _ ++ sortOf w (rest w l) = flat ([(grp w l, high w l)] ++ _)
      rw [ih (rest w l) (by omega)]
      unfold flat
      rw [List.flatMap_append]
      simp [grp]
theorem sorted_flat (h0 : 0 < seen w) : sorted w = flat (steps w) := by
  unfold sorted steps
  have e : left0 w = (List.range w.p.length).filter (told w) := if_pos h0
  rw [sortedTo_eq, ← e]
  exact flat_steps _ _ (Nat.le_refl _)
end
end K36
end
section
/-! k36, plain: filling = filled_mass. -/
namespace K36
open PySem Rf Pl
section
variable {w : Wd} {s n : Nat}
theorem inv_one {q : Rat} (h : 0 < q) : 1 / q * q = 1 := Rat.div_mul_cancel (Rat.ne_of_gt h)
theorem lt_scale {pu q p m r : Rat} (hq : 0 < q) (hr : r * q = 1) (hr0 : 0 < r) : pu * q < p * m ↔ pu < r * m * p := by
  constructor
  · intro h
    have := Rat.mul_lt_mul_of_pos_right h hr0
    have e1 : pu * q * r = pu := by grind
    have e2 : p * m * r = r * m * p := by grind
    rwa [e1, e2] at this
  · intro h
    have := Rat.mul_lt_mul_of_pos_right h hq
    have e1 : r * m * p * q = p * m := by grind
    rwa [e1] at this
theorem div_scale {pu q m r : Rat} (hr : r * q = 1) (hm : m ≠ 0) (hr0 : r ≠ 0) : pu * q / m = pu / (r * m) := by
  rw [Rat.div_def, Rat.div_def, Rat.inv_mul_rev]
  have h1 : r * r⁻¹ = 1 := Rat.mul_inv_cancel r hr0
  have : r⁻¹ = q := by grind
  rw [this]
  grind
theorem step_same (h0 : 0 < seen w) (hm : 0 < more w s) (hp : 0 < pw w s) {pu : Rat} (hpu : 0 ≤ pu) {ms : List Rat} {h : Rat} :
    (mstep w (pu * seen w, ms) (h, s)).1 = (lstep w (pu, ms) s).1 * seen w ∧ (mstep w (pu * seen w, ms) (h, s)).2 = (lstep w (pu, ms) s).2 ∧ 0 ≤ (lstep w (pu, ms) s).1 := by
  have hr := inv_one h0
  have hr0 : 0 < 1 / seen w := by rw [Rat.div_def, Rat.one_mul]; exact Rat.inv_pos.mpr h0
  have hlt := lt_scale (pu := pu) (p := pw w s) (m := more w s) h0 hr hr0
  have hdv := div_scale (pu := pu) hr (Rat.ne_of_gt hm) (Rat.ne_of_gt hr0)
  unfold mstep lstep tell take_ each posR
  dsimp only
  by_cases h1 : pu * seen w < pw w s * more w s
  · have h2 := hlt.mp h1
    have h3 : ¬ 0 < pu - 1 / seen w * more w s * pw w s := by grind
    rw [if_pos h1, if_pos h2, if_neg h3, hdv]
    refine ⟨?_, rfl, Rat.le_refl⟩
    rw [← hdv, Rat.div_mul_cancel (Rat.ne_of_gt hm)]
    grind
  · have h2 : ¬ pu < 1 / seen w * more w s * pw w s := fun z => h1 (hlt.mpr z)
    rw [if_neg h1, if_neg h2]
    by_cases h3 : 0 < pu - 1 / seen w * more w s * pw w s
    · rw [if_pos h3]
      exact ⟨by grind, rfl, by grind⟩
    · rw [if_neg h3]
      have h4 : pu ≤ 1 / seen w * more w s * pw w s := by
        have := Rat.not_lt.mp h3
        exact (Rat.le_iff_sub_nonneg _ _).mpr (by have e : 1 / seen w * more w s * pw w s - pu = -(pu - 1 / seen w * more w s * pw w s) := (Rat.neg_sub _ _).symm
                                                  rw [e]
                                                  have := Rat.neg_le_neg this
                                                  rwa [Rat.neg_zero] at this)
      have e : pu = 1 / seen w * more w s * pw w s := Rat.le_antisymm h4 (Rat.not_lt.mp h2)
      refine ⟨?_, rfl, Rat.le_refl⟩
      have e2 : pu * seen w = pw w s * more w s := by
        rw [e]
        clear hlt hdv h1 h2 h3 h4 e
        grind
      rw [e2, Rat.sub_self, Rat.zero_mul]
def Same (w : Wd) (f f' : Rat × List Rat) : Prop := f.1 = f'.1 * seen w ∧ f.2 = f'.2 ∧ 0 ≤ f'.1
theorem same_group (h0 : 0 < seen w) {h : Rat} : ∀ (g : List Nat) (f f' : Rat × List Rat), (∀ s ∈ g, 0 < more w s ∧ 0 < pw w s) → Same w f f' → Same w ((g.map fun s => (h, s)).foldl (mstep w) f) (g.foldl (lstep w) f')
  | [], f, f', _, q => q
  | s :: g, f, f', hg, q => by
    obtain ⟨q1, q2, q3⟩ := q
    obtain ⟨a, b⟩ := f
    obtain ⟨a', b'⟩ := f'
    dsimp only at q1 q2 q3
    subst q1 q2
    obtain ⟨h1, h2⟩ := hg s (List.mem_cons_self ..)
    exact same_group h0 g _ _ (fun u hu => hg u (List.mem_cons_of_mem _ hu)) (step_same (h := h) h0 h1 h2 q3)
theorem same_all (h0 : 0 < seen w) : ∀ (ss : List (List Nat × Rat)) (f f' : Rat × List Rat), (∀ g ∈ ss, ∀ s ∈ g.1, 0 < more w s ∧ 0 < pw w s) → Same w f f' → Same w ((flat ss).foldl (mstep w) f) (ss.foldl (gstep w) f')
  | [], f, f', _, q => q
  | g :: ss, f, f', hg, q => by
    unfold flat
    rw [List.flatMap_cons, List.foldl_append, List.foldl_cons]
    exact same_all h0 ss _ _ (fun u hu => hg u (List.mem_cons_of_mem _ hu)) (same_group h0 g.1 f f' (hg g (List.mem_cons_self ..)) q)
theorem fill_mass (ok : Ok w) {purse : Rat} (hp : 0 ≤ purse) : fillL w purse = massL w purse := by
  rcases Classical.em (0 < seen w) with h0 | h0
  · unfold fillL massL
    rw [sorted_flat h0]
    refine (same_all h0 (steps w) (M0 w purse) (purse, (M0 w purse).2) (fun g hg s hs => ?_) ⟨rfl, rfl, hp⟩).2.1.symm
    have h1 := (steps_mem ok (left0 w).length g hg).1 s hs
    exact ⟨(told_more (steps_told (left0 w).length g hg s hs)).2, (bd_p ok h1).2⟩
  · have hz : seen w = 0 := by
      have := seen_nonneg ok
      grind
    have e : steps w = [] := by
      unfold steps
      rw [show left0 w = [] from if_neg h0]; rfl
    unfold fillL massL
    rw [e]
    show (M0 w purse).2 = _
    have key : ∀ (l : List (Rat × Nat)), (∀ y ∈ l, y.2 < w.p.length ∧ told w y.2 = true) → l.foldl (mstep w) (0, (M0 w purse).2) = (0, (M0 w purse).2) := by
      intro l
      induction l with
      | nil => intro _; rfl
      | cons y l ih =>
        intro hl
        obtain ⟨h1, h2⟩ := hl y (List.mem_cons_self ..)
        obtain ⟨h3, h4⟩ := told_more h2
        have hpos : 0 < pw w y.2 * more w y.2 := Rat.mul_pos (bd_p ok h1).2 h4
        have ht : tell w 0 y.2 = 0 := by
          unfold tell
          rw [if_pos hpos, Rat.div_def, Rat.zero_mul]
        have hm : mstep w (0, (M0 w purse).2) y = (0, (M0 w purse).2) := by
          unfold mstep
          dsimp only
          rw [ht, Rat.zero_mul, Rat.sub_self]
          congr 1
          apply List.ext_getElem
          · rw [List.length_set]
          · intro i i1 i2
            rw [List.getElem_set]
            split
            · rename_i ei
              subst ei
              have hf : free w y.2 = false := by
                unfold free
                rw [decide_eq_false (Rat.ne_of_gt h4), Bool.and_false]
              simp [M0, hf]
            · rfl
        rw [List.foldl_cons, hm]
        exact ih fun u hu => hl u (List.mem_cons_of_mem _ hu)
    have em : M0 w purse = (0, (M0 w purse).2) := by
      show (purse * seen w, _) = _
      rw [hz, Rat.mul_zero]; rfl
    have e3 := key (sorted w) fun y hy => ⟨(sorted_mem hy).1, (sorted_mem hy).2.1⟩
    rw [← em] at e3
    rw [e3]
end
end K36
end
section
/-! k36, plain: curve = filled. -/
namespace K36
open PySem Rf Pl
section
variable {w : Wd} {s n : Nat}
/-- within a group: the last corner grows -/
theorem fold_kept {h : Rat} : ∀ (g : List Nat) (f : Fs), f.kept = some h → (∀ s ∈ g, ratio w s = h ∧ 0 < more w s) →
    (g.map fun s => (h, s)).foldl (fstep w) f = ⟨f.cs, (f.last.1 + debt w g / seen w, f.last.2 + debt w g * h), some h⟩
  | [], f, hk, _ => by
    obtain ⟨a, b, c⟩ := f
    have hk : c = some h := hk
    subst hk
    show (⟨a, b, some h⟩ : Fs) = ⟨a, (b.1 + 0 / seen w, b.2 + 0 * h), some h⟩
    rw [Rat.div_def, Rat.zero_mul, Rat.zero_mul, Rat.add_zero, Rat.add_zero]
  | s :: g, f, hk, hg => by
    obtain ⟨h1, h2⟩ := hg s (List.mem_cons_self ..)
    have e : fstep w f (h, s) = ⟨f.cs, corner w f (h, s), some h⟩ := if_pos hk.symm
    rw [List.map_cons, List.foldl_cons, e, fold_kept g _ rfl fun u hu => hg u (List.mem_cons_of_mem _ hu)]
    have hr : rise w s = more w s * h := by
      rw [← h1]
      unfold ratio
      rw [Rat.mul_comm, Rat.div_mul_cancel (Rat.ne_of_gt h2)]
    have hd : debt w (s :: g) = pw w s * more w s + debt w g := by
      unfold debt
      rw [List.map_cons, List.sum_cons]
    rw [hd]
    unfold corner
    dsimp only
    rw [hr, Rat.div_def, Rat.div_def, Rat.div_def]
    congr 2
    · grind
    · grind
/-- a group after another ratio -/
theorem fold_group {h : Rat} {g : List Nat} {f : Fs} (hk : f.kept ≠ some h) (hne : g ≠ []) (hg : ∀ s ∈ g, ratio w s = h ∧ 0 < more w s) :
    (g.map fun s => (h, s)).foldl (fstep w) f = ⟨f.cs ++ [f.last], (f.last.1 + debt w g / seen w, f.last.2 + debt w g * h), some h⟩ := by
  cases g with
  | nil => exact absurd rfl hne
  | cons s g =>
    obtain ⟨h1, h2⟩ := hg s (List.mem_cons_self ..)
    have e : fstep w f (h, s) = ⟨f.cs ++ [f.last], corner w f (h, s), some h⟩ := if_neg fun z => hk z.symm
    rw [List.map_cons, List.foldl_cons, e, fold_kept g _ rfl fun u hu => hg u (List.mem_cons_of_mem _ hu)]
    have hr : rise w s = more w s * h := by
      rw [← h1]
      unfold ratio
      rw [Rat.mul_comm, Rat.div_mul_cancel (Rat.ne_of_gt h2)]
    have hd : debt w (s :: g) = pw w s * more w s + debt w g := by
      unfold debt
      rw [List.map_cons, List.sum_cons]
    rw [hd]
    unfold corner
    dsimp only
    rw [hr, Rat.div_def, Rat.div_def, Rat.div_def]
    congr 2
    · grind
    · grind
/-- groups of one ratio each, no two neighbours alike -/
def Dist (w : Wd) : Option Rat → List (List Nat × Rat) → Prop
  | _, [] => True
  | o, g :: ss => o ≠ some g.2 ∧ g.1 ≠ [] ∧ (∀ s ∈ g.1, ratio w s = g.2 ∧ 0 < more w s) ∧ Dist w (some g.2) ss
theorem curve_fold : ∀ (ss : List (List Nat × Rat)) (f : Fs) (c : List (Rat × Rat) × (Rat × Rat)), Dist w f.kept ss → all f = c.1 → f.last = c.2 → all ((flat ss).foldl (fstep w) f) = (ss.foldl (cstep w) c).1
  | [], f, c, _, h1, _ => h1
  | g :: ss, f, c, ⟨d1, d2, d3, d4⟩, h1, h2 => by
    unfold flat
    rw [List.flatMap_cons, List.foldl_append, List.foldl_cons, fold_group d1 d2 d3]
    refine curve_fold ss _ (cstep w c g) d4 ?_ ?_
    · show (f.cs ++ [f.last]) ++ [_] = c.1 ++ [_]
      rw [show f.cs ++ [f.last] = c.1 from h1, h2]
      rw [Rat.div_def, Rat.div_def, Rat.one_mul]
    · show (_, _) = (_, _)
      rw [h2, Rat.div_def, Rat.div_def, Rat.one_mul]
theorem dist_steps : ∀ (i : Nat) (l : List Nat) (o : Option Rat), l.length ≤ i → (∀ s ∈ l, o ≠ some (ratio w s) ∧ 0 < more w s) → Dist w o (stpN w (l, []) i).2 := by
  intro i
  induction i with
  | zero => intro l o h _; exact trivial
  | succ i ih =>
    intro l o h hl
    rw [stpN_succ]
    by_cases hne : l = []
    · subst hne
      rw [show stp w (([] : List Nat), ([] : List (List Nat × Rat))) = ([], []) from rfl]
      exact ih [] o (Nat.zero_le _) fun s hs => by cases hs
    · rw [show stp w (l, []) = (rest w l, [] ++ [(grp w l, high w l)]) from if_neg hne, List.nil_append, stpN_acc]
      have hr := rest_lt (w := w) hne
      have hm : high w l ∈ l.map (ratio w) := topR_mem fun z => hne (List.map_eq_nil_iff.mp z)
      obtain ⟨s, hs, e⟩ := List.mem_map.mp hm
      have hg : s ∈ grp w l := List.mem_filter.mpr ⟨hs, decide_eq_true e⟩
      refine ⟨?_, List.ne_nil_of_mem hg, fun u hu => ?_, ih _ _ (by omega) fun u hu => ?_⟩
      · show o ≠ some (high w l)
        rw [← e]; exact (hl s hs).1
      · obtain ⟨h1, h2⟩ := List.mem_filter.mp hu
        exact ⟨of_decide_eq_true h2, (hl u h1).2⟩
      · obtain ⟨h1, h2⟩ := List.mem_filter.mp hu
        refine ⟨fun z => ?_, (hl u h1).2⟩
        have z := Option.some.inj z
        rw [decide_eq_true z.symm] at h2
        cases h2
theorem curve_filled (ok : Ok w) : curveL w = filledL w := by
  by_cases hz : seen w = 0
  · have e : steps w = [] := by
      unfold steps
      rw [show left0 w = [] from if_neg (by rw [hz]; exact Rat.lt_irrefl)]; rfl
    unfold curveL
    rw [e, show filledL w = [(0, fgain w)] from if_pos hz]; rfl
  · have h0 : 0 < seen w := by
      have := seen_nonneg ok
      grind
    rw [show filledL w = all ((sorted w).foldl (fstep w) (F0 w)) from if_neg hz, sorted_flat h0]
    exact (curve_fold (steps w) (F0 w) (C0 w) (dist_steps _ _ none (Nat.le_refl _) fun s hs => ⟨(by intro z; cases z), (told_more (left0_mem hs).2).2⟩) rfl rfl).symm
end
end K36
end
section
/-! k36, plain: the corners rise. -/
namespace K36
open PySem Rf Pl
section
variable {w : Wd} {s n : Nat}
theorem rising_up {a b : Rat × Rat} (h : a.1 ≤ b.1) : ∀ (cs : List (Rat × Rat)), Rising (cs ++ [a]) → Rising (cs ++ [b])
  | [], _ => trivial
  | [x], q => ⟨by have := q.1; show x.1 ≤ b.1; exact Rat.le_trans this h, trivial⟩
  | x :: y :: r, q => ⟨q.1, rising_up h (y :: r) q.2⟩
theorem rising_snoc {a b : Rat × Rat} (h : a.1 ≤ b.1) : ∀ (cs : List (Rat × Rat)), Rising (cs ++ [a]) → Rising ((cs ++ [a]) ++ [b])
  | [], _ => ⟨h, trivial⟩
  | [x], q => ⟨q.1, h, trivial⟩
  | x :: y :: r, q => ⟨q.1, rising_snoc h (y :: r) q.2⟩
theorem fold_rising : ∀ (l : List (Rat × Nat)) (f : Fs), (∀ x ∈ l, 0 ≤ pw w x.2 * more w x.2 / seen w) → Rising (all f) → Rising (all (l.foldl (fstep w) f))
  | [], f, _, q => q
  | x :: l, f, hl, q => by
    have h0 := hl x (List.mem_cons_self ..)
    have hle : f.last.1 ≤ (corner w f x).1 := by
      show f.last.1 ≤ f.last.1 + pw w x.2 * more w x.2 / seen w
      grind
    refine fold_rising l (fstep w f x) (fun y hy => hl y (List.mem_cons_of_mem _ hy)) ?_
    unfold fstep
    split
    · exact rising_up hle f.cs q
    · exact rising_snoc hle f.cs q
theorem filled_rising (ok : Ok w) : Rising (filledL w) := by
  by_cases hz : seen w = 0
  · rw [show filledL w = [(0, fgain w)] from if_pos hz]; trivial
  · have h0 : 0 < seen w := by
      have := seen_nonneg ok
      grind
    rw [show filledL w = all ((sorted w).foldl (fstep w) (F0 w)) from if_neg hz]
    refine fold_rising _ _ (fun x hx => ?_) trivial
    have h1 := (sorted_mem hx).1
    rw [Rat.div_def]
    exact Rat.mul_nonneg (Rat.mul_nonneg (Rat.le_of_lt (bd_p ok h1).2) (more_nonneg ok h1)) (Rat.le_of_lt (Rat.inv_pos.mpr h0))
theorem fold_head {c : Rat × Rat} : ∀ (l : List (Rat × Nat)) (f : Fs), ((f.kept = none ∧ f.cs = [] ∧ f.last = c) ∨ f.cs.head? = some c) → (all (l.foldl (fstep w) f)).head? = some c
  | [], f, h => by
    show (f.cs ++ [f.last]).head? = _
    rcases h with ⟨_, h2, h3⟩ | h
    · rw [h2, h3]; rfl
    · cases hc : f.cs with
      | nil => rw [hc] at h; cases h
      | cons a r => rw [hc] at h; exact h
  | x :: l, f, h => by
    refine fold_head l (fstep w f x) (.inr ?_)
    unfold fstep
    rcases h with ⟨h1, h2, h3⟩ | h
    · rw [if_neg (by rw [h1]; intro z; cases z)]
      show (f.cs ++ [f.last]).head? = _
      rw [h2, h3]; rfl
    · split
      · exact h
      · show (f.cs ++ [f.last]).head? = _
        cases hc : f.cs with
        | nil => rw [hc] at h; cases h
        | cons a r => rw [hc] at h; exact h
theorem filled_head (w : Wd) : (filledL w).head? = some (0, fgain w) := by
  by_cases hz : seen w = 0
  · rw [show filledL w = [(0, fgain w)] from if_pos hz]; rfl
  · rw [show filledL w = all ((sorted w).foldl (fstep w) (F0 w)) from if_neg hz]
    exact fold_head _ _ (.inl ⟨rfl, rfl, rfl⟩)
theorem fs_all (ok : Ok w) (h0 : 0 < seen w) : ∀ i, i ≤ (sorted w).length → ∀ y ∈ all (((sorted w).take i).foldl (fstep w) (F0 w)), Bd 300 y.1 ∧ Bd 300 y.2 := by
  intro i
  induction i with
  | zero =>
    intro _ y hy
    have : y = (0, fgain w) := by simpa [all, F0] using hy
    subst this
    exact ⟨Bd.zero (by decide), (fgain_bd ok).mono (by decide)⟩
  | succ i ih =>
    intro hi y hy
    have h4 := sorted_l4 ok
    obtain ⟨b1, b2, _⟩ := fs_bd ok h0 (i + 1) hi
    have e := foldl_takeA (h := fstep w) (z := F0 w) (show i < (sorted w).length by omega)
    rcases List.mem_append.mp hy with q | q
    · refine ih (by omega) y ?_
      rw [e] at q
      unfold fstep at q
      split at q
      · exact List.mem_append_left _ q
      · exact q
    · have : y = (((sorted w).take (i + 1)).foldl (fstep w) (F0 w)).last := by simpa using q
      rw [this]
      exact ⟨b1.mono (by omega), b2.mono (by omega)⟩
theorem filled_bd (ok : Ok w) : ∀ y ∈ filledL w, Bd 300 y.1 ∧ Bd 300 y.2 := by
  by_cases hz : seen w = 0
  · rw [show filledL w = [(0, fgain w)] from if_pos hz]
    intro y hy
    have : y = (0, fgain w) := by simpa using hy
    subst this
    exact ⟨Bd.zero (by decide), (fgain_bd ok).mono (by decide)⟩
  · have h0 : 0 < seen w := by
      have := seen_nonneg ok
      grind
    rw [show filledL w = all ((sorted w).foldl (fstep w) (F0 w)) from if_neg hz]
    have := fs_all ok h0 (sorted w).length (Nat.le_refl _)
    rw [List.take_length] at this
    exact this
end
end K36
end
section
/-! k36: _law_purse_right. -/
namespace K36
open PySem Rf Pl
section
variable {w : Wd} {s n : Nat} {B T : MH}
theorem plD_frs (qs : List Rat) (h : qs.length < 1000) : plD 2 (.tup (qs.map fr)) := ⟨by rw [List.length_map]; exact h, fun x hx => by
  obtain ⟨q, _, rfl⟩ := List.mem_map.mp hx
  exact plD_fr q 0⟩
theorem plD_encP (x : Rat × Rat) : plD 2 (encP x) := ⟨(by show 2 < 1000; decide), fun y hy => by
  simp only [List.mem_cons, List.not_mem_nil, or_false] at hy
  rcases hy with rfl | rfl <;> exact plD_fr _ 0⟩
theorem plD_encPs (xs : List (Rat × Rat)) (h : xs.length < 1000) : plD 3 (.tup (xs.map encP)) := ⟨by rw [List.length_map]; exact h, fun x hx => by
  obtain ⟨q, _, rfl⟩ := List.mem_map.mp hx
  exact plD_encP q⟩
theorem nrs {α : Type} {f : α → PV} (h : ∀ x, (f x).noRef = true) : ∀ xs : List α, noRefs (xs.map f) = true
  | [] => rfl
  | x :: xs => by
    show ((f x).noRef && noRefs (xs.map f)) = true
    rw [h x, nrs h xs]; rfl
theorem frs_nr (qs : List Rat) : (PV.tup (qs.map fr)).noRef = true := nrs fr_noRef qs
theorem encPs_nr (xs : List (Rat × Rat)) : (PV.tup (xs.map encP)).noRef = true := nrs (fun _ => rfl) xs
theorem rateV_nr (w : Wd) : (rateV w).noRef = true := by
  unfold rateV
  split <;> rfl
theorem massL_len (ok : Ok w) (purse : Rat) : (massL w purse).length = w.p.length := by
  have := ms_len ok purse (sorted w).length (Nat.le_refl _)
  rw [List.take_length] at this
  exact this
theorem filled_len (ok : Ok w) : (filledL w).length ≤ 5 := by
  by_cases hz : seen w = 0
  · rw [show filledL w = [(0, fgain w)] from if_pos hz]
    simp
  · have h0 : 0 < seen w := by
      have := seen_nonneg ok
      grind
    rw [show filledL w = all ((sorted w).foldl (fstep w) (F0 w)) from if_neg hz]
    have h := (fs_bd ok h0 (sorted w).length (Nat.le_refl _)).2.2
    rw [List.take_length] at h
    have h4 := sorted_l4 ok
    unfold all
    rw [List.length_append]
    simp only [List.length_cons, List.length_nil]
    omega
theorem filled_cons (w : Wd) : ∃ tl, filledL w = (0, fgain w) :: tl := by
  have := filled_head w
  cases h : filledL w with
  | nil => rw [h] at this; cases this
  | cons a tl =>
    rw [h] at this
    exact ⟨tl, by rw [Option.some.inj this]⟩
theorem getP10 (a b : PV) : getP [1, 0] [a, b] = [b, a] := (rfl)
theorem getP0 (a : PV) : getP [0] [a] = [a] := (rfl)
theorem purse_spec (ok : Ok w) (hn : 9 ≤ n) {purse : Rat} {k : Nat} (hp : Bd k purse) (hk : k ≤ 900) (h0 : 0 ≤ purse) (b : Bool) : Ret Ps gs LL n 48 [enc w, fr purse, .bl b] B (.bl true) := by
  obtain ⟨m, rfl⟩ : ∃ m, n = m + 1 := ⟨n - 1, by omega⟩
  have hs4 := ok.s4
  have hp := hp.mono hk
  obtain ⟨tl, ef⟩ := filled_cons w
  have hr := filled_rising ok
  have hb := filled_bd ok
  have hl := filled_len ok
  rw [ef] at hr hb hl
  have hb : ∀ y ∈ (0, fgain w) :: tl, Bd 900 y.1 ∧ Bd 900 y.2 := fun y hy => ⟨(hb y hy).1.mono (by decide), (hb y hy).2.mono (by decide)⟩
  have hl : tl.length ≤ 100 := by
    rw [List.length_cons] at hl; omega
  have e1 := dropT_ret (T := []) (rate_spec (B := B) ok (n := m) (by omega)) (rateV_nr w)
  have e2 := dropT_ret (T := []) (curve_spec (B := B) ok (n := m) (by omega)) (encPs_nr _)
  have e3 := dropT_ret (T := []) (mass_spec (B := B) ok (n := m) (by omega) hp (by omega)) (frs_nr _)
  have e4 := dropT_ret (T := []) (filled_spec (B := B) ok (n := m) (by omega)) (encPs_nr _)
  have e5 := dropT_ret (T := []) (number_spec (B := B) (n := m) (by omega) (a := (0, fgain w)) (tl := tl) (by omega) hp hb hl h0) rfl
  have e6 := dropT_ret (T := []) (filling_spec (B := B) ok (n := m) (by omega) hp (by omega)) (frs_nr _)
  have e7 := dropT_ret (T := []) (on_spec (B := B) (n := m) (by omega) (a := (0, fgain w)) (tl := tl) (by omega) hp hb hl h0 hr) rfl
  have e8 := dropT_ret (T := []) (eqL (B := B) (n := m) (plD_frs (massL w purse) (by rw [massL_len ok]; omega)) (by omega)) rfl
  have e9 := dropT_ret (T := []) (eqL (B := B) (n := m) (plD_fr (numAt (0, fgain w) tl purse) 0) (by omega)) rfl
  rw [fill_mass ok h0] at e6
  rw [curve_filled ok, ef] at e2
  rw [ef] at e4
  generalize PV.tup (((0, fgain w) :: tl).map encP) = V at *
  generalize PV.tup ((massL w purse).map fr) = U at *
  generalize fr (numAt (0, fgain w) tl purse) = X at *
  cases b with
  | true =>
    refine ⟨[], run_rt (σ := [some (enc w), some (fr purse), some (.bl true), some (rateV w), some V, some U, some X]) (fn := ⟨3, 7, b__law_purse_right⟩) rfl rfl ?_⟩
    simp only [E_var, E_cst, E_glb, E_bin, E_neg, negV_int, E_vand, E_vor, E_vone, E_vnot, E_tand, E_tor, E_tone, E_tnot, E_tval, E_cmp, E_ife, E_idx, E_nop, E_tup, E_lst, E_nil, E_cons, E_call, E_callp, E_callk, E_isi, E_bi, E_mt, asTup_tup, onB_t, onB_f, onN_nx, onN_rt, onN_bk, onN_ct, S_seq, S_skip, S_pass, S_brk, S_cont, S_set, S_setC, S_setT, S_par, S_setI, S_exp, S_ret, onBS_t, onBS_f, S_ifs, augA_int, b_add, b_addT, b_sub, c_lt, c_le, c_gt, c_ge, c_eqI, c_neI, t_int, t_bl, bi_abs, bi_int, bi_lenT, bi_lenL, bi_tupL, bi_tupT, gx0, gx1, gx2, gx3, gx4, gr0, gr1, gr2, gr3, gfr0, gfr1, st1, st2, st3, Tg.bind, Rf.bindAll, List.replicate_succ, List.replicate_zero, List.map_cons, List.map_nil, List.cons_append, List.nil_append, List.append_nil, List.set_cons_zero, List.set_cons_succ, List.getElem?_cons_zero, List.getElem?_cons_succ, List.length_cons, List.length_nil, Option.bind_some, Option.map_some, Option.bind_none, Option.map_none, if_true, Bool.false_eq_true, if_false, decide_true, decide_false, Bool.not_true, Bool.not_false, t_bl, b__law_purse_right, getP10, e1, e2, e3, e4, e5, e6, e7, e8, e9]
  | false =>
    refine ⟨[], run_rt (σ := [some (enc w), some (fr purse), some (.bl false), some (rateV w), some V, some U, some X]) (fn := ⟨3, 7, b__law_purse_right⟩) rfl rfl ?_⟩
    simp only [E_var, E_cst, E_glb, E_bin, E_neg, negV_int, E_vand, E_vor, E_vone, E_vnot, E_tand, E_tor, E_tone, E_tnot, E_tval, E_cmp, E_ife, E_idx, E_nop, E_tup, E_lst, E_nil, E_cons, E_call, E_callp, E_callk, E_isi, E_bi, E_mt, asTup_tup, onB_t, onB_f, onN_nx, onN_rt, onN_bk, onN_ct, S_seq, S_skip, S_pass, S_brk, S_cont, S_set, S_setC, S_setT, S_par, S_setI, S_exp, S_ret, onBS_t, onBS_f, S_ifs, augA_int, b_add, b_addT, b_sub, c_lt, c_le, c_gt, c_ge, c_eqI, c_neI, t_int, t_bl, bi_abs, bi_int, bi_lenT, bi_lenL, bi_tupL, bi_tupT, gx0, gx1, gx2, gx3, gx4, gr0, gr1, gr2, gr3, gfr0, gfr1, st1, st2, st3, Tg.bind, Rf.bindAll, List.replicate_succ, List.replicate_zero, List.map_cons, List.map_nil, List.cons_append, List.nil_append, List.append_nil, List.set_cons_zero, List.set_cons_succ, List.getElem?_cons_zero, List.getElem?_cons_succ, List.length_cons, List.length_nil, Option.bind_some, Option.map_some, Option.bind_none, Option.map_none, if_true, Bool.false_eq_true, if_false, decide_true, decide_false, Bool.not_true, Bool.not_false, t_bl, b__law_purse_right, getP10, e1, e2, e3, e4, e5, e6, e7, e8, e9]
end
end K36
end
section
/-! k36: chances that sum up to one, two costs. -/
namespace K36
open PySem Rf Pl
section
variable {w : Wd} {n : Nat} {B T : MH} {CF : Nat → List PV → MH → MH → M} {G : List (Str × PV)} {L : Nat} {σ : En}
theorem mk_ex {xs : List PV} (h : xs.length ≤ big) : ∃ (k : Nat) (T' : MH), mk B T xs = some (.ref k, T') ∧ rd B T' k = some xs ∧ k = B.length + T.length ∧ T' = T ++ [xs] := ⟨_, _, mk_ok h, rd_new, rfl, rfl⟩
theorem Sx_lt {s g c m : Nat} (h : Sx B T s g c m) : s < B.length + T.length ∧ g < B.length + T.length ∧ c < B.length + T.length := by
  obtain ⟨st, n, gr, cs, h1, h2, h3, h4⟩ := h.ex
  exact ⟨rd_lt h1, rd_lt h2, rd_lt h3⟩
theorem b_addL {a b : Nat} {xs ys : List PV} (ha : rd B T a = some xs) (hb : rd B T b = some ys) (na : B.length ≤ a) (nb : B.length ≤ b) (hl : (xs ++ ys).length ≤ big) : Rf.bin B T .add (.ref a) (.ref b) = some (.ref (B.length + T.length), T ++ [xs ++ ys]) := by
  have h : (isNew B T a && isNew B T b) = true := by
    unfold isNew
    rw [decide_eq_true na, decide_eq_true nb]; rfl
  show (if (isNew B T a && isNew B T b) = true then _ else none) = _
  rw [if_pos h, ha, Option.bind_some, hb, Option.bind_some]
  exact mk_ok hl
theorem divInt_le {a b w : Int} (hw : 0 < w) (h : a ≤ b) : Rat.divInt a w ≤ Rat.divInt b w := by
  rw [Rat.divInt_eq_div, Rat.divInt_eq_div, Rat.div_def, Rat.div_def]
  exact Rat.mul_le_mul_of_nonneg_right (Rat.intCast_le_intCast.mpr h) (Rat.le_of_lt (Rat.inv_pos.mpr (Rat.intCast_pos.mpr hw)))
theorem divInt_pos {a w : Int} (hw : 0 < w) (h : 0 < a) : 0 < Rat.divInt a w := by
  rw [Rat.divInt_eq_div, Rat.div_def]
  exact Rat.mul_pos (Rat.intCast_pos.mpr h) (Rat.inv_pos.mpr (Rat.intCast_pos.mpr hw))
theorem divInt_split {a b w : Int} : Rat.divInt b w = Rat.divInt a w + Rat.divInt (b - a) w := by
  rw [Rat.divInt_eq_div, Rat.divInt_eq_div, Rat.divInt_eq_div, Rat.div_def, Rat.div_def, Rat.div_def, ← Rat.add_mul, ← Rat.intCast_add, show a + (b - a) = b by omega]
theorem bd_divInt {a w : Int} (hw : 0 < w) (h2 : w < 16384) (h : a.natAbs < 16384) : Bd 14 (Rat.divInt a w) := by
  obtain ⟨k, rfl⟩ : ∃ k : Nat, w = k := ⟨w.toNat, by omega⟩
  rw [Rat.divInt_ofNat]
  exact .mk (by omega) h (by omega)
theorem small_pow {w : Int} (h : w.natAbs < 16384) : w.natAbs < 2 ^ 8999 := Nat.lt_of_lt_of_le (show w.natAbs < 2 ^ 14 from h) (pow_le (by decide))
def bShare : S := (.seq (.set 7 (.bin .add (.var 2) (.call 23 (.cons (.var 0) (.cons (.bin .add (.bin .sub (.var 4) (.bin .mul (.var 2) (.bin .sub (.var 1) (.var 6)))) (.cst (.int 1))) .nil))))) (.seq (.exp (.mt .append (.var 5) (.cons (.callp 27 (.cons (.var 7) (.cons (.var 3) .nil))) .nil))) (.seq (.set 4 (.bin .sub (.var 4) (.var 7))) .skip)))
theorem share_turn (hn : 4 ≤ n) {s g c m : Nat} (sx : Sx B T s g c m) (hm : m < 2 ^ 59) {many i : Nat} {le : Int} (hl : le = 0 ∨ le = 1) (hmany : many ≤ 4) (hi : i < many) {whole left : Int} (hw : 1000 ≤ whole ∧ whole < 10000) (h1 : le * ((many : Int) - i) ≤ left) (h2 : left ≤ whole) {kf : Nat} {qs : List Rat} (hf : rd B T kf = some (qs.map fr)) (hf0 : B.length ≤ kf) (hs : s ≠ kf) (hg : g ≠ kf) (hc : c ≠ kf) (hlen : qs.length ≤ 4) {c7 : Option PV} :
    ∃ (cnt : Int) (T' : MH), semS (Rf.run Ps gs LL n) gs LL bShare [some (.ref s), some (.int many), some (.int le), some (.int whole), some (.int left), some (.ref kf), some (.int i), c7] B T = some (.nx, [some (.ref s), some (.int many), some (.int le), some (.int whole), some (.int (left - cnt)), some (.ref kf), some (.int i), some (.int cnt)], T') ∧
      le ≤ cnt ∧ cnt ≤ whole ∧ le * ((many : Int) - (i + 1)) ≤ left - cnt ∧ Sx B T' s g c (m + 1) ∧ rd B T' kf = some ((qs ++ [Rat.divInt cnt whole]).map fr) ∧ T.length ≤ T'.length ∧ (∀ k xs, k ≠ s → k ≠ g → k ≠ kf → rd B T k = some xs → rd B T' k = some xs) := by
  have hbig : 200 < big := by decide +kernel
  have hP : le * ((many : Int) - (i + 1)) = le * ((many : Int) - i) - le := by grind
  have hP0 : 0 ≤ le * ((many : Int) - i) := Int.mul_nonneg (by omega) (by omega)
  have hP1 : 0 ≤ le * ((many : Int) - (i + 1)) := Int.mul_nonneg (by omega) (by omega)
  have m1 : mulOk le ((many : Int) - i) = true := mulOk_of (m := 1) (n := 3) (by omega) (by omega) (by decide)
  generalize hQ : le * ((many : Int) - i) = Q at *
  obtain ⟨d, T1, e1, d0, d1, sx1, k1⟩ := drawL (n := n) (by omega) B T s g c m (left - Q + 1) sx (by omega) (by omega) (by omega)
  have hf1 := k1.kp kf _ (Ne.symm hs) (Ne.symm hg) hf
  have e2 := dropT_ret (T := T1) (frL (n := n) (by omega) (le + d) whole (B ++ T1) (by omega) (small_pow (by omega))) rfl
  have a1 := append_put (v := fr (Rat.divInt (le + d) whole)) hf1 hf0 (by rw [List.length_map]; omega)
  refine ⟨le + d, put B T1 kf (qs.map fr ++ [fr (Rat.divInt (le + d) whole)]), ?_, by omega, by omega, by rw [hP]; omega, sx1.put hf0 hs hg hc, ?_, by rw [put_len]; exact k1.len, fun k xs h1 h2 h3 h => by rw [rd_put_ne h3 hf0]; exact k1.kp k xs h1 h2 h⟩
  · simp only [E_var, E_cst, E_glb, E_bin, E_neg, negV_int, E_vand, E_vor, E_vone, E_vnot, E_tand, E_tor, E_tone, E_tnot, E_tval, E_cmp, E_ife, E_idx, E_nop, E_tup, E_lst, E_nil, E_cons, E_call, E_callp, E_callk, E_isi, E_bi, E_mt, asTup_tup, onB_t, onB_f, onN_nx, onN_rt, onN_bk, onN_ct, S_seq, S_skip, S_pass, S_brk, S_cont, S_set, S_setC, S_setT, S_par, S_setI, S_exp, S_ret, onBS_t, onBS_f, S_ifs, augA_int, b_add, b_addT, b_sub, c_lt, c_le, c_gt, c_ge, c_eqI, c_neI, t_int, t_bl, bi_abs, bi_int, bi_lenT, bi_lenL, bi_tupL, bi_tupT, gx0, gx1, gx2, gx3, gx4, gr0, gr1, gr2, gr3, gfr0, gfr1, st1, st2, st3, Tg.bind, Rf.bindAll, List.replicate_succ, List.replicate_zero, List.map_cons, List.map_nil, List.cons_append, List.nil_append, List.append_nil, List.set_cons_zero, List.set_cons_succ, List.getElem?_cons_zero, List.getElem?_cons_succ, List.length_cons, List.length_nil, Option.bind_some, Option.map_some, Option.bind_none, Option.map_none, if_true, Bool.false_eq_true, if_false, decide_true, decide_false, Bool.not_true, Bool.not_false, bShare, b_mul m1, hQ, e1, e2, a1]
  · rw [rd_put hf1 hf0, List.map_append]; rfl
/-- fractions that sum up to one -/
structure Shr (R : Nat) (le : Int) (qs : List Rat) : Prop where
  len : qs.length = R
  sum : qs.sum = 1
  bd : ∀ q ∈ qs, Bd 14 q ∧ 0 ≤ q ∧ (le = 1 → 0 < q)
theorem shares_spec (hn : 5 ≤ n) {s g c m : Nat} (sx : Sx B T s g c m) (hm : m < 2 ^ 58) {many : Nat} {le : Int} (hle : le = 0 ∨ le = 1) (h0 : 1 ≤ many) (h4 : many ≤ 4) :
    ∃ (qs : List Rat) (T' : MH), Rf.run Ps gs LL n 45 [.ref s, .int many, .int le] B T = some (.tup (qs.map fr), T') ∧ Shr many le qs ∧ Sx B T' s g c (m + 4) ∧ Kept B T T' s g := by
  obtain ⟨n, rfl⟩ : ∃ k, n = k + 1 := ⟨n - 1, by omega⟩
  have hbL := big_L
  have hbig : 200 < big := by decide +kernel
  obtain ⟨d, T1, e1, d0, d1, sx1, k1⟩ := drawL (n := n) (by omega) B T s g c m 9000 sx (by omega) (by omega) (by omega)
  obtain ⟨kf, T2, e2, r2, ek, eT⟩ := mk_ex (B := B) (T := T1) (xs := []) (Nat.zero_le _)
  obtain ⟨l1, l2, l3⟩ := Sx_lt sx1
  have sx2 : Sx B T2 s g c (m + 1) := by rw [eT]; exact sx1.app
  have hf0 : B.length ≤ kf := by omega
  have keep2 : ∀ k xs, k ≠ s → k ≠ g → rd B T k = some xs → k ≠ kf ∧ rd B T2 k = some xs := fun k xs h1 h2 h => ⟨by have := rd_lt h; have := k1.len; omega, by rw [eT]; exact rd_app (k1.kp k xs h1 h2 h)⟩
  have len2 : T.length ≤ T2.length := by rw [eT, List.length_append]; exact Nat.le_trans k1.len (Nat.le_add_right _ _)
  obtain ⟨wh, hwh⟩ : ∃ wh : Int, 1000 + d = wh := ⟨_, rfl⟩
  have hw1 : 1000 ≤ wh ∧ wh < 10000 := by omega
  have hwz : wh ≠ 0 := by omega
  obtain ⟨σ', T3, e3, left, qs, c6, c7, f1, f2, f3, f4, f5, f6, f7, f8, f9, f10⟩ := for_inv (B := B) (it := .rng 0 (many - 1)) (tg := .nm 6) (b := fun σ T => semS (Rf.run Ps gs LL n) gs LL bShare σ B T) (m := many - 1)
    (fun i σ T' => ∃ (left : Int) (qs : List Rat) (c6 c7 : Option PV), σ = [some (.ref s), some (.int many), some (.int le), some (.int wh), some (.int left), some (.ref kf), c6, c7] ∧ le * ((many : Int) - i) ≤ left ∧ left ≤ wh ∧ qs.length = i ∧ qs.sum + Rat.divInt left wh = 1 ∧ (∀ q ∈ qs, Bd 14 q ∧ 0 ≤ q ∧ (le = 1 → 0 < q)) ∧ Sx B T' s g c (m + 1 + i) ∧ rd B T' kf = some (qs.map fr) ∧ T2.length ≤ T'.length ∧ (∀ k xs, k ≠ s → k ≠ g → k ≠ kf → rd B T2 k = some xs → rd B T' k = some xs))
    (by
      rintro i σ T' hi ⟨left, qs, c6, c7, rfl, h1, h2, h3, h4', h5, h6, h7, h8, h9⟩
      obtain ⟨cnt, T'', e, q1, q1', q2, q3, q4, q5, q6⟩ := share_turn (n := n) (by omega) h6 (by omega) hle h4 (by omega) hw1 h1 h2 h7 hf0 (by omega) (by omega) (by omega) (by omega) (c7 := c7)
      refine ⟨_, _, _, _, rng_at hi, rfl, .inl (by rw [Int.zero_add]; exact e), left - cnt, qs ++ [Rat.divInt cnt wh], _, _, rfl, ?_, by omega, by rw [List.length_append, h3]; rfl, ?_, ?_, q3, q4, by omega, fun k xs k1 k2 k3 h => q6 k xs k1 k2 k3 (h9 k xs k1 k2 k3 h)⟩
      · rw [Int.natCast_succ]; exact q2
      · rw [List.sum_append, List.sum_cons, List.sum_nil, Rat.add_zero, Rat.add_assoc, ← divInt_split]; exact h4'
      · intro q hq
        rcases List.mem_append.mp hq with hq | hq
        · exact h5 q hq
        · rw [List.mem_singleton.mp hq]
          refine ⟨bd_divInt (by omega) (by omega) (by omega), Rat.divInt_nonneg (by omega) (by omega), fun z => divInt_pos (by omega) (by omega)⟩)
    (by
      rintro σ T' ⟨left, qs, c6, c7, rfl, _⟩
      exact rng_end (Nat.le_refl _))
    (many - 1) LL 0 [some (.ref s), some (.int many), some (.int le), some (.int wh), some (.int wh), some (.ref kf), none, none] T2 (by omega) (by omega)
    ⟨wh, [], none, none, rfl, by rcases hle with h | h <;> subst h <;> omega, Int.le_refl _, rfl, by rw [List.sum_nil, Rat.zero_add, Rat.divInt_self' hwz], fun q hq => (by cases hq), sx2, r2, Nat.le_refl _, fun k xs _ _ _ h => h⟩
  subst f1
  have hend : le ≤ left := by
    have : ((many - 1 : Nat) : Int) = (many : Int) - 1 := by omega
    rw [this, show (many : Int) - ((many : Int) - 1) = 1 by omega, Int.mul_one] at f2
    exact f2
  have e4 : semS (Rf.run Ps gs LL n) gs LL (.for_ (.nm 6) (.itr (.cons (.bin .sub (.var 1) (.cst (.int 1))) .nil)) bShare) [some (.ref s), some (.int many), some (.int le), some (.int wh), some (.int wh), some (.ref kf), none, none] B T2 = some (.nx, [some (.ref s), some (.int many), some (.int le), some (.int wh), some (.int left), some (.ref kf), c6, c7], T3) := by
    rw [S_for, E_itr1 (j := (many : Int) - 1) (by omega) (by omega) (T1 := T2) (by simp only [E_var, E_cst, E_glb, E_bin, E_neg, negV_int, E_vand, E_vor, E_vone, E_vnot, E_tand, E_tor, E_tone, E_tnot, E_tval, E_cmp, E_ife, E_idx, E_nop, E_tup, E_lst, E_nil, E_cons, E_call, E_callp, E_callk, E_isi, E_bi, E_mt, asTup_tup, onB_t, onB_f, onN_nx, onN_rt, onN_bk, onN_ct, S_seq, S_skip, S_pass, S_brk, S_cont, S_set, S_setC, S_setT, S_par, S_setI, S_exp, S_ret, onBS_t, onBS_f, S_ifs, augA_int, b_add, b_addT, b_sub, c_lt, c_le, c_gt, c_ge, c_eqI, c_neI, t_int, t_bl, bi_abs, bi_int, bi_lenT, bi_lenL, bi_tupL, bi_tupT, gx0, gx1, gx2, gx3, gx4, gr0, gr1, gr2, gr3, gfr0, gfr1, st1, st2, st3, Tg.bind, Rf.bindAll, List.replicate_succ, List.replicate_zero, List.map_cons, List.map_nil, List.cons_append, List.nil_append, List.append_nil, List.set_cons_zero, List.set_cons_succ, List.getElem?_cons_zero, List.getElem?_cons_succ, List.length_cons, List.length_nil, Option.bind_some, Option.map_some, Option.bind_none, Option.map_none, if_true, Bool.false_eq_true, if_false, decide_true, decide_false, Bool.not_true, Bool.not_false]), show ((many : Int) - 1).toNat = many - 1 by omega]
    exact e3
  have e5 := dropT_ret (T := T3) (frL (n := n) (by omega) left wh (B ++ T3) (by omega) (small_pow (by omega))) rfl
  obtain ⟨kn, T4, e6, r6, ek6, eT6⟩ := mk_ex (B := B) (T := T3) (xs := [fr (Rat.divInt left wh)]) (by show 1 ≤ big; omega)
  have r3 : rd B T4 kf = some (qs.map fr) := by rw [eT6]; exact rd_app f8
  have e7 := b_addL r3 r6 hf0 (by omega) (by rw [List.length_append, List.length_map]; simp only [List.length_cons, List.length_nil]; omega)
  have r7 : rd B (T4 ++ [qs.map fr ++ [fr (Rat.divInt left wh)]]) (B.length + T4.length) = some (qs.map fr ++ [fr (Rat.divInt left wh)]) := rd_new
  have e8 := tupL r7
  refine ⟨qs ++ [Rat.divInt left wh], T4 ++ [qs.map fr ++ [fr (Rat.divInt left wh)]], run_rt (σ := [some (.ref s), some (.int many), some (.int le), some (.int wh), some (.int left), some (.ref kf), c6, c7]) (fn := ⟨3, 8, b__law_shares⟩) rfl rfl ?_, ⟨by rw [List.length_append, f4]; simp only [List.length_cons, List.length_nil]; omega, by rw [List.sum_append, List.sum_cons, List.sum_nil, Rat.add_zero]; exact f5, ?_⟩, ?_, ?_⟩
  · simp only [bShare] at e4
    have st : startE 8 [PV.ref s, .int many, .int le] = [some (.ref s), some (.int many), some (.int le), none, none, none, none, none] := rfl
    rw [show (⟨3, 8, b__law_shares⟩ : Fn).ns = 8 from rfl, st, List.map_append]
    simp only [E_var, E_cst, E_glb, E_bin, E_neg, negV_int, E_vand, E_vor, E_vone, E_vnot, E_tand, E_tor, E_tone, E_tnot, E_tval, E_cmp, E_ife, E_idx, E_nop, E_tup, E_lst, E_nil, E_cons, E_call, E_callp, E_callk, E_isi, E_bi, E_mt, asTup_tup, onB_t, onB_f, onN_nx, onN_rt, onN_bk, onN_ct, S_seq, S_skip, S_pass, S_brk, S_cont, S_set, S_setC, S_setT, S_par, S_setI, S_exp, S_ret, onBS_t, onBS_f, S_ifs, augA_int, b_add, b_addT, b_sub, c_lt, c_le, c_gt, c_ge, c_eqI, c_neI, t_int, t_bl, bi_abs, bi_int, bi_lenT, bi_lenL, bi_tupL, bi_tupT, gx0, gx1, gx2, gx3, gx4, gr0, gr1, gr2, gr3, gfr0, gfr1, st1, st2, st3, Tg.bind, Rf.bindAll, List.replicate_succ, List.replicate_zero, List.map_cons, List.map_nil, List.cons_append, List.nil_append, List.append_nil, List.set_cons_zero, List.set_cons_succ, List.getElem?_cons_zero, List.getElem?_cons_succ, List.length_cons, List.length_nil, Option.bind_some, Option.map_some, Option.bind_none, Option.map_none, if_true, Bool.false_eq_true, if_false, decide_true, decide_false, Bool.not_true, Bool.not_false, b__law_shares, e1, hwh, e2, e4, e5, e6, e7, e8]
  · intro q hq
    rcases List.mem_append.mp hq with hq | hq
    · exact f6 q hq
    · rw [List.mem_singleton.mp hq]
      refine ⟨bd_divInt (by omega) (by omega) (by omega), Rat.divInt_nonneg (by omega) (by omega), fun z => divInt_pos (by omega) (by omega)⟩
  · refine Sx.mono (k := m + 4) (Sx.app ?_) (show m + 1 + (many - 1) ≤ m + 4 by omega)
    rw [eT6]; exact f7.app
  · refine ⟨?_, fun k xs h1 h2 h => ?_⟩
    · rw [List.length_append, eT6, List.length_append]; omega
    · obtain ⟨h3, h4'⟩ := keep2 k xs h1 h2 h
      refine rd_app ?_
      rw [eT6]
      exact rd_app (f10 k xs h1 h2 h3 h4')
theorem costs_spec (hn : 4 ≤ n) {s g c m : Nat} (sx : Sx B T s g c m) (hm : m < 2 ^ 58) : ∃ (x : Rat × Rat) (T' : MH), Rf.run Ps gs LL n 46 [.ref s] B T = some (encP x, T') ∧ (Bd 14 x.1 ∧ Bd 14 x.2 ∧ x.1 ≤ x.2) ∧ Sx B T' s g c (m + 5) ∧ Kept B T T' s g := by
  obtain ⟨n, rfl⟩ : ∃ k, n = k + 1 := ⟨n - 1, by omega⟩
  obtain ⟨d1, T1, e1, p1, q1, sx1, k1⟩ := drawL (n := n) (by omega) B T s g c m 9999 sx (by omega) (by omega) (by omega)
  obtain ⟨d2, T2, e2, p2, q2, sx2, k2⟩ := drawL (n := n) (by omega) B T1 s g c _ 9999 sx1 (by omega) (by omega) (by omega)
  obtain ⟨d3, T3, e3, p3, q3, sx3, k3⟩ := drawL (n := n) (by omega) B T2 s g c _ (10000 - d2) sx2 (by omega) (by omega) (by omega)
  obtain ⟨d4, T4, e4, p4, q4, sx4, k4⟩ := drawL (n := n) (by omega) B T3 s g c _ 5 sx3 (by omega) (by omega) (by omega)
  obtain ⟨d5, T5, e5, p5, q5, sx5, k5⟩ := drawL (n := n) (by omega) B T4 s g c _ 4 sx4 (by omega) (by omega) (by omega)
  have kp := (((k1.trans k2).trans k3).trans k4).trans k5
  have key : ∃ hi : Int, d2 ≤ hi ∧ hi < 10000 ∧ semS (Rf.run Ps gs LL n) gs LL (.ifs (.cmp .eq (.call 23 (.cons (.var 0) (.cons (.cst (.int 5)) .nil))) (.cst (.int 0))) (.seq (.set 3 (.var 2)) .skip) .skip) [some (.ref s), some (.int (1 + d1)), some (.int d2), some (.int (d2 + d3))] B T3 = some (.nx, [some (.ref s), some (.int (1 + d1)), some (.int d2), some (.int hi)], T4) := by
    by_cases z : d4 = 0
    · have z : decide (d4 = 0) = true := decide_eq_true z
      exact ⟨d2, by omega, by omega, by simp only [E_var, E_cst, E_glb, E_bin, E_neg, negV_int, E_vand, E_vor, E_vone, E_vnot, E_tand, E_tor, E_tone, E_tnot, E_tval, E_cmp, E_ife, E_idx, E_nop, E_tup, E_lst, E_nil, E_cons, E_call, E_callp, E_callk, E_isi, E_bi, E_mt, asTup_tup, onB_t, onB_f, onN_nx, onN_rt, onN_bk, onN_ct, S_seq, S_skip, S_pass, S_brk, S_cont, S_set, S_setC, S_setT, S_par, S_setI, S_exp, S_ret, onBS_t, onBS_f, S_ifs, augA_int, b_add, b_addT, b_sub, c_lt, c_le, c_gt, c_ge, c_eqI, c_neI, t_int, t_bl, bi_abs, bi_int, bi_lenT, bi_lenL, bi_tupL, bi_tupT, gx0, gx1, gx2, gx3, gx4, gr0, gr1, gr2, gr3, gfr0, gfr1, st1, st2, st3, Tg.bind, Rf.bindAll, List.replicate_succ, List.replicate_zero, List.map_cons, List.map_nil, List.cons_append, List.nil_append, List.append_nil, List.set_cons_zero, List.set_cons_succ, List.getElem?_cons_zero, List.getElem?_cons_succ, List.length_cons, List.length_nil, Option.bind_some, Option.map_some, Option.bind_none, Option.map_none, if_true, Bool.false_eq_true, if_false, decide_true, decide_false, Bool.not_true, Bool.not_false, e4, z]⟩
    · have z : decide (d4 = 0) = false := decide_eq_false z
      exact ⟨d2 + d3, by omega, by omega, by simp only [E_var, E_cst, E_glb, E_bin, E_neg, negV_int, E_vand, E_vor, E_vone, E_vnot, E_tand, E_tor, E_tone, E_tnot, E_tval, E_cmp, E_ife, E_idx, E_nop, E_tup, E_lst, E_nil, E_cons, E_call, E_callp, E_callk, E_isi, E_bi, E_mt, asTup_tup, onB_t, onB_f, onN_nx, onN_rt, onN_bk, onN_ct, S_seq, S_skip, S_pass, S_brk, S_cont, S_set, S_setC, S_setT, S_par, S_setI, S_exp, S_ret, onBS_t, onBS_f, S_ifs, augA_int, b_add, b_addT, b_sub, c_lt, c_le, c_gt, c_ge, c_eqI, c_neI, t_int, t_bl, bi_abs, bi_int, bi_lenT, bi_lenL, bi_tupL, bi_tupT, gx0, gx1, gx2, gx3, gx4, gr0, gr1, gr2, gr3, gfr0, gfr1, st1, st2, st3, Tg.bind, Rf.bindAll, List.replicate_succ, List.replicate_zero, List.map_cons, List.map_nil, List.cons_append, List.nil_append, List.append_nil, List.set_cons_zero, List.set_cons_succ, List.getElem?_cons_zero, List.getElem?_cons_succ, List.length_cons, List.length_nil, Option.bind_some, Option.map_some, Option.bind_none, Option.map_none, if_true, Bool.false_eq_true, if_false, decide_true, decide_false, Bool.not_true, Bool.not_false, e4, z]⟩
  obtain ⟨hi, h1, h2, e6⟩ := key
  have lo := fun (a : Int) => frL (n := n) (by omega) a (1 + d1) (B ++ T5) (by omega) (small_pow (by omega))
  by_cases z : d5 = 0
  · have z : decide (d5 = 0) = true := decide_eq_true z
    have l1 := dropT_ret (T := T5) (lo (d2 - 9999)) rfl
    have l2 := dropT_ret (T := T5) (lo (hi - 9999)) rfl
    refine ⟨(Rat.divInt (d2 - 9999) (1 + d1), Rat.divInt (hi - 9999) (1 + d1)), T5, run_rt (σ := [some (.ref s), some (.int (1 + d1)), some (.int d2), some (.int hi)]) (fn := ⟨1, 4, b__law_two_costs⟩) rfl rfl ?_, ⟨bd_divInt (by omega) (by omega) (by omega), bd_divInt (by omega) (by omega) (by omega), divInt_le (by omega) (by omega)⟩, sx5, kp⟩
    simp only [E_var, E_cst, E_glb, E_bin, E_neg, negV_int, E_vand, E_vor, E_vone, E_vnot, E_tand, E_tor, E_tone, E_tnot, E_tval, E_cmp, E_ife, E_idx, E_nop, E_tup, E_lst, E_nil, E_cons, E_call, E_callp, E_callk, E_isi, E_bi, E_mt, asTup_tup, onB_t, onB_f, onN_nx, onN_rt, onN_bk, onN_ct, S_seq, S_skip, S_pass, S_brk, S_cont, S_set, S_setC, S_setT, S_par, S_setI, S_exp, S_ret, onBS_t, onBS_f, augA_int, b_add, b_addT, b_sub, c_lt, c_le, c_gt, c_ge, c_eqI, c_neI, t_int, t_bl, bi_abs, bi_int, bi_lenT, bi_lenL, bi_tupL, bi_tupT, gx0, gx1, gx2, gx3, gx4, gr0, gr1, gr2, gr3, gfr0, gfr1, st1, st2, st3, Tg.bind, Rf.bindAll, List.replicate_succ, List.replicate_zero, List.map_cons, List.map_nil, List.cons_append, List.nil_append, List.append_nil, List.set_cons_zero, List.set_cons_succ, List.getElem?_cons_zero, List.getElem?_cons_succ, List.length_cons, List.length_nil, Option.bind_some, Option.map_some, Option.bind_none, Option.map_none, if_true, Bool.false_eq_true, if_false, decide_true, decide_false, Bool.not_true, Bool.not_false, b__law_two_costs, e1, e2, e3, e6, e5, z, l1, l2, tup2]
    rfl
  · have z : decide (d5 = 0) = false := decide_eq_false z
    have l1 := dropT_ret (T := T5) (lo d2) rfl
    have l2 := dropT_ret (T := T5) (lo hi) rfl
    refine ⟨(Rat.divInt d2 (1 + d1), Rat.divInt hi (1 + d1)), T5, run_rt (σ := [some (.ref s), some (.int (1 + d1)), some (.int d2), some (.int hi)]) (fn := ⟨1, 4, b__law_two_costs⟩) rfl rfl ?_, ⟨bd_divInt (by omega) (by omega) (by omega), bd_divInt (by omega) (by omega) (by omega), divInt_le (by omega) (by omega)⟩, sx5, kp⟩
    simp only [E_var, E_cst, E_glb, E_bin, E_neg, negV_int, E_vand, E_vor, E_vone, E_vnot, E_tand, E_tor, E_tone, E_tnot, E_tval, E_cmp, E_ife, E_idx, E_nop, E_tup, E_lst, E_nil, E_cons, E_call, E_callp, E_callk, E_isi, E_bi, E_mt, asTup_tup, onB_t, onB_f, onN_nx, onN_rt, onN_bk, onN_ct, S_seq, S_skip, S_pass, S_brk, S_cont, S_set, S_setC, S_setT, S_par, S_setI, S_exp, S_ret, onBS_t, onBS_f, augA_int, b_add, b_addT, b_sub, c_lt, c_le, c_gt, c_ge, c_eqI, c_neI, t_int, t_bl, bi_abs, bi_int, bi_lenT, bi_lenL, bi_tupL, bi_tupT, gx0, gx1, gx2, gx3, gx4, gr0, gr1, gr2, gr3, gfr0, gfr1, st1, st2, st3, Tg.bind, Rf.bindAll, List.replicate_succ, List.replicate_zero, List.map_cons, List.map_nil, List.cons_append, List.nil_append, List.append_nil, List.set_cons_zero, List.set_cons_succ, List.getElem?_cons_zero, List.getElem?_cons_succ, List.length_cons, List.length_nil, Option.bind_some, Option.map_some, Option.bind_none, Option.map_none, if_true, Bool.false_eq_true, if_false, decide_true, decide_false, Bool.not_true, Bool.not_false, b__law_two_costs, e1, e2, e3, e6, e5, z, l1, l2, tup2]
    rfl
end
end K36
end
section
/-! k36: the world that is drawn. -/
namespace K36
open PySem Rf Pl
section
variable {w : Wd} {n : Nat} {B T : MH} {CF : Nat → List PV → MH → MH → M} {G : List (Str × PV)} {L : Nat} {σ : En}
theorem S_swp {o1 i1 o2 i2 v : C} {x1 x2 y1 z1 y2 z2 : PV} {T0 T4 T5 : MH} (hv : (sem CF G L v).e σ B T = some (.tup [x1, x2], T0)) (h1 : (sem CF G L o1).e σ B T0 = some (y1, T0)) (h2 : (sem CF G L i1).e σ B T0 = some (z1, T0)) (h3 : setIx B T0 y1 z1 x1 = some T4) (h4 : (sem CF G L o2).e σ B T4 = some (y2, T4)) (h5 : (sem CF G L i2).e σ B T4 = some (z2, T4)) (h6 : setIx B T4 y2 z2 x2 = some T5) :
    semS CF G L (.swp o1 i1 o2 i2 v) σ B T = some (.nx, σ, T5) := by
  show ((sem CF G L v).e σ B T).bind _ = _
  rw [hv]
  show ((sem CF G L o1).e σ B T0).bind _ = _
  rw [h1]
  show ((sem CF G L i1).e σ B T0).bind _ = _
  rw [h2]
  show (setIx B T0 y1 z1 x1).bind _ = _
  rw [h3]
  show ((sem CF G L o2).e σ B T4).bind _ = _
  rw [h4]
  show ((sem CF G L i2).e σ B T4).bind _ = _
  rw [h5]
  show (setIx B T4 y2 z2 x2).map _ = _
  rw [h6]; rfl
/-- the places of the draws and of three lists -/
structure Ds (B : MH) (s g c ka kb kc : Nat) : Prop where
  la : B.length ≤ ka
  lb : B.length ≤ kb
  lc : B.length ≤ kc
  sa : s ≠ ka
  sb : s ≠ kb
  sc : s ≠ kc
  ga : g ≠ ka
  gb : g ≠ kb
  gc : g ≠ kc
  ca : c ≠ ka
  cb : c ≠ kb
  cc : c ≠ kc
  ab : ka ≠ kb
  ac : ka ≠ kc
  bc : kb ≠ kc
section
variable {s g c m : Nat} {c1 c2 c3 c4 c5 c6 c7 c8 c9 c10 c11 : Option PV}
theorem ife_blind (hn : 5 ≤ n) (sx : Sx B T s g c m) (hm : m < 2 ^ 57) {R : Nat} (h0 : 1 ≤ R) (h4 : R ≤ 4) {q1 : List Rat} (h1 : Shr R 0 q1) (b : Bool) :
    ∃ (q2 : List Rat) (T' : MH), (sem (Rf.run Ps gs LL n) gs LL (.ife (.tval (.var 8)) (.var 7) (.call 45 (.cons (.var 0) (.cons (.var 2) (.cons (.cst (.int 0)) .nil)))))).e [some (.ref s), c1, some (.int R), c3, c4, c5, c6, some (.tup (q1.map fr)), some (.bl b), c9, c10, c11] B T = some (.tup (q2.map fr), T') ∧ Shr R 0 q2 ∧ Sx B T' s g c (m + 4) ∧ Kept B T T' s g := by
  cases b with
  | true => exact ⟨q1, T, by simp only [E_var, E_cst, E_glb, E_bin, E_neg, negV_int, E_vand, E_vor, E_vone, E_vnot, E_tand, E_tor, E_tone, E_tnot, E_tval, E_cmp, E_ife, E_idx, E_nop, E_tup, E_lst, E_nil, E_cons, E_call, E_callp, E_callk, E_isi, E_bi, E_mt, asTup_tup, onB_t, onB_f, onN_nx, onN_rt, onN_bk, onN_ct, S_seq, S_skip, S_pass, S_brk, S_cont, S_set, S_setC, S_setT, S_par, S_setI, S_exp, S_ret, onBS_t, onBS_f, S_ifs, augA_int, b_add, b_addT, b_sub, c_lt, c_le, c_gt, c_ge, c_eqI, c_neI, t_int, t_bl, bi_abs, bi_int, bi_lenT, bi_lenL, bi_tupL, bi_tupT, gx0, gx1, gx2, gx3, gx4, gr0, gr1, gr2, gr3, gfr0, gfr1, st1, st2, st3, Tg.bind, Rf.bindAll, List.replicate_succ, List.replicate_zero, List.map_cons, List.map_nil, List.cons_append, List.nil_append, List.append_nil, List.set_cons_zero, List.set_cons_succ, List.getElem?_cons_zero, List.getElem?_cons_succ, List.length_cons, List.length_nil, Option.bind_some, Option.map_some, Option.bind_none, Option.map_none, if_true, Bool.false_eq_true, if_false, decide_true, decide_false, Bool.not_true, Bool.not_false, t_bl], h1, sx.mono (by omega), .refl⟩
  | false =>
    obtain ⟨q2, T', e, h2, sx', k⟩ := shares_spec (n := n) (by omega) sx (by omega) (many := R) (le := 0) (.inl rfl) h0 h4
    exact ⟨q2, T', by simp only [E_var, E_cst, E_glb, E_bin, E_neg, negV_int, E_vand, E_vor, E_vone, E_vnot, E_tand, E_tor, E_tone, E_tnot, E_tval, E_cmp, E_ife, E_idx, E_nop, E_tup, E_lst, E_nil, E_cons, E_call, E_callp, E_callk, E_isi, E_bi, E_mt, asTup_tup, onB_t, onB_f, onN_nx, onN_rt, onN_bk, onN_ct, S_seq, S_skip, S_pass, S_brk, S_cont, S_set, S_setC, S_setT, S_par, S_setI, S_exp, S_ret, onBS_t, onBS_f, S_ifs, augA_int, b_add, b_addT, b_sub, c_lt, c_le, c_gt, c_ge, c_eqI, c_neI, t_int, t_bl, bi_abs, bi_int, bi_lenT, bi_lenL, bi_tupL, bi_tupT, gx0, gx1, gx2, gx3, gx4, gr0, gr1, gr2, gr3, gfr0, gfr1, st1, st2, st3, Tg.bind, Rf.bindAll, List.replicate_succ, List.replicate_zero, List.map_cons, List.map_nil, List.cons_append, List.nil_append, List.append_nil, List.set_cons_zero, List.set_cons_succ, List.getElem?_cons_zero, List.getElem?_cons_succ, List.length_cons, List.length_nil, Option.bind_some, Option.map_some, Option.bind_none, Option.map_none, if_true, Bool.false_eq_true, if_false, decide_true, decide_false, Bool.not_true, Bool.not_false, t_bl, e], h2, sx', k⟩
theorem ifs_order (hn : 1 ≤ n) (sx : Sx B T s g c m) (hm : m < 2 ^ 57) {f1 f2 : Int} (h1 : f1.natAbs < 16384) (h2 : f2.natAbs < 16384) :
    ∃ (u1 u2 : Int) (T' : MH), semS (Rf.run Ps gs LL n) gs LL (.ifs (.tand (.cmp .gt (.call 23 (.cons (.var 0) (.cons (.cst (.int 3)) .nil))) (.cst (.int 0))) (.tone (.cmp .lt (.var 11) (.var 10)))) (.seq (.par [10, 11] (.cons (.var 11) (.cons (.var 10) .nil))) .skip) .skip) [some (.ref s), c1, c2, c3, c4, c5, c6, c7, c8, c9, some (.int f1), some (.int f2)] B T = some (.nx, [some (.ref s), c1, c2, c3, c4, c5, c6, c7, c8, c9, some (.int u1), some (.int u2)], T') ∧ u1.natAbs < 16384 ∧ u2.natAbs < 16384 ∧ Sx B T' s g c (m + 1) ∧ Kept B T T' s g := by
  obtain ⟨d, T1, e, p, q, sx1, k1⟩ := drawL (n := n) (by omega) B T s g c m 3 sx (by omega) (by omega) (by omega)
  by_cases z : 0 < d
  · have z : decide (0 < d) = true := decide_eq_true z
    by_cases y : f2 < f1
    · have y : decide (f2 < f1) = true := decide_eq_true y
      exact ⟨f2, f1, T1, by simp only [E_var, E_cst, E_glb, E_bin, E_neg, negV_int, E_vand, E_vor, E_vone, E_vnot, E_tand, E_tor, E_tone, E_tnot, E_tval, E_cmp, E_ife, E_idx, E_nop, E_tup, E_lst, E_nil, E_cons, E_call, E_callp, E_callk, E_isi, E_bi, E_mt, asTup_tup, onB_t, onB_f, onN_nx, onN_rt, onN_bk, onN_ct, S_seq, S_skip, S_pass, S_brk, S_cont, S_set, S_setC, S_setT, S_par, S_setI, S_exp, S_ret, onBS_t, onBS_f, S_ifs, augA_int, b_add, b_addT, b_sub, c_lt, c_le, c_gt, c_ge, c_eqI, c_neI, t_int, t_bl, bi_abs, bi_int, bi_lenT, bi_lenL, bi_tupL, bi_tupT, gx0, gx1, gx2, gx3, gx4, gr0, gr1, gr2, gr3, gfr0, gfr1, st1, st2, st3, Tg.bind, Rf.bindAll, List.replicate_succ, List.replicate_zero, List.map_cons, List.map_nil, List.cons_append, List.nil_append, List.append_nil, List.set_cons_zero, List.set_cons_succ, List.getElem?_cons_zero, List.getElem?_cons_succ, List.length_cons, List.length_nil, Option.bind_some, Option.map_some, Option.bind_none, Option.map_none, if_true, Bool.false_eq_true, if_false, decide_true, decide_false, Bool.not_true, Bool.not_false, e, z, y], h2, h1, sx1, k1⟩
    · have y : decide (f2 < f1) = false := decide_eq_false y
      exact ⟨f1, f2, T1, by simp only [E_var, E_cst, E_glb, E_bin, E_neg, negV_int, E_vand, E_vor, E_vone, E_vnot, E_tand, E_tor, E_tone, E_tnot, E_tval, E_cmp, E_ife, E_idx, E_nop, E_tup, E_lst, E_nil, E_cons, E_call, E_callp, E_callk, E_isi, E_bi, E_mt, asTup_tup, onB_t, onB_f, onN_nx, onN_rt, onN_bk, onN_ct, S_seq, S_skip, S_pass, S_brk, S_cont, S_set, S_setC, S_setT, S_par, S_setI, S_exp, S_ret, onBS_t, onBS_f, S_ifs, augA_int, b_add, b_addT, b_sub, c_lt, c_le, c_gt, c_ge, c_eqI, c_neI, t_int, t_bl, bi_abs, bi_int, bi_lenT, bi_lenL, bi_tupL, bi_tupT, gx0, gx1, gx2, gx3, gx4, gr0, gr1, gr2, gr3, gfr0, gfr1, st1, st2, st3, Tg.bind, Rf.bindAll, List.replicate_succ, List.replicate_zero, List.map_cons, List.map_nil, List.cons_append, List.nil_append, List.append_nil, List.set_cons_zero, List.set_cons_succ, List.getElem?_cons_zero, List.getElem?_cons_succ, List.length_cons, List.length_nil, Option.bind_some, Option.map_some, Option.bind_none, Option.map_none, if_true, Bool.false_eq_true, if_false, decide_true, decide_false, Bool.not_true, Bool.not_false, e, z, y], h1, h2, sx1, k1⟩
  · have z : decide (0 < d) = false := decide_eq_false z
    exact ⟨f1, f2, T1, by simp only [E_var, E_cst, E_glb, E_bin, E_neg, negV_int, E_vand, E_vor, E_vone, E_vnot, E_tand, E_tor, E_tone, E_tnot, E_tval, E_cmp, E_ife, E_idx, E_nop, E_tup, E_lst, E_nil, E_cons, E_call, E_callp, E_callk, E_isi, E_bi, E_mt, asTup_tup, onB_t, onB_f, onN_nx, onN_rt, onN_bk, onN_ct, S_seq, S_skip, S_pass, S_brk, S_cont, S_set, S_setC, S_setT, S_par, S_setI, S_exp, S_ret, onBS_t, onBS_f, S_ifs, augA_int, b_add, b_addT, b_sub, c_lt, c_le, c_gt, c_ge, c_eqI, c_neI, t_int, t_bl, bi_abs, bi_int, bi_lenT, bi_lenL, bi_tupL, bi_tupT, gx0, gx1, gx2, gx3, gx4, gr0, gr1, gr2, gr3, gfr0, gfr1, st1, st2, st3, Tg.bind, Rf.bindAll, List.replicate_succ, List.replicate_zero, List.map_cons, List.map_nil, List.cons_append, List.nil_append, List.append_nil, List.set_cons_zero, List.set_cons_succ, List.getElem?_cons_zero, List.getElem?_cons_succ, List.length_cons, List.length_nil, Option.bind_some, Option.map_some, Option.bind_none, Option.map_none, if_true, Bool.false_eq_true, if_false, decide_true, decide_false, Bool.not_true, Bool.not_false, e, z], h1, h2, sx1, k1⟩
theorem ife_bottom (hn : 1 ≤ n) (sx : Sx B T s g c m) (hm : m < 2 ^ 57) {b : Int} (h1 : 0 < b) (h2 : b < 16384) :
    ∃ (v : Int) (T' : MH), (sem (Rf.run Ps gs LL n) gs LL (.ife (.cmp .eq (.call 23 (.cons (.var 0) (.cons (.cst (.int 2)) .nil))) (.cst (.int 0))) (.bin .add (.cst (.int 1)) (.call 23 (.cons (.var 0) (.cons (.cst (.int 9999)) .nil)))) (.var 9))).e [some (.ref s), c1, c2, c3, c4, c5, c6, c7, c8, some (.int b), c10, c11] B T = some (.int v, T') ∧ 0 < v ∧ v < 16384 ∧ Sx B T' s g c (m + 2) ∧ Kept B T T' s g := by
  obtain ⟨d, T1, e, p, q, sx1, k1⟩ := drawL (n := n) (by omega) B T s g c m 2 sx (by omega) (by omega) (by omega)
  by_cases z : d = 0
  · have z : decide (d = 0) = true := decide_eq_true z
    obtain ⟨d2, T2, e2, p2, q2, sx2, k2⟩ := drawL (n := n) (by omega) B T1 s g c _ 9999 sx1 (by omega) (by omega) (by omega)
    exact ⟨1 + d2, T2, by simp only [E_var, E_cst, E_glb, E_bin, E_neg, negV_int, E_vand, E_vor, E_vone, E_vnot, E_tand, E_tor, E_tone, E_tnot, E_tval, E_cmp, E_ife, E_idx, E_nop, E_tup, E_lst, E_nil, E_cons, E_call, E_callp, E_callk, E_isi, E_bi, E_mt, asTup_tup, onB_t, onB_f, onN_nx, onN_rt, onN_bk, onN_ct, S_seq, S_skip, S_pass, S_brk, S_cont, S_set, S_setC, S_setT, S_par, S_setI, S_exp, S_ret, onBS_t, onBS_f, S_ifs, augA_int, b_add, b_addT, b_sub, c_lt, c_le, c_gt, c_ge, c_eqI, c_neI, t_int, t_bl, bi_abs, bi_int, bi_lenT, bi_lenL, bi_tupL, bi_tupT, gx0, gx1, gx2, gx3, gx4, gr0, gr1, gr2, gr3, gfr0, gfr1, st1, st2, st3, Tg.bind, Rf.bindAll, List.replicate_succ, List.replicate_zero, List.map_cons, List.map_nil, List.cons_append, List.nil_append, List.append_nil, List.set_cons_zero, List.set_cons_succ, List.getElem?_cons_zero, List.getElem?_cons_succ, List.length_cons, List.length_nil, Option.bind_some, Option.map_some, Option.bind_none, Option.map_none, if_true, Bool.false_eq_true, if_false, decide_true, decide_false, Bool.not_true, Bool.not_false, e, z, e2], by omega, by omega, sx2, k1.trans k2⟩
  · have z : decide (d = 0) = false := decide_eq_false z
    exact ⟨b, T1, by simp only [E_var, E_cst, E_glb, E_bin, E_neg, negV_int, E_vand, E_vor, E_vone, E_vnot, E_tand, E_tor, E_tone, E_tnot, E_tval, E_cmp, E_ife, E_idx, E_nop, E_tup, E_lst, E_nil, E_cons, E_call, E_callp, E_callk, E_isi, E_bi, E_mt, asTup_tup, onB_t, onB_f, onN_nx, onN_rt, onN_bk, onN_ct, S_seq, S_skip, S_pass, S_brk, S_cont, S_set, S_setC, S_setT, S_par, S_setI, S_exp, S_ret, onBS_t, onBS_f, S_ifs, augA_int, b_add, b_addT, b_sub, c_lt, c_le, c_gt, c_ge, c_eqI, c_neI, t_int, t_bl, bi_abs, bi_int, bi_lenT, bi_lenL, bi_tupL, bi_tupT, gx0, gx1, gx2, gx3, gx4, gr0, gr1, gr2, gr3, gfr0, gfr1, st1, st2, st3, Tg.bind, Rf.bindAll, List.replicate_succ, List.replicate_zero, List.map_cons, List.map_nil, List.cons_append, List.nil_append, List.append_nil, List.set_cons_zero, List.set_cons_succ, List.getElem?_cons_zero, List.getElem?_cons_succ, List.length_cons, List.length_nil, Option.bind_some, Option.map_some, Option.bind_none, Option.map_none, if_true, Bool.false_eq_true, if_false, decide_true, decide_false, Bool.not_true, Bool.not_false, e, z], h1, h2, sx1.mono (by omega), k1⟩
def bStage : S := (.seq (.par [7, 8] (.cons (.call 45 (.cons (.var 0) (.cons (.var 2) (.cons (.cst (.int 0)) .nil)))) (.cons (.cmp .eq (.call 23 (.cons (.var 0) (.cons (.cst (.int 6)) .nil))) (.cst (.int 0))) .nil))) (.seq (.exp (.mt .append (.var 3) (.cons (.tup (.cons (.var 7) (.cons (.ife (.tval (.var 8)) (.var 7) (.call 45 (.cons (.var 0) (.cons (.var 2) (.cons (.cst (.int 0)) .nil))))) .nil))) .nil))) (.seq (.exp (.mt .append (.var 4) (.cons (.call 46 (.cons (.var 0) .nil)) .nil))) (.seq (.set 9 (.bin .add (.cst (.int 1)) (.call 23 (.cons (.var 0) (.cons (.cst (.int 9999)) .nil))))) (.seq (.par [10, 11] (.cons (.bin .sub (.call 23 (.cons (.var 0) (.cons (.cst (.int 19999)) .nil))) (.cst (.int 9999))) (.cons (.bin .sub (.call 23 (.cons (.var 0) (.cons (.cst (.int 19999)) .nil))) (.cst (.int 9999))) .nil))) (.seq (.ifs (.tand (.cmp .gt (.call 23 (.cons (.var 0) (.cons (.cst (.int 3)) .nil))) (.cst (.int 0))) (.tone (.cmp .lt (.var 11) (.var 10)))) (.seq (.par [10, 11] (.cons (.var 11) (.cons (.var 10) .nil))) .skip) .skip) (.seq (.exp (.mt .append (.var 5) (.cons (.tup (.cons (.callp 27 (.cons (.var 10) (.cons (.var 9) .nil))) (.cons (.callp 27 (.cons (.var 11) (.cons (.ife (.cmp .eq (.call 23 (.cons (.var 0) (.cons (.cst (.int 2)) .nil))) (.cst (.int 0))) (.bin .add (.cst (.int 1)) (.call 23 (.cons (.var 0) (.cons (.cst (.int 9999)) .nil)))) (.var 9)) .nil))) .nil))) .nil))) .skip)))))))
theorem stage_turn (hn : 6 ≤ n) (sx : Sx B T s g c m) (hm : m < 2 ^ 56) {R St i : Nat} (h0 : 1 ≤ R) (h3 : R ≤ 3) {ka kb kc : Nat} (D : Ds B s g c ka kb kc) {hs : List (List Rat × List Rat)} {cs gl : List (Rat × Rat)} (ra : rd B T ka = some (hs.map encC)) (rb : rd B T kb = some (cs.map encP)) (rc : rd B T kc = some (gl.map encP)) (la : hs.length ≤ 4) (lb : cs.length ≤ 4) (lc : gl.length ≤ 4) :
    ∃ (h : List Rat × List Rat) (x y : Rat × Rat) (T' : MH) (d7 d8 d9 d10 d11 : Option PV), semS (Rf.run Ps gs LL n) gs LL bStage [some (.ref s), some (.int St), some (.int R), some (.ref ka), some (.ref kb), some (.ref kc), some (.int i), c7, c8, c9, c10, c11] B T = some (.nx, [some (.ref s), some (.int St), some (.int R), some (.ref ka), some (.ref kb), some (.ref kc), some (.int i), d7, d8, d9, d10, d11], T') ∧
      (Shr R 0 h.1 ∧ Shr R 0 h.2) ∧ (Bd 14 x.1 ∧ Bd 14 x.2 ∧ x.1 ≤ x.2) ∧ (Bd 14 y.1 ∧ Bd 14 y.2) ∧ Sx B T' s g c (m + 40) ∧ (rd B T' ka = some ((hs ++ [h]).map encC) ∧ rd B T' kb = some ((cs ++ [x]).map encP) ∧ rd B T' kc = some ((gl ++ [y]).map encP)) ∧ T.length ≤ T'.length ∧ (∀ k xs, k ≠ s → k ≠ g → k ≠ ka → k ≠ kb → k ≠ kc → rd B T k = some xs → rd B T' k = some xs) := by
  have hbig : 200 < big := by decide +kernel
  obtain ⟨q1, T1, e1, h1, sx1, k1⟩ := shares_spec (n := n) (by omega) sx (by omega) (many := R) (le := 0) (.inl rfl) h0 (by omega)
  obtain ⟨d, T2, e2, _, _, sx2, k2⟩ := drawL (n := n) (by omega) B T1 s g c _ 6 sx1 (by omega) (by omega) (by omega)
  obtain ⟨q2, T3, e3, h2, sx3, k3⟩ := ife_blind (n := n) (by omega) sx2 (by omega) h0 (by omega) h1 (decide (d = 0)) (c1 := some (.int St)) (c3 := some (.ref ka)) (c4 := some (.ref kb)) (c5 := some (.ref kc)) (c6 := some (.int i)) (c9 := c9) (c10 := c10) (c11 := c11)
  have k3 := (k1.trans k2).trans k3
  have ra3 := k3.kp _ _ (Ne.symm D.sa) (Ne.symm D.ga) ra
  have rb3 := k3.kp _ _ (Ne.symm D.sb) (Ne.symm D.gb) rb
  have rc3 := k3.kp _ _ (Ne.symm D.sc) (Ne.symm D.gc) rc
  have a3 : Rf.mt B T3 .append (.ref ka) [.tup [.tup (q1.map fr), .tup (q2.map fr)]] = some (.non, put B T3 ka (hs.map encC ++ [encC (q1, q2)])) := append_put (v := encC (q1, q2)) ra3 D.la (by rw [List.length_map]; omega)
  have sx4 : Sx B (put B T3 ka (hs.map encC ++ [encC (q1, q2)])) s g c (m + 4 + 1 + 4) := sx3.put D.la D.sa D.ga D.ca
  have ra4 : rd B (put B T3 ka (hs.map encC ++ [encC (q1, q2)])) ka = some ((hs ++ [(q1, q2)]).map encC) := by rw [rd_put ra3 D.la, List.map_append]; rfl
  have rb4 : rd B (put B T3 ka (hs.map encC ++ [encC (q1, q2)])) kb = some (cs.map encP) := by rw [rd_put_ne (Ne.symm D.ab) D.la]; exact rb3
  have rc4 : rd B (put B T3 ka (hs.map encC ++ [encC (q1, q2)])) kc = some (gl.map encP) := by rw [rd_put_ne (Ne.symm D.ac) D.la]; exact rc3
  have ln4 : T.length ≤ (put B T3 ka (hs.map encC ++ [encC (q1, q2)])).length := by rw [put_len]; exact k3.len
  have kp4 : ∀ k xs, k ≠ s → k ≠ g → k ≠ ka → k ≠ kb → k ≠ kc → rd B T k = some xs → rd B (put B T3 ka (hs.map encC ++ [encC (q1, q2)])) k = some xs := fun k xs z1 z2 z3 z4 z5 z => by rw [rd_put_ne z3 D.la]; exact k3.kp k xs z1 z2 z
  generalize put B T3 ka (hs.map encC ++ [encC (q1, q2)]) = T4 at a3 sx4 ra4 rb4 rc4 ln4 kp4
  obtain ⟨x, T5, e5, hx, sx5, k5⟩ := costs_spec (n := n) (by omega) sx4 (by omega)
  have ra5 := k5.kp _ _ (Ne.symm D.sa) (Ne.symm D.ga) ra4
  have rb5 := k5.kp _ _ (Ne.symm D.sb) (Ne.symm D.gb) rb4
  have rc5 := k5.kp _ _ (Ne.symm D.sc) (Ne.symm D.gc) rc4
  have a5 : Rf.mt B T5 .append (.ref kb) [encP x] = some (.non, put B T5 kb (cs.map encP ++ [encP x])) := append_put rb5 D.lb (by rw [List.length_map]; omega)
  have sx6 := sx5.put (xs := cs.map encP ++ [encP x]) D.lb D.sb D.gb D.cb
  have ra6 : rd B (put B T5 kb (cs.map encP ++ [encP x])) ka = some ((hs ++ [(q1, q2)]).map encC) := by rw [rd_put_ne D.ab D.lb]; exact ra5
  have rb6 : rd B (put B T5 kb (cs.map encP ++ [encP x])) kb = some ((cs ++ [x]).map encP) := by rw [rd_put rb5 D.lb, List.map_append]; rfl
  have rc6 : rd B (put B T5 kb (cs.map encP ++ [encP x])) kc = some (gl.map encP) := by rw [rd_put_ne (Ne.symm D.bc) D.lb]; exact rc5
  have ln6 : T.length ≤ (put B T5 kb (cs.map encP ++ [encP x])).length := by rw [put_len]; exact Nat.le_trans ln4 k5.len
  have kp6 : ∀ k xs, k ≠ s → k ≠ g → k ≠ ka → k ≠ kb → k ≠ kc → rd B T k = some xs → rd B (put B T5 kb (cs.map encP ++ [encP x])) k = some xs := fun k xs z1 z2 z3 z4 z5 z => by rw [rd_put_ne z4 D.lb]; exact k5.kp k xs z1 z2 (kp4 k xs z1 z2 z3 z4 z5 z)
  generalize put B T5 kb (cs.map encP ++ [encP x]) = T6 at a5 sx6 ra6 rb6 rc6 ln6 kp6
  obtain ⟨d4, T7, e7, p7, q7, sx7, k7⟩ := drawL (n := n) (by omega) B T6 s g c _ 9999 sx6 (by omega) (by omega) (by omega)
  obtain ⟨d5, T8, e8, p8, q8, sx8, k8⟩ := drawL (n := n) (by omega) B T7 s g c _ 19999 sx7 (by omega) (by omega) (by omega)
  obtain ⟨d6, T9, e9, p9, q9, sx9, k9⟩ := drawL (n := n) (by omega) B T8 s g c _ 19999 sx8 (by omega) (by omega) (by omega)
  obtain ⟨u1, u2, T10, e10, b1, b2, sx10, k10⟩ := ifs_order (n := n) (by omega) sx9 (by omega) (f1 := d5 - 9999) (f2 := d6 - 9999) (by omega) (by omega) (c1 := some (.int St)) (c2 := some (.int R)) (c3 := some (.ref ka)) (c4 := some (.ref kb)) (c5 := some (.ref kc)) (c6 := some (.int i)) (c7 := some (.tup (q1.map fr))) (c8 := some (.bl (decide (d = 0)))) (c9 := some (.int (1 + d4)))
  obtain ⟨v, T11, e11, v1, v2, sx11, k11⟩ := ife_bottom (n := n) (by omega) sx10 (by omega) (b := 1 + d4) (by omega) (by omega) (c1 := some (.int St)) (c2 := some (.int R)) (c3 := some (.ref ka)) (c4 := some (.ref kb)) (c5 := some (.ref kc)) (c6 := some (.int i)) (c7 := some (.tup (q1.map fr))) (c8 := some (.bl (decide (d = 0)))) (c10 := some (.int u1)) (c11 := some (.int u2))
  have l1 := dropT_ret (T := T10) (frL (n := n) (by omega) u1 (1 + d4) (B ++ T10) (by omega) (small_pow (by omega))) rfl
  have l2 := dropT_ret (T := T11) (frL (n := n) (by omega) u2 v (B ++ T11) (by omega) (small_pow (by omega))) rfl
  have k11 := (((k7.trans k8).trans k9).trans k10).trans k11
  have ra11 := k11.kp _ _ (Ne.symm D.sa) (Ne.symm D.ga) ra6
  have rb11 := k11.kp _ _ (Ne.symm D.sb) (Ne.symm D.gb) rb6
  have rc11 := k11.kp _ _ (Ne.symm D.sc) (Ne.symm D.gc) rc6
  have a11 : Rf.mt B T11 .append (.ref kc) [.tup [fr (Rat.divInt u1 (1 + d4)), fr (Rat.divInt u2 v)]] = some (.non, put B T11 kc (gl.map encP ++ [encP (Rat.divInt u1 (1 + d4), Rat.divInt u2 v)])) := append_put (v := encP (Rat.divInt u1 (1 + d4), Rat.divInt u2 v)) rc11 D.lc (by rw [List.length_map]; omega)
  refine ⟨(q1, q2), x, (Rat.divInt u1 (1 + d4), Rat.divInt u2 v), put B T11 kc (gl.map encP ++ [encP (Rat.divInt u1 (1 + d4), Rat.divInt u2 v)]), some (.tup (q1.map fr)), some (.bl (decide (d = 0))), some (.int (1 + d4)), some (.int u1), some (.int u2), ?_, ⟨h1, h2⟩, hx, ⟨bd_divInt (by omega) (by omega) b1, bd_divInt v1 v2 b2⟩, ?_, ⟨?_, ?_, ?_⟩, ?_, ?_⟩
  · simp only [E_var, E_cst, E_glb, E_bin, E_neg, negV_int, E_vand, E_vor, E_vone, E_vnot, E_tand, E_tor, E_tone, E_tnot, E_tval, E_cmp, E_idx, E_nop, E_tup, E_lst, E_nil, E_cons, E_call, E_callp, E_callk, E_isi, E_bi, E_mt, asTup_tup, onB_t, onB_f, onN_nx, onN_rt, onN_bk, onN_ct, S_seq, S_skip, S_pass, S_brk, S_cont, S_set, S_setC, S_setT, S_par, S_setI, S_exp, S_ret, onBS_t, onBS_f, augA_int, b_add, b_addT, b_sub, c_lt, c_le, c_gt, c_ge, c_eqI, c_neI, t_int, t_bl, bi_abs, bi_int, bi_lenT, bi_lenL, bi_tupL, bi_tupT, gx0, gx1, gx2, gx3, gx4, gr0, gr1, gr2, gr3, gfr0, gfr1, st1, st2, st3, Tg.bind, Rf.bindAll, List.replicate_succ, List.replicate_zero, List.map_cons, List.map_nil, List.cons_append, List.nil_append, List.append_nil, List.set_cons_zero, List.set_cons_succ, List.getElem?_cons_zero, List.getElem?_cons_succ, List.length_cons, List.length_nil, Option.bind_some, Option.map_some, Option.bind_none, Option.map_none, if_true, Bool.false_eq_true, if_false, decide_true, decide_false, Bool.not_true, Bool.not_false, bStage, e1, e2, e3, tup2, a3, e5, a5, e7, e8, e9, e10, e11, l1, l2, a11]
  · exact (sx11.put D.lc D.sc D.gc D.cc).mono (by omega)
  · rw [rd_put_ne D.ac D.lc]; exact ra11
  · rw [rd_put_ne D.bc D.lc]; exact rb11
  · rw [rd_put rc11 D.lc, List.map_append]; rfl
  · rw [put_len]; exact Nat.le_trans ln6 k11.len
  · exact fun k xs z1 z2 z3 z4 z5 z => by rw [rd_put_ne z5 D.lc]; exact k11.kp k xs z1 z2 (kp6 k xs z1 z2 z3 z4 z5 z)
end
end
end K36
end
section
/-! k36: the world that is drawn, the end. -/
namespace K36
open PySem Rf Pl
section
variable {w : Wd} {n : Nat} {B T : MH} {CF : Nat → List PV → MH → MH → M} {G : List (Str × PV)} {L : Nat} {σ : En}
def GoodH (R : Nat) (h : List Rat × List Rat) : Prop := Shr R 0 h.1 ∧ Shr R 0 h.2
def GoodC (x : Rat × Rat) : Prop := Bd 14 x.1 ∧ Bd 14 x.2 ∧ x.1 ≤ x.2
def GoodG (x : Rat × Rat) : Prop := Bd 14 x.1 ∧ Bd 14 x.2
def cSwap : S := (.ifs (.tand (.cmp .gt (.var 1) (.cst (.int 1))) (.tone (.cmp .eq (.call 23 (.cons (.var 0) (.cons (.cst (.int 3)) .nil))) (.cst (.int 0))))) (.seq (.swp (.var 4) (.bin .sub (.var 1) (.cst (.int 1))) (.var 5) (.bin .sub (.var 1) (.cst (.int 1))) (.tup (.cons (.idx (.var 4) (.cst (.int 0))) (.cons (.idx (.var 5) (.cst (.int 0))) .nil)))) .skip) .skip)
theorem swap_spec (hn : 1 ≤ n) {s g c m : Nat} (sx : Sx B T s g c m) (hm : m < 2 ^ 57) {St ka kb kc : Nat} (D : Ds B s g c ka kb kc) {hs : List PV} {cs gl : List (Rat × Rat)} (ra : rd B T ka = some hs) (rb : rd B T kb = some (cs.map encP)) (rc : rd B T kc = some (gl.map encP)) (h0 : 1 ≤ St) (h4 : St ≤ 4) (lb : cs.length = St) (lc : gl.length = St) (gc : ∀ x ∈ cs, GoodC x) (gg : ∀ x ∈ gl, GoodG x) {c2 c6 c7 c8 c9 c10 c11 : Option PV} :
    ∃ (cs' gl' : List (Rat × Rat)) (T' : MH), semS (Rf.run Ps gs LL n) gs LL cSwap [some (.ref s), some (.int St), c2, some (.ref ka), some (.ref kb), some (.ref kc), c6, c7, c8, c9, c10, c11] B T = some (.nx, [some (.ref s), some (.int St), c2, some (.ref ka), some (.ref kb), some (.ref kc), c6, c7, c8, c9, c10, c11], T') ∧
      cs'.length = St ∧ gl'.length = St ∧ (∀ x ∈ cs', GoodC x) ∧ (∀ x ∈ gl', GoodG x) ∧ Sx B T' s g c (m + 1) ∧ rd B T' ka = some hs ∧ rd B T' kb = some (cs'.map encP) ∧ rd B T' kc = some (gl'.map encP) ∧ T.length ≤ T'.length ∧ (∀ k xs, k ≠ s → k ≠ g → k ≠ ka → k ≠ kb → k ≠ kc → rd B T k = some xs → rd B T' k = some xs) := by
  have hbig : 200 < big := by decide +kernel
  by_cases h1 : 1 < St
  · have z1 : decide ((1 : Int) < (St : Nat)) = true := decide_eq_true (by omega)
    obtain ⟨d, T1, e, _, _, sx1, k1⟩ := drawL (n := n) (by omega) B T s g c m 3 sx (by omega) (by omega) (by omega)
    have ra1 := k1.kp _ _ (Ne.symm D.sa) (Ne.symm D.ga) ra
    have rb1 := k1.kp _ _ (Ne.symm D.sb) (Ne.symm D.gb) rb
    have rc1 := k1.kp _ _ (Ne.symm D.sc) (Ne.symm D.gc) rc
    by_cases hd : d = 0
    · have z2 : decide (d = 0) = true := decide_eq_true hd
      obtain ⟨x, cs1, ecs⟩ : ∃ x r, cs = x :: r := by
        cases cs with
        | nil => simp at lb; omega
        | cons x r => exact ⟨x, r, rfl⟩
      obtain ⟨y, gl1, egl⟩ : ∃ x r, gl = x :: r := by
        cases gl with
        | nil => simp at lc; omega
        | cons x r => exact ⟨x, r, rfl⟩
      have hx : x ∈ cs := by rw [ecs]; exact List.mem_cons_self ..
      have hy : y ∈ gl := by rw [egl]; exact List.mem_cons_self ..
      have i0 : getIx B T1 (.ref kb) (.int 0) = some (encP x) := by rw [gr0, rb1, ecs]; rfl
      have i1 : getIx B T1 (.ref kc) (.int 0) = some (encP y) := by rw [gr0, rc1, egl]; rfl
      have ei : ((St - 1 : Nat) : Int) = (St : Int) - 1 := by omega
      have s1 := setIx_put (i := St - 1) (v := encP x) rb1 D.lb (by rw [List.length_map]; omega) (by rw [List.length_map]; omega)
      rw [ei] at s1
      have ra2 : rd B (put B T1 kb ((cs.map encP).set (St - 1) (encP x))) ka = some hs := by rw [rd_put_ne D.ab D.lb]; exact ra1
      have rb2 : rd B (put B T1 kb ((cs.map encP).set (St - 1) (encP x))) kb = some ((cs.set (St - 1) x).map encP) := by rw [rd_put rb1 D.lb, List.map_set]
      have rc2 : rd B (put B T1 kb ((cs.map encP).set (St - 1) (encP x))) kc = some (gl.map encP) := by rw [rd_put_ne (Ne.symm D.bc) D.lb]; exact rc1
      have sx2 := sx1.put (xs := (cs.map encP).set (St - 1) (encP x)) D.lb D.sb D.gb D.cb
      have ln2 : T.length ≤ (put B T1 kb ((cs.map encP).set (St - 1) (encP x))).length := by rw [put_len]; exact k1.len
      have kp2 : ∀ k xs, k ≠ s → k ≠ g → k ≠ ka → k ≠ kb → k ≠ kc → rd B T k = some xs → rd B (put B T1 kb ((cs.map encP).set (St - 1) (encP x))) k = some xs := fun k xs q1 q2 q3 q4 q5 q => by rw [rd_put_ne q4 D.lb]; exact k1.kp k xs q1 q2 q
      generalize put B T1 kb ((cs.map encP).set (St - 1) (encP x)) = T2 at s1 ra2 rb2 rc2 sx2 ln2 kp2
      have s2 := setIx_put (i := St - 1) (v := encP y) rc2 D.lc (by rw [List.length_map]; omega) (by rw [List.length_map]; omega)
      rw [ei] at s2
      have e3 : semS (Rf.run Ps gs LL n) gs LL (.swp (.var 4) (.bin .sub (.var 1) (.cst (.int 1))) (.var 5) (.bin .sub (.var 1) (.cst (.int 1))) (.tup (.cons (.idx (.var 4) (.cst (.int 0))) (.cons (.idx (.var 5) (.cst (.int 0))) .nil)))) [some (.ref s), some (.int St), c2, some (.ref ka), some (.ref kb), some (.ref kc), c6, c7, c8, c9, c10, c11] B T1 = some (.nx, [some (.ref s), some (.int St), c2, some (.ref ka), some (.ref kb), some (.ref kc), c6, c7, c8, c9, c10, c11], put B T2 kc ((gl.map encP).set (St - 1) (encP y))) :=
        S_swp (x1 := encP x) (x2 := encP y) (T0 := T1) (T4 := T2) (y1 := .ref kb) (z1 := .int ((St : Int) - 1)) (y2 := .ref kc) (z2 := .int ((St : Int) - 1)) (by
          rw [E_tup, E_cons, E_idx]
          simp only [E_var, E_cst, E_cons, E_idx, E_nil, asTup_tup, List.getElem?_cons_zero, List.getElem?_cons_succ, Option.bind_some, Option.map_some, i0, i1, tup2]) (by simp only [E_var, E_cst, E_glb, E_bin, E_neg, negV_int, E_vand, E_vor, E_vone, E_vnot, E_tand, E_tor, E_tone, E_tnot, E_tval, E_cmp, E_ife, E_idx, E_nop, E_tup, E_lst, E_nil, E_cons, E_call, E_callp, E_callk, E_isi, E_bi, E_mt, asTup_tup, onB_t, onB_f, onN_nx, onN_rt, onN_bk, onN_ct, S_seq, S_skip, S_pass, S_brk, S_cont, S_set, S_setC, S_setT, S_par, S_setI, S_exp, S_ret, onBS_t, onBS_f, S_ifs, augA_int, b_add, b_addT, b_sub, c_lt, c_le, c_gt, c_ge, c_eqI, c_neI, t_int, t_bl, bi_abs, bi_int, bi_lenT, bi_lenL, bi_tupL, bi_tupT, gx0, gx1, gx2, gx3, gx4, gr0, gr1, gr2, gr3, gfr0, gfr1, st1, st2, st3, Tg.bind, Rf.bindAll, List.replicate_succ, List.replicate_zero, List.map_cons, List.map_nil, List.cons_append, List.nil_append, List.append_nil, List.set_cons_zero, List.set_cons_succ, List.getElem?_cons_zero, List.getElem?_cons_succ, List.length_cons, List.length_nil, Option.bind_some, Option.map_some, Option.bind_none, Option.map_none, if_true, Bool.false_eq_true, if_false, decide_true, decide_false, Bool.not_true, Bool.not_false]) (by simp only [E_var, E_cst, E_glb, E_bin, E_neg, negV_int, E_vand, E_vor, E_vone, E_vnot, E_tand, E_tor, E_tone, E_tnot, E_tval, E_cmp, E_ife, E_idx, E_nop, E_tup, E_lst, E_nil, E_cons, E_call, E_callp, E_callk, E_isi, E_bi, E_mt, asTup_tup, onB_t, onB_f, onN_nx, onN_rt, onN_bk, onN_ct, S_seq, S_skip, S_pass, S_brk, S_cont, S_set, S_setC, S_setT, S_par, S_setI, S_exp, S_ret, onBS_t, onBS_f, S_ifs, augA_int, b_add, b_addT, b_sub, c_lt, c_le, c_gt, c_ge, c_eqI, c_neI, t_int, t_bl, bi_abs, bi_int, bi_lenT, bi_lenL, bi_tupL, bi_tupT, gx0, gx1, gx2, gx3, gx4, gr0, gr1, gr2, gr3, gfr0, gfr1, st1, st2, st3, Tg.bind, Rf.bindAll, List.replicate_succ, List.replicate_zero, List.map_cons, List.map_nil, List.cons_append, List.nil_append, List.append_nil, List.set_cons_zero, List.set_cons_succ, List.getElem?_cons_zero, List.getElem?_cons_succ, List.length_cons, List.length_nil, Option.bind_some, Option.map_some, Option.bind_none, Option.map_none, if_true, Bool.false_eq_true, if_false, decide_true, decide_false, Bool.not_true, Bool.not_false]) s1 (by simp only [E_var, E_cst, E_glb, E_bin, E_neg, negV_int, E_vand, E_vor, E_vone, E_vnot, E_tand, E_tor, E_tone, E_tnot, E_tval, E_cmp, E_ife, E_idx, E_nop, E_tup, E_lst, E_nil, E_cons, E_call, E_callp, E_callk, E_isi, E_bi, E_mt, asTup_tup, onB_t, onB_f, onN_nx, onN_rt, onN_bk, onN_ct, S_seq, S_skip, S_pass, S_brk, S_cont, S_set, S_setC, S_setT, S_par, S_setI, S_exp, S_ret, onBS_t, onBS_f, S_ifs, augA_int, b_add, b_addT, b_sub, c_lt, c_le, c_gt, c_ge, c_eqI, c_neI, t_int, t_bl, bi_abs, bi_int, bi_lenT, bi_lenL, bi_tupL, bi_tupT, gx0, gx1, gx2, gx3, gx4, gr0, gr1, gr2, gr3, gfr0, gfr1, st1, st2, st3, Tg.bind, Rf.bindAll, List.replicate_succ, List.replicate_zero, List.map_cons, List.map_nil, List.cons_append, List.nil_append, List.append_nil, List.set_cons_zero, List.set_cons_succ, List.getElem?_cons_zero, List.getElem?_cons_succ, List.length_cons, List.length_nil, Option.bind_some, Option.map_some, Option.bind_none, Option.map_none, if_true, Bool.false_eq_true, if_false, decide_true, decide_false, Bool.not_true, Bool.not_false]) (by simp only [E_var, E_cst, E_glb, E_bin, E_neg, negV_int, E_vand, E_vor, E_vone, E_vnot, E_tand, E_tor, E_tone, E_tnot, E_tval, E_cmp, E_ife, E_idx, E_nop, E_tup, E_lst, E_nil, E_cons, E_call, E_callp, E_callk, E_isi, E_bi, E_mt, asTup_tup, onB_t, onB_f, onN_nx, onN_rt, onN_bk, onN_ct, S_seq, S_skip, S_pass, S_brk, S_cont, S_set, S_setC, S_setT, S_par, S_setI, S_exp, S_ret, onBS_t, onBS_f, S_ifs, augA_int, b_add, b_addT, b_sub, c_lt, c_le, c_gt, c_ge, c_eqI, c_neI, t_int, t_bl, bi_abs, bi_int, bi_lenT, bi_lenL, bi_tupL, bi_tupT, gx0, gx1, gx2, gx3, gx4, gr0, gr1, gr2, gr3, gfr0, gfr1, st1, st2, st3, Tg.bind, Rf.bindAll, List.replicate_succ, List.replicate_zero, List.map_cons, List.map_nil, List.cons_append, List.nil_append, List.append_nil, List.set_cons_zero, List.set_cons_succ, List.getElem?_cons_zero, List.getElem?_cons_succ, List.length_cons, List.length_nil, Option.bind_some, Option.map_some, Option.bind_none, Option.map_none, if_true, Bool.false_eq_true, if_false, decide_true, decide_false, Bool.not_true, Bool.not_false]) s2
      refine ⟨cs.set (St - 1) x, gl.set (St - 1) y, put B T2 kc ((gl.map encP).set (St - 1) (encP y)), ?_, by rw [List.length_set]; exact lb, by rw [List.length_set]; exact lc, ?_, ?_, sx2.put D.lc D.sc D.gc D.cc, ?_, ?_, ?_, ?_, ?_⟩
      · simp only [E_var, E_cst, E_glb, E_bin, E_neg, negV_int, E_vand, E_vor, E_vone, E_vnot, E_tand, E_tor, E_tone, E_tnot, E_tval, E_cmp, E_ife, E_idx, E_nop, E_tup, E_lst, E_nil, E_cons, E_call, E_callp, E_callk, E_isi, E_bi, E_mt, asTup_tup, onB_t, onB_f, onN_nx, onN_rt, onN_bk, onN_ct, S_seq, S_skip, S_pass, S_brk, S_cont, S_set, S_setC, S_setT, S_par, S_setI, S_exp, S_ret, onBS_t, onBS_f, S_ifs, augA_int, b_add, b_addT, b_sub, c_lt, c_le, c_gt, c_ge, c_eqI, c_neI, t_int, t_bl, bi_abs, bi_int, bi_lenT, bi_lenL, bi_tupL, bi_tupT, gx0, gx1, gx2, gx3, gx4, gr0, gr1, gr2, gr3, gfr0, gfr1, st1, st2, st3, Tg.bind, Rf.bindAll, List.replicate_succ, List.replicate_zero, List.map_cons, List.map_nil, List.cons_append, List.nil_append, List.append_nil, List.set_cons_zero, List.set_cons_succ, List.getElem?_cons_zero, List.getElem?_cons_succ, List.length_cons, List.length_nil, Option.bind_some, Option.map_some, Option.bind_none, Option.map_none, if_true, Bool.false_eq_true, if_false, decide_true, decide_false, Bool.not_true, Bool.not_false, cSwap, z1, e, z2, e3]
      · intro u hu
        rcases List.mem_or_eq_of_mem_set hu with h | h
        · exact gc u h
        · rw [h]; exact gc x hx
      · intro u hu
        rcases List.mem_or_eq_of_mem_set hu with h | h
        · exact gg u h
        · rw [h]; exact gg y hy
      · rw [rd_put_ne D.ac D.lc]; exact ra2
      · rw [rd_put_ne D.bc D.lc]; exact rb2
      · rw [rd_put rc2 D.lc, List.map_set]
      · rw [put_len]; exact ln2
      · exact fun k xs q1 q2 q3 q4 q5 q => by rw [rd_put_ne q5 D.lc]; exact kp2 k xs q1 q2 q3 q4 q5 q
    · have z2 : decide (d = 0) = false := decide_eq_false hd
      exact ⟨cs, gl, T1, by simp only [E_var, E_cst, E_glb, E_bin, E_neg, negV_int, E_vand, E_vor, E_vone, E_vnot, E_tand, E_tor, E_tone, E_tnot, E_tval, E_cmp, E_ife, E_idx, E_nop, E_tup, E_lst, E_nil, E_cons, E_call, E_callp, E_callk, E_isi, E_bi, E_mt, asTup_tup, onB_t, onB_f, onN_nx, onN_rt, onN_bk, onN_ct, S_seq, S_skip, S_pass, S_brk, S_cont, S_set, S_setC, S_setT, S_par, S_setI, S_exp, S_ret, onBS_t, onBS_f, S_ifs, augA_int, b_add, b_addT, b_sub, c_lt, c_le, c_gt, c_ge, c_eqI, c_neI, t_int, t_bl, bi_abs, bi_int, bi_lenT, bi_lenL, bi_tupL, bi_tupT, gx0, gx1, gx2, gx3, gx4, gr0, gr1, gr2, gr3, gfr0, gfr1, st1, st2, st3, Tg.bind, Rf.bindAll, List.replicate_succ, List.replicate_zero, List.map_cons, List.map_nil, List.cons_append, List.nil_append, List.append_nil, List.set_cons_zero, List.set_cons_succ, List.getElem?_cons_zero, List.getElem?_cons_succ, List.length_cons, List.length_nil, Option.bind_some, Option.map_some, Option.bind_none, Option.map_none, if_true, Bool.false_eq_true, if_false, decide_true, decide_false, Bool.not_true, Bool.not_false, cSwap, z1, e, z2], lb, lc, gc, gg, sx1, ra1, rb1, rc1, k1.len, fun k xs q1 q2 _ _ _ q => k1.kp k xs q1 q2 q⟩
  · have z1 : decide ((1 : Int) < (St : Nat)) = false := decide_eq_false (by omega)
    exact ⟨cs, gl, T, by simp only [E_var, E_cst, E_glb, E_bin, E_neg, negV_int, E_vand, E_vor, E_vone, E_vnot, E_tand, E_tor, E_tone, E_tnot, E_tval, E_cmp, E_ife, E_idx, E_nop, E_tup, E_lst, E_nil, E_cons, E_call, E_callp, E_callk, E_isi, E_bi, E_mt, asTup_tup, onB_t, onB_f, onN_nx, onN_rt, onN_bk, onN_ct, S_seq, S_skip, S_pass, S_brk, S_cont, S_set, S_setC, S_setT, S_par, S_setI, S_exp, S_ret, onBS_t, onBS_f, S_ifs, augA_int, b_add, b_addT, b_sub, c_lt, c_le, c_gt, c_ge, c_eqI, c_neI, t_int, t_bl, bi_abs, bi_int, bi_lenT, bi_lenL, bi_tupL, bi_tupT, gx0, gx1, gx2, gx3, gx4, gr0, gr1, gr2, gr3, gfr0, gfr1, st1, st2, st3, Tg.bind, Rf.bindAll, List.replicate_succ, List.replicate_zero, List.map_cons, List.map_nil, List.cons_append, List.nil_append, List.append_nil, List.set_cons_zero, List.set_cons_succ, List.getElem?_cons_zero, List.getElem?_cons_succ, List.length_cons, List.length_nil, Option.bind_some, Option.map_some, Option.bind_none, Option.map_none, if_true, Bool.false_eq_true, if_false, decide_true, decide_false, Bool.not_true, Bool.not_false, cSwap, z1], lb, lc, gc, gg, sx.mono (by omega), ra, rb, rc, Nat.le_refl _, fun k xs q1 q2 _ _ _ q => q⟩
theorem pickL (hn : 2 ≤ n) {s g c m k : Nat} {xs : List PV} (sx : Sx B T s g c m) (hk : rd B T k = some xs) (hks : k ≠ s) (hkg : k ≠ g) (hne : xs ≠ []) (hl : xs.length < 1000) (hm : m < 2 ^ 60) :
    ∃ (x : PV) (T' : MH), Rf.run Ps gs LL n 24 [.ref s, .ref k] B T = some (x, T') ∧ x ∈ xs ∧ Sx B T' s g c (m + 1) ∧ Kept B T T' s g := by
  obtain ⟨n, rfl⟩ : ∃ j, n = j + 1 := ⟨n - 1, by omega⟩
  exact pick_spec (d := 23) rfl (drawL (by omega)) sx hk hks hkg hne hl hm
theorem tup1 {T : MH} (a : PV) : tup' [a] T = some (.tup [a], T) := (rfl)
theorem tup4 {T : MH} (a b c d : PV) : tup' [a, b, c, d] T = some (.tup [a, b, c, d], T) := (rfl)
theorem stage_spec (hn : 8 ≤ n) {s g c m : Nat} (sx : Sx B T s g c m) (hm : m < 2 ^ 55) : ∃ (w : Wd) (T' : MH), Rf.run Ps gs LL n 47 [.ref s] B T = some (enc w, T') ∧ Ok w ∧ Sx B T' s g c (m + 200) ∧ Kept B T T' s g := by
  obtain ⟨n, rfl⟩ : ∃ k, n = k + 1 := ⟨n - 1, by omega⟩
  have hbig : 200 < big := by decide +kernel
  have hbL := big_L
  obtain ⟨l1, l2, l3⟩ := Sx_lt sx
  -- the numbers of states and results
  obtain ⟨k0, T0, e0, r0, ek0, eT0⟩ := mk_ex (B := B) (T := T) (xs := [.int 1, .int 2, .int 3, .int 3, .int 4]) (by simp only [List.length_cons, List.length_nil]; omega)
  have sx0 : Sx B T0 s g c m := by rw [eT0]; exact sx.app
  have k0k : Kept B T T0 s g := by rw [eT0]; exact Kept.app
  obtain ⟨x1, T1, e1, m1, sx1, k1⟩ := pickL (n := n) (by omega) sx0 r0 (by omega) (by omega) (by simp) (by simp) (by omega)
  obtain ⟨St, rfl, s1, s4⟩ : ∃ St : Nat, x1 = .int (St : Nat) ∧ 1 ≤ St ∧ St ≤ 4 := by
    simp only [List.mem_cons, List.not_mem_nil, or_false] at m1
    rcases m1 with rfl | rfl | rfl | rfl | rfl
    · exact ⟨1, rfl, by omega, by omega⟩
    · exact ⟨2, rfl, by omega, by omega⟩
    · exact ⟨3, rfl, by omega, by omega⟩
    · exact ⟨3, rfl, by omega, by omega⟩
    · exact ⟨4, rfl, by omega, by omega⟩
  obtain ⟨k2, T2, e2, r2, ek2, eT2⟩ := mk_ex (B := B) (T := T1) (xs := [.int 2, .int 2, .int 3]) (by simp only [List.length_cons, List.length_nil]; omega)
  have sx2 : Sx B T2 s g c (m + 1) := by rw [eT2]; exact sx1.app
  have k2k : Kept B T1 T2 s g := by rw [eT2]; exact Kept.app
  have kl1 := (k0k.trans k1).len
  obtain ⟨x2, T3, e3, m3, sx3, k3⟩ := pickL (n := n) (by omega) sx2 r2 (by omega) (by omega) (by simp) (by simp) (by omega)
  obtain ⟨R, rfl, R1, R3⟩ : ∃ R : Nat, x2 = .int (R : Nat) ∧ 1 ≤ R ∧ R ≤ 3 := by
    simp only [List.mem_cons, List.not_mem_nil, or_false] at m3
    rcases m3 with rfl | rfl | rfl
    · exact ⟨2, rfl, by omega, by omega⟩
    · exact ⟨2, rfl, by omega, by omega⟩
    · exact ⟨3, rfl, by omega, by omega⟩
  have kp3 := ((k0k.trans k1).trans k2k).trans k3
  have kl3 := kp3.len
  -- the three lists
  obtain ⟨ka, T4, e4, r4, ek4, eT4⟩ := mk_ex (B := B) (T := T3) (xs := []) (Nat.zero_le _)
  obtain ⟨kb, T5, e5, r5, ek5, eT5⟩ := mk_ex (B := B) (T := T4) (xs := []) (Nat.zero_le _)
  obtain ⟨kc, T6, e6, r6, ek6, eT6⟩ := mk_ex (B := B) (T := T5) (xs := []) (Nat.zero_le _)
  have n4 : T4.length = T3.length + 1 := by rw [eT4, List.length_append]; rfl
  have n5 : T5.length = T4.length + 1 := by rw [eT5, List.length_append]; rfl
  have n6 : T6.length = T5.length + 1 := by rw [eT6, List.length_append]; rfl
  have D : Ds B s g c ka kb kc := ⟨by omega, by omega, by omega, by omega, by omega, by omega, by omega, by omega, by omega, by omega, by omega, by omega, by omega, by omega, by omega⟩
  have sx6 : Sx B T6 s g c (m + 1 + 1) := by rw [eT6, eT5, eT4]; exact sx3.app.app.app
  have ra6 : rd B T6 ka = some [] := by rw [eT6, eT5]; exact rd_app (rd_app r4)
  have rb6 : rd B T6 kb = some [] := by rw [eT6]; exact rd_app r5
  have kp6 : ∀ k xs, k ≠ s → k ≠ g → rd B T k = some xs → (k ≠ ka ∧ k ≠ kb ∧ k ≠ kc) ∧ rd B T6 k = some xs := fun k xs q1 q2 q => by
    have := rd_lt q
    refine ⟨⟨by omega, by omega, by omega⟩, ?_⟩
    rw [eT6, eT5, eT4]
    exact rd_app (rd_app (rd_app (kp3.kp k xs q1 q2 q)))
  obtain ⟨σ', T7, e7, hs, cs, gl, c6, c7, c8, c9, c10, c11, f1, ⟨f2, f3, f4⟩, f5, f6, f7, f8, f9, f10, f11, f12, f13⟩ := for_inv (B := B) (it := .rng 0 St) (tg := .nm 6) (b := fun σ T => semS (Rf.run Ps gs LL n) gs LL bStage σ B T) (m := St)
    (fun i σ T' => ∃ (hs : List (List Rat × List Rat)) (cs gl : List (Rat × Rat)) (c6 c7 c8 c9 c10 c11 : Option PV), σ = [some (.ref s), some (.int St), some (.int R), some (.ref ka), some (.ref kb), some (.ref kc), c6, c7, c8, c9, c10, c11] ∧ (hs.length = i ∧ cs.length = i ∧ gl.length = i) ∧ (∀ x ∈ hs, GoodH R x) ∧ (∀ x ∈ cs, GoodC x) ∧ (∀ x ∈ gl, GoodG x) ∧ Sx B T' s g c (m + 2 + 40 * i) ∧ rd B T' ka = some (hs.map encC) ∧ rd B T' kb = some (cs.map encP) ∧ rd B T' kc = some (gl.map encP) ∧ T6.length ≤ T'.length ∧ (∀ k xs, k ≠ s → k ≠ g → k ≠ ka → k ≠ kb → k ≠ kc → rd B T6 k = some xs → rd B T' k = some xs))
    (by
      rintro i σ T' hi ⟨hs, cs, gl, c6, c7, c8, c9, c10, c11, rfl, ⟨h2, h3, h4⟩, h5, h6, h7, h8, h9, h10, h11, h12, h13⟩
      obtain ⟨h, x, y, T'', d7, d8, d9, d10, d11, e, g1, g2, g3, g4, ⟨g5, g6, g7⟩, g8, g9⟩ := stage_turn (n := n) (by omega) h8 (by omega) (St := St) (i := i) R1 R3 D h9 h10 h11 (by omega) (by omega) (by omega) (c7 := c7) (c8 := c8) (c9 := c9) (c10 := c10) (c11 := c11)
      refine ⟨_, _, _, _, rng_at hi, rfl, .inl (by rw [Int.zero_add]; exact e), hs ++ [h], cs ++ [x], gl ++ [y], _, d7, d8, d9, d10, d11, rfl, ⟨by rw [List.length_append, h2]; rfl, by rw [List.length_append, h3]; rfl, by rw [List.length_append, h4]; rfl⟩, ?_, ?_, ?_, g4.mono (by omega), g5, g6, g7, by omega, fun k xs q1 q2 q3 q4 q5 q => g9 k xs q1 q2 q3 q4 q5 (h13 k xs q1 q2 q3 q4 q5 q)⟩
      · intro u hu
        rcases List.mem_append.mp hu with q | q
        · exact h5 u q
        · rw [List.mem_singleton.mp q]; exact g1
      · intro u hu
        rcases List.mem_append.mp hu with q | q
        · exact h6 u q
        · rw [List.mem_singleton.mp q]; exact g2
      · intro u hu
        rcases List.mem_append.mp hu with q | q
        · exact h7 u q
        · rw [List.mem_singleton.mp q]; exact g3)
    (by
      rintro σ T' ⟨hs, cs, gl, c6, c7, c8, c9, c10, c11, rfl, _⟩
      exact rng_end (Nat.le_refl _))
    St LL 0 [some (.ref s), some (.int St), some (.int R), some (.ref ka), some (.ref kb), some (.ref kc), none, none, none, none, none, none] T6 (by omega) (by omega)
    ⟨[], [], [], none, none, none, none, none, none, rfl, ⟨rfl, rfl, rfl⟩, fun x hx => (by cases hx), fun x hx => (by cases hx), fun x hx => (by cases hx), sx6, ra6, rb6, r6, Nat.le_refl _, fun k xs _ _ _ _ _ h => h⟩
  subst f1
  have e8 : semS (Rf.run Ps gs LL n) gs LL (.for_ (.nm 6) (.itr (.cons (.var 1) .nil)) bStage) [some (.ref s), some (.int St), some (.int R), some (.ref ka), some (.ref kb), some (.ref kc), none, none, none, none, none, none] B T6 = some (.nx, [some (.ref s), some (.int St), some (.int R), some (.ref ka), some (.ref kb), some (.ref kc), c6, c7, c8, c9, c10, c11], T7) := by
    rw [S_for, E_itrN (j := St) (by omega) (T1 := T6) (by simp only [E_var, E_cst, E_glb, E_bin, E_neg, negV_int, E_vand, E_vor, E_vone, E_vnot, E_tand, E_tor, E_tone, E_tnot, E_tval, E_cmp, E_ife, E_idx, E_nop, E_tup, E_lst, E_nil, E_cons, E_call, E_callp, E_callk, E_isi, E_bi, E_mt, asTup_tup, onB_t, onB_f, onN_nx, onN_rt, onN_bk, onN_ct, S_seq, S_skip, S_pass, S_brk, S_cont, S_set, S_setC, S_setT, S_par, S_setI, S_exp, S_ret, onBS_t, onBS_f, S_ifs, augA_int, b_add, b_addT, b_sub, c_lt, c_le, c_gt, c_ge, c_eqI, c_neI, t_int, t_bl, bi_abs, bi_int, bi_lenT, bi_lenL, bi_tupL, bi_tupT, gx0, gx1, gx2, gx3, gx4, gr0, gr1, gr2, gr3, gfr0, gfr1, st1, st2, st3, Tg.bind, Rf.bindAll, List.replicate_succ, List.replicate_zero, List.map_cons, List.map_nil, List.cons_append, List.nil_append, List.append_nil, List.set_cons_zero, List.set_cons_succ, List.getElem?_cons_zero, List.getElem?_cons_succ, List.length_cons, List.length_nil, Option.bind_some, Option.map_some, Option.bind_none, Option.map_none, if_true, Bool.false_eq_true, if_false, decide_true, decide_false, Bool.not_true, Bool.not_false])]
    exact e7
  obtain ⟨cs', gl', T8, e9, g1, g2, g3, g4, g5, g6, g7, g8, g9, g10⟩ := swap_spec (n := n) (by omega) f8 (by omega) D f9 f10 f11 s1 s4 f3 f4 f6 f7 (c2 := some (.int R)) (c6 := c6) (c7 := c7) (c8 := c8) (c9 := c9) (c10 := c10) (c11 := c11)
  obtain ⟨ps, T9, e10, hp, sx9, k9⟩ := shares_spec (n := n) (by omega) g5 (by omega) (many := St) (le := 1) (.inr rfl) s1 s4
  have t1 := (k9.kp _ _ (Ne.symm D.sa) (Ne.symm D.ga) g6)
  have t2 := (k9.kp _ _ (Ne.symm D.sb) (Ne.symm D.gb) g7)
  have t3 := (k9.kp _ _ (Ne.symm D.sc) (Ne.symm D.gc) g8)
  have hres : res ⟨ps, cs', hs, gl'⟩ = R := by
    unfold res
    cases hs with
    | nil => simp at f2; omega
    | cons h r => exact (f5 h (List.mem_cons_self ..)).1.len
  refine ⟨⟨ps, cs', hs, gl'⟩, T9, run_rt (σ := [some (.ref s), some (.int St), some (.int R), some (.ref ka), some (.ref kb), some (.ref kc), c6, c7, c8, c9, c10, c11]) (fn := ⟨1, 12, b__law_stage⟩) rfl rfl ?_, ?_, sx9.mono (by omega), ?_⟩
  · have st : startE 12 [PV.ref s] = [some (.ref s), none, none, none, none, none, none, none, none, none, none, none] := rfl
    simp only [bStage] at e8
    simp only [cSwap] at e9
    rw [show (⟨1, 12, b__law_stage⟩ : Fn).ns = 12 from rfl, st]
    simp only [E_var, E_cst, E_glb, E_bin, E_neg, negV_int, E_vand, E_vor, E_vone, E_vnot, E_tand, E_tor, E_tone, E_tnot, E_tval, E_cmp, E_idx, E_nop, E_tup, E_lst, E_nil, E_cons, E_call, E_callp, E_callk, E_isi, E_bi, E_mt, asTup_tup, onB_t, onB_f, onN_nx, onN_rt, onN_bk, onN_ct, S_seq, S_skip, S_pass, S_brk, S_cont, S_set, S_setC, S_setT, S_par, S_setI, S_exp, S_ret, onBS_t, onBS_f, augA_int, b_add, b_addT, b_sub, c_lt, c_le, c_gt, c_ge, c_eqI, c_neI, t_int, t_bl, bi_abs, bi_int, bi_lenT, bi_lenL, bi_tupL, bi_tupT, gx0, gx1, gx2, gx3, gx4, gr0, gr1, gr2, gr3, gfr0, gfr1, st1, st2, st3, Tg.bind, Rf.bindAll, List.replicate_succ, List.replicate_zero, List.map_cons, List.map_nil, List.cons_append, List.nil_append, List.append_nil, List.set_cons_zero, List.set_cons_succ, List.getElem?_cons_zero, List.getElem?_cons_succ, List.length_cons, List.length_nil, Option.bind_some, Option.map_some, Option.bind_none, Option.map_none, if_true, Bool.false_eq_true, if_false, decide_true, decide_false, Bool.not_true, Bool.not_false, b__law_stage, e0, e1, e2, e3, e4, e5, e6, e8, e9, e10, t1, t2, t3, tup1, tup4]
    rfl
  · exact {
      s0 := by show 1 ≤ ps.length; rw [hp.len]; exact s1
      s4 := by show ps.length ≤ 4; rw [hp.len]; exact s4
      lc := by show cs'.length = ps.length; rw [hp.len]; exact g1
      lh := by show hs.length = ps.length; rw [hp.len]; exact f2
      lg := by show gl'.length = ps.length; rw [hp.len]; exact g2
      bp := fun q hq => ⟨(hp.bd q hq).1, (hp.bd q hq).2.2 rfl⟩
      bc := g3
      bg := g4
      r3 := by rw [hres]; exact R3
      r := fun x hx => by rw [hres]; exact ⟨(f5 x hx).1.len, (f5 x hx).2.len⟩
      bh := fun x hx => ⟨fun q hq => ⟨((f5 x hx).1.bd q hq).1, ((f5 x hx).1.bd q hq).2.1⟩, fun q hq => ⟨((f5 x hx).2.bd q hq).1, ((f5 x hx).2.bd q hq).2.1⟩, (f5 x hx).1.sum, (f5 x hx).2.sum⟩ }
  · refine ⟨by have := k9.len; omega, fun k xs q1 q2 q => ?_⟩
    obtain ⟨⟨q3, q4, q5⟩, q6⟩ := kp6 k xs q1 q2 q
    exact k9.kp k xs q1 q2 (g10 k xs q1 q2 q3 q4 q5 (f13 k xs q1 q2 q3 q4 q5 q6))
end
end K36
end
section
/-! k36: the law. -/
namespace K36
open PySem Rf Pl
section
variable {w : Wd} {n : Nat} {B T : MH} {CF : Nat → List PV → MH → MH → M} {G : List (Str × PV)} {L : Nat} {σ : En}
theorem rising_ge : ∀ {a : Rat × Rat} {tl : List (Rat × Rat)}, Rising (a :: tl) → ∀ y ∈ a :: tl, a.1 ≤ y.1
  | a, [], _, y, hy => by rw [List.mem_singleton.mp hy]; exact Rat.le_refl
  | a, b :: r, h, y, hy => by
    rcases List.mem_cons.mp hy with e | e
    · rw [e]; exact Rat.le_refl
    · exact Rat.le_trans h.1 (rising_ge h.2 y e)
theorem filled_nn (ok : Ok w) : ∀ y ∈ filledL w, Bd 900 y.1 ∧ 0 ≤ y.1 := by
  intro y hy
  refine ⟨((filled_bd ok) y hy).1.mono (by decide), ?_⟩
  obtain ⟨tl, e⟩ := filled_cons w
  have h := filled_rising ok
  rw [e] at h hy
  exact rising_ge h y hy
def bPurse : S := (.seq (.ifs (.tnot (.tval (.callp 48 (.cons (.var 3) (.cons (.idx (.var 7) (.var 8)) (.cons (.cmp .eq (.bin .mod (.bi .int (.cons (.var 8) .nil)) (.cst (.int 2))) (.cst (.int 1))) .nil)))))) (.seq (.ret (.cst (.bl false))) .skip) .skip) .skip)
theorem purses_loop (ok : Ok w) (hn : 9 ≤ n) {ps : List Rat} (hp : ∀ q ∈ ps, Bd 900 q ∧ 0 ≤ q) (hl : ps.length ≤ 100) {kp : Nat} (hk : rd B T kp = some (ps.map fr)) {c0 c1 c2 c4 c5 c6 c8 c9 : Option PV} :
    ∃ d8, semS (Rf.run Ps gs LL n) gs LL (.for_ (.nm 8) (.itr (.cons (.bi .len (.cons (.var 7) .nil)) .nil)) bPurse) [c0, c1, c2, some (enc w), c4, c5, c6, some (.ref kp), c8, c9] B T = some (.nx, [c0, c1, c2, some (enc w), c4, c5, c6, some (.ref kp), d8, c9], T) := by
  have hbL := big_L
  obtain ⟨σ', T', e, d8, e1, e2⟩ := for_inv (B := B) (it := .rng 0 ps.length) (tg := .nm 8) (b := fun σ T => semS (Rf.run Ps gs LL n) gs LL bPurse σ B T) (m := ps.length)
    (fun i σ T' => ∃ c8, σ = [c0, c1, c2, some (enc w), c4, c5, c6, some (.ref kp), c8, c9] ∧ T' = T)
    (by
      rintro i σ T' hi ⟨c8, rfl, rfl⟩
      have hm := hp ps[i] (List.getElem_mem hi)
      have g1 : getIx B T' (.ref kp) (.int i) = some (fr ps[i]) := by rw [grn, hk, Option.bind_some, List.getElem?_map, List.getElem?_eq_getElem hi]; rfl
      have md := b_mod (B := B) (T := T') (i := (i : Int)) (j := 2) (by decide)
      have q := dropT_ret (T := T') (purse_spec (B := B ++ T') ok (n := n) (by omega) hm.1 (by omega) hm.2 (decide ((i : Int) % 2 = 1))) rfl
      refine ⟨_, _, _, _, rng_at hi, rfl, .inl ?_, some (.int (i : Nat)), rfl, rfl⟩
      rw [Int.zero_add]
      simp only [E_var, E_cst, E_glb, E_bin, E_neg, negV_int, E_vand, E_vor, E_vone, E_vnot, E_tand, E_tor, E_tone, E_tnot, E_tval, E_cmp, E_ife, E_idx, E_nop, E_tup, E_lst, E_nil, E_cons, E_call, E_callp, E_callk, E_isi, E_bi, E_mt, asTup_tup, onB_t, onB_f, onN_nx, onN_rt, onN_bk, onN_ct, S_seq, S_skip, S_pass, S_brk, S_cont, S_set, S_setC, S_setT, S_par, S_setI, S_exp, S_ret, onBS_t, onBS_f, S_ifs, augA_int, b_add, b_addT, b_sub, c_lt, c_le, c_gt, c_ge, c_eqI, c_neI, t_int, t_bl, bi_abs, bi_int, bi_lenT, bi_lenL, bi_tupL, bi_tupT, gx0, gx1, gx2, gx3, gx4, gr0, gr1, gr2, gr3, gfr0, gfr1, st1, st2, st3, Tg.bind, Rf.bindAll, List.replicate_succ, List.replicate_zero, List.map_cons, List.map_nil, List.cons_append, List.nil_append, List.append_nil, List.set_cons_zero, List.set_cons_succ, List.getElem?_cons_zero, List.getElem?_cons_succ, List.length_cons, List.length_nil, Option.bind_some, Option.map_some, Option.bind_none, Option.map_none, if_true, Bool.false_eq_true, if_false, decide_true, decide_false, Bool.not_true, Bool.not_false, bPurse, g1, md, q])
    (by
      rintro σ T' ⟨c8, rfl, rfl⟩
      exact rng_end (Nat.le_refl _))
    ps.length LL 0 [c0, c1, c2, some (enc w), c4, c5, c6, some (.ref kp), c8, c9] T (by omega) (by omega) ⟨c8, rfl, rfl⟩
  subst e1 e2
  refine ⟨d8, ?_⟩
  have pl : (ps.map fr).length = ps.length := List.length_map ..
  rw [S_for, E_itrN (j := ps.length) (by omega) (T1 := T') (by simp only [E_var, E_cst, E_glb, E_bin, E_neg, negV_int, E_vand, E_vor, E_vone, E_vnot, E_tand, E_tor, E_tone, E_tnot, E_tval, E_cmp, E_ife, E_idx, E_nop, E_tup, E_lst, E_nil, E_cons, E_call, E_callp, E_callk, E_isi, E_bi, E_mt, asTup_tup, onB_t, onB_f, onN_nx, onN_rt, onN_bk, onN_ct, S_seq, S_skip, S_pass, S_brk, S_cont, S_set, S_setC, S_setT, S_par, S_setI, S_exp, S_ret, onBS_t, onBS_f, S_ifs, augA_int, b_add, b_addT, b_sub, c_lt, c_le, c_gt, c_ge, c_eqI, c_neI, t_int, t_bl, bi_abs, bi_int, bi_lenT, bi_lenL, bi_tupL, bi_tupT, gx0, gx1, gx2, gx3, gx4, gr0, gr1, gr2, gr3, gfr0, gfr1, st1, st2, st3, Tg.bind, Rf.bindAll, List.replicate_succ, List.replicate_zero, List.map_cons, List.map_nil, List.cons_append, List.nil_append, List.append_nil, List.set_cons_zero, List.set_cons_succ, List.getElem?_cons_zero, List.getElem?_cons_succ, List.length_cons, List.length_nil, Option.bind_some, Option.map_some, Option.bind_none, Option.map_none, if_true, Bool.false_eq_true, if_false, decide_true, decide_false, Bool.not_true, Bool.not_false, hk, pl])]
  exact e
def bTurn : S := (.seq (.par [3, 4] (.cons (.call 47 (.cons (.var 1) .nil)) (.cons (.call 47 (.cons (.var 1) .nil)) .nil))) (.seq (.par [5, 6] (.cons (.callp 19 (.cons (.var 3) .nil)) (.cons (.callk 19 .nil (.cons (.var 4) .nil) [0] true) .nil))) (.seq (.ifs (.tor (.tnot (.tval (.callp 25 (.cons (.var 5) (.cons (.callp 42 (.cons (.var 3) (.cons (.callp 41 (.cons (.var 3) .nil)) .nil))) .nil))))) (.tone (.tnot (.tval (.callp 25 (.cons (.var 6) (.cons (.callp 42 (.cons (.var 4) (.cons (.callp 41 (.cons (.var 4) .nil)) .nil))) .nil))))))) (.seq (.ret (.cst (.bl false))) .skip) .skip) (.seq (.ifs (.tor (.tnot (.tval (.callp 25 (.cons (.callp 13 (.cons (.var 3) .nil)) (.cons (.callp 37 (.cons (.var 3) .nil)) .nil))))) (.tone (.tnot (.tval (.callp 25 (.cons (.callk 13 .nil (.cons (.var 4) .nil) [0] true) (.cons (.callp 37 (.cons (.var 4) .nil)) .nil))))))) (.seq (.ret (.cst (.bl false))) .skip) .skip) (.seq (.set 7 (.bin .add (.comp (.idx (.var 9) (.cst (.int 0))) (.gen (.nm 9) (.itv (.var 5)) .nop .gnil) [("one", 9)]) (.lst (.cons (.idx (.idx (.var 6) (.neg (.cst (.int 1)))) (.cst (.int 0))) (.cons (.callp 27 (.cons (.call 23 (.cons (.var 1) (.cons (.cst (.int 10000)) .nil))) (.cons (.bin .add (.cst (.int 1)) (.call 23 (.cons (.var 1) (.cons (.cst (.int 9999)) .nil)))) .nil))) (.cons (.callp 27 (.cons (.call 23 (.cons (.var 1) (.cons (.cst (.int 10000)) .nil))) (.cons (.bin .add (.cst (.int 1)) (.call 23 (.cons (.var 1) (.cons (.cst (.int 50)) .nil)))) .nil))) .nil)))))) (.seq (.for_ (.nm 8) (.itr (.cons (.bi .len (.cons (.var 7) .nil)) .nil)) bPurse) .skip))))))
theorem last_encP {a : Rat × Rat} {tl : List (Rat × Rat)} : getIx B T (.tup ((a :: tl).map encP)) (.int (-1)) = some (encP ((a :: tl).getLast (by simp))) := by
  have e : (a :: tl).map encP = ((a :: tl).dropLast.map encP) ++ [encP ((a :: tl).getLast (by simp))] := by
    rw [← List.map_singleton, ← List.map_append, List.dropLast_concat_getLast]
  rw [e]; exact gT_last
theorem law_turn (hn : 10 ≤ n) {s g c m : Nat} (sx : Sx B T s g c m) (hm : m < 2 ^ 54) {c0 c2 c3 c4 c5 c6 c7 c8 c9 : Option PV} :
    ∃ (d3 d4 d5 d6 d7 d8 d9 : Option PV) (T' : MH), semS (Rf.run Ps gs LL n) gs LL bTurn [c0, some (.ref s), c2, c3, c4, c5, c6, c7, c8, c9] B T = some (.nx, [c0, some (.ref s), c2, d3, d4, d5, d6, d7, d8, d9], T') ∧ Sx B T' s g c (m + 500) := by
  have hbL := big_L
  have hbig : 200 < big := by decide +kernel
  obtain ⟨w, T1, e1, ok, sx1, k1⟩ := stage_spec (n := n) (by omega) sx (by omega)
  obtain ⟨w2, T2, e2, ok2, sx2, k2⟩ := stage_spec (n := n) (by omega) sx1 (by omega)
  have f1 := dropT_ret (T := T2) (filled_spec (B := B ++ T2) ok (n := n) (by omega)) (encPs_nr _)
  have f2 := dropT_ret (T := T2) (filled_spec (B := B ++ T2) ok2 (n := n) (by omega)) (encPs_nr _)
  have r1 := dropT_ret (T := T2) (rate_spec (B := B ++ T2) ok (n := n) (by omega)) (rateV_nr w)
  have r2 := dropT_ret (T := T2) (rate_spec (B := B ++ T2) ok2 (n := n) (by omega)) (rateV_nr w2)
  have u1 := dropT_ret (T := T2) (curve_spec (B := B ++ T2) ok (n := n) (by omega)) (encPs_nr _)
  have u2 := dropT_ret (T := T2) (curve_spec (B := B ++ T2) ok2 (n := n) (by omega)) (encPs_nr _)
  rw [curve_filled ok] at u1
  rw [curve_filled ok2] at u2
  have len1 := filled_len ok
  have len2 := filled_len ok2
  have q1 := dropT_ret (T := T2) (eqL (B := B ++ T2) (n := n) (plD_encPs (filledL w) (by omega)) (by omega)) rfl
  have q2 := dropT_ret (T := T2) (eqL (B := B ++ T2) (n := n) (plD_encPs (filledL w2) (by omega)) (by omega)) rfl
  have t1 := dropT_ret (T := T2) (quo_spec (B := B ++ T2) ok (n := n) (by omega)) rfl
  have t2 := dropT_ret (T := T2) (quo_spec (B := B ++ T2) ok2 (n := n) (by omega)) rfl
  have v1 := dropT_ret (T := T2) (lawquo_spec (B := B ++ T2) ok (n := n) (by omega)) rfl
  have v2 := dropT_ret (T := T2) (lawquo_spec (B := B ++ T2) ok2 (n := n) (by omega)) rfl
  have x1 := dropT_ret (T := T2) (eqL (B := B ++ T2) (n := n) (plD_fr (quo w) 0) (by omega)) rfl
  have x2 := dropT_ret (T := T2) (eqL (B := B ++ T2) (n := n) (plD_fr (quo w2) 0) (by omega)) rfl
  -- the purses
  obtain ⟨tl2, ef2⟩ := filled_cons w2
  have gl : getIx B (T2 ++ [(filledL w).map fun x => fr x.1]) (.tup ((filledL w2).map encP)) (.int (-1)) = some (encP (((0, fgain w2) :: tl2).getLast (by simp))) := by rw [ef2]; exact last_encP
  have hlast : ((0, fgain w2) :: tl2).getLast (by simp) ∈ filledL w2 := by rw [ef2]; exact List.getLast_mem _
  generalize ((0, fgain w2) :: tl2).getLast (by simp) = z at gl hlast
  have e3 : (sem (Rf.run Ps gs LL n) gs LL (.comp (.idx (.var 9) (.cst (.int 0))) (.gen (.nm 9) (.itv (.var 5)) .nop .gnil) [("one", 9)])).e [c0, some (.ref s), c2, some (enc w), some (enc w2), some (.tup ((filledL w).map encP)), some (.tup ((filledL w2).map encP)), c7, c8, c9] B T2 = some (.ref (B.length + T2.length), T2 ++ [(filledL w).map fun x => fr x.1]) := by
    have := comp_pure (CF := Rf.run Ps gs LL n) (G := gs) (L := LL) (B := B) (T := T2) (T1 := T2) (as := filledL w) (enc := encP) (g := fun x => fr x.1) (p := fun _ => true) (bd := fun a => [c0, some (.ref s), c2, some (enc w), some (enc w2), some (.tup ((filledL w).map encP)), some (.tup ((filledL w2).map encP)), c7, c8, some (encP a)]) (σ := [c0, some (.ref s), c2, some (enc w), some (enc w2), some (.tup ((filledL w).map encP)), some (.tup ((filledL w2).map encP)), c7, c8, c9]) (tg := .nm 9) (it := .itv (.var 5)) (test := .nop) (elt := .idx (.var 9) (.cst (.int 0))) (own := [("one", 9)])
      (I_itvT (by simp only [E_var, E_cst, E_glb, E_bin, E_neg, negV_int, E_vand, E_vor, E_vone, E_vnot, E_tand, E_tor, E_tone, E_tnot, E_tval, E_cmp, E_ife, E_idx, E_nop, E_tup, E_lst, E_nil, E_cons, E_call, E_callp, E_callk, E_isi, E_bi, E_mt, asTup_tup, onB_t, onB_f, onN_nx, onN_rt, onN_bk, onN_ct, S_seq, S_skip, S_pass, S_brk, S_cont, S_set, S_setC, S_setT, S_par, S_setI, S_exp, S_ret, onBS_t, onBS_f, S_ifs, augA_int, b_add, b_addT, b_sub, c_lt, c_le, c_gt, c_ge, c_eqI, c_neI, t_int, t_bl, bi_abs, bi_int, bi_lenT, bi_lenL, bi_tupL, bi_tupT, gx0, gx1, gx2, gx3, gx4, gr0, gr1, gr2, gr3, gfr0, gfr1, st1, st2, st3, Tg.bind, Rf.bindAll, List.replicate_succ, List.replicate_zero, List.map_cons, List.map_nil, List.cons_append, List.nil_append, List.append_nil, List.set_cons_zero, List.set_cons_succ, List.getElem?_cons_zero, List.getElem?_cons_succ, List.length_cons, List.length_nil, Option.bind_some, Option.map_some, Option.bind_none, Option.map_none, if_true, Bool.false_eq_true, if_false, decide_true, decide_false, Bool.not_true, Bool.not_false, wipeE])) (fun i => at_seq) (fun a _ => rfl) (fun a _ => rfl) (fun a _ _ => by simp only [E_var, E_cst, E_glb, E_bin, E_neg, negV_int, E_vand, E_vor, E_vone, E_vnot, E_tand, E_tor, E_tone, E_tnot, E_tval, E_cmp, E_ife, E_idx, E_nop, E_tup, E_lst, E_nil, E_cons, E_call, E_callp, E_callk, E_isi, E_bi, E_mt, asTup_tup, onB_t, onB_f, onN_nx, onN_rt, onN_bk, onN_ct, S_seq, S_skip, S_pass, S_brk, S_cont, S_set, S_setC, S_setT, S_par, S_setI, S_exp, S_ret, onBS_t, onBS_f, S_ifs, augA_int, b_add, b_addT, b_sub, c_lt, c_le, c_gt, c_ge, c_eqI, c_neI, t_int, t_bl, bi_abs, bi_int, bi_lenT, bi_lenL, bi_tupL, bi_tupT, gx0, gx1, gx2, gx3, gx4, gr0, gr1, gr2, gr3, gfr0, gfr1, st1, st2, st3, Tg.bind, Rf.bindAll, List.replicate_succ, List.replicate_zero, List.map_cons, List.map_nil, List.cons_append, List.nil_append, List.append_nil, List.set_cons_zero, List.set_cons_succ, List.getElem?_cons_zero, List.getElem?_cons_succ, List.length_cons, List.length_nil, Option.bind_some, Option.map_some, Option.bind_none, Option.map_none, if_true, Bool.false_eq_true, if_false, decide_true, decide_false, Bool.not_true, Bool.not_false, ge0]) (by omega) (by omega)
    rw [filter_true] at this
    exact this
  have rk : rd B (T2 ++ [(filledL w).map fun x => fr x.1]) (B.length + T2.length) = some ((filledL w).map fun x => fr x.1) := rd_new
  have sx3 : Sx B (T2 ++ [(filledL w).map fun x => fr x.1]) s g c (m + 200 + 200) := sx2.app
  obtain ⟨l1, l2, l3⟩ := Sx_lt sx2
  obtain ⟨kl, hkl⟩ : ∃ kl, B.length + T2.length = kl := ⟨_, rfl⟩
  rw [hkl] at e3 rk
  generalize T2 ++ [(filledL w).map fun x => fr x.1] = T3 at *
  obtain ⟨a1, T4, e4, i1, j1, sx4, k4⟩ := drawL (n := n) (by omega) B T3 s g c _ 10000 sx3 (by omega) (by omega) (by omega)
  obtain ⟨a2, T5, e5, i2, j2, sx5, k5⟩ := drawL (n := n) (by omega) B T4 s g c _ 9999 sx4 (by omega) (by omega) (by omega)
  obtain ⟨a3, T6, e6, i3, j3, sx6, k6⟩ := drawL (n := n) (by omega) B T5 s g c _ 10000 sx5 (by omega) (by omega) (by omega)
  obtain ⟨a4, T7, e7, i4, j4, sx7, k7⟩ := drawL (n := n) (by omega) B T6 s g c _ 50 sx6 (by omega) (by omega) (by omega)
  have y1 := dropT_ret (T := T5) (frL (n := n) (by omega) a1 (1 + a2) (B ++ T5) (by omega) (small_pow (by omega))) rfl
  have y2 := dropT_ret (T := T7) (frL (n := n) (by omega) a3 (1 + a4) (B ++ T7) (by omega) (small_pow (by omega))) rfl
  have rk7 := (((k4.trans k5).trans k6).trans k7).kp _ _ (show kl ≠ s by omega) (show kl ≠ g by omega) rk
  obtain ⟨kn, T8, e8, r8, ek8, eT8⟩ := mk_ex (B := B) (T := T7) (xs := [fr z.1, fr (Rat.divInt a1 (1 + a2)), fr (Rat.divInt a3 (1 + a4))]) (by simp only [List.length_cons, List.length_nil]; omega)
  have rk8 : rd B T8 kl = some ((filledL w).map fun x => fr x.1) := by rw [eT8]; exact rd_app rk7
  have e9 := b_addL rk8 r8 (by omega) (by omega) (by rw [List.length_append, List.length_map]; simp only [List.length_cons, List.length_nil]; omega)
  have r9 : rd B (T8 ++ [((filledL w).map fun x => fr x.1) ++ [fr z.1, fr (Rat.divInt a1 (1 + a2)), fr (Rat.divInt a3 (1 + a4))]]) (B.length + T8.length) = some ((((filledL w).map fun x => x.1) ++ [z.1, Rat.divInt a1 (1 + a2), Rat.divInt a3 (1 + a4)]).map fr) := by
    rw [List.map_append, List.map_map]; exact rd_new
  have sx9 : Sx B (T8 ++ [((filledL w).map fun x => fr x.1) ++ [fr z.1, fr (Rat.divInt a1 (1 + a2)), fr (Rat.divInt a3 (1 + a4))]]) s g c (m + 200 + 200 + 1 + 1 + 1 + 1) := by rw [eT8]; exact sx7.app.app
  generalize T8 ++ [((filledL w).map fun x => fr x.1) ++ [fr z.1, fr (Rat.divInt a1 (1 + a2)), fr (Rat.divInt a3 (1 + a4))]] = T9 at e9 r9 sx9
  generalize B.length + T8.length = kp at e9 r9
  obtain ⟨d8, e10⟩ := purses_loop (n := n) ok (by omega) (ps := ((filledL w).map fun x => x.1) ++ [z.1, Rat.divInt a1 (1 + a2), Rat.divInt a3 (1 + a4)]) (by
    intro q hq
    rcases List.mem_append.mp hq with hq | hq
    · obtain ⟨y, hy, rfl⟩ := List.mem_map.mp hq
      exact filled_nn ok y hy
    · simp only [List.mem_cons, List.not_mem_nil, or_false] at hq
      rcases hq with rfl | rfl | rfl
      · exact filled_nn ok2 z hlast
      · exact ⟨(bd_divInt (by omega) (by omega) (by omega)).mono (by decide), Rat.divInt_nonneg (by omega) (by omega)⟩
      · exact ⟨(bd_divInt (by omega) (by omega) (by omega)).mono (by decide), Rat.divInt_nonneg (by omega) (by omega)⟩) (by
    rw [List.length_append, List.length_map]; simp only [List.length_cons, List.length_nil]; omega) r9 (c0 := c0) (c1 := some (.ref s)) (c2 := c2) (c4 := some (enc w2)) (c5 := some (.tup ((filledL w).map encP))) (c6 := some (.tup ((filledL w2).map encP))) (c8 := c8) (c9 := c9)
  refine ⟨some (enc w), some (enc w2), some (.tup ((filledL w).map encP)), some (.tup ((filledL w2).map encP)), some (.ref kp), d8, c9, T9, ?_, sx9.mono (by omega)⟩
  generalize (filledL w).map encP = V1 at *
  generalize (filledL w2).map encP = V2 at *
  simp only [E_var, E_cst, E_glb, E_bin, E_neg, negV_int, E_vand, E_vor, E_vone, E_vnot, E_tand, E_tor, E_tone, E_tnot, E_tval, E_cmp, E_ife, E_idx, E_nop, E_tup, E_lst, E_nil, E_cons, E_call, E_callp, E_callk, E_isi, E_bi, E_mt, asTup_tup, onB_t, onB_f, onN_nx, onN_rt, onN_bk, onN_ct, S_seq, S_skip, S_pass, S_brk, S_cont, S_set, S_setC, S_setT, S_par, S_setI, S_exp, S_ret, onBS_t, onBS_f, S_ifs, augA_int, b_add, b_addT, b_sub, c_lt, c_le, c_gt, c_ge, c_eqI, c_neI, t_int, t_bl, bi_abs, bi_int, bi_lenT, bi_lenL, bi_tupL, bi_tupT, gx0, gx1, gx2, gx3, gx4, gr0, gr1, gr2, gr3, gfr0, gfr1, st1, st2, st3, Tg.bind, Rf.bindAll, List.replicate_succ, List.replicate_zero, List.map_cons, List.map_nil, List.cons_append, List.nil_append, List.append_nil, List.set_cons_zero, List.set_cons_succ, List.getElem?_cons_zero, List.getElem?_cons_succ, List.length_cons, List.length_nil, Option.bind_some, Option.map_some, Option.bind_none, Option.map_none, if_true, Bool.false_eq_true, if_false, decide_true, decide_false, Bool.not_true, Bool.not_false, bTurn, getP0, e1, e2, f1, f2, r1, r2, u1, u2, q1, q2, t1, t2, v1, v2, x1, x2, e3, neg1, gl, ge0, e4, e5, e6, e7, y1, y2, e8, e9, e10]
theorem srcL (hn : 1 ≤ n) {ns : List Int} (hl : ns.length ≤ 63) :
    ∃ (s g c : Nat) (T' : MH), Rf.run Ps gs LL n 22 [.scr ns] B T = some (.ref s, T') ∧ Sx B T' s g c 0 ∧ B.length + T.length ≤ s ∧ B.length + T.length ≤ g ∧ B.length + T.length ≤ c ∧ ∀ k xs, rd B T k = some xs → rd B T' k = some xs := by
  obtain ⟨n, rfl⟩ : ∃ k, n = k + 1 := ⟨n - 1, by omega⟩
  exact src_spec rfl hl (Nat.le_trans (by decide) big_L)
theorem law_spec {ns : List Int} (hl : ns.length ≤ 63) : ∃ T, Rf.run Ps gs LL (20 + 1) 49 [.scr ns] [] [] = some (.bl true, T) := by
  have hbL := big_L
  obtain ⟨s, g, c, T1, e1, sx, _⟩ := srcL (B := []) (T := []) (n := 20) (by omega) hl
  obtain ⟨σ', T2, e2, c2, c3, c4, c5, c6, c7, c8, c9, f1, f2⟩ := for_inv (B := []) (it := .rng 0 2) (tg := .nm 2) (b := fun σ T => semS (Rf.run Ps gs LL 20) gs LL bTurn σ [] T) (m := 2)
    (fun i σ T' => ∃ c2 c3 c4 c5 c6 c7 c8 c9, σ = [some (.scr ns), some (.ref s), c2, c3, c4, c5, c6, c7, c8, c9] ∧ Sx [] T' s g c (500 * i))
    (by
      rintro i σ T' hi ⟨c2, c3, c4, c5, c6, c7, c8, c9, rfl, h⟩
      obtain ⟨d3, d4, d5, d6, d7, d8, d9, T'', e, h'⟩ := law_turn (n := 20) (by omega) h (by omega) (c0 := some (.scr ns)) (c2 := some (.int (0 + i))) (c3 := c3) (c4 := c4) (c5 := c5) (c6 := c6) (c7 := c7) (c8 := c8) (c9 := c9)
      exact ⟨_, _, _, _, rng_at hi, rfl, .inl e, _, d3, d4, d5, d6, d7, d8, d9, rfl, h'.mono (by omega)⟩)
    (by
      rintro σ T' ⟨c2, c3, c4, c5, c6, c7, c8, c9, rfl, _⟩
      exact rng_end (Nat.le_refl _))
    2 LL 0 [some (.scr ns), some (.ref s), none, none, none, none, none, none, none, none] T1 (by omega) (by omega) ⟨none, none, none, none, none, none, none, none, rfl, sx⟩
  subst f1
  have e3 : semS (Rf.run Ps gs LL 20) gs LL (.for_ (.nm 2) (.itr (.cons (.cst (.int 2)) .nil)) bTurn) [some (.scr ns), some (.ref s), none, none, none, none, none, none, none, none] [] T1 = some (.nx, [some (.scr ns), some (.ref s), c2, c3, c4, c5, c6, c7, c8, c9], T2) := by
    rw [S_for, E_itr1 (j := 2) (by decide) (by decide) (T1 := T1) (by simp only [E_var, E_cst, E_glb, E_bin, E_neg, negV_int, E_vand, E_vor, E_vone, E_vnot, E_tand, E_tor, E_tone, E_tnot, E_tval, E_cmp, E_ife, E_idx, E_nop, E_tup, E_lst, E_nil, E_cons, E_call, E_callp, E_callk, E_isi, E_bi, E_mt, asTup_tup, onB_t, onB_f, onN_nx, onN_rt, onN_bk, onN_ct, S_seq, S_skip, S_pass, S_brk, S_cont, S_set, S_setC, S_setT, S_par, S_setI, S_exp, S_ret, onBS_t, onBS_f, S_ifs, augA_int, b_add, b_addT, b_sub, c_lt, c_le, c_gt, c_ge, c_eqI, c_neI, t_int, t_bl, bi_abs, bi_int, bi_lenT, bi_lenL, bi_tupL, bi_tupT, gx0, gx1, gx2, gx3, gx4, gr0, gr1, gr2, gr3, gfr0, gfr1, st1, st2, st3, Tg.bind, Rf.bindAll, List.replicate_succ, List.replicate_zero, List.map_cons, List.map_nil, List.cons_append, List.nil_append, List.append_nil, List.set_cons_zero, List.set_cons_succ, List.getElem?_cons_zero, List.getElem?_cons_succ, List.length_cons, List.length_nil, Option.bind_some, Option.map_some, Option.bind_none, Option.map_none, if_true, Bool.false_eq_true, if_false, decide_true, decide_false, Bool.not_true, Bool.not_false])]
    exact e2
  refine ⟨T2, run_rt (σ := [some (.scr ns), some (.ref s), c2, c3, c4, c5, c6, c7, c8, c9]) (fn := ⟨1, 10, b_law⟩) rfl rfl ?_⟩
  have st : startE 10 [PV.scr ns] = [some (.scr ns), none, none, none, none, none, none, none, none, none] := rfl
  simp only [bTurn, bPurse] at e3
  rw [show (⟨1, 10, b_law⟩ : Fn).ns = 10 from rfl, st]
  simp only [E_var, E_cst, E_glb, E_bin, E_neg, negV_int, E_vand, E_vor, E_vone, E_vnot, E_tand, E_tor, E_tone, E_tnot, E_tval, E_cmp, E_ife, E_idx, E_nop, E_tup, E_lst, E_nil, E_cons, E_call, E_callp, E_callk, E_isi, E_bi, E_mt, asTup_tup, onB_t, onB_f, onN_nx, onN_rt, onN_bk, onN_ct, S_seq, S_skip, S_pass, S_brk, S_cont, S_set, S_setC, S_setT, S_par, S_setI, S_exp, S_ret, onBS_t, onBS_f, S_ifs, augA_int, b_add, b_addT, b_sub, c_lt, c_le, c_gt, c_ge, c_eqI, c_neI, t_int, t_bl, bi_abs, bi_int, bi_lenT, bi_lenL, bi_tupL, bi_tupT, gx0, gx1, gx2, gx3, gx4, gr0, gr1, gr2, gr3, gfr0, gfr1, st1, st2, st3, Tg.bind, Rf.bindAll, List.replicate_succ, List.replicate_zero, List.map_cons, List.map_nil, List.cons_append, List.nil_append, List.append_nil, List.set_cons_zero, List.set_cons_succ, List.getElem?_cons_zero, List.getElem?_cons_succ, List.length_cons, List.length_nil, Option.bind_some, Option.map_some, Option.bind_none, Option.map_none, if_true, Bool.false_eq_true, if_false, decide_true, decide_false, Bool.not_true, Bool.not_false, b_law, e1, e3]
end
theorem holds : PySem.Challenge.rw_toldandpaid_k36_sorting_four_digits.Holds := holds_of (L := LL) (k := 20) (by decide) fun ns hl => law_spec hl
end K36
end
open PySem PySem.W PyProof.Rows
theorem PySem.Challenge.cw_toldandpaid_k36_sorting_four_digits_holds : PySem.Challenge.rw_toldandpaid_k36_sorting_four_digits.Holds := by
  exact K36.holds
