import PyProof.Rows.All
import Wide.All
import OpenK.AllK
import Wide.FinOn
import HandS.ForMost
import HandS.ForExc
import HandS.Lambda
import HandS.TupAny
import HandS.TupMul
import HandS.TupLe
import HandS.Conv
import HandS.IsInst
import HandS.Zip
import HandS.Wide
import HandS.Deep
import HandS.SetFor
import HandS.Strs
import HandS.Text
import HandS.ExcCtx
import HandS.HotCalls
import HandS.ExcIs
import PyProof.Walks
import PyProof.Rows.SumAny
import KE.DataMinMax
import HandS.StrMore
import KE.GoesEnum
import PyProof.WalksMore
import HandS.SetBool
import KE.SortCalls
import KE.SortData
import HandS.Walk
import HandS.EndTab
import HandS.Codes
import PySem.Challenge.RW_testorder_k14_whole_texts
set_option Elab.async false
set_option linter.all false
set_option maxRecDepth 100000
set_option maxHeartbeats 4000000
/-! A small language over plain data, and what its texts mean. -/
namespace TO
open PySem L2

abbrev D := PyData
abbrev Mu := List (Option (List D))
inductive Sl where
  | val (d : D)
  | obj (j : Nat)
  | lab (C : Nat) (d : D) (j : Nat)
  | labF (C : Nat) (d : D) (xs : List D)
abbrev En := List (Option Sl)
abbrev Rr (α : Type) := Option (Except Str α × Mu)
def bnd {α β : Type} (r : Rr α) (f : α → Mu → Rr β) : Rr β :=
  match r with
  | none => none
  | some (.error c, m) => some (.error c, m)
  | some (.ok a, m) => f a m
def opt {α : Type} (o : Option α) (m : Mu) : Rr α := o.map fun a => (.ok a, m)

/-! ### operations on data -/
inductive Bop where | add | sub | mul | fdiv | mod | pow
inductive Cop where | eq | ne | lt | le | gt | ge | isin | notin | is_ | isnot
inductive Bfn where | len | tuple | list | all | sum | int1 | max2 | min2 | min1 | str1
inductive Smt where | join | split | index
inductive Mth where | index | count
inductive Cla where | int | bool | tuple | list | str
inductive Tg where | name (i : Nat) | tup (is : List Nat)

def lim : Nat := 100000
def cutD {α : Type} (xs : List α) (lo hi : Option Int) : List α := (xs.drop (HT.sIx xs.length 0 lo)).take (HT.sIx xs.length xs.length hi - HT.sIx xs.length 0 lo)
def mulOk (i j : Int) : Prop := CMul i j ∨ (i.natAbs < 2 ^ 1000 ∧ j.natAbs < 2 ^ 1000)
instance (i j : Int) : Decidable (mulOk i j) := by unfold mulOk CMul; infer_instance
instance (i j : Int) : Decidable (CPow i j) := by unfold CPow; infer_instance
def binD : Bop → D → D → Option D
  | .add, .int i, .int j => some (.int (i + j))
  | .add, .str a, .str b => if a.length + b.length ≤ lim then some (.str (a ++ b)) else none
  | .add, .list a, .list b => if a.length + b.length ≤ lim then some (.list (a ++ b)) else none
  | .add, .tuple a, .tuple b => if a.length + b.length ≤ lim then some (.tuple (a ++ b)) else none
  | .sub, .int i, .int j => some (.int (i - j))
  | .mul, .int i, .int j => if mulOk i j then some (.int (i * j)) else none
  | .mul, .tuple a, .int k => if a ≠ [] ∧ a.length ≤ 1000 ∧ 1 ≤ k ∧ k ≤ 1000 then some (.tuple (List.replicate k.toNat a).flatten) else none
  | .mul, .list a, .int k => if a.length * k.toNat ≤ lim ∧ -1000000 ≤ k ∧ k ≤ 1000000 then some (.list (List.replicate k.toNat a).flatten) else none
  | .fdiv, .int i, .int j => if 0 < j ∧ j.natAbs < 2 ^ 1000 then some (.int (i / j)) else none
  | .mod, .int i, .int j => if 0 < j then some (.int (i % j)) else none
  | .pow, .int i, .int j => if CPow i j then some (.int (i ^ j.toNat)) else none
  | _, _, _ => none
def flatD : D → Bool
  | .none => true
  | .bool _ => true
  | .int _ => true
  | .str _ => true
  | _ => false
def eqD (d e : D) : Option Bool := if SeqAt.shaped d && SeqAt.shaped e then some (PyData.eqv d e) else none
def inD (d : D) : D → Option Bool
  | .list ds => if SeqAt.shaped d && SeqAt.shaped (.list ds) then some (ds.any fun z => PyData.eqv z d) else none
  | .tuple ds => if flatD d && ds.all flatD then some (ds.any fun z => PyData.eqv z d) else none
  | .str b => match d with
    | .str a => match a.cps.toList with
      | [c] => some (decide (c ∈ b.cps.toList))
      | _ => none
    | _ => none
  | _ => none
def isD : D → D → Option Bool
  | .none, .none => some true
  | .bool _, .none => some false
  | .int _, .none => some false
  | .str _, .none => some false
  | .list _, .none => some false
  | .tuple _, .none => some false
  | .bool a, .bool b => some (decide (a = b))
  | _, _ => none
def cmpD : Cop → D → D → Option Bool
  | .eq, d, e => eqD d e
  | .ne, d, e => (eqD d e).map (!·)
  | .lt, .int i, .int j => some (decide (i < j))
  | .le, .int i, .int j => some (decide (i ≤ j))
  | .gt, .int i, .int j => some (decide (j < i))
  | .ge, .int i, .int j => some (decide (j ≤ i))
  | .isin, d, e => inD d e
  | .notin, d, e => (inD d e).map (!·)
  | .is_, d, e => isD d e
  | .isnot, d, e => (isD d e).map (!·)
  | _, _, _ => none
def ixD : D → D → Option D
  | .list xs, .int i => atI xs i
  | .tuple xs, .int i => atI xs i
  | .str z, .int i => if z.length ≤ lim then (atI z.cps.toList i).map fun c => .str ⟨#[c]⟩ else none
  | _, _ => none
def slcD (d : D) (lo hi : Option Int) : Option D := match d with
  | .list xs => some (.list (cutD xs lo hi))
  | .tuple xs => some (.tuple (cutD xs lo hi))
  | .str z => if z.length ≤ lim then some (.str (cutS z lo hi)) else none
  | _ => none
def intsD : List D → Option (List Int)
  | [] => some []
  | .int i :: r => (intsD r).map (i :: ·)
  | _ :: _ => none
def boolsD : List D → Option (List Bool)
  | [] => some []
  | .bool i :: r => (boolsD r).map (i :: ·)
  | _ :: _ => none
/-- all of one kind, place by place -/
def alkB (ds : List D) : Bool := (ds.all fun x => ds.all fun y => PySem.W.alike x y) && (ds.all fun x => match x with | .none => false | _ => true) && decide (PyData.depthAll ds ≤ 60)
def biD : Bfn → List D → Option D
  | .min1, [.list (d :: ds)] => if alkB (d :: ds) then some (PySem.W.minD d ds) else none
  | .len, [.list xs] => some (.int xs.length)
  | .len, [.tuple xs] => some (.int xs.length)
  | .len, [.str z] => if z.length ≤ lim then some (.int z.length) else none
  | .tuple, [.list xs] => some (.tuple xs)
  | .tuple, [.tuple xs] => some (.tuple xs)
  | .list, [.list xs] => some (.list xs)
  | .list, [.tuple xs] => some (.list xs)
  | .all, [.list xs] => (boolsD xs).map fun bs => .bool (bs.all id)
  | .all, [.tuple xs] => (boolsD xs).map fun bs => .bool (bs.all id)
  | .sum, [.list xs] => (intsD xs).map fun ns => .int ns.sum
  | .int1, [.int i] => some (.int i)
  | .int1, [.bool b] => some (.int (if b then 1 else 0))
  | .int1, [.str a] => match PySem.intText? a with
    | some n => if a.length ≤ 640 then some (.int n) else none
    | none => none
  | .str1, [.int i] => if i.natAbs.log2 < 1920 then some (.str (toString i)) else none
  | .max2, [.int i, .int j] => some (.int (if j > i then j else i))
  | .min2, [.int i, .int j] => some (.int (if j < i then j else i))
  | _, _ => none
def isiD : Cla → D → Bool
  | .int, .int _ => true
  | .int, .bool _ => true
  | .bool, .bool _ => true
  | .tuple, .tuple _ => true
  | .list, .list _ => true
  | .str, .str _ => true
  | _, _ => false
def mthD : Mth → D → List D → Option D
  | .index, .tuple xs, [.int i] => (intsD xs).bind fun ns => if i ∈ ns then some (.int (ns.idxOf i)) else none
  | .count, .tuple xs, [.bool true] => (boolsD xs).map fun bs => .int (bs.count true : Nat)
  | .index, .list xs, [d] => if SeqAt.shaped (.list xs) && SeqAt.shaped d then (xs.findIdx? fun z => PyData.eqv z d).map fun j => .int (j : Nat) else none
  | .count, .list xs, [d] => if xs.all flatD && flatD d then some (.int (xs.countP (fun z => PyData.eqv z d) : Nat)) else none
  | _, _, _ => none
def strsD : List D → Option (List Str)
  | [] => some []
  | .str i :: r => (strsD r).map (i :: ·)
  | _ :: _ => none
/-- methods of texts -/
def smtD : Smt → Str → D → Option D
  | .join, a, .list xs => (strsD xs).bind fun ys => if (ys.map (·.length)).sum + ys.length * a.length ≤ lim then some (.str (Txt.join a ys)) else none
  | .split, a, .str b => if (b.length == 0) = false ∧ a.length ≤ lim then some (.list ((Txt.split a b).map .str)) else none
  | .index, a, .str b => (Txt.index0 a b).map fun k => .int (k : Nat)
  | _, _, _ => none
def chrsD (z : Str) : List D := z.cps.toList.map fun c => .str ⟨#[c]⟩
/-- each number once -/
def dd : List Int → List Int
  | [] => []
  | x :: r => if x ∈ r then dd r else x :: dd r
def lensetD : D → Option D
  | .tuple xs => (intsD xs).bind fun ns => if ns.length ≤ 1000 then some (.int (dd ns).length) else none
  | _ => none
/-- the truths that are there, upwards -/
def upB (f t : Bool) : List Bool := (if f then [false] else []) ++ (if t then [true] else [])
def insI (k : Int) : List Int → List Int
  | [] => [k]
  | x :: r => if k < x then k :: x :: r else if k = x then x :: r else x :: insI k r
/-- each number once, upwards -/
def upI : List Int → List Int
  | [] => []
  | k :: r => insI k (upI r)
def ssetD : D → Option D
  | .list xs => match intsD xs with
    | some ns => if ns.length ≤ 1000 ∧ (upI ns).length < 64 then some (.list ((upI ns).map .int)) else none
    | none => (boolsD xs).bind fun bs => if bs.length ≤ 1000 then some (.list ((upB (decide (false ∈ bs)) (decide (true ∈ bs))).map .bool)) else none
  | _ => none
def rngD (n : Int) : List D := (List.range n.toNat).map fun (i : Nat) => .int (i : Int)

def setL (is : List Nat) (ds : List D) (env : En) : En := match is, ds with
  | i :: is, d :: ds => setL is ds (env.set i (some (.val d)))
  | _, _ => env
def bindT : Tg → D → En → Option En
  | .name i, d, env => some (env.set i (some (.val d)))
  | .tup is, .tuple ds, env => if is.length = ds.length then some (setL is ds env) else none
  | .tup _, _, _ => none
def Tg.slots : Tg → List Nat
  | .name i => [i]
  | .tup is => is
def enumD : Nat → List D → List D
  | _, [] => []
  | k, d :: r => .tuple [.int (k : Int), d] :: enumD (k + 1) r
def zipD : List D → List D → List D
  | a :: r, b :: s => .tuple [a, b] :: zipD r s
  | _, _ => []
def seqD : D → Option (List D)
  | .list xs => some xs
  | .tuple xs => some xs
  | _ => none
def wipeE (env : En) : List Nat → En
  | [] => env
  | v :: vs => (wipeE env vs).set v none

/-! ### texts -/
mutual
inductive E where
  | cst (d : D)
  | var (i : Nat)
  | glob (x : Str) (d : D)
  | neg (a : E)
  | bin (o : Bop) (a b : E)
  | cmp (o : Cop) (a b : E)
  | chain (o p : Cop) (a b c : E)
  | andE (es : List E)
  | orE (es : List E)
  | notE (a : E)
  | ife (t a b : E)
  | ix (a b : E)
  | oix (i : Nat) (b : E)
  | slc (a : E) (lo hi : EO)
  | tup (es : List E)
  | lst (es : List E)
  | call (f : Str) (F : List D → Option (Except Str D)) (es : List E)
  | callD (f : Str) (F : List D → List D → Option (D × List D)) (i : Nat) (es : List E)
  | bi (b : Bfn) (es : List E)
  | isi (a : E) (c : Cla)
  | lenset (a : E)
  | sset (a : E)
  | trng (t : Bool) (a : E)
  | mth (m : Mth) (a : E) (es : List E)
  | comp (own : List (Str × Nat)) (tg : Tg) (it : It) (elt : E) (ifs : List E)
  | told (a : E)
  | smth (k : Smt) (a b : E)
  | lowr (a : E)
  | any
  | lend (i : Nat) (a : E)
  | fldN (C i : Nat)
  | fldE (C i : Nat)
  | lcopy (C i : Nat)
  | meth (C : Nat) (f : Str) (F : D → List D → List D → Option (Except Str D × List D)) (i : Nat) (es : List E)
  | callL (C : Nat) (f : Str) (F : D → List D → List D → Option (Except Str D × List D)) (i : Nat) (es : List E)
  | lenL (C : Nat) (F : D → List D → List D → Option (Except Str D × List D)) (i : Nat)
  | mkE (C : Nat) (F : List D → Option (Except Str D)) (es : List E)
  | mkM (C : Nat) (F : List D → Option (Except Str D)) (es : List E) (f : Str) (F1 : D → List D → List D → Option (Except Str D × List D)) (es1 : List E)
inductive EO where
  | no
  | yes (e : E)
inductive It where
  | seq (e : E)
  | chr (e : E)
  | rng1 (e : E)
  | rng2 (a b : E)
  | enum (e : E)
  | zip (a b : E)
end
inductive PN where
  | dat (e : E)
  | new (es : List E)
inductive S where
  | asg (t : Tg) (e : E)
  | par (i j : Nat) (a b : PN)
  | new (i : Nat) (es : List E)
  | frz (i : Nat)
  | app (i : Nat) (e : E)
  | oset (i : Nat) (k e : E)
  | ifS (t : E) (a b : List S)
  | forS (t : Tg) (it : It) (b : List S)
  | whl (t : E) (b : List S)
  | ret (e : E)
  | retN
  | raise (c : Str)
  | exp (e : E)
  | any
  | labN (i C : Nat) (F : List D → Option (Except Str D)) (es : List E)
  | eapp (C i : Nat) (e : E)
  | epop (C i : Nat)
  | lab3 (i j k : Nat) (a : E) (C : Nat) (F : List D → Option (Except Str D)) (es : List E)
  | vw (i C j : Nat)
  | tcx (i : Nat) (own : List (Str × Nat)) (tg : Tg) (it : It) (elt : E)

/-- the package's exceptions -/
def err13 : List Str := ["BadSuite", "BadTest", "BadOrder", "BadRole", "BadIndex", "BadCount", "BadLog", "BadResults", "Unlike", "Contradiction", "TooMany", "NothingToUndo", "BadText"]
def toldR (r : Rr D) : Rr D := match r with
  | some (.ok d, m) => some (.ok d, m)
  | some (.error x, m) => if x ∈ err13 then some (.ok (.tuple [.str "error", .str x]), m) else none
  | none => none
def compF (f : D → Mu → Rr (Option D)) : List D → Mu → Rr (List D)
  | [], m => some (.ok [], m)
  | d :: r, m => bnd (f d m) fun o m1 => bnd (compF f r m1) fun ds m2 => some (.ok (match o with | some d => d :: ds | none => ds), m2)
/-- all slots that hold the j-th object hold its list from now on -/
def thawE (env : En) (j : Nat) (xs : List D) : En := env.map fun o => match o with
  | some (.obj k) => if k = j then some (.val (.list xs)) else some (.obj k)
  | some (.lab C d k) => if k = j then some (.labF C d xs) else some (.lab C d k)
  | o => o
/-- .. and nothing else is an object -/
def lendE (env : En) (j : Nat) (xs : List D) : En := env.map fun o => match o with
  | some (.obj k) => if k = j then some (.val (.list xs)) else none
  | some (.lab C d k) => if k = j then some (.labF C d xs) else none
  | o => o
/-- of what kind the first item is -/
def hk : List D → Nat
  | [] => 0
  | .none :: _ => 1
  | .bool _ :: _ => 2
  | .int _ :: _ => 3
  | .str _ :: _ => 4
  | .list _ :: _ => 5
  | .tuple _ :: _ => 6
  | .dict _ :: _ => 7
mutual
/-- no list of that kind is in it -/
def noS (k : Nat) : D → Bool
  | .list ys => decide (hk ys ≠ k) && noSA k ys
  | .tuple ys => noSA k ys
  | .dict _ => false
  | _ => true
def noSA (k : Nat) : List D → Bool
  | [] => true
  | d :: r => noS k d && noSA k r
end
def lendR (xs : List D) (m : Mu) (r : Rr D) : Rr D := match r with
  | some (.ok d, _) => if noS (hk xs) d then some (.ok d, m) else none
  | some (.error x, _) => some (.error x, m)
  | none => none
def lentJ : Option (Option Sl) → Option Nat
  | some (some (.obj j)) => some j
  | some (some (.lab _ _ j)) => some j
  | _ => none
def tstD (o : Rr D) : Rr Bool := bnd o fun d m => match d with
  | .bool b => some (.ok b, m)
  | _ => none
def noEx {α : Type} (r : Rr α) : Rr α := match r with
  | some (.ok a, m) => some (.ok a, m)
  | _ => none
mutual
def ev : E → En → Mu → Rr D
  | .cst d, _, m => some (.ok d, m)
  | .var i, env, m => match env[i]? with
    | some (some (.val d)) => some (.ok d, m)
    | _ => none
  | .glob _ d, _, m => some (.ok d, m)
  | .neg a, env, m => bnd (ev a env m) fun d m => match d with
    | .int i => some (.ok (.int (-i)), m)
    | _ => none
  | .bin o a b, env, m => bnd (ev a env m) fun d m => bnd (ev b env m) fun e m => opt (binD o d e) m
  | .cmp o a b, env, m => bnd (ev a env m) fun d m => bnd (ev b env m) fun e m => opt ((cmpD o d e).map .bool) m
  | .chain o p a b c, env, m => bnd (ev a env m) fun d m => bnd (ev b env m) fun e m => match cmpD o d e with
    | some true => bnd (ev c env m) fun g m => opt ((cmpD p e g).map .bool) m
    | some false => some (.ok (.bool false), m)
    | none => none
  | .andE es, env, m => evAnd es env m
  | .orE es, env, m => evOr es env m
  | .notE a, env, m => bnd (ev a env m) fun d m => match d with
    | .bool b => some (.ok (.bool (!b)), m)
    | _ => none
  | .ife t a b, env, m => bnd (ev t env m) fun d m => match d with
    | .bool true => ev a env m
    | .bool false => ev b env m
    | _ => none
  | .ix a b, env, m => bnd (ev a env m) fun d m => bnd (ev b env m) fun e m => opt (ixD d e) m
  | .oix i b, env, m => match env[i]? with
    | some (some (.obj j)) => bnd (ev b env m) fun e m => match m[j]? with
      | some (some xs) => opt (ixD (.list xs) e) m
      | _ => none
    | _ => none
  | .slc a lo hi, env, m => bnd (ev a env m) fun d m => bnd (evo lo env m) fun l m => bnd (evo hi env m) fun h m => opt (slcD d l h) m
  | .tup es, env, m => bnd (evs es env m) fun ds m => if ds.length ≤ lim then some (.ok (.tuple ds), m) else none
  | .lst es, env, m => bnd (evs es env m) fun ds m => if ds.length ≤ lim then some (.ok (.list ds), m) else none
  | .call _ F es, env, m => bnd (evs es env m) fun ds m => (F ds).map fun r => (r, m)
  | .callD _ F i es, env, m => match env[i]? with
    | some (some (.obj j)) => bnd (evs es env m) fun ds m => match m[j]? with
      | some (some xs) => (F xs ds).map fun r => (.ok r.1, m.set j (some r.2))
      | _ => none
    | _ => none
  | .bi b es, env, m => bnd (evs es env m) fun ds m => opt (biD b ds) m
  | .isi a c, env, m => bnd (ev a env m) fun d m => some (.ok (.bool (isiD c d)), m)
  | .lenset a, env, m => bnd (ev a env m) fun d m => opt (lensetD d) m
  | .sset a, env, m => bnd (ev a env m) fun d m => opt (ssetD d) m
  | .trng t a, env, m => bnd (ev a env m) fun d m => match d with
    | .int n => if 0 ≤ n ∧ n ≤ 1000 then some (.ok (if t then .tuple (rngD n) else .list (rngD n)), m) else none
    | _ => none
  | .mth k a es, env, m => bnd (ev a env m) fun d m => match d with
    | .tuple xs => bnd (evs es env m) fun ds m => opt (mthD k (.tuple xs) ds) m
    | .list xs => bnd (evs es env m) fun ds m => opt (mthD k (.list xs) ds) m
    | _ => none
  | .comp own tg it elt ifs, env, m => bnd (itv it env m) fun ds m => noEx (bnd (compF (fun d m => match bindT tg d (wipeE env (own.map (·.2))) with
      | some env1 => bnd (evIf ifs env1 m) fun b m => if b then bnd (ev elt env1 m) fun y m => some (.ok (some y), m) else some (.ok none, m)
      | none => none) ds m) fun ys m => if ds.length ≤ lim then some (.ok (.list ys), m) else none)
  | .told a, env, m => toldR (ev a env m)
  | .smth k a b, env, m => bnd (ev a env m) fun d m => match d with
    | .str z => bnd (ev b env m) fun e m => opt (smtD k z e) m
    | _ => none
  | .lowr a, env, m => bnd (ev a env m) fun d m => match d with
    | .str z => if z.length ≤ lim then some (.ok (.str (Txt.lower z)), m) else none
    | _ => none
  | .any, _, _ => none
  | .lend i a, env, m => match lentJ env[i]? with
    | some j => match m[j]? with
      | some (some xs) => lendR xs m (ev a (lendE env j xs) [none])
      | _ => none
    | none => none
  | .fldN C i, env, m => match env[i]? with
    | some (some (.lab C' d _)) => if C' = C then some (.ok d, m) else none
    | some (some (.labF C' d _)) => if C' = C then some (.ok d, m) else none
    | _ => none
  | .fldE C i, env, m => match env[i]? with
    | some (some (.labF C' _ xs)) => if C' = C then some (.ok (.list xs), m) else none
    | _ => none
  | .lcopy C i, env, m => match env[i]? with
    | some (some (.lab C' _ j)) => if C' = C then (match m[j]? with
      | some (some xs) => some (.ok (.list xs), m)
      | _ => none) else none
    | _ => none
  | .meth C _ F i es, env, m => match env[i]? with
    | some (some (.lab C' d j)) => if C' = C then bnd (evs es env m) fun ds m => match m[j]? with
      | some (some xs) => (F d xs ds).map fun r => (r.1, m.set j (some r.2))
      | _ => none else none
    | _ => none
  | .callL C _ F i es, env, m => match env[i]? with
    | some (some (.lab C' d j)) => if C' = C then bnd (evs es env m) fun ds m => match m[j]? with
      | some (some xs) => (F d xs ds).map fun r => (r.1, m.set j (some r.2))
      | _ => none else none
    | _ => none
  | .lenL C F i, env, m => match env[i]? with
    | some (some (.lab C' d j)) => if C' = C then (match m[j]? with
      | some (some xs) => match F d xs [] with
        | some (.ok (.int k), ys) => if 0 ≤ k ∧ k ≤ 100000 then some (.ok (.int k), m.set j (some ys)) else none
        | _ => none
      | _ => none) else none
    | _ => none
  | .mkE _ F es, env, m => bnd (evs es env m) fun ds m => match F ds with
    | some (.error x) => some (.error x, m)
    | _ => none
  | .mkM _ F es _ F1 es1, env, m => bnd (evs es env m) fun ds m => match F ds with
    | some (.error x) => some (.error x, m)
    | some (.ok d) => bnd (evs es1 env m) fun es m => (F1 d [] es).map fun r => (r.1, m)
    | none => none
def evs : List E → En → Mu → Rr (List D)
  | [], _, m => some (.ok [], m)
  | e :: es, env, m => bnd (ev e env m) fun d m => bnd (evs es env m) fun ds m => some (.ok (d :: ds), m)
def evAnd : List E → En → Mu → Rr D
  | [], _, _ => none
  | [e], env, m => ev e env m
  | e :: es, env, m => bnd (ev e env m) fun d m => match d with
    | .bool true => evAnd es env m
    | .bool false => some (.ok (.bool false), m)
    | _ => none
def evOr : List E → En → Mu → Rr D
  | [], _, _ => none
  | [e], env, m => ev e env m
  | e :: es, env, m => bnd (ev e env m) fun d m => match d with
    | .bool false => evOr es env m
    | .bool true => some (.ok (.bool true), m)
    | _ => none
def evIf : List E → En → Mu → Rr Bool
  | [], _, m => some (.ok true, m)
  | [e], env, m => tstD (ev e env m)
  | _, _, _ => none
def evo : EO → En → Mu → Rr (Option Int)
  | .no, _, m => some (.ok none, m)
  | .yes e, env, m => bnd (ev e env m) fun d m => match d with
    | .int i => some (.ok (some i), m)
    | _ => none
def itv : It → En → Mu → Rr (List D)
  | .seq e, env, m => bnd (ev e env m) fun d m => opt (seqD d) m
  | .chr e, env, m => bnd (ev e env m) fun d m => match d with
    | .str z => some (.ok (chrsD z), m)
    | _ => none
  | .rng1 e, env, m => bnd (ev e env m) fun d m => match d with
    | .int n => if n ≤ 100000 ∧ -100000 ≤ n then some (.ok (rngD n), m) else none
    | _ => none
  | .rng2 a b, env, m => bnd (ev a env m) fun d m => bnd (ev b env m) fun e m => match d, e with
    | .int i, .int j => if -100000 ≤ i ∧ i ≤ 100000 ∧ -100000 ≤ j ∧ j ≤ 100000 then some (.ok ((List.range (j - i).toNat).map fun (k : Nat) => .int (i + (k : Int))), m) else none
    | _, _ => none
  | .enum e, env, m => bnd (ev e env m) fun d m => opt ((seqD d).map (enumD 0)) m
  | .zip a b, env, m => bnd (ev a env m) fun d m => bnd (ev b env m) fun e m => match d, e with
    | .list x, .list y => some (.ok (zipD x y), m)
    | .tuple x, .tuple y => some (.ok (zipD x y), m)
    | .list x, .tuple y => some (.ok (zipD x y), m)
    | _, _ => none
end
inductive Oc where
  | nx (env : En) (m : Mu)
  | rt (d : D) (m : Mu)
  | ex (c : Str) (m : Mu)
def ob {α : Type} (r : Rr α) (f : α → Mu → Option Oc) : Option Oc := match r with
  | none => none
  | some (.error c, m) => some (.ex c m)
  | some (.ok a, m) => f a m
def loopF (f : D → En → Mu → Option Oc) : List D → En → Mu → Option Oc
  | [], env, m => some (.nx env m)
  | d :: r, env, m => match f d env m with
    | some (.nx env1 m1) => loopF f r env1 m1
    | o => o
def whileF (t : En → Mu → Rr Bool) (b : En → Mu → Option Oc) : Nat → En → Mu → Option Oc
  | 0, _, _ => none
  | n + 1, env, m => ob (t env m) fun c m => if c then (match b env m with
      | some (.nx env1 m1) => whileF t b n env1 m1
      | o => o) else some (.nx env m)
def pnv (p : PN) (env : En) (m : Mu) : Rr (Sum D (List D)) := match p with
  | .dat e => bnd (ev e env m) fun d m => some (.ok (.inl d), m)
  | .new es => bnd (evs es env m) fun ds m => if ds.length ≤ lim then some (.ok (.inr ds), m) else none
def putP (i : Nat) (p : Sum D (List D)) (env : En) (m : Mu) : En × Mu := match p with
  | .inl d => (env.set i (some (.val d)), m)
  | .inr ds => (env.set i (some (.obj m.length)), m ++ [some ds])
mutual
def exec : S → En → Mu → Option Oc
  | .asg t e, env, m => ob (ev e env m) fun d m => (bindT t d env).map fun env1 => .nx env1 m
  | .par i j a b, env, m => ob (pnv a env m) fun x m => ob (pnv b env m) fun y m =>
      let p := putP i x env m
      let q := putP j y p.1 p.2
      some (.nx q.1 q.2)
  | .new i es, env, m => ob (evs es env m) fun ds m => if ds.length ≤ lim then some (.nx (env.set i (some (.obj m.length))) (m ++ [some ds])) else none
  | .frz i, env, m => match env[i]? with
    | some (some (.obj j)) => match m[j]? with
      | some (some xs) => if 1 ≤ j then some (.nx (thawE env j xs) (m.set j none)) else none
      | _ => none
    | _ => none
  | .app i e, env, m => match env[i]? with
    | some (some (.obj j)) => ob (ev e env m) fun d m => match m[j]? with
      | some (some xs) => if xs.length < lim then some (.nx env (m.set j (some (xs ++ [d])))) else none
      | _ => none
    | _ => none
  | .oset i k e, env, m => match env[i]? with
    | some (some (.obj j)) => ob (ev e env m) fun d m => ob (ev k env m) fun z m => match z, m[j]? with
      | .int z, some (some xs) => (ixN xs.length z).map fun l => .nx env (m.set j (some (xs.set l d)))
      | _, _ => none
    | _ => none
  | .ifS t a b, env, m => ob (tstD (ev t env m)) fun c m => if c then execs a env m else execs b env m
  | .forS t it b, env, m => ob (itv it env m) fun ds m => loopF (fun d env m => match bindT t d env with
      | some env1 => execs b env1 m
      | none => none) ds env m
  | .whl t b, env, m => whileF (fun env m => tstD (ev t env m)) (fun env m => execs b env m) 100 env m
  | .ret e, env, m => ob (ev e env m) fun d m => some (.rt d m)
  | .retN, _, m => some (.rt .none m)
  | .raise c, _, m => some (.ex c m)
  | .exp e, env, m => ob (ev e env m) fun _ m => some (.nx env m)
  | .any, _, _ => none
  | .labN i C F es, env, m => ob (evs es env m) fun ds m => match F ds with
    | some (.ok d) => some (.nx (env.set i (some (.lab C d m.length))) (m ++ [some []]))
    | some (.error x) => some (.ex x m)
    | none => none
  | .eapp C i e, env, m => match env[i]? with
    | some (some (.lab C' _ j)) => if C' = C then ob (ev e env m) fun d m => match m[j]? with
      | some (some xs) => if xs.length < lim then some (.nx env (m.set j (some (xs ++ [d])))) else none
      | _ => none else none
    | _ => none
  | .epop C i, env, m => match env[i]? with
    | some (some (.lab C' _ j)) => if C' = C then (match m[j]? with
      | some (some (x :: xs)) => some (.nx env (m.set j (some (x :: xs).dropLast)))
      | _ => none) else none
    | _ => none
  | .lab3 i j k a C F es, env, m => ob (ev a env m) fun d m => ob (evs es env m) fun ds m => match F ds with
    | some (.ok n) => some (.nx (((env.set i (some (.val d))).set j (some (.lab C n m.length))).set k (some (.val (.list [])))) (m ++ [some []]))
    | some (.error x) => some (.ex x m)
    | none => none
  | .vw i C j, env, m => match env[j]? with
    | some (some (.lab C' _ k)) => if C' = C then (match m[k]? with
      | some (some xs) => some (.nx (env.set i (some (.obj m.length))) (m ++ [some xs]))
      | _ => none) else none
    | _ => none
  | .tcx i own tg it elt, env, m => ob (bnd (itv it env m) fun ds m => if ds.length ≤ lim then compF (fun d m => match bindT tg d (wipeE env (own.map (·.2))) with
      | some env1 => bnd (ev elt env1 m) fun y m => some (.ok (some y), m)
      | none => none) ds m else none) fun ys m => some (.nx (env.set i (some (.val (.tuple ys)))) m)
def execs : List S → En → Mu → Option Oc
  | [], env, m => some (.nx env m)
  | s :: r, env, m => match exec s env m with
    | some (.nx env1 m1) => execs r env1 m1
    | o => o
end
/-- what a def without objects hands back; with one object ahead of its arguments -/
def endP : Option Oc → Option (Except Str D)
  | some (.rt d _) => some (.ok d)
  | some (.nx _ _) => some (.ok .none)
  | some (.ex c _) => some (.error c)
  | none => none
def endM : Option Oc → Option (D × List D)
  | some (.rt d (some ys :: _)) => some (d, ys)
  | some (.nx _ (some ys :: _)) => some (.none, ys)
  | _ => none
def endL : Option Oc → Option (Except Str D × List D)
  | some (.rt d (some ys :: _)) => some (.ok d, ys)
  | some (.nx _ (some ys :: _)) => some (.ok .none, ys)
  | some (.ex x (some ys :: _)) => some (.error x, ys)
  | _ => none
def fnP (b : List S) (n ar : Nat) (ds : List D) : Option (Except Str D) :=
  if ds.length = ar then endP (execs b (ds.map (fun d => some (.val d)) ++ List.replicate (n - ds.length) none) [none]) else none
def fnM (b : List S) (n ar : Nat) (xs : List D) (ds : List D) : Option (D × List D) :=
  if ds.length + 1 = ar then endM (execs b (some (.obj 0) :: (ds.map (fun d => some (.val d)) ++ List.replicate (n - (ds.length + 1)) none)) [some xs]) else none
def fnL (b : List S) (n ar C : Nat) (d : D) (xs : List D) (ds : List D) : Option (Except Str D × List D) :=
  if ds.length + 1 = ar then endL (execs b (some (.lab C d 0) :: (ds.map (fun d => some (.val d)) ++ List.replicate (n - (ds.length + 1)) none)) [some xs]) else none
/-- what __init__ makes of its argument -/
def newF (Fc : List D → Option (Except Str D)) (ds : List D) : Option (Except Str D) := match ds with
  | [d] => match Fc [d] with
    | some (.ok _) => some (.ok d)
    | some (.error x) => some (.error x)
    | none => none
  | _ => none
end TO

set_option Elab.async false
set_option linter.all false
set_option maxRecDepth 100000
set_option maxHeartbeats 4000000
/-! Data in the heap, the state between two steps. -/
namespace TO
open PySem L2

/-! ### data as it stands in a heap -/
mutual
def Rp (G : Hp) : V → D → Prop
  | v, .none => v = .non
  | v, .bool b => v = .bl b
  | v, .int i => v = .int i
  | v, .str s => v = .str s
  | v, .list ds => ∃ a xs, v = .ref a ∧ G a = some (.lst xs) ∧ RpA G xs ds
  | v, .tuple ds => ∃ a xs, v = .ref a ∧ (∃ o, o.dict = none ∧ G a = some (.frz o (.tup xs))) ∧ RpA G xs ds
  | _, .dict _ => False
def RpA (G : Hp) : List V → List D → Prop
  | [], [] => True
  | v :: vs, d :: ds => Rp G v d ∧ RpA G vs ds
  | [], _ :: _ => False
  | _ :: _, [] => False
end
mutual
theorem Rp.mono {G G' : Hp} (e : Same G G') : ∀ (d : D) (v : V), Rp G v d → Rp G' v d
  | .none, _, h => h
  | .bool _, _, h => h
  | .int _, _, h => h
  | .str _, _, h => h
  | .list ds, _, ⟨a, xs, h1, h2, h3⟩ => ⟨a, xs, h1, e a _ h2, RpA.mono e ds xs h3⟩
  | .tuple ds, _, ⟨a, xs, h1, ⟨o, h0, h2⟩, h3⟩ => ⟨a, xs, h1, ⟨o, h0, e a _ h2⟩, RpA.mono e ds xs h3⟩
  | .dict _, _, h => h
theorem RpA.mono {G G' : Hp} (e : Same G G') : ∀ (ds : List D) (vs : List V), RpA G vs ds → RpA G' vs ds
  | [], [], h => h
  | d :: ds, v :: vs, ⟨h1, h2⟩ => ⟨Rp.mono e d v h1, RpA.mono e ds vs h2⟩
  | [], _ :: _, h => h
  | _ :: _, [], h => h
end
mutual
theorem Rp.dp {K : PySem.W.Frag} {G H : Hp} (e : Same G H) : ∀ (d : D) (v : V), Rp G v d → Dp K H v d
  | .none, _, h => by cases h; exact .non
  | .bool _, _, h => by cases h; exact .bl _
  | .int _, _, h => by cases h; exact .int _
  | .str _, _, h => by cases h; exact .str _
  | .list ds, _, ⟨a, xs, h1, h2, h3⟩ => by cases h1; exact .lst (SqL.of (e a _ h2)) (RpA.dp e ds xs h3)
  | .tuple ds, _, ⟨a, xs, h1, ⟨o, _, h2⟩, h3⟩ => by cases h1; exact .tup (.inl (.inr ⟨o, e a _ h2⟩)) (RpA.dp e ds xs h3)
  | .dict _, _, h => h.elim
theorem RpA.dp {K : PySem.W.Frag} {G H : Hp} (e : Same G H) : ∀ (ds : List D) (vs : List V), RpA G vs ds → DpAll K H vs ds
  | [], [], h => .nil
  | d :: ds, v :: vs, ⟨h1, h2⟩ => .cons (Rp.dp e d v h1) (RpA.dp e ds vs h2)
  | [], _ :: _, h => h.elim
  | _ :: _, [], h => h.elim
end
theorem RpA.length {G : Hp} : ∀ {ds : List D} {vs : List V}, RpA G vs ds → vs.length = ds.length
  | [], [], _ => rfl
  | d :: ds, v :: vs, ⟨_, h2⟩ => congrArg (· + 1) (RpA.length h2)
  | [], _ :: _, h => h.elim
  | _ :: _, [], h => h.elim
theorem RpA.get {G : Hp} : ∀ {ds : List D} {vs : List V} {i : Nat} {d : D}, RpA G vs ds → ds[i]? = some d → ∃ v, vs[i]? = some v ∧ Rp G v d
  | d :: ds, v :: vs, 0, _, ⟨h1, _⟩, e => by cases e; exact ⟨v, rfl, h1⟩
  | d :: ds, v :: vs, i + 1, _, ⟨_, h2⟩, e => RpA.get (i := i) h2 e
  | [], [], _, _, _, e => by cases e
  | [], _ :: _, _, _, h, _ => h.elim
  | _ :: _, [], _, _, h, _ => h.elim
theorem RpA.getV {G : Hp} {ds : List D} {vs : List V} {i : Nat} {v : V} (h : RpA G vs ds) (e : vs[i]? = some v) : ∃ d, ds[i]? = some d ∧ Rp G v d := by
  have hl : i < ds.length := by rw [← h.length]; exact (List.getElem?_eq_some_iff.mp e).1
  obtain ⟨v', e', r⟩ := h.get (List.getElem?_eq_getElem hl)
  rw [e] at e'
  cases e'
  exact ⟨_, List.getElem?_eq_getElem hl, r⟩
theorem RpA.app {G : Hp} : ∀ {ds es : List D} {vs ws : List V}, RpA G vs ds → RpA G ws es → RpA G (vs ++ ws) (ds ++ es)
  | [], _, [], _, _, h => h
  | _ :: _, _, _ :: _, _, ⟨h1, h2⟩, h => ⟨h1, RpA.app h2 h⟩
  | [], _, _ :: _, _, h, _ => h.elim
  | _ :: _, _, [], _, h, _ => h.elim
theorem RpA.rep {G : Hp} {ds : List D} {vs : List V} (h : RpA G vs ds) : ∀ k : Nat, RpA G (List.replicate k vs).flatten (List.replicate k ds).flatten
  | 0 => trivial
  | k + 1 => by
    rw [List.replicate_succ, List.replicate_succ, List.flatten_cons, List.flatten_cons]
    exact h.app (RpA.rep h k)
theorem RpA.take {G : Hp} : ∀ {ds : List D} {vs : List V} (n : Nat), RpA G vs ds → RpA G (vs.take n) (ds.take n)
  | [], [], 0, _ => trivial
  | [], [], _ + 1, _ => trivial
  | _ :: _, _ :: _, 0, _ => trivial
  | _ :: _, _ :: _, n + 1, ⟨h1, h2⟩ => ⟨h1, RpA.take n h2⟩
  | [], _ :: _, _, h => h.elim
  | _ :: _, [], _, h => h.elim
theorem RpA.drop {G : Hp} : ∀ {ds : List D} {vs : List V} (n : Nat), RpA G vs ds → RpA G (vs.drop n) (ds.drop n)
  | [], [], 0, _ => trivial
  | [], [], _ + 1, _ => trivial
  | _ :: _, _ :: _, 0, h => h
  | _ :: _, _ :: _, n + 1, ⟨_, h2⟩ => RpA.drop n h2
  | [], _ :: _, _, h => h.elim
  | _ :: _, [], _, h => h.elim
theorem RpA.set {G : Hp} {v : V} {d : D} (r : Rp G v d) : ∀ {ds : List D} {vs : List V} (n : Nat), RpA G vs ds → RpA G (vs.set n v) (ds.set n d)
  | [], [], _, _ => trivial
  | _ :: _, _ :: _, 0, ⟨_, h2⟩ => ⟨r, h2⟩
  | _ :: _, _ :: _, n + 1, ⟨h1, h2⟩ => ⟨h1, RpA.set r n h2⟩
  | [], _ :: _, _, h => h.elim
  | _ :: _, [], _, h => h.elim
theorem RpA.one {G : Hp} {v : V} {d : D} (r : Rp G v d) : RpA G [v] [d] := ⟨r, trivial⟩
theorem RpA.split {G : Hp} : ∀ {ds es : List D} {vs : List V}, RpA G vs (ds ++ es) → RpA G (vs.take ds.length) ds ∧ RpA G (vs.drop ds.length) es
  | [], _, _, h => ⟨by cases h' : List.take 0 _ <;> simp_all [RpA], h⟩
  | d :: ds, es, v :: vs, ⟨h1, h2⟩ => ⟨⟨h1, (RpA.split (ds := ds) (es := es) h2).1⟩, (RpA.split (ds := ds) (es := es) h2).2⟩
  | _ :: _, _, [], h => h.elim
theorem RpA.ints {G : Hp} : ∀ {ds : List D} {vs : List V} {ns : List Int}, RpA G vs ds → intsD ds = some ns → vs = ns.map V.int
  | [], [], _, _, e => by cases e; rfl
  | .int i :: ds, v :: vs, ns, ⟨h1, h2⟩, e => by
    simp only [intsD, Option.map_eq_some_iff] at e
    obtain ⟨r, e1, rfl⟩ := e
    rw [RpA.ints h2 e1, List.map_cons]
    cases h1
    rfl
  | .none :: _, _ :: _, _, _, e => by cases e
  | .bool _ :: _, _ :: _, _, _, e => by cases e
  | .str _ :: _, _ :: _, _, _, e => by cases e
  | .list _ :: _, _ :: _, _, _, e => by cases e
  | .tuple _ :: _, _ :: _, _, _, e => by cases e
  | .dict _ :: _, _ :: _, _, _, e => by cases e
  | [], _ :: _, _, h, _ => h.elim
  | _ :: _, [], _, h, _ => h.elim
theorem RpA.bools {G : Hp} : ∀ {ds : List D} {vs : List V} {ns : List Bool}, RpA G vs ds → boolsD ds = some ns → vs = ns.map V.bl
  | [], [], _, _, e => by cases e; rfl
  | .bool i :: ds, v :: vs, ns, ⟨h1, h2⟩, e => by
    simp only [boolsD, Option.map_eq_some_iff] at e
    obtain ⟨r, e1, rfl⟩ := e
    rw [RpA.bools h2 e1, List.map_cons]
    cases h1
    rfl
  | .none :: _, _ :: _, _, _, e => by cases e
  | .int _ :: _, _ :: _, _, _, e => by cases e
  | .str _ :: _, _ :: _, _, _, e => by cases e
  | .list _ :: _, _ :: _, _, _, e => by cases e
  | .tuple _ :: _, _ :: _, _, _, e => by cases e
  | .dict _ :: _, _ :: _, _, _, e => by cases e
  | [], _ :: _, _, h, _ => h.elim
  | _ :: _, [], _, h, _ => h.elim
/-- flat data is its value -/
theorem Rp.flat {G : Hp} {v : V} {d : D} (h : Rp G v d) (f : flatD d = true) : flatV v = true := by
  cases d <;> first | (cases h; rfl) | exact absurd f Bool.false_ne_true
theorem eqV_of {G G' : Hp} {v u : V} {d e : D} (h : Rp G v d) (h' : Rp G' u e) (f : flatD d = true) (f' : flatD e = true) : eqV v u = PyData.eqv d e := by
  cases d <;> first | exact absurd f Bool.false_ne_true | (cases e <;> first | exact absurd f' Bool.false_ne_true | (cases h; cases h'; simp [eqV, PyData.eqv]))
theorem RpA.flat {G : Hp} : ∀ {ds : List D} {vs : List V}, RpA G vs ds → ds.all flatD = true → vs.all flatV = true
  | [], [], _, _ => rfl
  | d :: ds, v :: vs, ⟨h1, h2⟩, f => by
    rw [List.all_cons, Bool.and_eq_true] at f ⊢
    exact ⟨h1.flat f.1, RpA.flat h2 f.2⟩
  | [], _ :: _, h, _ => h.elim
  | _ :: _, [], h, _ => h.elim
theorem RpA.cnt {G G' : Hp} {v : V} {d : D} (r : Rp G' v d) (fd : flatD d = true) : ∀ {ds : List D} {vs : List V}, RpA G vs ds → ds.all flatD = true → (vs.countP fun z => eqV z v) = ds.countP fun z => PyData.eqv z d
  | [], [], _, _ => rfl
  | z :: ds, u :: vs, ⟨h1, h2⟩, f => by
    rw [List.all_cons, Bool.and_eq_true] at f
    rw [List.countP_cons, List.countP_cons, RpA.cnt r fd h2 f.2, eqV_of h1 r f.1 fd]
  | [], _ :: _, h, _ => h.elim
  | _ :: _, [], h, _ => h.elim
theorem RpA.inV {G G' : Hp} {v : V} {d : D} (r : Rp G' v d) (fd : flatD d = true) : ∀ {ds : List D} {vs : List V}, RpA G vs ds → ds.all flatD = true → L2.inV v vs = ds.any fun z => PyData.eqv z d
  | [], [], _, _ => rfl
  | z :: ds, u :: vs, ⟨h1, h2⟩, f => by
    rw [List.all_cons, Bool.and_eq_true] at f
    have ih := RpA.inV r fd h2 f.2
    unfold L2.inV at ih ⊢
    rw [List.any_cons, List.any_cons, ih, eqV_of h1 r f.1 fd]
  | [], _ :: _, h, _ => h.elim
  | _ :: _, [], h, _ => h.elim

/-! ### the objects that may change -/
def MuOk (G H : Hp) : List (Option Addr) → Mu → Prop
  | [], [] => True
  | none :: ad, none :: m => MuOk G H ad m
  | some p :: ad, some xs :: m => (∃ vs, H p = some (.lst vs) ∧ RpA G vs xs) ∧ MuOk G H ad m
  | _, _ => False
theorem MuOk.length {G H : Hp} : ∀ {ad : List (Option Addr)} {m : Mu}, MuOk G H ad m → ad.length = m.length
  | [], [], _ => rfl
  | none :: ad, none :: m, h => congrArg (· + 1) (MuOk.length (ad := ad) (m := m) h)
  | some p :: ad, some xs :: m, h => congrArg (· + 1) (MuOk.length h.2)
  | [], _ :: _, h => h.elim
  | none :: _, [], h => h.elim
  | some _ :: _, [], h => h.elim
  | none :: _, some _ :: _, h => h.elim
  | some _ :: _, none :: _, h => h.elim
theorem MuOk.get {G H : Hp} : ∀ {ad : List (Option Addr)} {m : Mu} {j : Nat} {xs : List D}, MuOk G H ad m → m[j]? = some (some xs) → ∃ p vs, ad[j]? = some (some p) ∧ H p = some (.lst vs) ∧ RpA G vs xs
  | [], [], _, _, _, e => by cases e
  | none :: ad, none :: m, 0, _, h, e => by cases e
  | none :: ad, none :: m, j + 1, _, h, e => MuOk.get (ad := ad) (m := m) (j := j) h e
  | some p :: ad, some ys :: m, 0, _, h, e => by
    cases e
    obtain ⟨vs, h1, h2⟩ := h.1
    exact ⟨p, vs, rfl, h1, h2⟩
  | some p :: ad, some ys :: m, j + 1, _, h, e => MuOk.get (ad := ad) (m := m) (j := j) h.2 e
  | [], _ :: _, _, _, h, _ => h.elim
  | none :: _, [], _, _, h, _ => h.elim
  | some _ :: _, [], _, _, h, _ => h.elim
  | none :: _, some _ :: _, _, _, h, _ => h.elim
  | some _ :: _, none :: _, _, _, h, _ => h.elim
/-- the live ones stay as they are -/
theorem MuOk.mono {G G' H H' : Hp} (e : Same G G') : ∀ {ad : List (Option Addr)} {m : Mu}, (∀ p o, some p ∈ ad → H p = some o → H' p = some o) → MuOk G H ad m → MuOk G' H' ad m
  | [], [], _, _ => trivial
  | none :: ad, none :: m, k, h => MuOk.mono (ad := ad) (m := m) e (fun p o hp => k p o (List.mem_cons_of_mem _ hp)) h
  | some p :: ad, some xs :: m, k, ⟨⟨vs, h1, h2⟩, h3⟩ => ⟨⟨vs, k p _ List.mem_cons_self h1, RpA.mono e _ _ h2⟩, MuOk.mono e (fun p o hp => k p o (List.mem_cons_of_mem _ hp)) h3⟩
  | [], _ :: _, _, h => h.elim
  | none :: _, [], _, h => h.elim
  | some _ :: _, [], _, h => h.elim
  | none :: _, some _ :: _, _, h => h.elim
  | some _ :: _, none :: _, _, h => h.elim
/-- one of them is changed -/
theorem MuOk.set {G H : Hp} {p : Addr} {vs : List V} {ys : List D} (r : RpA G vs ys) : ∀ {ad : List (Option Addr)} {m : Mu} {j : Nat}, (∀ i : Nat, ad[i]? = some (some p) → i = j) → ad[j]? = some (some p) → MuOk G H ad m → MuOk G (upd H p (.lst vs)) ad (m.set j (some ys))
  | [], [], _, _, e, _ => by cases e
  | none :: ad, none :: m, 0, _, e, h => by cases e
  | none :: ad, none :: m, j + 1, u, e, h => by
    have := MuOk.set (ad := ad) (m := m) (j := j) r (fun i hi => Nat.succ.inj (u (i + 1) hi)) e h
    exact this
  | some q :: ad, some xs :: m, 0, u, e, ⟨h1, h2⟩ => by
    cases e
    refine ⟨⟨vs, upd_same, r⟩, ?_⟩
    refine MuOk.mono (Same.refl G) (fun b o hb hh => ?_) h2
    by_cases hp : b = p
    · subst hp
      obtain ⟨i, hi⟩ := List.getElem?_of_mem hb
      exact absurd (u (i + 1) hi) (Nat.succ_ne_zero _)
    · rw [upd_ne hp]; exact hh
  | some q :: ad, some xs :: m, j + 1, u, e, ⟨⟨ws, h1, h1'⟩, h2⟩ => by
    refine ⟨⟨ws, ?_, h1'⟩, MuOk.set (ad := ad) (m := m) (j := j) r (fun i hi => Nat.succ.inj (u (i + 1) hi)) e h2⟩
    rw [upd_ne (fun z => by subst z; exact absurd (u 0 rfl) (Nat.succ_ne_zero _).symm)]
    exact h1
  | [], _ :: _, _, _, _, h => h.elim
  | none :: _, [], _, _, _, h => h.elim
  | some _ :: _, [], _, _, _, h => h.elim
  | none :: _, some _ :: _, _, _, _, h => h.elim
  | some _ :: _, none :: _, _, _, _, h => h.elim
theorem MuOk.snoc {G H : Hp} {p : Addr} {vs : List V} {ys : List D} (r : RpA G vs ys) (hp : H p = some (.lst vs)) : ∀ {ad : List (Option Addr)} {m : Mu}, MuOk G H ad m → MuOk G H (ad ++ [some p]) (m ++ [some ys])
  | [], [], _ => ⟨⟨vs, hp, r⟩, trivial⟩
  | none :: ad, none :: m, h => MuOk.snoc (ad := ad) (m := m) r hp h
  | some q :: ad, some xs :: m, ⟨h1, h2⟩ => ⟨h1, MuOk.snoc (ad := ad) (m := m) r hp h2⟩
  | [], _ :: _, h => h.elim
  | none :: _, [], h => h.elim
  | some _ :: _, [], h => h.elim
  | none :: _, some _ :: _, h => h.elim
  | some _ :: _, none :: _, h => h.elim
theorem MuOk.kill {G H : Hp} : ∀ {ad : List (Option Addr)} {m : Mu} {j : Nat} {xs : List D}, m[j]? = some (some xs) → MuOk G H ad m → MuOk G H (ad.set j none) (m.set j none)
  | [], [], _, _, e, _ => by cases e
  | none :: ad, none :: m, 0, _, e, h => by cases e
  | none :: ad, none :: m, j + 1, _, e, h => MuOk.kill (ad := ad) (m := m) (j := j) e h
  | some q :: ad, some xs :: m, 0, _, e, ⟨h1, h2⟩ => h2
  | some q :: ad, some xs :: m, j + 1, _, e, ⟨h1, h2⟩ => ⟨h1, MuOk.kill (ad := ad) (m := m) (j := j) e h2⟩
  | [], _ :: _, _, _, _, h => h.elim
  | none :: _, [], _, _, _, h => h.elim
  | some _ :: _, [], _, _, _, h => h.elim
  | none :: _, some _ :: _, _, _, _, h => h.elim
  | some _ :: _, none :: _, _, _, _, h => h.elim

/-! ### the state between two steps, as seen from the def's entry -/
def IsDat : HO → Prop
  | .lst _ => True
  | .frz _ (.tup _) => True
  | .ins _ _ _ => True
  | _ => False
structure Ent where
  T : List (Addr × Str)
  G0 : Hp
  H0 : Hp
  Md : Addr → Prop
  a0 : Option Addr
  Gb : Hp
def Keeps (Md : Addr → Prop) (H H' : Hp) : Prop := ∀ b o, ¬ Md b → H b = some o → H' b = some o ∨ ∃ ps qs, o = .tbl ps ∧ H' b = some (.tbl qs)
structure SI (n : Ent) (ad : List (Option Addr)) (Fx : Addr → Option (List V)) (G H : Hp) (m : Mu) : Prop where
  sub : Same G H
  up : Same n.G0 G
  bs : Same n.Gb G
  new : ∀ b o, G b = some o → n.G0 b = some o ∨ n.H0 b = none
  mu : MuOk G H ad m
  adg : ∀ p, some p ∈ ad → G p = none
  nd : ∀ (i j : Nat) p, ad[i]? = some (some p) → ad[j]? = some (some p) → i = j
  adm : ∀ p, some p ∈ ad → n.Md p ∨ n.H0 p = none
  adl : ∀ (j : Nat) p, 1 ≤ j → ad[j]? = some (some p) → n.H0 p = none
  hd : ad[0]? = some n.a0
  fx : ∀ p o, Fx p = some o → H p = some (.lst o) ∧ G p = none ∧ some p ∉ ad
  ext : Keeps n.Md n.H0 H
  live : ∀ b, H b = none → n.H0 b = none
  tabs : LamX.Tabs n.T H
  flat : ∀ b o, G b = some o → IsDat o
section
variable {n : Ent} {ad : List (Option Addr)} {Fx : Addr → Option (List V)} {G H : Hp} {m : Mu}
theorem SI.adh (s : SI n ad Fx G H m) {p : Addr} (h : some p ∈ ad) : ∃ vs, H p = some (.lst vs) := by
  obtain ⟨j, hj⟩ := List.getElem?_of_mem h
  have hl : j < m.length := by rw [← s.mu.length]; exact (List.getElem?_eq_some_iff.mp hj).1
  have key : ∀ {ad : List (Option Addr)} {m : Mu} {j : Nat}, MuOk G H ad m → ad[j]? = some (some p) → ∃ vs, H p = some (.lst vs) := by
    intro ad
    induction ad with
    | nil => intro m j _ e; cases e
    | cons a ad ih =>
      intro m j h e
      cases a with
      | none =>
        cases m with
        | nil => exact h.elim
        | cons x m =>
          cases x with
          | none =>
            cases j with
            | zero => cases e
            | succ j => exact ih (m := m) (j := j) h e
          | some _ => exact h.elim
      | some q =>
        cases m with
        | nil => exact h.elim
        | cons x m =>
          cases x with
          | none => exact h.elim
          | some xs =>
            cases j with
            | zero =>
              cases e
              obtain ⟨vs, h1, _⟩ := h.1
              exact ⟨vs, h1⟩
            | succ j => exact ih (m := m) (j := j) h.2 e
  exact key s.mu hj
theorem same_upd {H : Hp} {p : Addr} {o : HO} (h : H p = none) : Same H (upd H p o) := fun b x e => by
  rw [upd_ne (ne_of_none e h)]
  exact e
theorem same_both {G H : Hp} {p : Addr} {o : HO} (s : Same G H) : Same (upd G p o) (upd H p o) := fun b x e => by
  by_cases hb : b = p
  · subst hb; rw [upd_same] at e ⊢; exact e
  · rw [upd_ne hb] at e ⊢; exact s b x e
/-- a new piece of data -/
theorem SI.data (s : SI n ad Fx G H m) {p : Addr} {o : HO} (hp : H p = none) (ho : IsDat o) : SI n ad Fx (upd G p o) (upd H p o) m ∧ Same G (upd G p o) ∧ Same H (upd H p o) := by
  have gp : G p = none := s.sub.free hp
  have hH := same_upd (o := o) hp
  have hG := same_upd (o := o) gp
  refine ⟨⟨same_both s.sub, s.up.trans hG, s.bs.trans hG, fun b x e => ?_, s.mu.mono hG (fun q x _ e => hH q x e), fun q hq => ?_, s.nd, s.adm, s.adl, s.hd, fun q x e => ?_, fun b x hb e => ?_, fun b e => ?_, s.tabs.ext hH, fun b x e => ?_⟩, hG, hH⟩
  · by_cases hb : b = p
    · subst hb; exact .inr (s.live b hp)
    · rw [upd_ne hb] at e; exact s.new b x e
  · obtain ⟨vs, hv⟩ := s.adh hq
    rw [upd_ne (ne_of_none hv hp)]; exact s.adg q hq
  · obtain ⟨h1, h2, h3⟩ := s.fx q x e
    exact ⟨hH q _ h1, by rw [upd_ne (ne_of_none h1 hp)]; exact h2, h3⟩
  · rcases s.ext b x hb e with h | ⟨ps, qs, h1, h2⟩
    · exact .inl (hH b _ h)
    · exact .inr ⟨ps, qs, h1, hH b _ h2⟩
  · refine s.live b ?_
    by_cases hb : b = p
    · subst hb; rw [upd_same] at e; cases e
    · rw [upd_ne hb] at e; exact e
  · by_cases hb : b = p
    · subst hb; rw [upd_same] at e; cases e; exact ho
    · rw [upd_ne hb] at e; exact s.flat b x e
/-- a new thing that is not looked at -/
theorem SI.junk (s : SI n ad Fx G H m) {p : Addr} {o : HO} (hp : H p = none) : SI n ad Fx G (upd H p o) m := by
  have hH := same_upd (o := o) hp
  refine ⟨s.sub.trans hH, s.up, s.bs, s.new, s.mu.mono (Same.refl G) (fun q x _ e => hH q x e), s.adg, s.nd, s.adm, s.adl, s.hd, fun q x e => ?_, fun b x hb e => ?_, fun b e => ?_, s.tabs.ext hH, s.flat⟩
  · obtain ⟨h1, h2, h3⟩ := s.fx q x e
    exact ⟨hH q _ h1, h2, h3⟩
  · rcases s.ext b x hb e with h | ⟨ps, qs, h1, h2⟩
    · exact .inl (hH b _ h)
    · exact .inr ⟨ps, qs, h1, hH b _ h2⟩
  · refine s.live b ?_
    by_cases hb : b = p
    · subst hb; rw [upd_same] at e; cases e
    · rw [upd_ne hb] at e; exact e
def fxP (Fx : Addr → Option (List V)) (p : Addr) (vs : List V) : Addr → Option (List V) := fun b => if b = p then some vs else Fx b
/-- a list that is being made -/
theorem SI.fix (s : SI n ad Fx G H m) {p : Addr} {vs : List V} (hp : H p = none) : SI n ad (fxP Fx p vs) G (upd H p (.lst vs)) m := by
  have j := s.junk (o := .lst vs) hp
  refine ⟨j.sub, j.up, j.bs, j.new, j.mu, j.adg, j.nd, j.adm, j.adl, j.hd, fun q x e => ?_, j.ext, j.live, j.tabs, j.flat⟩
  unfold fxP at e
  by_cases hq : q = p
  · subst hq
    rw [if_pos rfl] at e
    cases e
    refine ⟨upd_same, s.sub.free hp, fun h => ?_⟩
    obtain ⟨ws, hw⟩ := s.adh h
    rw [hp] at hw; cases hw
  · rw [if_neg hq] at e
    exact j.fx q x e
theorem SI.refix {p : Addr} {vs : List V} (s : SI n ad (fxP Fx p vs) G H m) {ws : List V} (h0 : n.H0 p = none) : SI n ad (fxP Fx p ws) G (upd H p (.lst ws)) m := by
  obtain ⟨hp, gp, np⟩ := s.fx p vs (by unfold fxP; rw [if_pos rfl])
  have ne : ∀ b o, H b = some o → (∀ xs, o ≠ .lst xs) → b ≠ p := fun b o e q z => by
    subst z; rw [hp] at e; cases e; exact q _ rfl
  refine ⟨fun b o e => ?_, s.up, s.bs, s.new, s.mu.mono (Same.refl G) (fun q o hq e => ?_), s.adg, s.nd, s.adm, s.adl, s.hd, fun q o e => ?_, fun b o hb e => ?_, fun b e => ?_, fun t ht => ?_, s.flat⟩
  · rw [upd_ne (ne_of_none e gp)]; exact s.sub b o e
  · rw [upd_ne (fun z => np (by rw [← z]; exact hq))]; exact e
  · unfold fxP at e
    by_cases hq : q = p
    · subst hq
      rw [if_pos rfl] at e
      cases e
      exact ⟨upd_same, gp, np⟩
    · rw [if_neg hq] at e
      obtain ⟨h1, h2, h3⟩ := s.fx q o (by unfold fxP; rw [if_neg hq]; exact e)
      exact ⟨by rw [upd_ne hq]; exact h1, h2, h3⟩
  · by_cases hbp : b = p
    · subst hbp; rw [h0] at e; cases e
    · rw [upd_ne hbp]; exact s.ext b o hb e
  · refine s.live b ?_
    by_cases hb : b = p
    · subst hb; rw [upd_same] at e; cases e
    · rw [upd_ne hb] at e; exact e
  · obtain ⟨ps, h1, h2, h3⟩ := s.tabs t ht
    refine ⟨ps, by rw [upd_ne (ne _ _ h1 (fun xs z => by cases z))]; exact h1, h2, fun pos cv hc => ?_⟩
    obtain ⟨c, e1, e2⟩ := h3 pos cv hc
    exact ⟨c, e1, by rw [upd_ne (ne _ _ e2 (fun xs z => by unfold LamX.CodeO at z; cases z))]; exact e2⟩
/-- it is made: it is data now -/
theorem SI.unfix {p : Addr} {vs : List V} (s : SI n ad (fxP Fx p vs) G H m) (h0 : n.H0 p = none) (hF : Fx p = none) : SI n ad Fx (upd G p (.lst vs)) H m ∧ Same G (upd G p (.lst vs)) := by
  obtain ⟨hp, gp, np⟩ := s.fx p vs (by unfold fxP; rw [if_pos rfl])
  have hG := same_upd (o := .lst vs) gp
  refine ⟨⟨fun b o e => ?_, s.up.trans hG, s.bs.trans hG, fun b o e => ?_, s.mu.mono hG (fun _ _ _ e => e), fun q hq => ?_, s.nd, s.adm, s.adl, s.hd, fun q o e => ?_, s.ext, s.live, s.tabs, fun b o e => ?_⟩, hG⟩
  · by_cases hb : b = p
    · subst hb; rw [upd_same] at e; cases e; exact hp
    · rw [upd_ne hb] at e; exact s.sub b o e
  · by_cases hb : b = p
    · subst hb; exact .inr h0
    · rw [upd_ne hb] at e; exact s.new b o e
  · rw [upd_ne (fun z => np (by rw [← z]; exact hq))]; exact s.adg q hq
  · have hq : q ≠ p := fun z => by subst z; rw [hF] at e; cases e
    obtain ⟨h1, h2, h3⟩ := s.fx q o (by unfold fxP; rw [if_neg hq]; exact e)
    exact ⟨h1, by rw [upd_ne hq]; exact h2, h3⟩
  · by_cases hb : b = p
    · subst hb; rw [upd_same] at e; cases e; exact trivial
    · rw [upd_ne hb] at e; exact s.flat b o e
/-- one of the objects is written -/
theorem SI.write (s : SI n ad Fx G H m) {p : Addr} {j : Nat} {vs : List V} {ys : List D} (hj : ad[j]? = some (some p)) (r : RpA G vs ys) : SI n ad Fx G (upd H p (.lst vs)) (m.set j (some ys)) := by
  have hm : some p ∈ ad := List.mem_of_getElem? hj
  have gp := s.adg p hm
  obtain ⟨ws, hw⟩ := s.adh hm
  have ne : ∀ b o, H b = some o → (∀ xs, o ≠ .lst xs) → b ≠ p := fun b o e q z => by
    subst z; rw [hw] at e; cases e; exact q _ rfl
  refine ⟨fun b o e => ?_, s.up, s.bs, s.new, s.mu.set r (fun i hi => s.nd i j p hi hj) hj, s.adg, s.nd, s.adm, s.adl, s.hd, fun q o e => ?_, fun b o hb e => ?_, fun b e => ?_, fun t ht => ?_, s.flat⟩
  · rw [upd_ne (ne_of_none e gp)]; exact s.sub b o e
  · obtain ⟨h1, h2, h3⟩ := s.fx q o e
    exact ⟨by rw [upd_ne (fun z => h3 (by rw [z]; exact hm))]; exact h1, h2, h3⟩
  · by_cases hbp : b = p
    · subst hbp
      rcases s.adm b hm with h | h
      · exact absurd h hb
      · rw [h] at e; cases e
    · rw [upd_ne hbp]; exact s.ext b o hb e
  · refine s.live b ?_
    by_cases hb : b = p
    · subst hb; rw [upd_same] at e; cases e
    · rw [upd_ne hb] at e; exact e
  · obtain ⟨ps, h1, h2, h3⟩ := s.tabs t ht
    refine ⟨ps, by rw [upd_ne (ne _ _ h1 (fun xs z => by cases z))]; exact h1, h2, fun pos cv hc => ?_⟩
    obtain ⟨c, e1, e2⟩ := h3 pos cv hc
    exact ⟨c, e1, by rw [upd_ne (ne _ _ e2 (fun xs z => by unfold LamX.CodeO at z; cases z))]; exact e2⟩
/-- a new object that may change -/
theorem SI.obj (s : SI n ad Fx G H m) {p : Addr} {vs : List V} {ys : List D} (hp : H p = none) (r : RpA G vs ys) : SI n (ad ++ [some p]) Fx G (upd H p (.lst vs)) (m ++ [some ys]) ∧ Same H (upd H p (.lst vs)) := by
  have gp : G p = none := s.sub.free hp
  have hH := same_upd (o := .lst vs) hp
  have old : ∀ (i : Nat) q, ad[i]? = some (some q) → q ≠ p := fun i q e => by
    obtain ⟨ws, hw⟩ := s.adh (List.mem_of_getElem? e)
    exact ne_of_none hw hp
  have at_ : ∀ (i : Nat) q, (ad ++ [some p])[i]? = some (some q) → (i < ad.length ∧ ad[i]? = some (some q)) ∨ (i = ad.length ∧ q = p) := fun i q e => by
    by_cases hi : i < ad.length
    · rw [List.getElem?_append_left hi] at e; exact .inl ⟨hi, e⟩
    · rw [List.getElem?_append_right (Nat.le_of_not_lt hi)] at e
      have : i - ad.length < 1 := (List.getElem?_eq_some_iff.mp e).1
      have hi' : i = ad.length := by omega
      subst hi'
      rw [Nat.sub_self] at e
      cases e
      exact .inr ⟨rfl, rfl⟩
  refine ⟨⟨s.sub.trans hH, s.up, s.bs, s.new, MuOk.snoc r upd_same (s.mu.mono (Same.refl G) fun q o _ e => hH q o e), fun q hq => ?_, fun i j q e1 e2 => ?_, fun q hq => ?_, fun i q hi e => ?_, by rw [List.getElem?_append_left (List.getElem?_eq_some_iff.mp s.hd).1]; exact s.hd, fun q o e => ?_, fun b o hb e => ?_, fun b e => ?_, s.tabs.ext hH, s.flat⟩, hH⟩
  · rcases List.mem_append.mp hq with h | h
    · exact s.adg q h
    · rw [List.mem_singleton] at h; cases h; exact gp
  · rcases at_ i q e1 with ⟨h1, h2⟩ | ⟨h1, h2⟩ <;> rcases at_ j q e2 with ⟨h3, h4⟩ | ⟨h3, h4⟩
    · exact s.nd i j q h2 h4
    · exact absurd h4 (old i q h2)
    · exact absurd h2 (old j q h4)
    · rw [h1, h3]
  · rcases List.mem_append.mp hq with h | h
    · exact s.adm q h
    · rw [List.mem_singleton] at h; cases h; exact .inr (s.live p hp)
  · rcases at_ i q e with ⟨h1, h2⟩ | ⟨h1, h2⟩
    · exact s.adl i q hi h2
    · rw [h2]; exact s.live p hp
  · obtain ⟨h1, h2, h3⟩ := s.fx q o e
    refine ⟨hH q _ h1, h2, fun h => ?_⟩
    rcases List.mem_append.mp h with h | h
    · exact h3 h
    · rw [List.mem_singleton] at h; cases h; rw [hp] at h1; cases h1
  · rcases s.ext b o hb e with h | ⟨ps, qs, h1, h2⟩
    · exact .inl (hH b _ h)
    · exact .inr ⟨ps, qs, h1, hH b _ h2⟩
  · refine s.live b ?_
    by_cases hb : b = p
    · subst hb; rw [upd_same] at e; cases e
    · rw [upd_ne hb] at e; exact e
/-- an object turns into data -/
theorem SI.freeze (s : SI n ad Fx G H m) {p : Addr} {j : Nat} {vs : List V} {xs : List D} (h1j : 1 ≤ j) (hj : ad[j]? = some (some p)) (hm : m[j]? = some (some xs)) (hp : H p = some (.lst vs)) :
    SI n (ad.set j none) Fx (upd G p (.lst vs)) H (m.set j none) ∧ Same G (upd G p (.lst vs)) := by
  have hmem : some p ∈ ad := List.mem_of_getElem? hj
  have gp := s.adg p hmem
  have hG := same_upd (o := .lst vs) gp
  have hlt : j < ad.length := (List.getElem?_eq_some_iff.mp hj).1
  have back : ∀ (i : Nat) q, (ad.set j none)[i]? = some (some q) → ad[i]? = some (some q) := fun i q hi => by
    by_cases hij : j = i
    · subst hij; rw [List.getElem?_set_self hlt] at hi; cases hi
    · rw [List.getElem?_set_ne hij] at hi; exact hi
  have sub' : ∀ q, some q ∈ ad.set j none → some q ∈ ad ∧ q ≠ p := fun q hq => by
    obtain ⟨i, hi⟩ := List.getElem?_of_mem hq
    by_cases hij : j = i
    · subst hij; rw [List.getElem?_set_self hlt] at hi; cases hi
    · rw [List.getElem?_set_ne hij] at hi
      refine ⟨List.mem_of_getElem? hi, fun z => ?_⟩
      subst z
      exact hij (s.nd j i q hj hi)
  refine ⟨⟨fun b o e => ?_, s.up.trans hG, s.bs.trans hG, fun b o e => ?_, (MuOk.kill hm s.mu).mono hG (fun _ _ _ e => e), fun q hq => ?_, fun i k q e1 e2 => ?_, fun q hq => s.adm q (sub' q hq).1, fun i q hi e => s.adl i q hi (back i q e), by rw [List.getElem?_set_ne (by omega)]; exact s.hd, fun q o e => ?_, s.ext, s.live, s.tabs, fun b o e => ?_⟩, hG⟩
  · by_cases hb : b = p
    · subst hb; rw [upd_same] at e; cases e; exact hp
    · rw [upd_ne hb] at e; exact s.sub b o e
  · by_cases hb : b = p
    · subst hb; exact .inr (s.adl j b h1j hj)
    · rw [upd_ne hb] at e; exact s.new b o e
  · obtain ⟨h1, h2⟩ := sub' q hq
    rw [upd_ne h2]; exact s.adg q h1
  · exact s.nd i k q (back i q e1) (back k q e2)
  · obtain ⟨h1, h2, h3⟩ := s.fx q o e
    exact ⟨h1, by rw [upd_ne (fun z => h3 (by rw [z]; exact hmem))]; exact h2, fun h => h3 (sub' q h).1⟩
  · by_cases hb : b = p
    · subst hb; rw [upd_same] at e; cases e; exact trivial
    · rw [upd_ne hb] at e; exact s.flat b o e
end
end TO

set_option Elab.async false
set_option linter.all false
set_option maxRecDepth 100000
set_option maxHeartbeats 4000000
/-! Further rules over the hand layer: tuples whose object is known, their methods, enumerate of a tuple. -/
namespace TO
open PySem PySem.Spec PyProof.Rows L2

/-- a tuple's object as it is laid -/
abbrev tupO (us : List Value) : Obj := { cls := .type "tuple", data := .seq us.toArray }
abbrev tupH (us : List Value) (xs : List V) : HO := .frz (tupO us) (.tup xs)
section
variable {X : Cx} {pins : List (Addr × Obj)} {σ : L2.St} {H : Hp} {s : Shared}
theorem lay_tup {h' : Heap} {t' : Nat} {us : List Value} {xs : List V} (I : Inv X pins σ H { s with heap := h' }) (r : Vals xs us) (hz : xs.length ≤ sizeLine) :
    Inv X pins σ (upd H h'.objs.size (tupH us xs)) { s with heap := h'.push (tupO us), toks := t' } ∧ H h'.objs.size = none := by
  have hf : H h'.objs.size = none := I.hok.fresh (Nat.le_refl _)
  have g : (h'.push (tupO us)).get? h'.objs.size = some (tupO us) := Heap.get?_push_size _ rfl
  have new : ObjOk X.prog X.w (upd H h'.objs.size (tupH us xs)) (h'.push (tupO us)) h'.objs.size (tupH us xs) :=
    ⟨g, hz, us, r, ⟨_, g, rfl, _, rfl⟩⟩
  exact ⟨I.laid (t' := t') (fun b u e => Heap.get?_push_of_some _ e) (Nat.le_refl _) new, hf⟩
end
section
variable {X : Cx} {a e : Expr} {es : List Expr} {ta te : TE} {t : TA} {pos p : Pos}
/-- what a new tuple of xs leads to -/
def NewT (xs : List V) (H : Hp) (Q : VK) : Prop := ∀ q us, H q = none → Q (.ref q) (upd H q (tupH us xs))
def tTupF (t : TA) : TE := fun σ H Q => t σ H fun xs H1 => xs.length ≤ sizeLine ∧ NewT xs H1 Q
theorem pe_tupF {x1} (h : PA X es t) : PE X (.Tuple es x1 pos) (tTupF t) := by
  constructor
  intro pins s σ H Q I hq
  refine wpAny_Tuple_spliced (thn (h.run pos pins s σ H _ I hq) ?_)
  rintro us s1 ⟨xs, H1, I1, r, z, q⟩
  obtain ⟨I2, hf⟩ := lay_tup (t' := s1.toks) (h' := s1.heap) I1 r z
  exact ⟨by rw [← r.length]; exact z, .ref s1.heap.objs.size, _, I2, rfl, q _ us hf⟩
def rCatF (K : PySem.W.Frag) : R2 := fun x y H Q => ∃ a b xs ys, x = .ref a ∧ y = .ref b ∧ SqT K H a xs ∧ SqT K H b ys ∧ xs.length + ys.length ≤ sizeLine ∧
  (xs = [] → Q y H) ∧ (ys = [] → Q x H) ∧ NewT (xs ++ ys) H Q
theorem op_catF : OpR X (binaryOp .Add) (rCatF X.K) := by
  rintro pins s σ H x y v u Q I rx ry ⟨a, b, xs, ys, rfl, rfl, ha, hb, hz, q0, q1, q2⟩
  cases rx
  cases ry
  obtain ⟨its, r1, p1, _⟩ := I.tuple ha
  obtain ⟨its2, r2, p2, _⟩ := I.tuple hb
  by_cases hx : xs = []
  · subst hx
    cases r1
    exact cat_tup0 p1 p2 ⟨.ref b, H, I, rfl, q0 rfl⟩
  · refine HT.cat_tup p1 p2 (fun z => hx (r1.nil_iff.mp z)) (fun z => ⟨.ref a, H, I, rfl, q1 (r2.nil_iff.mp z)⟩) (fun z => ?_) (by have l1 := r1.length; have l2 := r2.length; omega)
    obtain ⟨I2, hf⟩ := lay_tup (t' := s.toks) (h' := s.heap) I (r1.append r2) (by rw [List.length_append]; exact hz)
    exact ⟨.ref s.heap.objs.size, _, I2, rfl, q2 _ _ hf⟩
def rSlF (K : PySem.W.Frag) : V → Option Int → Option Int → Hp → VK → Prop := fun x lo hi H Q => ∃ a xs, x = .ref a ∧ SqT K H a xs ∧
  (cutV xs lo hi = xs → Q x H) ∧ NewT (cutV xs lo hi) H Q
theorem cut_whole {xs : List V} {lo hi : Option Int} (h : HT.sIx xs.length 0 lo = 0 ∧ HT.sIx xs.length xs.length hi = xs.length) : cutV xs lo hi = xs := by
  unfold cutV
  rw [h.1, h.2]
  simp
theorem sl_tupF : SlR X (rSlF X.K) := by
  rintro pins s σ H x v vl vu lo hi sl Q I rx hs pl pu ⟨a, xs, rfl, hx, q1, q2⟩
  cases rx
  obtain ⟨its, r, ht, hz⟩ := I.tuple hx
  have hlen : its.toArray.size = xs.length := by have := r.length; simp [this]
  refine ⟨"tuple", _, PyProof.Rows.slot_tuple_getitem.lookup, ht.typeIs, ?_⟩
  by_cases hw : HT.sIx xs.length 0 lo = 0 ∧ HT.sIx xs.length xs.length hi = xs.length
  · exact getItem_tuple_whole ht hs pl pu (by rw [hlen]; exact hw) ⟨.ref a, H, I, rfl, q1 (cut_whole hw)⟩
  · refine HT.getItem_tuple_cut ht hs pl pu (by rw [hlen]; exact hw) ?_ (by rw [hlen]; exact hz)
    rw [hlen]
    have rc : Vals (cutV xs lo hi) ((its.drop (HT.sIx xs.length 0 lo)).take (HT.sIx xs.length xs.length hi - HT.sIx xs.length 0 lo)) := (r.drop _).take _
    obtain ⟨I2, hf⟩ := lay_tup (t' := s.toks) (h' := s.heap) I rc (Nat.le_trans (cutV_length xs lo hi) hz)
    exact ⟨.ref s.heap.objs.size, _, I2, rfl, q2 _ _ hf⟩
def rTupF (K : PySem.W.Frag) : List V → Hp → VK → Prop := fun xs H Q => ∃ p ys, xs = [.ref p] ∧ ((SqL K H p ys ∧ NewT ys H Q) ∨ (SqT K H p ys ∧ Q (.ref p) H))
theorem call_tupF : CallR X (.type "tuple") (rTupF X.K) := by
  rintro pins s σ H xs us Q I r ⟨p, ys, rfl, h⟩
  obtain ⟨u, rfl, rx⟩ := vals1 r
  cases rx
  rcases h with ⟨hq, q⟩ | ⟨hq, q⟩
  · obtain ⟨its, r', pl, hz⟩ := I.list hq
    have hlen := r'.length
    refine call_tuple_list pl.isList (fun h' kp => ?_) (by simp only [List.size_toArray] <;> omega)
    have I1 : Inv X pins σ H { s with heap := h' } := I.kept (t' := s.toks) kp
    obtain ⟨I2, hf⟩ := lay_tup (s := s) (t' := s.toks) (h' := h') I1 r' hz
    exact ⟨.ref h'.objs.size, _, I2, rfl, q _ _ hf⟩
  · obtain ⟨its, r', pl, hz⟩ := I.tuple hq
    exact call_tuple_same pl ⟨.ref p, H, I, rfl, q⟩
def tTupRgF (te : L2.St → Hp → (Int → Int → Hp → Prop) → Prop) : TE := fun σ H Q => te σ H fun a b H1 => RgOk a b ∧ NewT (rgV a b) H1 Q
theorem pe_tupRgF {te : L2.St → Hp → (Int → Int → Hp → Prop) → Prop} (hc : X.calm = true) (hg : Gl X "tuple") (hm : X.mg "tuple" = none) (he : PRg X e te) (na : starEach [e] X.env = (false, eval e X.env) :: starEach [] X.env) : PE X (.Call (.Name "tuple" p) [e] [] pos) (tTupRgF te) := by
  constructor
  intro pins s σ H Q I h
  refine Call_ (ld_blt I hg hm boot_tuple (PyProof.Rows.callWith_type1 (args_cons (thn (he pins s σ H _ I h) ?_) na) na))
  rintro x s1 ⟨r, a, b, t, u, v, H1, rfl, hr, I1, ⟨b1, b2, b3, b4, b5⟩, q⟩
  refine args_nil (call_tuple_range (n := (b - a).toNat) (I1.ok.hd hc) hr (small_one b1 b2 b3 b4) (rangeSize_nat a b) b5 fun h' tk acc hk hi => ?_)
  have I2 : Inv X pins σ H1 { s1 with heap := h', toks := tk } := I1.kept hk
  obtain ⟨I3, hf⟩ := lay_tup (s := { s1 with toks := tk }) (t' := tk) (h' := h') I2 (vals_rg hi) (by rw [rgV_length, sizeLine_eq]; omega)
  exact ⟨.ref h'.objs.size, _, I3, rfl, q _ _ hf⟩

/-! ### methods of a tuple -/
def KnT (H : Hp) (p : Addr) (xs : List V) : Prop := ∃ o : Obj, o.dict = none ∧ H p = some (.frz o (.tup xs))
theorem KnT.sq {H : Hp} {p : Addr} {xs : List V} {K : PySem.W.Frag} (h : KnT H p xs) : SqT K H p xs := by
  obtain ⟨o, _, h⟩ := h
  exact .inl (.inr ⟨o, h⟩)
def tTM (r : V → List V → Hp → VK → Prop) (to : TE) (t : TA) : TE := fun σ H Q => to σ H fun x H1 => (∃ p xs, x = .ref p ∧ KnT H1 p xs) ∧ t σ H1 fun xs H2 => r x xs H2 Q
theorem pe_tm {o : Expr} {to : TE} {name : Str} {id : String} {apos cpos : Pos} {r : V → List V → Hp → VK → Prop} (slot : Slot "tuple" name id) (hty : typeOf (.builtin id) = pure (.type "method_descriptor")) (hm : MtR X id r) (ho : PE X o to) (ha : PA X (e :: es) t)
    (hbase : attributeBase o name X.env (eval o X.env) = eval o X.env)
    (hfew : ((backTo cpos (starEach (e :: es) X.env)).all (fun x => !x.1) && (backToKw cpos (keywordEach [] X.env)).all (fun x => x.1.isSome)
      && decide ((e :: es).length + ([] : List Keyword).length + (if ([] : List Keyword).isEmpty then 0 else 1) < 30)) = true)
    (hline : (apos.endLine == cpos.line) = true) (hs : starEach (e :: es) X.env = (false, eval e X.env) :: starEach es X.env) (hplain : (backTo cpos (starEach es X.env)).any (·.1) = false) :
    PE X (.Call (.Attribute o name apos) (e :: es) [] cpos) (tTM r to t) := by
  constructor
  intro pins s σ H Q I h
  refine wpAny_Call_method_late hbase hfew hline rfl (thn (ho.run pins s σ H _ I h) ?_)
  rintro v s1 ⟨x, H1, I1, r1, ⟨p, xs, rfl, k⟩, q1⟩
  cases r1
  obtain ⟨ob, hd, hk⟩ := k
  obtain ⟨g, _, its, _, o2, g2, c2, _⟩ := I1.hok p _ hk
  rw [g] at g2
  cases g2
  refine ⟨"tuple", id, PySem.F.plainAttrs_tuple, slot, hty, ⟨_, g, c2⟩, fun b eb => by cases eb; exact ⟨_, g, hd⟩, ?_⟩
  have hA := ha.run cpos pins s1 σ H1 _ I1 q1
  rw [hs] at hA ⊢
  refine Calls.callWith_builtin (by show (false || (backTo cpos (starEach es X.env)).any (·.1)) = false; rw [hplain]; rfl) (Calls.evalArgs_plain (thn hA ?_))
  rintro us s2 ⟨vs, H2, I2, r2, q2⟩
  exact hm pins s2 σ H2 (.ref p) vs (.ref p) us Q I2 rfl r2 q2
theorem flat_ints (ns : List Int) : (ns.map V.int).all flatV = true := by simp [flatV]
def rTIndex (K : PySem.W.Frag) : V → List V → Hp → VK → Prop := fun x xs H Q => ∃ p, ∃ ns : List Int, ∃ z j, x = .ref p ∧ xs = [.int z] ∧ SqT K H p (ns.map V.int) ∧ ns[j]? = some z ∧ (∀ m, m < j → ns[m]? ≠ some z) ∧ Q (.int (j : Nat)) H
theorem mt_tindex : MtR X "tuple.index" (rTIndex X.K) := by
  rintro pins s σ H x xs v us Q I rx rs ⟨p, ns, z, j, rfl, rfl, hq, hy, hno, q⟩
  cases rx
  obtain ⟨u, rfl, t, rfl⟩ := vals1 rs
  obtain ⟨its, r, ⟨⟨cls, dd, dt, sl⟩, ho, hc, n, hd⟩, hz⟩ := I.tuple hq
  cases (show cls = .type "tuple" from hc)
  cases (show dt = .seq its.toArray n from hd)
  have hl : its.toArray.size = ns.length := by have := r.length; rw [List.length_map] at this; simp [this]
  have hj : j < its.toArray.size := by rw [hl]; exact (List.getElem?_eq_some_iff.mp hy).1
  have at' : ∀ (m : Nat) (hm : m < its.toArray.size), ∃ y t', ns[m]? = some y ∧ its.toArray[m] = Value.int y t' := fun m hm => by
    have hm' : m < ns.length := by rw [← hl]; exact hm
    obtain ⟨w, hw, t', hw'⟩ := r.get (i := m) (x := .int ns[m]) (by simp [hm'])
    refine ⟨ns[m], t', List.getElem?_eq_getElem hm', ?_⟩
    have e := (List.getElem?_eq_some_iff.mp hw).2
    rw [← hw', ← e]
    simp
  refine call_meets PySem.F.slot_tuple_index ⟨_, ho, rfl⟩ PySem.F.entry_tuple_index (PySem.F.args_tuple_index_2 _ _) (TI.tuple_indexAt p its.toArray n dd sl (.int z t) (eqU (.int z)) j hj ?_ ?_)
    ⟨ho, fun w hw => mem_eqAt (x := .int z) ⟨t, rfl⟩ rfl r (flat_ints ns) w (by simpa using hw), ⟨.int (j : Nat), H, I.tok _, ⟨_, rfl⟩, q⟩⟩
  · obtain ⟨y, t', h1, h2⟩ := at' j hj
    rw [hy] at h1
    cases h1
    rw [h2]
    exact beq_self_eq_true z
  · intro m hm hmj
    obtain ⟨y, t', h1, h2⟩ := at' m hm
    rw [h2]
    exact beq_eq_false_iff_ne.mpr fun e => hno m hmj (e ▸ h1)
theorem flat_bls (bs : List Bool) : (bs.map V.bl).all flatV = true := by simp [flatV]
def rTCount (K : PySem.W.Frag) : V → List V → Hp → VK → Prop := fun x xs H Q => ∃ p, ∃ bs : List Bool, x = .ref p ∧ xs = [.bl true] ∧ SqT K H p (bs.map V.bl) ∧ Q (.int (bs.count true : Nat)) H
theorem count_bls : ∀ {bs : List Bool} {us : List Value}, Vals (bs.map V.bl) us → us.countP (eqU (.bl true)) = bs.count true
  | [], _, .nil => rfl
  | b :: bs, _ :: _, .cons r t => by
    cases r
    rw [List.countP_cons, List.count_cons, count_bls t]
    cases b <;> rfl
theorem mt_tcount : MtR X "tuple.count" (rTCount X.K) := by
  rintro pins s σ H x xs v us Q I rx rs ⟨p, bs, rfl, rfl, hq, q⟩
  cases rx
  obtain ⟨u, rfl, ru⟩ := vals1 rs
  cases (show u = .bool true from ru)
  obtain ⟨its, r, ⟨⟨cls, dd, dt, sl⟩, ho, hc, n, hd⟩, hz⟩ := I.tuple hq
  cases (show cls = .type "tuple" from hc)
  cases (show dt = .seq its.toArray n from hd)
  refine call_meets PySem.F.slot_tuple_count ⟨_, ho, rfl⟩ PySem.F.entry_tuple_count (PySem.F.args_tuple_count_2 _ _) (SeqAt.tuple_countAt p its.toArray n dd sl (.bool true) (eqU (.bl true)))
    ⟨ho, fun w hw => mem_eqAt (x := .bl true) rfl rfl r (flat_bls bs) w (by simpa using hw), ⟨.int (bs.count true : Nat), H, I.tok _, ⟨s.toks, ?_⟩, q⟩⟩
  rw [show its.toArray.toList = its by simp, count_bls r]

/-- all(tuple of bools) -/
def rAllT (K : PySem.W.Frag) : List V → Hp → VK → Prop := fun vs H Q => ∃ (a : Addr) (bs : List Bool), vs = [V.ref a] ∧ SqT K H a (bs.map V.bl) ∧ Q (.bl (bs.all id)) H
theorem cr_allT (hc : X.calm = true) : CallR X (.builtin "all") (rAllT X.K) := by
  rintro pins s σ H vs us Q I r ⟨a, bs, rfl, hs, q⟩
  obtain ⟨its, rv, hl, _⟩ := I.tuple hs
  obtain ⟨u, rfl, ru⟩ := vals1 r
  cases ru
  have hb := rv.bls
  have hlt : a < s.heap.objs.size := by obtain ⟨_, e, _⟩ := hl; exact Heap.lt_size e
  refine call_all_walk (wpAny_pyIter_tuple hl ?_)
  refine ⟨_, _, _, _, _, _, _, rfl, Walks.tuple (A := X.A.in1) (I.ok.hd hc) _ a (Nat.ne_of_lt hlt) its.toArray, ⟨⟨_, Heap.get?_push_size _ rfl, rfl, rfl⟩, hl.push _⟩, truth_bools hb, fun h' tk hk => ?_⟩
  refine ⟨.bl _, H, I.kept fun b o eo => hk b o (fun hm => ?_) (Heap.get?_push_of_some _ eo), ?_, q⟩
  · rw [List.mem_singleton] at hm
    exact absurd (hm ▸ Heap.lt_size eo) (Nat.lt_irrefl _)
  · show Value.bool _ = Value.bool _
    rw [← L2.all_range]
    congr 2
    rw [hb, List.size_toArray, List.length_map]
theorem valsAt : ∀ {ws : List V} {its : List Value}, Vals ws its → ∀ (i : Nat) (v : Value), its[i]? = some v → ∃ w, ws[i]? = some w ∧ RelV w v
  | _, _, .nil, _, _, h => by simp at h
  | _, _, .cons r _, 0, v, h => ⟨_, rfl, by
      have e := Option.some.inj (show some _ = some v from h)
      exact e ▸ r⟩
  | _, _, .cons _ t, i + 1, v, h => by
    obtain ⟨w, hw, r⟩ := valsAt t i v (by simpa using h)
    exact ⟨w, by simpa using hw, r⟩
/-- min(list of data) -/
theorem alkB_ok {ds : List D} (h : alkB ds = true) : PySem.W.AlikeAll ds ∧ PyData.depthAll ds ≤ 60 := by
  unfold alkB at h
  simp only [Bool.and_eq_true, decide_eq_true_eq, List.all_eq_true] at h
  refine ⟨⟨fun x hx y hy => h.1.1 x hx y hy, fun x hx e => ?_⟩, h.2⟩
  have := h.1.2 x hx
  rw [e] at this
  cases this
theorem minD_mem : ∀ (ds : List D) (d : D), PySem.W.minD d ds ∈ d :: ds
  | [], d => List.mem_cons_self
  | e :: ds, d => by
    have h : PySem.W.minD d (e :: ds) = PySem.W.minD (if PySem.W.dataLt e d then e else d) ds := rfl
    rw [h]
    have := minD_mem ds (if PySem.W.dataLt e d then e else d)
    rcases List.mem_cons.1 this with z | z
    · rw [z]
      split
      · exact List.mem_cons_of_mem _ List.mem_cons_self
      · exact List.mem_cons_self
    · exact List.mem_cons_of_mem _ (List.mem_cons_of_mem _ z)
def rMinD (K : PySem.W.Frag) : List V → Hp → VK → Prop := fun vs H Q => ∃ (a : Addr) (ws : List V) (d : D) (ds : List D), vs = [V.ref a] ∧ SqL K H a ws ∧ alkB (d :: ds) = true ∧ DpAll K H ws (d :: ds) ∧ ∀ (i : Nat) v, ws[i]? = some v → (d :: ds)[i]? = some (PySem.W.minD d ds) → Q v H
theorem cr_minD (hc : X.calm = true) (hu : X.A.units + 65 < cLine) : CallR X (.builtin "min") (rMinD X.K) := by
  rintro pins s σ H vs us Q I r ⟨a, ws, d, ds, rfl, hs, hk, dp, q⟩
  obtain ⟨u, rfl, ru⟩ := vals1 r
  cases ru
  obtain ⟨its, rv, hl, _⟩ := I.list hs
  obtain ⟨as, hr⟩ := Dp.readsAll I _ _ _ dp rv
  obtain ⟨al, hd⟩ := alkB_ok hk
  refine PySem.W.min_list_data (x := d) (xs := ds) (as := as) (I.ok.hd hc) hl.isList (by simpa using hr) al (by omega) fun i v h' tk bs hi hrd kp => ?_
  have hi' : its[i]? = some v := by simpa using hi
  obtain ⟨w, hw, rw'⟩ := valsAt rv i v hi'
  obtain ⟨cs, r1, hlt, _, _⟩ := PySem.W.readsAll_at hr i v hi'
  have e1 : (d :: ds)[i]? = some ((d :: ds).getD i .none) := by
    rw [List.getD_eq_getElem?_getD, List.getElem?_eq_getElem hlt]
    rfl
  have e2 := (Reads.unique (PySem.W.reads_keeps kp r1) _ _ hrd).1
  exact ⟨w, H, I.kept kp, rw', q i w hw (by rw [e1, e2])⟩
/-- how many of a list are flat and equal -/
def rLCount (K : PySem.W.Frag) : V → List V → Hp → VK → Prop := fun x xs H Q => ∃ p ys y, x = .ref p ∧ xs = [y] ∧ SqL K H p ys ∧ flatV y = true ∧ ys.all flatV = true ∧ Q (.int (ys.countP fun z => eqV z y : Nat)) H
theorem countP_eqU {y : V} : ∀ {ys : List V} {us : List Value}, Vals ys us → ys.all flatV = true → us.countP (eqU y) = ys.countP fun z => eqV z y
  | [], _, .nil, _ => rfl
  | z :: ys, u :: us, .cons r t, f => by
    rw [List.all_cons, Bool.and_eq_true] at f
    rw [List.countP_cons, List.countP_cons, countP_eqU t f.2, eqU_of r f.1]
theorem mt_lcountF : MtR X "list.count" (rLCount X.K) := by
  rintro pins s σ H x xs v us Q I rx rs ⟨p, ys, y, rfl, rfl, hq, fy, fys, q⟩
  cases rx
  obtain ⟨u, rfl, ru⟩ := vals1 rs
  obtain ⟨its, r, ⟨⟨cls, dd, dt, sl⟩, n, ho, hc, hdn, hd⟩, hz⟩ := I.list hq
  cases (show cls = .type "list" from hc)
  cases (show dt = .seq its.toArray n from hd)
  refine call_meets PySem.F.slot_list_count ⟨_, ho, rfl⟩ PySem.F.entry_list_count (PySem.F.args_list_count_2 _ _) (SeqAt.list_countAt p its.toArray n dd sl u (eqU y))
    ⟨ho, fun w hw => mem_eqAt (x := y) ru fy r fys w (by simpa using hw), ⟨.int (ys.countP fun z => eqV z y : Nat), H, I.tok _, ⟨s.toks, ?_⟩, q⟩⟩
  rw [show its.toArray.toList = its by simp, countP_eqU r fys]

/-! ### a tuple times a number -/
theorem tuple_mul1 (l : Addr) (its : Array Value) (n : Nat) (dd : Option Addr) (sl : Array (Option Value)) (x : Int) (u : Tok) (c1 : (its.isEmpty || x == 1) = true) (c0 : (decide (x < -(2 ^ 63)) || decide (x ≥ 2 ^ 63)) = false) :
    Meets (Builtin.«tuple.__mul__» ⟨[.ref l, .int x u], []⟩) (fun _ R s => s.heap.get? l = some { cls := .type "tuple", dict := dd, data := .seq its n, slots := sl } ∧ R (.ok (.ret (.ref l))) s) :=
  .of_wp fun prog w A R s h => by
    obtain ⟨hp, g, d, tk, os⟩ := s
    obtain ⟨hl, h⟩ := h
    have f1 := AutoSeq1.idx_int
    wp_walk using wpAny_loadPart' hl
    refine wpAny_ite_false (decide_eq_false (by rw [c0]; exact Bool.false_ne_true)) ?_
    wp_walk using wpAny_loadPart' hl
    exact ⟨_, rfl, h⟩
def rRepF (K : PySem.W.Frag) : R2 := fun x y H Q => ∃ a k xs, x = .ref a ∧ y = .int k ∧ SqT K H a xs ∧ xs ≠ [] ∧ 1 ≤ k ∧ k ≤ 1000 ∧ xs.length ≤ 1000 ∧ (k = 1 → Q x H) ∧ NewT (List.replicate k.toNat xs).flatten H Q
theorem op_repF : OpR X (binaryOp .Mult) (rRepF X.K) := by
  rintro pins s σ H x y v u Q I rx ry ⟨l, k, xs, rfl, rfl, hT, hne, h1, h2, hz, q1, q2⟩
  cases rx
  obtain ⟨t, rfl⟩ := ry
  obtain ⟨its, r, ⟨⟨cls, dd, dt, sl⟩, ho, hc, n, hd⟩, hs⟩ := I.tuple hT
  cases (show cls = .type "tuple" from hc)
  cases (show dt = .seq its.toArray n from hd)
  have hl : its.length = xs.length := r.length.symm
  have hi : its.toArray.isEmpty = false := by
    cases its with
    | nil => exact absurd (List.eq_nil_of_length_eq_zero hl.symm) hne
    | cons _ _ => rfl
  have e0 : (decide (k < -(2 ^ 63)) || decide (k ≥ 2 ^ 63)) = false := by
    rw [decide_eq_false (show ¬ k < -(2 ^ 63) by omega), decide_eq_false (show ¬ k ≥ 2 ^ 63 by omega)]; rfl
  by_cases hk : k = 1
  · refine wpAny_binaryOp_repeat_ref (T := "tuple") (U := "int") (by decide) ⟨_, ho, rfl⟩ (fun s' => typeIs_int s' k t) noFill_tuple_mul F.fills_int_mul F.slot_int_rmul repeat_tuple F.slot_int_index.lookup
      (call_meets F.slot_int_rmul (typeIs_int s k t) F.entry_int_rmul (F.args_int_rmul_2 _ _) (int_rmul_tuple k t l its.toArray n dd sl)
        ⟨ho, rfl, ⟨_, ho, rfl⟩, call_meets F.slot_tuple_mul ⟨_, ho, rfl⟩ F.entry_tuple_mul (F.args_tuple_mul_2 _ _) (tuple_mul1 l its.toArray n dd sl k t (by rw [hk]; simp) e0) ⟨ho, ?_⟩⟩)
    exact ⟨.ref l, H, I, rfl, q1 hk⟩
  · have zs : its.toArray.size = xs.length := by rw [List.size_toArray, hl]
    have hm : ((its.toArray.size : Nat) : Int) * k ≤ 1000000 := by
      rw [zs]
      have := Int.mul_le_mul_of_nonneg_right (show ((xs.length : Nat) : Int) ≤ 1000 by omega) (show 0 ≤ k by omega)
      omega
    have fl : k.toNat * xs.length ≤ 1000 * 1000 := Nat.mul_le_mul (by omega) hz
    refine wpAny_binaryOp_repeat_ref (T := "tuple") (U := "int") (by decide) ⟨_, ho, rfl⟩ (fun s' => typeIs_int s' k t) noFill_tuple_mul F.fills_int_mul F.slot_int_rmul repeat_tuple F.slot_int_index.lookup
      (call_meets F.slot_int_rmul (typeIs_int s k t) F.entry_int_rmul (F.args_int_rmul_2 _ _) (int_rmul_tuple k t l its.toArray n dd sl)
        ⟨ho, rfl, ⟨_, ho, rfl⟩, call_meets F.slot_tuple_mul ⟨_, ho, rfl⟩ F.entry_tuple_mul (F.args_tuple_mul_2 _ _) (tuple_mulW l its.toArray n dd sl k t e0 (by rw [hi, Bool.false_or]; exact beq_eq_false_iff_ne.mpr hk)
          (by rw [hi, Bool.or_false]; exact decide_eq_false (by omega)) (by omega) (by unfold Builtin.Tuple.tupleTooMany; rw [sizeLine_eq]; exact decide_eq_false (by omega))
          (by rw [size_rep, List.size_toArray, PyProof.Rows.lm_len_rep_flat, hl, sizeLine_eq]; omega)) ⟨ho, ?_⟩⟩)
    rw [size_rep]
    obtain ⟨I2, hf⟩ := lay_tup (t' := s.toks) (h' := s.heap) I (r.rep k.toNat) (by rw [PyProof.Rows.lm_len_rep_flat, sizeLine_eq]; omega)
    exact ⟨.ref s.heap.objs.size, _, I2, rfl, q2 _ _ hf⟩

/-! ### len(set(tuple of ints)) -/
theorem sub_len {l₁ l₂ : List Int} (hn : l₁.Nodup) (h : ∀ k ∈ l₁, k ∈ l₂) : l₁.length ≤ l₂.length := by
  induction l₁ generalizing l₂ with
  | nil => exact Nat.zero_le _
  | cons a r ih =>
    have ha : a ∈ l₂ := h a List.mem_cons_self
    have hr := List.nodup_cons.mp hn
    have := ih (l₂ := l₂.erase a) hr.2 fun k hk => (List.mem_erase_of_ne (show k ≠ a from fun e => hr.1 (by rw [← e]; exact hk))).mpr (h k (List.mem_cons_of_mem _ hk))
    rw [List.length_erase_of_mem ha] at this
    have : 0 < l₂.length := List.length_pos_of_mem ha
    rw [List.length_cons]
    omega
theorem mem_dd {l : List Int} {k : Int} : k ∈ dd l ↔ k ∈ l := by
  induction l with
  | nil => simp [dd]
  | cons a r ih =>
    unfold dd
    by_cases h : a ∈ r
    · rw [if_pos h, ih, List.mem_cons]
      exact ⟨fun z => .inr z, fun z => z.elim (fun e => e ▸ h) id⟩
    · rw [if_neg h, List.mem_cons, List.mem_cons, ih]
theorem nd_dd : ∀ l : List Int, (dd l).Nodup
  | [] => List.nodup_nil
  | a :: r => by
    unfold dd
    by_cases h : a ∈ r
    · rw [if_pos h]; exact nd_dd r
    · rw [if_neg h]; exact List.nodup_cons.mpr ⟨fun z => h (mem_dd.mp z), nd_dd r⟩
theorem dd_nodup {l : List Int} (h : l.Nodup) : dd l = l := by
  induction l with
  | nil => rfl
  | cons a r ih =>
    have hr := List.nodup_cons.mp h
    unfold dd
    rw [if_neg hr.1, ih hr.2]
theorem dd_len {l : List Int} (h : (dd l).length = l.length) : l.Nodup := by
  induction l with
  | nil => exact List.nodup_nil
  | cons a r ih =>
    have hle : (dd r).length ≤ r.length := sub_len (nd_dd r) fun k hk => mem_dd.mp hk
    unfold dd at h
    by_cases ha : a ∈ r
    · rw [if_pos ha, List.length_cons] at h; omega
    · rw [if_neg ha, List.length_cons, List.length_cons] at h
      exact List.nodup_cons.mpr ⟨ha, ih (by omega)⟩
def tLenSetT (K : PySem.W.Frag) (ta : TE) : TE := fun σ H Q => ta σ H fun x H1 => ∃ (l : Addr) (ns : List Int), x = .ref l ∧ SqT K H1 l (ns.map V.int) ∧ ns.length ≤ 1000 ∧ Q (.int ((dd ns).length : Nat)) H1
theorem pe_lenSetT {p2 q : Pos} (hg : Gl X "len") (hm : X.mg "len" = none) (hg2 : Gl X "set") (hm2 : X.mg "set" = none) (ha : PE X a ta) (hc : X.calm = true)
    (na : starEach [a] X.env = (false, eval a X.env) :: starEach [] X.env) : PE X (.Call (.Name "len" p) [.Call (.Name "set" p2) [a] [] q] [] pos) (tLenSetT X.K ta) := by
  constructor
  intro pins s σ H Q I h
  refine Call_ (ld_blt I hg hm boot_len (PyProof.Rows.callWith_builtin1 (PyProof.Rows.args_cons (Call_ (ld_blt I hg2 hm2 boot_set ?_)) rfl) rfl rfl))
  refine PyProof.Rows.callWith_type1 (PyProof.Rows.args_cons (thn (ha.run pins s σ H _ I h) ?_) na) na rfl
  rintro v s1 ⟨x, H1, I1, r1, l, ns, rfl, hq, hl, q1⟩
  cases r1
  obtain ⟨its, r, pl, hz⟩ := I1.tuple hq
  refine PyProof.Rows.args_nil (call_set_tupI ns (I1.ok.hd hc) pl (by simpa using intsAre_of r) (by unfold scanBound; omega) fun h' tk c hS hcl hk => PyProof.Rows.args_nil ?_)
  obtain ⟨o, es, ep, t, ho, hex, hd, _, hnd, hmem, hsb, hf, hn, _⟩ := hS
  have I2 : Inv X pins σ H1 { s1 with heap := h', toks := tk } := I1.kept hk
  have ec : es.size = (dd ns).length := by
    have e1 : (es.toList.map keyOf).length = es.size := by simp
    have iff : ∀ k, k ∈ es.toList.map keyOf ↔ k ∈ dd ns := fun k => by
      rw [← hmem k, mem_dd]; exact decide_eq_true_iff
    have l1 := sub_len hnd fun k hk => (iff k).mp hk
    have l2 := sub_len (nd_dd ns) fun k hk => (iff k).mpr hk
    omega
  exact call_len_set ho hex hd hf (by unfold scanBound at hsb; omega) ⟨.int ((dd ns).length : Nat), H1, I2.tok _, ⟨_, by rw [ec]⟩, q1⟩
end

/-! ### enumerate of a tuple -/
def IteT (K : PySem.W.Frag) (a : Addr) : L2.It :=
  ⟨fun i H => ∃ (xs : List V) (x : V), SqT K H a xs ∧ xs[i]? = some x, fun i H v H' => ∃ T x, v = .ref T ∧ H T = none ∧ H' = upd H T (.tup [.int (i : Nat), x]) ∧ ∀ xs, SqT K H a xs → xs[i]? = some x, fun i H => ∃ xs : List V, SqT K H a xs ∧ xs.length = i⟩
theorem turn_enumT {P : Program} {w : World} {K : PySem.W.Frag} {elts : List Expr} {kk : Nat} {tpos : Pos} (a e it : Addr) (hea : e ≠ a) (hai : a ≠ it) :
    Turn P w K (.Tuple elts kk tpos) (IteT K a) [e, it] e (fun i h => (∃ old, IsEnum h e it ((i : Nat) : Int) old) ∧ h.IsTupleIter it a i ∧ e ≠ it) where
  mem := by simp
  obj := by
    rintro i h ⟨⟨old, he⟩, ⟨o, ho, hc, hd⟩, _⟩ b hb
    rcases (by simpa using hb : b = e ∨ b = it) with rfl | rfl
    · exact ⟨_, he, fun v q => nomatch q⟩
    · exact ⟨o, ho, fun v q => by rw [hd] at q; cases q⟩
  keep := fun i h h' st k => let ⟨⟨old, he⟩, hi, hne⟩ := st; ⟨⟨old, k e (by simp) _ he⟩, hi.at fun o q => k it (by simp) o q, hne⟩
  item := by
    rintro X rfl rfl rfl hc i pins s σ H E I hf ⟨⟨old, he⟩, hit, hne⟩ ⟨xs, x, hq, hx⟩
    obtain ⟨its, rv, p, hz⟩ := I.tuple hq
    obtain ⟨u, hu, ru⟩ := rv.get hx
    have hel : e < s.heap.objs.size := Heap.lt_size he
    have hil : it < s.heap.objs.size := by obtain ⟨_, q, _⟩ := hit; exact Heap.lt_size q
    have hli : i < its.toArray.size := by simpa using (List.getElem?_eq_some_iff.mp hu).1
    have DR := Draws.tuple (prog := X.prog) (w := X.w) (A := X.A.in1) (show X.A.in1.handled = none from I.ok.hd hc) it a hai its.toArray
    refine wpAny_pyNext_enum_itemD DR he ⟨hit, p⟩ hli hne (by simp [hne, hea]) fun y h' tk hy ho hit' hT hsz hk => ?_
    have hyu : y = u := by
      have : its.toArray[i]? = some u := by simpa using hu
      rw [this] at hy; cases hy; rfl
    subst hyu
    refine ⟨_, rfl, wpAny_letOwnedTupleGo_enum (s := { s with heap := h', toks := tk + 1 }) ho fun h'' he' sb => ?_⟩
    have hT2 : h''.get? s.heap.objs.size = some { cls := .type "tuple", data := .seq #[.int i tk, y] } := (sb.2 _ (Nat.ne_of_gt hel)).trans hT
    have new : ObjOk X.prog X.w (upd H s.heap.objs.size (.tup [.int (i : Nat), x])) h'' s.heap.objs.size (.tup [.int (i : Nat), x]) :=
      ⟨by show 2 ≤ sizeLine; decide, [.int i tk, y], .cons ⟨_, rfl⟩ (.cons ru .nil), ⟨_, hT2, rfl, _, rfl⟩⟩
    have I1 : Inv X pins σ (upd H s.heap.objs.size (.tup [.int (i : Nat), x])) { s with heap := h'', toks := tk + 1 } :=
      I.turnedNew (ch := [e, it]) (fun b ob hb q => (sb.2 b (fun z => hb (by simp [z]))).trans (hk b ob (fun z => hb (by simp [z])) (fun z => hb (by simp [z])) q)) hf (Nat.le_refl _) new
    refine ⟨.ref s.heap.objs.size, _, I1, rfl, ⟨_, x, rfl, I.hok.fresh (Nat.le_refl _), rfl, fun ys hy => by rw [I.tuple_inj hy hq]; exact hx⟩, ⟨⟨y, ?_⟩, hit'.1.at fun o q => (sb.2 it (Ne.symm hne)).trans q, hne⟩, fun b hb => ?_⟩
    · rw [show ((i + 1 : Nat) : Int) = (i : Int) + 1 by omega]; exact he'
    · have hb' : b < s.heap.objs.size := by
        rcases (by simpa using hb : b = e ∨ b = it) with rfl | rfl
        · exact hel
        · exact hil
      rw [upd_ne (Nat.ne_of_lt hb')]
      exact (hf b hb).1
  done := by
    rintro X rfl rfl rfl hc i pins s σ H E I hf ⟨⟨old, he⟩, hit, hne⟩ ⟨xs, hq, hx⟩
    obtain ⟨its, rv, p, hz⟩ := I.tuple hq
    obtain ⟨f0, f1, f2, f3, f4, f5⟩ := hf it (by simp)
    have hl := rv.length
    have DR := Draws.tuple (prog := X.prog) (w := X.w) (A := X.A.in1) (show X.A.in1.handled = none from I.ok.hd hc) it a hai its.toArray
    have en : its.toArray.size = i := by simp; omega
    refine wpAny_pyNext_enum_endD DR he (by rw [en]; exact ⟨hit, p⟩) fun h' eb => ⟨rfl, I.turned (t' := s.toks) (fun b o hb q => eb b o hb q) f0 f1 f3 f4 f5⟩
  self := fun A i s Q E st h => let ⟨⟨_, he⟩, _⟩ := st; wpAny_pyIter_enum he h
theorem enum_new1 {v : Value} {o : Obj} {Hh : Heap → Prop} (B : Begins v o Hh) :
    Meets (Builtin.«enumerate.__new__» ⟨[.type "enumerate", v], []⟩) (fun _ R s => Hh s.heap ∧
      R (.ok (.ret (.ref (s.heap.push o).objs.size))) { s with heap := (s.heap.push o).push { cls := .type "enumerate", data := .fields #[.none, .bool false, .ref s.heap.objs.size, rawInt 0, .none, .none] } }) :=
  .of_wp fun prog w A R s h => by
    obtain ⟨hp, g, d, tk, os⟩ := s
    obtain ⟨h1, h⟩ := h
    have hsub := sub_enumerate
    have q1 : ∀ {A' : Around} {E : Value → Shared → Prop} {Q : Value → Shared → Prop}, Q (.ref hp.objs.size) ⟨hp.push o, g, d, tk, os⟩ → wpAny (model prog w) A' (pyIter v) Q E ⟨hp, g, d, tk, os⟩ :=
      fun q => B.iter prog w _ _ ⟨hp, g, d, tk, os⟩ _ h1 q
    wp_walk using q1
    refine wpAny_stack_any fun st => wpAny_pure ?_
    split
    · rename_i c _ _ _ _ _
      cases (c == Value.type "enumerate") <;> (wp_walk using q1; exact ⟨_, rfl, h⟩)
    · (wp_walk using q1; exact ⟨_, rfl, h⟩)
theorem call_enumT {prog : Program} {w : World} {A : Around} {E : Value → Shared → Prop} {s : Shared} {t : Addr} {items : Array Value} {Q : Value → Shared → Prop} (hT : s.heap.IsTuple t items)
    (h : ∀ h', IsEnum h' (s.heap.objs.size + 1) s.heap.objs.size 0 .none → h'.IsTupleIter s.heap.objs.size t 0 → h'.objs.size = s.heap.objs.size + 2 →
      (∀ b o, s.heap.get? b = some o → h'.get? b = some o) → Q (.ref (s.heap.objs.size + 1)) { s with heap := h' }) :
    wpAny (model prog w) A (call (.type "enumerate") [.ref t]) Q E s := by
  have B := begins_tuple t items
  refine callType_new F.called_enumerate (by decide) (F.typeCall_enumerate_1 _) (F.newCall_enumerate_1 _) (fun obj => F.args_object_init_2 obj _) F.entry_enumerate_new (enum_new1 B) ⟨hT, ?_⟩
  have hz : (s.heap.push { cls := .type "tuple_iterator", data := .fields #[.ref t, .int 0 0] }).objs.size = s.heap.objs.size + 1 := Heap.size_push ..
  have he : IsEnum ((s.heap.push { cls := .type "tuple_iterator", data := .fields #[.ref t, .int 0 0] }).push { cls := .type "enumerate", data := .fields #[.none, .bool false, .ref s.heap.objs.size, rawInt 0, .none, .none] }) (s.heap.objs.size + 1) s.heap.objs.size 0 .none := by
    have q := Heap.get?_push_size (s.heap.push { cls := .type "tuple_iterator", data := .fields #[.ref t, .int 0 0] }) (o := { cls := .type "enumerate", data := .fields #[.none, .bool false, .ref s.heap.objs.size, rawInt 0, .none, .none] }) rfl
    rw [hz] at q
    exact q
  show _ ∧ _
  rw [hz]
  exact ⟨⟨_, he, rfl⟩, h _ he ⟨_, Heap.get?_push_of_some _ (Heap.get?_push_size _ rfl), rfl, rfl⟩ (by rw [Heap.size_push, hz]) fun b o x => Heap.get?_push_of_some _ (Heap.get?_push_of_some _ x)⟩
def iEnumT (K : PySem.W.Frag) (ta : TA) : TI := fun σ H R => ta σ H fun vs H1 => ∃ a xs, vs = [.ref a] ∧ ((SqL K H1 a xs ∧ R (Ite K a) H1) ∨ (SqT K H1 a xs ∧ R (IteT K a) H1))
theorem pi_enumT {X : Cx} {e : Expr} {ta : TA} {p pos tpos : Pos} {elts : List Expr} {kk : Nat} (hg : Gl X "enumerate") (hm : X.mg "enumerate" = none) (ha : PA X [e] ta) (hs : starEach [e] X.env = [(false, eval e X.env)]) :
    PI X (.Tuple elts kk tpos) (.Call (.Name "enumerate" p) [e] [] pos) (iEnumT X.K ta) := by
  constructor
  intro pins s σ H R I h
  refine Call_ (ld_blt I hg hm boot_enumerate (PyProof.Rows.callWith_type1 (thn (ha.run pos pins s σ H _ I h) ?_) hs rfl))
  rintro us s1 ⟨vs, H1, I1, r1, a, xs, rfl, hq⟩
  obtain ⟨u, rfl, ru⟩ := vals1 r1
  cases ru
  have fp : ∀ b, b = s1.heap.objs.size + 1 ∨ b = s1.heap.objs.size → FpOk X pins H1 b := fun b hb => by
    have hle : s1.heap.objs.size ≤ b := by rcases hb with z | z <;> omega
    exact I1.fpOk hle (I1.hok.fresh hle)
  rcases hq with ⟨hq, q⟩ | ⟨hq, q⟩
  · obtain ⟨its, rv, p', hz⟩ := I1.list hq
    refine call_enumerate_list p'.isList fun h' he hit hsz hk => wpAny_pyIter_enum he ?_
    have I2 : Inv X pins σ H1 { s1 with heap := h' } := I1.kept (t' := s1.toks) hk
    exact ⟨s1.heap.objs.size + 1, [s1.heap.objs.size + 1, s1.heap.objs.size], _, _, H1, rfl, I2, turn_enum a (s1.heap.objs.size + 1) s1.heap.objs.size, ⟨⟨.none, he⟩, hit, Nat.succ_ne_self _⟩, fun b hb => fp b (by simpa using hb), q⟩
  · obtain ⟨its, rv, p', hz⟩ := I1.tuple hq
    have hlt : a < s1.heap.objs.size := by obtain ⟨o, g, _⟩ := p'; exact Heap.lt_size g
    refine call_enumT p' fun h' he hit hsz hk => wpAny_pyIter_enum he ?_
    have I2 : Inv X pins σ H1 { s1 with heap := h' } := I1.kept (t' := s1.toks) hk
    exact ⟨s1.heap.objs.size + 1, [s1.heap.objs.size + 1, s1.heap.objs.size], _, _, H1, rfl, I2, turn_enumT a (s1.heap.objs.size + 1) s1.heap.objs.size (Nat.ne_of_gt (Nat.lt_succ_of_lt hlt)) (Nat.ne_of_lt hlt), ⟨⟨.none, he⟩, hit, Nat.succ_ne_self _⟩, fun b hb => fp b (by simpa using hb), q⟩
end TO

set_option Elab.async false
set_option linter.all false
set_option maxRecDepth 100000
set_option maxHeartbeats 8000000
/-! sorted(set(xs)) for a list of numbers or of truths. -/
namespace TO
open PySem PySem.Spec PyProof.Rows L2 PpSet
section
variable {P : Program} {w : World} {A : Around} {E : Value → Shared → Prop} {s : Shared}
abbrev freshSet (w : World) : Obj := { cls := .type "set", dict := none, data := .set #[] 0 (.fresh 0 0 (!w.params.followText "set-order")) }
theorem setB_new_at {h : Heap} {a : Addr} {ns : List Bool} (ho : h.get? a = some (freshSet w)) : SetB w h a (fun j => decide (j ∈ ns.take 0)) 0 := by
  have q := setB_fresh (h := h) w
  obtain ⟨o, es, ep, t, h1, h2, h3, h4, h5, h6, h7, h8, h9, h10, h11⟩ := q
  rw [Heap.get?_push_size _ rfl] at h1
  have e : freshSet w = o := Option.some.inj h1
  subst e
  exact ⟨_, es, ep, t, ho, h2, h3, h4, h5, fun k => by simpa using h6 k, h7, h8, h9, h10, h11⟩
theorem set_update_bools {I : Addr} {fp wr : List Addr} {G : Array GenState → Array GenState → Prop} {n : Nat} {Pv : Nat → Value → Prop} {St : Nat → Shared → Prop} {R : Result → Shared → Prop}
    (W : WalksS P w A.in1 I fp wr G n Pv St) (S : Addr) (hSf : S ∉ fp) (ns : List Bool) (hn : n = ns.length) (hb : ns.length + 1 < scanBound) (hval : ∀ i v, Pv i v → ∃ k, ns[i]? = some k ∧ v = .bool k) :
    ∀ (k i : Nat) (s : Shared), n - i = k → i ≤ n → St i s → (∃ c, c ≤ i ∧ SetB w s.heap S (fun j => decide (j ∈ ns.take i)) c) →
      (∀ s' c, Moved (S :: wr) G s s' → c ≤ n → SetB w s'.heap S (fun j => decide (j ∈ ns)) c → R (.ok (.ret .none)) s') →
      codeAny (model P w) A (.builtin "set.update.loop" ⟨[.ref S, .ref I], []⟩) R s := by
  have hSw : S ∉ wr := fun h => hSf (W.sub _ h)
  have hsub : ∀ b ∈ wr, b ∈ S :: wr := fun b hb => List.mem_cons_of_mem _ hb
  intro k
  induction k with
  | zero =>
    intro i s hk' hi hst ⟨c, hc, hS⟩ hR
    have hin : i = n := by omega
    subst hin
    refine codeAny_builtin F.entry_set_update_loop ?_
    rw [Around.under_plainId F.plain_set_update_loop _]
    show wpAny _ A.in1 (pyNext (.ref I) >>= _) _ _ s
    refine wpAny_bind (W.done s _ _ hst fun s' hm => ?_)
    show wpAny _ A.in1 (ret Value.none) _ _ s'
    have e : ns.take i = ns := List.take_of_length_le (by omega)
    rw [e] at hS
    exact wpAny_pure (hR s' c (hm.mono hsub) hc (hS.at fun o e => hm.heap S o hSw e))
  | succ k ih =>
    intro i s hk' hi hst ⟨c, hc, hS⟩ hR
    have hlt : i < n := by omega
    refine codeAny_builtin F.entry_set_update_loop ?_
    rw [Around.under_plainId F.plain_set_update_loop _]
    show wpAny _ A.in1 (pyNext (.ref I) >>= _) _ _ s
    refine wpAny_bind (W.item i s _ _ hlt hst fun v s' hP hst' hm => ?_)
    obtain ⟨z, hz, rfl⟩ := hval i v hP
    have hS' : SetB w s'.heap S (fun j => decide (j ∈ ns.take i)) c := hS.at fun o e => hm.heap S o hSw e
    show wpAny _ A.in1 (holding [Value.bool z] (setAdd S (.bool z)) >>= _) _ _ s'
    refine wpAny_bind (wpAny_holding ?_)
    unfold setAdd
    refine wpAny_holding ?_
    refine wpAny_bind ((boolK P w).pyHash (k := z) (boolK_is _ _ _) ?_)
    refine setB_add_hashed (s := { s' with toks := s'.toks + 1 }) hS' (by omega) fun h' hsb hS2 => ?_
    have hS3 : SetB w h' S (fun j => decide (j ∈ ns.take (i + 1))) (if decide (z ∈ ns.take i) = true then c else c + 1) := hS2.congr fun j => by
      rw [List.take_add_one, hz]
      simp [List.mem_append]
    have hc3 : (if decide (z ∈ ns.take i) = true then c else c + 1) ≤ i + 1 := by
      split <;> omega
    refine wpAny_pure ⟨plainId_quiet F.plain_set_update_loop _, ih (i + 1) _ (by omega) hlt (W.frame _ s' _ _ hst' (Nat.le_succ _) fun b hb o e => ?_) ⟨_, hc3, hS3⟩ fun s'' c2 hm'' hc'' hS'' => ?_⟩
    · rw [hsb.2 b (fun h : b = S => hSf (by rw [← h]; exact hb))]; exact e
    · refine hR s'' c2 (Moved.trans W.gtrans ((hm.mono hsub).then_heap (Nat.le_succ _) fun b o hb e => ?_) hm'') hc'' hS''
      rw [hsb.2 b (fun h : b = S => hb (by rw [h]; exact List.mem_cons_self))]; exact e
/-- set(xs), xs a list: what its loop makes -/
theorem call_set_lst {l : Addr} {items : Array Value} (G : Heap → Prop) {Q : Value → Shared → Prop} (hh : A.handled = none) (hl : s.heap.IsList l items)
    (hU : ∀ (A' : Around) (R : Result → Shared → Prop) (s2 : Shared), A'.handled = none → s2.heap.get? s.heap.objs.size = some (freshSet w) → s2.heap.IsListIter (s.heap.objs.size + 1) l 0 → s2.heap.IsList l items →
      (∀ s', Moved [s.heap.objs.size, s.heap.objs.size + 1] (fun a b => b = a) s2 s' → G s'.heap → R (.ok (.ret .none)) s') → codeAny (model P w) A' (.builtin "set.update.loop" ⟨[.ref s.heap.objs.size, .ref (s.heap.objs.size + 1)], []⟩) R s2)
    (h : ∀ (h' : Heap) (tk : Nat), G h' → (∀ b o, s.heap.get? b = some o → h'.get? b = some o) → Q (.ref s.heap.objs.size) { s with heap := h', toks := tk }) :
    wpAny (model P w) A (call (.type "set") [.ref l]) Q E s := by
  obtain ⟨c, tl, hmro⟩ := F.called_set.mro
  have hmade := F.called_set.made
  have hsub := F.called_set.sub
  refine wpAny_call (codeAny_of_tree ?_)
  show wpAny _ _ (callAny (.type "set") _) _ _ _
  refine wpAny_pure ⟨Code.quiet_builtin _ (by decide +kernel), codeAny_builtin F.entry_type_call ?_⟩
  rw [Around.under_plain (weight_type_call_type "set" [.ref l] []) rfl]
  have h1 := F.called_set.notType
  have h2 := F.called_set.canCreate
  have hct := F.typeCall_set_1 (.ref l)
  repeat (any_goals (first | assumption | wp_step))
  refine codeAny_mono (code_set_led1 (.ref l) (E := E) (Q₁ := fun obj s₁ => obj = .ref s.heap.objs.size ∧ s₁ = { s with heap := s.heap.push (freshSet w) }) ⟨rfl, rfl⟩) fun r s₁ hr => ?_
  cases r with
  | error e => exact hr
  | ok fl =>
    cases fl with
    | ret obj =>
      obtain ⟨rfl, rfl⟩ := hr
      have hS : (s.heap.push (freshSet w)).get? s.heap.objs.size = some (freshSet w) := Heap.get?_push_size _ rfl
      have hT : Shared.TypeIs { s with heap := s.heap.push (freshSet w) } (.ref s.heap.objs.size) "set" := ⟨_, hS, rfl⟩
      have hli := F.called_set.init.lookup
      have hbi := F.called_set.init.bind (.ref s.heap.objs.size)
      repeat (any_goals (first | assumption | wp_step))
      refine codeAny_mono (codeAny_call_builtin (R := wants (fun r s₂ => r = .none ∧ ∃ h' tk, s₂ = { s with heap := h', toks := tk } ∧ G h' ∧ (∀ b o, s.heap.get? b = some o → h'.get? b = some o)) E) F.called_set.init.plain F.entry_set_init (check_set_init_1 hT ?_)) fun r₂ s₂ hr₂ => ?_
      · obtain ⟨ol, hol, hcl, nl, hdl⟩ := hl
        obtain ⟨ocls, odict, odata, oslots⟩ := ol
        simp only at hcl hdl
        subst hcl; subst hdl
        have hol' : (s.heap.push (freshSet w)).get? l = some { cls := .type "list", dict := odict, data := .seq items nl, slots := oslots } := Heap.get?_push_of_some _ hol
        have hsls := PySem.F.sub_list_set
        have hslf := PySem.F.sub_list_frozenset
        have hne : (Value.type "list" == Value.type "dict") = false := by decide
        have hl1 : (s.heap.push (freshSet w)).IsList l items := ⟨_, hol', rfl, nl, rfl⟩
        unfold Builtin.«set.__init__» noKeywords Builtin.Frozenset.updateFrom
        generalize hPI : pyIter = PI
        wp_walk
        subst hPI
        refine wpAny_pyIter_list hl1 ?_
        refine wpAny_bind (wpAny_runValue ?_)
        have hz1 : (s.heap.push (freshSet w)).objs.size = s.heap.objs.size + 1 := Heap.size_push ..
        rw [hz1]
        refine hU _ _ _ (by simp [hh]) (Heap.get?_push_of_some _ hS) ⟨_, by rw [← hz1]; exact Heap.get?_push_size _ rfl, rfl, rfl⟩ (hl1.push _) fun s' hm hg => ?_
        obtain ⟨h', g2, d', tk', os'⟩ := s'
        have eg : g2 = s.gens := hm.gens
        have ed : d' = s.drawn := hm.drawn
        have eo : os' = s.os := hm.os
        subst eg; subst ed; subst eo
        show wpAny _ _ _ _ _ _
        refine wpAny_pure ?_
        show wpAny _ _ (ret Value.none) _ _ _
        refine wpAny_pure ⟨rfl, h', tk', rfl, hg, fun b o e => ?_⟩
        have hb0 : b < s.heap.objs.size := Heap.lt_size e
        have n1 : b ≠ s.heap.objs.size := Nat.ne_of_lt hb0
        have n2 : b ≠ s.heap.objs.size + 1 := Nat.ne_of_lt (Nat.lt_succ_of_lt hb0)
        exact hm.heap b o (by simp only [List.mem_cons, List.mem_singleton, List.not_mem_nil, or_false, not_or]; exact ⟨n1, n2⟩) (Heap.get?_push_of_some _ (Heap.get?_push_of_some _ e))
      · cases r₂ with
        | error e => exact hr₂
        | ok fl₂ =>
          cases fl₂ with
          | ret r =>
            obtain ⟨rfl, h', tk, rfl, hG, hk'⟩ := hr₂
            repeat (any_goals (first | assumption | wp_step))
            exact h _ _ hG hk'
          | _ => exact hr₂.elim
    | _ => exact hr.elim
theorem call_set_lstI {l : Addr} {items : Array Value} (ns : List Int) {Q : Value → Shared → Prop} (hh : A.handled = none) (hl : s.heap.IsList l items) (hit : IntsAre items.toList ns) (hb : ns.length + 1 < scanBound)
    (h : ∀ (h' : Heap) (tk c : Nat), SetR w h' s.heap.objs.size (fun j => decide (j ∈ ns)) c → c ≤ ns.length → (∀ b o, s.heap.get? b = some o → h'.get? b = some o) → Q (.ref s.heap.objs.size) { s with heap := h', toks := tk }) :
    wpAny (model P w) A (call (.type "set") [.ref l]) Q E s := by
  have hisz : items.size = ns.length := by
    have q := IntsAre.length hit
    rw [Array.length_toList] at q
    exact q
  have hlS : l < s.heap.objs.size := by obtain ⟨_, e, _⟩ := hl; exact Heap.lt_size e
  refine call_set_lst (fun h' => ∃ c, SetR w h' s.heap.objs.size (fun j => decide (j ∈ ns)) c ∧ c ≤ ns.length) hh hl (fun A' R s2 hA hS hI hL k => ?_) fun h' tk ⟨c, h1, h2⟩ hk => h h' tk c h1 h2 hk
  refine set_update_ints ((Walks.list (A := A'.in1) hA (s.heap.objs.size + 1) l (Nat.ne_of_lt (Nat.lt_succ_of_lt hlS)) items).toS) s.heap.objs.size (fun hm => by
    rcases List.mem_cons.1 hm with e | e
    · exact Nat.ne_of_lt (Nat.lt_succ_self _) e
    · exact Nat.ne_of_gt hlS (List.mem_singleton.1 e)) ns hisz hb (fun i v hv => ?_) (items.size - 0) 0 s2 (by omega) (Nat.zero_le _) ⟨hI, hL⟩ ⟨0, Nat.le_refl 0, setR_new_at hS⟩ fun s' c hm hc hS' => k s' hm ⟨c, hS', by omega⟩
  have hi : i < ns.length := by rw [← hisz]; exact (Array.getElem?_eq_some_iff.mp hv).1
  obtain ⟨t, e⟩ := PyProof.Rows.IntsAre.int_at hit i v (by rw [Array.getElem?_toList]; exact hv)
  refine ⟨ns[i], t, List.getElem?_eq_getElem hi, ?_⟩
  rw [e, List.getD_eq_getElem?_getD, List.getElem?_eq_getElem hi] <;> rfl
theorem call_set_lstB {l : Addr} {items : Array Value} (ns : List Bool) {Q : Value → Shared → Prop} (hh : A.handled = none) (hl : s.heap.IsList l items) (hit : items.toList = ns.map .bool) (hb : ns.length + 1 < scanBound)
    (h : ∀ (h' : Heap) (tk c : Nat), SetB w h' s.heap.objs.size (fun j => decide (j ∈ ns)) c → c ≤ ns.length → (∀ b o, s.heap.get? b = some o → h'.get? b = some o) → Q (.ref s.heap.objs.size) { s with heap := h', toks := tk }) :
    wpAny (model P w) A (call (.type "set") [.ref l]) Q E s := by
  have hisz : items.size = ns.length := by
    rw [← Array.length_toList, hit, List.length_map]
  have hlS : l < s.heap.objs.size := by obtain ⟨_, e, _⟩ := hl; exact Heap.lt_size e
  refine call_set_lst (fun h' => ∃ c, SetB w h' s.heap.objs.size (fun j => decide (j ∈ ns)) c ∧ c ≤ ns.length) hh hl (fun A' R s2 hA hS hI hL k => ?_) fun h' tk ⟨c, h1, h2⟩ hk => h h' tk c h1 h2 hk
  refine set_update_bools ((Walks.list (A := A'.in1) hA (s.heap.objs.size + 1) l (Nat.ne_of_lt (Nat.lt_succ_of_lt hlS)) items).toS) s.heap.objs.size (fun hm => by
    rcases List.mem_cons.1 hm with e | e
    · exact Nat.ne_of_lt (Nat.lt_succ_self _) e
    · exact Nat.ne_of_gt hlS (List.mem_singleton.1 e)) ns hisz hb (fun i v hv => ?_) (items.size - 0) 0 s2 (by omega) (Nat.zero_le _) ⟨hI, hL⟩ ⟨0, Nat.le_refl 0, setB_new_at hS⟩ fun s' c hm hc hS' => k s' hm ⟨c, hS', by omega⟩
  have hv' : items.toList[i]? = some v := by rw [Array.getElem?_toList]; exact hv
  rw [hit, List.getElem?_map, Option.map_eq_some_iff] at hv'
  obtain ⟨b, h1, h2⟩ := hv'
  exact ⟨b, h1, h2.symm⟩
theorem nd_bools : ∀ (bs : List Bool), bs.Nodup → bs = [] ∨ bs = [false] ∨ bs = [true] ∨ bs = [false, true] ∨ bs = [true, false]
  | [], _ => .inl rfl
  | [false], _ => .inr (.inl rfl)
  | [true], _ => .inr (.inr (.inl rfl))
  | false :: true :: [], _ => .inr (.inr (.inr (.inl rfl)))
  | true :: false :: [], _ => .inr (.inr (.inr (.inr rfl)))
  | a :: b :: c :: r, h => by
    simp only [List.nodup_cons, List.mem_cons, not_or] at h
    cases a <;> cases b <;> cases c <;> simp_all
  | false :: false :: [], h => by simp at h
  | true :: true :: [], h => by simp at h
theorem sortB {bs : List Bool} (h : bs.Nodup) : bs.mergeSort (PySem.W.dataLe false PyData.bool) = upB (decide (false ∈ bs)) (decide (true ∈ bs)) := by
  have l1 : PySem.W.dataLe false PyData.bool false true = true := by decide +kernel
  have l2 : PySem.W.dataLe false PyData.bool true false = false := by decide +kernel
  rcases nd_bools bs h with rfl | rfl | rfl | rfl | rfl
  · decide +kernel
  · decide +kernel
  · decide +kernel
  · simp [List.mergeSort, List.MergeSort.Internal.splitInTwo, List.merge, l1, upB]
  · simp [List.mergeSort, List.MergeSort.Internal.splitInTwo, List.merge, l2, upB]
theorem each_bool {h : Heap} : ∀ bs : List Bool, PySem.W.EachIs (fun v b => ∃ as, Reads h v (PyData.bool b) as) (bs.map Value.bool) bs
  | [] => .nil
  | b :: bs => .cons ⟨_, .bool b⟩ (each_bool bs)
theorem each_eqB : ∀ bs : List Bool, PySem.W.EachIs (fun v b => v = Value.bool b) (bs.map Value.bool) bs
  | [] => .nil
  | b :: bs => .cons rfl (each_eqB bs)
theorem of_each : ∀ {vs : List Value} {bs : List Bool}, PySem.W.EachIs (fun v b => v = Value.bool b) vs bs → vs = bs.map Value.bool
  | _, _, .nil => rfl
  | _, _, .cons h t => by rw [h, of_each t]; rfl
theorem all_bools : ∀ vs : List Value, (∀ v ∈ vs, ∃ b, v = Value.bool b) → ∃ bs : List Bool, vs = bs.map Value.bool
  | [], _ => ⟨[], rfl⟩
  | v :: vs, h => by
    obtain ⟨b, rfl⟩ := h v List.mem_cons_self
    obtain ⟨bs, rfl⟩ := all_bools vs fun u hu => h u (List.mem_cons_of_mem _ hu)
    exact ⟨b :: bs, rfl⟩
theorem sorted_setB {a : Addr} {S : Bool → Bool} {n : Nat} {Q : Value → Shared → Prop} (R : SetB w s.heap a S n) (hh : A.handled = none) (hu : A.in1.in1.units < cLine)
    (hQ : ∀ s' p (out : Array Value) (c : Nat), (∀ b o, s.heap.get? b = some o → s'.heap.get? b = some o) → s'.gens = s.gens → s'.os = s.os → s.heap.objs.size ≤ p →
      s'.heap.get? p = some (seqObj "list" out c) → out.toList = (upB (S false) (S true)).map .bool → Q (.ref p) s') :
    wpAny (model P w) A (call (.builtin "sorted") [.ref a]) Q E s := by
  obtain ⟨o, es, ep, t, ho, hex, hd, g, nd, hm, hb, hf, hn, hr, hl⟩ := R
  refine Calls.call_function_entry kind_sorted plain_sorted entry_sorted (args_sorted1 _) ?_
  unfold Builtin.«sorted»
  refine wpAny_bind (m := checkCount "sorted" 1 1 _) (wpAny_pure ?_)
  refine wpAny_bind (collect_set (A := A.in1) hh ⟨o, ho, hex.1, hd⟩ hf hb hr hl fun s1 vs k1 hz g1 o1 pm => ?_)
  have hes : es.toList.map (·.2) = (es.toList.map keyB).map Value.bool := by
    rw [List.map_map]
    refine List.map_congr_left fun e he => ?_
    obtain ⟨k, h1, _⟩ := g e he
    show e.2 = Value.bool (keyB e)
    unfold keyB
    rw [h1]
  rw [hes] at pm
  obtain ⟨bs, rfl⟩ := all_bools vs fun v hv => by
    obtain ⟨b, _, e⟩ := List.mem_map.1 (pm.mem_iff.1 hv)
    exact ⟨b, e.symm⟩
  have pb : bs.Perm (es.toList.map keyB) := by
    have q := pm.map fun v : Value => match v with | .bool k => k | _ => false
    rw [List.map_map, List.map_map] at q
    have e1 : ((fun v : Value => match v with | .bool k => k | _ => false) ∘ Value.bool) = id := rfl
    rw [e1, List.map_id, List.map_id] at q
    exact q
  have hnd : bs.Nodup := pb.nodup_iff.2 nd
  have hbl : bs.length ≤ 2 := by
    rcases nd_bools bs hnd with rfl | rfl | rfl | rfl | rfl <;> simp
  have hL : (bs.map Value.bool).length ≤ sizeLine := by rw [List.length_map, sizeLine_eq]; omega
  refine wpAny_bind (wpAny_newList ?_ hL)
  have hoL : (s1.heap.push (seqObj "list" (bs.map Value.bool).toArray 0)).get? s1.heap.objs.size = some (seqObj "list" (bs.map Value.bool).toArray 0) := Heap.get?_push_size _ rfl
  have hal : PySem.W.AllAlike (bs.map PyData.bool) := PySem.W.AllAlike.of fun _ _ => rfl
  refine wpAny_bind (wpAny_holding (wpAny_call_entry slot_list_sort ⟨_, hoL, rfl⟩ entry_list_sort (PySem.W.list_sort_vals hoL (PySem.W.SortsAt.data (PySem.W.each_map (R := fun v d => ∃ as, Reads _ v d as) PyData.bool (each_bool bs)) hal (PySem.W.Sortable.others fun _ => ⟨by simp, by simp⟩) fun d hd' => ?_) hL ⟨_, rfl, ?_⟩) (args_list_sort _)))
  · obtain ⟨b, _, rfl⟩ := List.mem_map.1 hd'
    simpa [PyData.depth] using hu
  · obtain ⟨c, hc⟩ := sortedHeap_at (vs := bs.map Value.bool) (out := (PySem.W.sortVals (PySem.W.dataKind _ (bs.map PyData.bool)) false (bs.map Value.bool) (bs.map Value.bool)).toArray) hoL
    refine wpAny_pure ⟨_, rfl, hQ _ s1.heap.objs.size _ c (fun b u e => ?_) g1 o1 hz hc ?_⟩
    · have q := k1 b u e
      have hlt := Heap.lt_size q
      refine (sortedHeap_old (Nat.ne_of_lt hlt) (by rw [size_push']; exact Nat.lt_succ_of_lt hlt)).trans ?_
      exact Heap.get?_push_of_some _ q
    · have q := fun h0 : Heap => of_each (PySem.W.sortVals_data (h' := h0) false (each_eqB bs) (each_bool bs) hal)
      rw [List.toList_toArray, q, sortB hnd]
      congr 2
      · rw [Bool.eq_iff_iff, hm, decide_eq_true_iff, pb.mem_iff]
      · rw [Bool.eq_iff_iff, hm, decide_eq_true_iff, pb.mem_iff]
end
theorem mem_insI {k j : Int} : ∀ {l : List Int}, j ∈ insI k l ↔ j = k ∨ j ∈ l
  | [] => by simp [insI]
  | x :: r => by
    unfold insI
    by_cases h1 : k < x
    · rw [if_pos h1]; simp
    · rw [if_neg h1]
      by_cases h2 : k = x
      · rw [if_pos h2, h2]; simp
      · rw [if_neg h2]
        simp only [List.mem_cons, mem_insI (l := r)]
        constructor <;> (rintro (h | h | h) <;> simp [h])
theorem rise_ins {k : Int} : ∀ {l : List Int}, l.Pairwise (· < ·) → (insI k l).Pairwise (· < ·)
  | [], _ => by simp [insI]
  | x :: r, h => by
    have h0 := List.pairwise_cons.1 h
    unfold insI
    by_cases h1 : k < x
    · rw [if_pos h1]
      refine List.pairwise_cons.2 ⟨fun y hy => ?_, h⟩
      rcases List.mem_cons.1 hy with rfl | hy
      · exact h1
      · have := h0.1 y hy
        omega
    · rw [if_neg h1]
      by_cases h2 : k = x
      · rw [if_pos h2]; exact h
      · rw [if_neg h2]
        refine List.pairwise_cons.2 ⟨fun y hy => ?_, rise_ins h0.2⟩
        rcases mem_insI.1 hy with rfl | hy
        · omega
        · exact h0.1 y hy
theorem upI_rise : ∀ l : List Int, (upI l).Pairwise (· < ·)
  | [] => .nil
  | k :: r => rise_ins (upI_rise r)
theorem mem_upI {j : Int} : ∀ {l : List Int}, j ∈ upI l ↔ j ∈ l
  | [] => Iff.rfl
  | k :: r => by
    show j ∈ insI k (upI r) ↔ _
    rw [mem_insI, mem_upI (l := r), List.mem_cons]
theorem rise_eq : ∀ {l m : List Int}, l.Pairwise (· < ·) → m.Pairwise (· < ·) → (∀ k, k ∈ l ↔ k ∈ m) → l = m
  | [], [], _, _, _ => rfl
  | [], y :: m, _, _, h => absurd ((h y).2 List.mem_cons_self) (by simp)
  | x :: l, [], _, _, h => absurd ((h x).1 List.mem_cons_self) (by simp)
  | x :: l, y :: m, h1, h2, h => by
    have a1 := List.pairwise_cons.1 h1
    have a2 := List.pairwise_cons.1 h2
    have e : x = y := by
      rcases List.mem_cons.1 ((h x).1 List.mem_cons_self) with e | hx
      · exact e
      · rcases List.mem_cons.1 ((h y).2 List.mem_cons_self) with e | hy
        · exact e.symm
        · have b1 := a2.1 x hx
          have b2 := a1.1 y hy
          omega
    subst e
    congr 1
    refine rise_eq a1.2 a2.2 fun k => ⟨fun hk => ?_, fun hk => ?_⟩
    · rcases List.mem_cons.1 ((h k).1 (List.mem_cons_of_mem _ hk)) with e | hm
      · have := a1.1 k hk
        omega
      · exact hm
    · rcases List.mem_cons.1 ((h k).2 (List.mem_cons_of_mem _ hk)) with e | hm
      · have := a2.1 k hk
        omega
      · exact hm
section
variable {X : Cx} {a : Expr} {ta : TE} {pos p : Pos}
def tSset (K : PySem.W.Frag) (ta : TE) : TE := fun σ H Q => ta σ H fun x H1 => ∃ l : Addr, x = .ref l ∧
  ((∃ ns : List Int, SqL K H1 l (ns.map V.int) ∧ ns.length ≤ 1000 ∧ (upI ns).length < 64 ∧ ∀ q, H1 q = none → Q (.ref q) (upd H1 q (.lst ((upI ns).map V.int)))) ∨
   ∃ bs : List Bool, SqL K H1 l (bs.map V.bl) ∧ bs.length ≤ 1000 ∧ ∀ q, H1 q = none → Q (.ref q) (upd H1 q (.lst ((upB (decide (false ∈ bs)) (decide (true ∈ bs))).map V.bl))))
theorem vals_bls : ∀ bs : List Bool, Vals (bs.map V.bl) (bs.map Value.bool)
  | [] => .nil
  | b :: bs => .cons rfl (vals_bls bs)
theorem laid_list {pins : List (Addr × Obj)} {σ : L2.St} {H : Hp} {s s' : Shared} {q : Addr} {out : Array Value} {c : Nat} {xs : List V} {Q : VK} (I : Inv X pins σ H s) (k : ∀ b o, s.heap.get? b = some o → s'.heap.get? b = some o) (g : s'.gens = s.gens) (o : s'.os = s.os) (hp : s.heap.objs.size ≤ q)
    (hg : s'.heap.get? q = some (seqObj "list" out c)) (hv : Vals xs out.toList) (hlen : xs.length ≤ sizeLine) (hQ : ∀ q, H q = none → Q (.ref q) (upd H q (.lst xs))) : ∃ x H', Inv X pins σ H' s' ∧ RelV x (.ref q) ∧ Q x H' := by
  have hn : H q = none := I.hok.fresh hp
  have J : Inv X pins σ (upd H q (.lst xs)) { s with heap := s'.heap, gens := s'.gens, drawn := s'.drawn, toks := s'.toks } :=
    I.call (ch := []) (Un.laid k hp hn) (I.hok.laid k hp ⟨hlen, out.toList, c, hv, hg⟩) (by rw [g]; exact I.bare) (fun _ z => nomatch z)
  have e : s' = { s with heap := s'.heap, gens := s'.gens, drawn := s'.drawn, toks := s'.toks } := by
    cases s'
    cases s
    cases o
    rfl
  rw [e]
  exact ⟨.ref q, _, J, rfl, hQ q hn⟩
theorem pe_sset {p2 q : Pos} (hg : Gl X "sorted") (hm : X.mg "sorted" = none) (hg2 : Gl X "set") (hm2 : X.mg "set" = none) (ha : PE X a ta) (hc : X.calm = true) (hu : X.A.units + 65 < cLine)
    (na : starEach [a] X.env = (false, eval a X.env) :: starEach [] X.env) : PE X (.Call (.Name "sorted" p) [.Call (.Name "set" p2) [a] [] q] [] pos) (tSset X.K ta) := by
  constructor
  intro pins s σ H Q I h
  refine Call_ (ld_blt I hg hm boot_sorted (PyProof.Rows.callWith_builtin1 (PyProof.Rows.args_cons (Call_ (ld_blt I hg2 hm2 boot_set ?_)) rfl) rfl rfl))
  refine PyProof.Rows.callWith_type1 (PyProof.Rows.args_cons (thn (ha.run pins s σ H _ I h) ?_) na) na rfl
  rintro v s1 ⟨x, H1, I1, r1, l, rfl, hq⟩
  cases r1
  rcases hq with ⟨ns, hq, hl, h64, q1⟩ | ⟨bs, hq, hl, q1⟩
  · obtain ⟨its, r, pl, hz⟩ := I1.list hq
    refine PyProof.Rows.args_nil (call_set_lstI ns (I1.ok.hd hc) pl.isList (by simpa using intsAre_of r) (by unfold scanBound; omega) fun h' tk c hS hcl hk => PyProof.Rows.args_nil ?_)
    have I2 : Inv X pins σ H1 { s1 with heap := h', toks := tk } := I1.kept hk
    refine sorted_set hS (I2.ok.hd hc) ?_ fun s' q' out c' ns' k g o hp hgt hi hs hmm hln => ?_
    · obtain ⟨o, es, ep, t, ho, hex, hd, _, hnd, hmem, hsb, hf, hn, _⟩ := hS
      have e1 : (es.toList.map keyOf).length = es.size := by simp
      have l1 := sub_len hnd fun k hk => mem_upI.2 (by have := (hmem k).2 hk; exact of_decide_eq_true this)
      omega
    · have e : ns' = upI ns := rise_eq hs (upI_rise ns) fun j => by rw [hmm, mem_upI, decide_eq_true_iff]
      subst e
      exact laid_list I2 k g o hp hgt (vals_of_ints hi) (by rw [List.length_map, sizeLine_eq]; omega) q1
  · obtain ⟨its, r, pl, hz⟩ := I1.list hq
    refine PyProof.Rows.args_nil (call_set_lstB bs (I1.ok.hd hc) pl.isList (by simpa using r.bls) (by unfold scanBound; omega) fun h' tk c hS hcl hk => PyProof.Rows.args_nil ?_)
    have I2 : Inv X pins σ H1 { s1 with heap := h', toks := tk } := I1.kept hk
    refine sorted_setB hS (I2.ok.hd hc) (by show X.A.units + 1 + 1 < cLine; omega) fun s' q' out c' k g o hp hgt ho => ?_
    refine laid_list I2 k g o hp hgt (by rw [ho]; exact vals_bls _) (by rw [List.length_map, sizeLine_eq]; unfold upB; split <;> split <;> simp) q1
end
end TO

set_option Elab.async false
set_option linter.all false
set_option maxRecDepth 100000
set_option maxHeartbeats 4000000
/-! zip of any two sources. -/
namespace TO
open PySem PySem.Spec L2
def Kp (cs : List Addr) (h h' : Heap) : Prop := ∀ a ∈ cs, ∀ o, h.get? a = some o → h'.get? a = some o
section
variable {prog : Program} {w : World} {A : Around} {E : Value → Shared → Prop} {s : Shared}
/-- what an iterator hands out: it depends on the cells cs alone -/
structure Src (prog : Program) (w : World) (A : Around) (it : Addr) (cs : List Addr) (S S' : Heap → Prop) (x : Value) : Prop where
  st : ∀ h h', Kp cs h h' → S h → S h'
  st' : ∀ h h', Kp cs h h' → S' h → S' h'
  gives : ∀ (s : Shared) (Q : Value → Shared → Prop) (E : Value → Shared → Prop), S s.heap → (∀ h', S' h' → Heap.SameBut it s.heap h' → Q x { s with heap := h' }) → wpAny (model prog w) A (Builtin.SmallTypes.nextOf (.ref it)) Q E s
structure SrcE (prog : Program) (w : World) (A : Around) (it : Addr) (cs : List Addr) (S : Heap → Prop) : Prop where
  st : ∀ h h', Kp cs h h' → S h → S h'
  ends : ∀ (s : Shared) (Q : Value → Shared → Prop) (E : Value → Shared → Prop), S s.heap → (∀ h' e, Heap.ExtBut it s.heap h' → (∃ o, h'.get? e = some o ∧ o.cls = .type "StopIteration") → E (.ref e) { s with heap := h' }) → wpAny (model prog w) A (Builtin.SmallTypes.nextOf (.ref it)) Q E s
theorem kp_but {a : Addr} {cs : List Addr} {h h' : Heap} (hs : Heap.ExtBut a h h') (hn : a ∉ cs) : Kp cs h h' := fun c hc o e => hs c o (fun z => hn (z ▸ hc)) e
theorem free_ok {z TI TP : Addr} {Q : Bool → Shared → Prop} (iz : IsZip s.heap z TI TP .none) (h : Q true s) : wpAny (model prog w) A (Builtin.SmallTypes.ownedTupleIsFree (.ref z)) Q E s := by
  unfold Builtin.SmallTypes.ownedTupleIsFree
  exact wpAny_bind (wpAny_field iz rfl (x := .none) rfl (wpAny_pure h))
structure Apart (z TI TP a b : Addr) (ca cb : List Addr) : Prop where
  tiz : TI ≠ z
  tpz : TP ≠ z
  az : a ≠ z
  bz : b ≠ z
  tpa : TP ≠ a
  tpb : TP ≠ b
  ab : a ≠ b
  za : z ∉ ca
  zb : z ∉ cb
  ta : TP ∉ ca
  tb : TP ∉ cb
  acb : a ∉ cb
  bca : b ∉ ca
theorem zip_gives {z TI TP a b : Addr} {ca cb : List Addr} (d : Apart z TI TP a b ca cb) {S S' R R' : Heap → Prop} {x y u v : Value} {Q : Value → Shared → Prop} (fa : Src prog w A a ca S S' x) (fb : Src prog w A b cb R R' y)
    (iz : IsZip s.heap z TI TP .none) (ti : IsPair s.heap TI (.ref a) (.ref b)) (tp : IsPair s.heap TP u v) (hS : S s.heap) (hR : R s.heap)
    (k : ∀ h', IsZip h' z TI TP (rawInt s.heap.objs.size) → IsPair h' TP x y → S' h' → R' h' → IsPair h' s.heap.objs.size x y → (∀ c o, c ∉ [z, TP, a, b] → s.heap.get? c = some o → h'.get? c = some o) → Q (.ref s.heap.objs.size) { s with heap := h' }) :
    wpAny (model prog w) A (Builtin.«zip.__next__» ⟨[.ref z], []⟩) (fun fin t => ∃ v, fin = .done (.ret v) ∧ Q v t) E s := by
  show wpAny _ _ (field (.ref z) 2 >>= _) _ _ _
  refine wpAny_bind (wpAny_field iz rfl (x := .bool false) rfl ?_)
  show wpAny _ _ (field (.ref z) 3 >>= _) _ _ _
  refine wpAny_bind (wpAny_field iz rfl (x := .ref TI) rfl (wpAny_bind (wpAny_seqItems ti rfl ?_)))
  show wpAny _ _ (Builtin.SmallTypes.ownedTupleIsFree (.ref z) >>= _) _ _ _
  refine wpAny_bind (free_ok iz ?_)
  simp only [if_true, List.zipIdx_cons, List.zipIdx_nil, List.forIn_cons, List.forIn_nil]
  refine wpAny_bind (wpAny_rule (wpAny_bind (wpAny_field iz rfl (x := .ref TP) rfl (wpAny_bind (wpAny_setField_rec iz (by simp) fun g1 iz1 e1 => ?_)))))
  replace iz1 : IsZip g1 z TI TP .ellipsis := iz1
  refine wpAny_bind (wpAny_bind (wpAny_bind (wpAny_onRaise ?_)))
  show wpAny _ _ (Builtin.SmallTypes.nextOf (.ref a) >>= _) _ _ _
  refine wpAny_bind (fa.gives _ _ _ (fa.st _ _ (kp_but e1.extBut d.za) hS) fun g2 S2 e2 => wpAny_pure ?_)
  have tp2 : IsPair g2 TP u v := e2.extBut _ _ d.tpa (e1.extBut _ _ d.tpz tp)
  refine wpAny_bind (wpAny_seqItems tp2 rfl (wpAny_bind (wpAny_updateSeq_pair tp2 fun g3 tp3 e3 => wpAny_bind (wpAny_letGo (wpAny_pure ?_)))))
  replace tp3 : IsPair g3 TP x v := tp3
  refine wpAny_bind (wpAny_bind (wpAny_onRaise ?_))
  show wpAny _ _ (Builtin.SmallTypes.nextOf (.ref b) >>= _) _ _ _
  have R3 : R g3 := fb.st _ _ (kp_but e3.extBut d.tb) (fb.st _ _ (kp_but e2.extBut d.acb) (fb.st _ _ (kp_but e1.extBut d.zb) hR))
  refine wpAny_bind (fb.gives _ _ _ R3 fun g4 R4 e4 => wpAny_pure ?_)
  have tp4 : IsPair g4 TP x v := e4.extBut _ _ d.tpb tp3
  refine wpAny_bind (wpAny_seqItems tp4 rfl (wpAny_bind (wpAny_updateSeq_pair tp4 fun g5 tp5 e5 => wpAny_bind (wpAny_letGo (wpAny_pure (wpAny_pure ?_))))))
  replace tp5 : IsPair g5 TP x y := tp5
  refine wpAny_bind (wpAny_seqItems tp5 rfl (wpAny_bind (wpAny_newTuple ?_)))
  have n5 : g5.objs.size = s.heap.objs.size := by rw [e5.1, e4.1, e3.1, e2.1, e1.1]
  have iz5 : IsZip g5 z TI TP .ellipsis := e5.extBut _ _ d.tpz.symm (e4.extBut _ _ d.bz.symm (e3.extBut _ _ d.tpz.symm (e2.extBut _ _ d.az.symm iz1)))
  have S5 : S' g5 := fa.st' _ _ (kp_but e5.extBut d.ta) (fa.st' _ _ (kp_but e4.extBut d.bca) (fa.st' _ _ (kp_but e3.extBut d.ta) S2))
  have R5 : R' g5 := fb.st' _ _ (kp_but e5.extBut d.tb) R4
  have zl : z < g5.objs.size := Heap.lt_size iz5
  have all5 : ∀ c o, c ∉ [z, TP, a, b] → s.heap.get? c = some o → g5.get? c = some o := fun c o hc e => by
    have h1 : c ≠ z := fun q => hc (by simp [q])
    have h2 : c ≠ TP := fun q => hc (by simp [q])
    have h3 : c ≠ a := fun q => hc (by simp [q])
    have h4 : c ≠ b := fun q => hc (by simp [q])
    exact e5.extBut _ _ h2 (e4.extBut _ _ h4 (e3.extBut _ _ h2 (e2.extBut _ _ h3 (e1.extBut _ _ h1 e))))
  show wpAny _ _ (Builtin.SmallTypes.ownedTupleHandOut (.ref z) (.ref g5.objs.size) >>= _) _ _ _
  have iz6 : IsZip (g5.push { cls := .type "tuple", data := .seq #[x, y] }) z TI TP .ellipsis := Heap.get?_push_of_some _ iz5
  refine wpAny_bind ?_
  simp only [Builtin.SmallTypes.ownedTupleHandOut]
  refine wpAny_bind (wpAny_setField_rec iz6 (by simp) fun g7 iz7 e7 => ?_)
  replace iz7 : IsZip g7 z TI TP (rawInt g5.objs.size) := iz7
  refine wpAny_setField_rec iz7 (by simp) fun g8 iz8 e8 => wpAny_pure ⟨_, rfl, ?_⟩
  replace iz8 : IsZip g8 z TI TP (rawInt g5.objs.size) := iz8
  have up : ∀ c o, c ≠ z → (g5.push { cls := .type "tuple", data := .seq #[x, y] }).get? c = some o → g8.get? c = some o := fun c o hc e => e8.extBut _ _ hc (e7.extBut _ _ hc e)
  have up5 : ∀ c o, c ≠ z → g5.get? c = some o → g8.get? c = some o := fun c o hc e => up c o hc (Heap.get?_push_of_some _ e)
  have new : IsPair g8 g5.objs.size x y := up _ _ (Nat.ne_of_gt zl) (Heap.get?_push_size _ rfl)
  rw [n5] at iz8 new
  show Q (.ref g5.objs.size) _
  rw [n5]
  exact k g8 iz8 (up5 _ _ d.tpz tp5) (fa.st' _ _ (fun c hc o e => up5 c o (fun q => d.za (q ▸ hc)) e) S5) (fb.st' _ _ (fun c hc o e => up5 c o (fun q => d.zb (q ▸ hc)) e) R5) new fun c o hc e => up5 c o (fun q => hc (by simp [q])) (all5 c o hc e)
/-- the first has ended -/
theorem zip_ends1 {z TI TP a b : Addr} {ca cb : List Addr} (d : Apart z TI TP a b ca cb) {S : Heap → Prop} {u v : Value} {Q : Fin → Shared → Prop} (fa : SrcE prog w A a ca S)
    (iz : IsZip s.heap z TI TP .none) (ti : IsPair s.heap TI (.ref a) (.ref b)) (tp : IsPair s.heap TP u v) (hS : S s.heap)
    (k : ∀ h' e, (∀ c o, c ∉ [z, TP, a, b] → s.heap.get? c = some o → h'.get? c = some o) → (∃ o, h'.get? e = some o ∧ o.cls = .type "StopIteration") → E (.ref e) { s with heap := h' }) :
    wpAny (model prog w) A (Builtin.«zip.__next__» ⟨[.ref z], []⟩) Q E s := by
  show wpAny _ _ (field (.ref z) 2 >>= _) _ _ _
  refine wpAny_bind (wpAny_field iz rfl (x := .bool false) rfl ?_)
  show wpAny _ _ (field (.ref z) 3 >>= _) _ _ _
  refine wpAny_bind (wpAny_field iz rfl (x := .ref TI) rfl (wpAny_bind (wpAny_seqItems ti rfl ?_)))
  show wpAny _ _ (Builtin.SmallTypes.ownedTupleIsFree (.ref z) >>= _) _ _ _
  refine wpAny_bind (free_ok iz ?_)
  simp only [if_true, List.zipIdx_cons, List.zipIdx_nil, List.forIn_cons, List.forIn_nil]
  refine wpAny_bind (wpAny_rule (wpAny_bind (wpAny_field iz rfl (x := .ref TP) rfl (wpAny_bind (wpAny_setField_rec iz (by simp) fun g1 iz1 e1 => ?_)))))
  replace iz1 : IsZip g1 z TI TP .ellipsis := iz1
  refine wpAny_bind (wpAny_bind (wpAny_bind (wpAny_onRaise ?_)))
  show wpAny _ _ (Builtin.SmallTypes.nextOf (.ref a) >>= _) _ _ _
  refine wpAny_bind (fa.ends _ _ _ (fa.st _ _ (kp_but e1.extBut d.za) hS) fun g2 e e2 he => ?_)
  obtain ⟨oe, h1, h2⟩ := he
  have iz2 : IsZip g2 z TI TP .ellipsis := e2 _ _ d.az.symm iz1
  have ne : e ≠ z := fun q => by subst q; rw [iz2] at h1; cases h1; simp at h2
  refine wpAny_setField_rec iz2 (by simp) fun g3 _ e3 => k g3 e (fun c o hc q => ?_) ⟨oe, e3.extBut _ _ ne h1, h2⟩
  have h1 : c ≠ z := fun q => hc (by simp [q])
  have h3 : c ≠ a := fun q => hc (by simp [q])
  exact e3.extBut _ _ h1 (e2 _ _ h3 (e1.extBut _ _ h1 q))
/-- the second has ended -/
theorem zip_ends2 {z TI TP a b : Addr} {ca cb : List Addr} (d : Apart z TI TP a b ca cb) {S S' R : Heap → Prop} {x u v : Value} {Q : Fin → Shared → Prop} (fa : Src prog w A a ca S S' x) (fb : SrcE prog w A b cb R)
    (iz : IsZip s.heap z TI TP .none) (ti : IsPair s.heap TI (.ref a) (.ref b)) (tp : IsPair s.heap TP u v) (hS : S s.heap) (hR : R s.heap)
    (k : ∀ h' e, (∀ c o, c ∉ [z, TP, a, b] → s.heap.get? c = some o → h'.get? c = some o) → (∃ o, h'.get? e = some o ∧ o.cls = .type "StopIteration") → E (.ref e) { s with heap := h' }) :
    wpAny (model prog w) A (Builtin.«zip.__next__» ⟨[.ref z], []⟩) Q E s := by
  show wpAny _ _ (field (.ref z) 2 >>= _) _ _ _
  refine wpAny_bind (wpAny_field iz rfl (x := .bool false) rfl ?_)
  show wpAny _ _ (field (.ref z) 3 >>= _) _ _ _
  refine wpAny_bind (wpAny_field iz rfl (x := .ref TI) rfl (wpAny_bind (wpAny_seqItems ti rfl ?_)))
  show wpAny _ _ (Builtin.SmallTypes.ownedTupleIsFree (.ref z) >>= _) _ _ _
  refine wpAny_bind (free_ok iz ?_)
  simp only [if_true, List.zipIdx_cons, List.zipIdx_nil, List.forIn_cons, List.forIn_nil]
  refine wpAny_bind (wpAny_rule (wpAny_bind (wpAny_field iz rfl (x := .ref TP) rfl (wpAny_bind (wpAny_setField_rec iz (by simp) fun g1 iz1 e1 => ?_)))))
  replace iz1 : IsZip g1 z TI TP .ellipsis := iz1
  refine wpAny_bind (wpAny_bind (wpAny_bind (wpAny_onRaise ?_)))
  show wpAny _ _ (Builtin.SmallTypes.nextOf (.ref a) >>= _) _ _ _
  refine wpAny_bind (fa.gives _ _ _ (fa.st _ _ (kp_but e1.extBut d.za) hS) fun g2 S2 e2 => wpAny_pure ?_)
  have tp2 : IsPair g2 TP u v := e2.extBut _ _ d.tpa (e1.extBut _ _ d.tpz tp)
  refine wpAny_bind (wpAny_seqItems tp2 rfl (wpAny_bind (wpAny_updateSeq_pair tp2 fun g3 tp3 e3 => wpAny_bind (wpAny_letGo (wpAny_pure ?_)))))
  refine wpAny_bind (wpAny_bind (wpAny_onRaise ?_))
  show wpAny _ _ (Builtin.SmallTypes.nextOf (.ref b) >>= _) _ _ _
  have R3 : R g3 := fb.st _ _ (kp_but e3.extBut d.tb) (fb.st _ _ (kp_but e2.extBut d.acb) (fb.st _ _ (kp_but e1.extBut d.zb) hR))
  refine wpAny_bind (fb.ends _ _ _ R3 fun g4 e e4 he => ?_)
  obtain ⟨oe, h1, h2⟩ := he
  have iz4 : IsZip g4 z TI TP .ellipsis := e4 _ _ d.bz.symm (e3.extBut _ _ d.tpz.symm (e2.extBut _ _ d.az.symm iz1))
  have ne : e ≠ z := fun q => by subst q; rw [iz4] at h1; cases h1; simp at h2
  refine wpAny_setField_rec iz4 (by simp) fun g5 _ e5 => k g5 e (fun c o hc q => ?_) ⟨oe, e5.extBut _ _ ne h1, h2⟩
  have h1 : c ≠ z := fun q => hc (by simp [q])
  have h2 : c ≠ TP := fun q => hc (by simp [q])
  have h3 : c ≠ a := fun q => hc (by simp [q])
  have h4 : c ≠ b := fun q => hc (by simp [q])
  exact e5.extBut _ _ h1 (e4 _ _ h4 (e3.extBut _ _ h2 (e2.extBut _ _ h3 (e1.extBut _ _ h1 q))))
end
section
variable {prog : Program} {w : World} {A : Around} {E : Value → Shared → Prop} {s : Shared}
theorem src_list {i l : Addr} {k : Nat} {xs : Array Value} {x : Value} (hne : l ≠ i) (hx : xs[k]? = some x) : Src prog w A i [i, l] (fun h => h.IsListIter i l k ∧ h.IsList l xs) (fun h => h.IsListIter i l (k + 1) ∧ h.IsList l xs) x where
  st := fun h h' kp ⟨h1, o, h2, h3⟩ => ⟨h1.at fun o e => kp i (by simp) o e, o, kp l (by simp) _ h2, h3⟩
  st' := fun h h' kp ⟨h1, o, h2, h3⟩ => ⟨h1.at fun o e => kp i (by simp) o e, o, kp l (by simp) _ h2, h3⟩
  gives := fun s Q E ⟨h1, h2⟩ k => wpAny_nextOf_list_item h1 h2 hx fun h' h3 sb => k h' ⟨h3, h2.extBut sb.extBut hne⟩ sb
theorem src_listE {i l : Addr} {k : Nat} {xs : Array Value} (hh : A.handled = none) (hx : xs[k]? = none) : SrcE prog w A i [i, l] (fun h => h.IsListIter i l k ∧ h.IsList l xs) where
  st := fun h h' kp ⟨h1, o, h2, h3⟩ => ⟨h1.at fun o e => kp i (by simp) o e, o, kp l (by simp) _ h2, h3⟩
  ends := fun s Q E ⟨h1, h2⟩ k => wpAny_nextOf_list_end hh h1 h2 hx k
theorem src_tup {i l : Addr} {k : Nat} {xs : Array Value} {x : Value} (hne : l ≠ i) (hx : xs[k]? = some x) : Src prog w A i [i, l] (fun h => h.IsTupleIter i l k ∧ h.IsTuple l xs) (fun h => h.IsTupleIter i l (k + 1) ∧ h.IsTuple l xs) x where
  st := fun h h' kp ⟨h1, o, h2, h3⟩ => ⟨h1.at fun o e => kp i (by simp) o e, o, kp l (by simp) _ h2, h3⟩
  st' := fun h h' kp ⟨h1, o, h2, h3⟩ => ⟨h1.at fun o e => kp i (by simp) o e, o, kp l (by simp) _ h2, h3⟩
  gives := fun s Q E ⟨h1, h2⟩ k => RZ.nextOf_tuple_item h1 h2 hx fun h' h3 sb => k h' ⟨h3, h2.extBut sb.extBut hne⟩ sb
theorem src_tupE {i l : Addr} {k : Nat} {xs : Array Value} (hh : A.handled = none) (hx : xs[k]? = none) : SrcE prog w A i [i, l] (fun h => h.IsTupleIter i l k ∧ h.IsTuple l xs) where
  st := fun h h' kp ⟨h1, o, h2, h3⟩ => ⟨h1.at fun o e => kp i (by simp) o e, o, kp l (by simp) _ h2, h3⟩
  ends := fun s Q E ⟨h1, h2⟩ k => RZ.nextOf_tuple_end hh h1 h2 hx k
theorem py_zip {z TI TP : Addr} {Q : Option Value → Shared → Prop} (iz : IsZip s.heap z TI TP .none)
    (h : wpAny (model prog w) A.in1 (Builtin.«zip.__next__» ⟨[.ref z], []⟩) (fun fin t => ∃ v, fin = .done (.ret v) ∧ Q (some v) t) (fun e t => (∃ o a, e = .ref a ∧ t.heap.get? a = some o ∧ o.cls = .type "StopIteration") ∧ Q none t) s) : wpAny (model prog w) A (pyNext (.ref z)) Q E s := by
  have ty : s.TypeIs (.ref z) "zip" := ⟨_, iz, rfl⟩
  unfold pyNext
  refine wpAny_bind (wpAny_attempt (wpAny_callSpecial?_slot (name := Str.ofString "__next__") ty F.slot_zip_next (wpAny_call_entry F.slot_zip_next ty F.entry_zip_next ?_ (F.args_zip_next_1 _))))
  refine wpAny_mono h ?_ ?_
  · rintro fin t ⟨v, rfl, q⟩
    exact ⟨v, rfl, wpAny_pure q⟩
  · rintro e t ⟨⟨o, a, rfl, ho, hc⟩, q⟩
    exact wpAny_bind (wpAny_isInstance (T := "StopIteration") (b := true) ⟨o, ho, hc⟩ isSubtype_stop (wpAny_pure q))
/-- the cells that zip(list, tuple) makes -/
abbrev mx1 (h : Heap) (l : Addr) : Heap := h.push { cls := .type "list_iterator", data := .fields #[.ref l, .int 0 0] }
abbrev mx2 (h : Heap) (l t : Addr) : Heap := (mx1 h l).push { cls := .type "tuple_iterator", data := .fields #[.ref t, .int 0 0] }
abbrev mx3 (h : Heap) (l t : Addr) : Heap := (mx2 h l t).push { cls := .type "tuple", data := .seq #[.ref h.objs.size, .ref (mx1 h l).objs.size] }
abbrev mx4 (h : Heap) (l t : Addr) : Heap := (mx3 h l t).push { cls := .type "tuple", data := .seq #[.none, .none] }
abbrev mx5 (h : Heap) (l t : Addr) : Heap := (mx4 h l t).push { cls := .type "zip", data := .fields #[.none, .bool false, .bool false, .ref (mx2 h l t).objs.size, .ref (mx3 h l t).objs.size] }
theorem mx_new (l t : Addr) (xs ys : Array Value) : Meets (Builtin.«zip.__new__» ⟨[.type "zip", .ref l, .ref t], []⟩) (fun _ R s => s.heap.IsList l xs ∧ s.heap.IsTuple t ys ∧ R (.ok (.ret (.ref (mx4 s.heap l t).objs.size))) { s with heap := mx5 s.heap l t }) :=
  .of_wp fun prog w A R st hyp => by
    obtain ⟨hp, g, d, tk, os⟩ := st; obtain ⟨il, it, hyp⟩ := hyp
    have sub := sub_zip
    have il' : Heap.IsList (Shared.heap ⟨hp, g, d, tk, os⟩) l xs := il
    have it' : Heap.IsTuple (Shared.heap ⟨hp.push { cls := .type "list_iterator", data := .fields #[.ref l, .int 0 0] }, g, d, tk, os⟩) t ys := Heap.IsTuple.push it _
    wp_walk using wpAny_pyIter_list il', wpAny_pyIter_tuple it'
    exact ⟨_, rfl, hyp⟩
theorem mx_sizes (h : Heap) (l t : Addr) : (mx1 h l).objs.size = h.objs.size + 1 ∧ (mx2 h l t).objs.size = h.objs.size + 2 ∧ (mx3 h l t).objs.size = h.objs.size + 3 ∧ (mx4 h l t).objs.size = h.objs.size + 4 := by
  have a1 : (mx1 h l).objs.size = h.objs.size + 1 := Heap.size_push ..
  have a2 : (mx2 h l t).objs.size = h.objs.size + 2 := by rw [Heap.size_push, a1]
  have a3 : (mx3 h l t).objs.size = h.objs.size + 3 := by rw [Heap.size_push, a2]
  exact ⟨a1, a2, a3, by rw [Heap.size_push, a3]⟩
theorem call_mx {l t : Addr} {xs ys : Array Value} {Q : Value → Shared → Prop} (il : s.heap.IsList l xs) (it : s.heap.IsTuple t ys)
    (k : ∀ h', IsZip h' (s.heap.objs.size + 4) (s.heap.objs.size + 2) (s.heap.objs.size + 3) .none ∧ IsPair h' (s.heap.objs.size + 2) (.ref s.heap.objs.size) (.ref (s.heap.objs.size + 1)) ∧ IsPair h' (s.heap.objs.size + 3) .none .none ∧ h'.IsListIter s.heap.objs.size l 0 ∧ h'.IsTupleIter (s.heap.objs.size + 1) t 0 →
      (∀ c o, s.heap.get? c = some o → h'.get? c = some o) → Q (.ref (s.heap.objs.size + 4)) { s with heap := h' }) : wpAny (model prog w) A (call (.type "zip") [.ref l, .ref t]) Q E s := by
  refine callType_new F.called_zip (by decide) (F.typeCall_zip_2 _ _) (F.newCall_zip_2 _ _) (fun ob => F.args_object_init_3 ob _ _) F.entry_zip_new (mx_new l t xs ys) ⟨il, it, ?_⟩
  obtain ⟨a1, a2, a3, a4⟩ := mx_sizes s.heap l t
  have up5 : ∀ c o, (mx4 s.heap l t).get? c = some o → (mx5 s.heap l t).get? c = some o := fun c o e => Heap.get?_push_of_some _ e
  have up4 : ∀ c o, (mx3 s.heap l t).get? c = some o → (mx5 s.heap l t).get? c = some o := fun c o e => up5 c o (Heap.get?_push_of_some _ e)
  have up3 : ∀ c o, (mx2 s.heap l t).get? c = some o → (mx5 s.heap l t).get? c = some o := fun c o e => up4 c o (Heap.get?_push_of_some _ e)
  have up2 : ∀ c o, (mx1 s.heap l).get? c = some o → (mx5 s.heap l t).get? c = some o := fun c o e => up3 c o (Heap.get?_push_of_some _ e)
  have c5 : (mx5 s.heap l t).get? (mx4 s.heap l t).objs.size = some _ := Heap.get?_push_size _ rfl
  have c4 := up5 _ _ (Heap.get?_push_size (mx3 s.heap l t) (o := { cls := .type "tuple", data := .seq #[.none, .none] }) rfl)
  have c3 := up4 _ _ (Heap.get?_push_size (mx2 s.heap l t) (o := { cls := .type "tuple", data := .seq #[.ref s.heap.objs.size, .ref (mx1 s.heap l).objs.size] }) rfl)
  have c2 := up3 _ _ (Heap.get?_push_size (mx1 s.heap l) (o := { cls := .type "tuple_iterator", data := .fields #[.ref t, .int 0 0] }) rfl)
  have c1 := up2 _ _ (Heap.get?_push_size s.heap (o := { cls := .type "list_iterator", data := .fields #[.ref l, .int 0 0] }) rfl)
  rw [a2, a3, a4] at c5
  rw [a3] at c4
  rw [a1, a2] at c3
  rw [a1] at c2
  show _ ∧ _
  rw [a4]
  exact ⟨⟨_, c5, rfl⟩, k _ ⟨c5, c3, c4, ⟨_, c1, rfl, rfl⟩, ⟨_, c2, rfl, rfl⟩⟩ fun c o e => up2 c o (Heap.get?_push_of_some _ e)⟩
end
/-- the list at a and the tuple at b, in pairs -/
def ItzM (K : PySem.W.Frag) (a b : Addr) : L2.It where
  go i H := ∃ (p q : List V) (x y : V), SqL K H a p ∧ SqT K H b q ∧ p[i]? = some x ∧ q[i]? = some y
  yld i H v H' := ∃ T x y, v = .ref T ∧ H T = none ∧ H' = L2.upd H T (.tup [x, y]) ∧ (∀ p, SqL K H a p → p[i]? = some x) ∧ ∀ q, SqT K H b q → q[i]? = some y
  stop i H := ∃ p q : List V, SqL K H a p ∧ SqT K H b q ∧ (p.length ≤ i ∨ q.length ≤ i)
/-- how the cells made at n stand before the i-th turn -/
structure MxAt (n a b : Nat) (i : Nat) (h : Heap) : Prop where
  iz : IsZip h (n + 4) (n + 2) (n + 3) .none
  ti : IsPair h (n + 2) (.ref n) (.ref (n + 1))
  tp : ∃ x y, IsPair h (n + 3) x y
  la : h.IsListIter n a i
  tb : h.IsTupleIter (n + 1) b i
theorem neA {a b : Nat} (h : a ≠ b) : (a : Addr) ≠ (b : Addr) := h
theorem nm2 {x p q : Nat} (h1 : x ≠ p) (h2 : x ≠ q) : (x : Addr) ∉ ([p, q] : List Addr) := fun h => by
  rcases List.mem_cons.1 h with h | h
  · exact h1 h
  · exact h2 (List.mem_singleton.1 h)
theorem of5 {n c : Nat} (h : (c : Addr) ∈ ([n + 4, n + 2, n + 3, n, n + 1] : List Addr)) : n ≤ c ∧ c ≤ n + 4 := by
  have : c = n + 4 ∨ c = n + 2 ∨ c = n + 3 ∨ c = n ∨ c = n + 1 := by simpa using h
  omega
theorem no4 {n c : Nat} (h : (c : Addr) ∉ ([n + 4, n + 2, n + 3, n, n + 1] : List Addr)) : (c : Addr) ∉ ([n + 4, n + 3, n, n + 1] : List Addr) := fun q => h (by
  have : c = n + 4 ∨ c = n + 3 ∨ c = n ∨ c = n + 1 := by simpa using q
  have : c = n + 4 ∨ c = n + 2 ∨ c = n + 3 ∨ c = n ∨ c = n + 1 := by omega
  simpa using this)
theorem mx_apart {n a b : Nat} (ha : a < n) (hb : b < n) : Apart (n + 4) (n + 2) (n + 3) n (n + 1) [n, a] [n + 1, b] where
  tiz := neA (by omega)
  tpz := neA (by omega)
  az := neA (by omega)
  bz := neA (by omega)
  tpa := neA (by omega)
  tpb := neA (by omega)
  ab := neA (by omega)
  za := nm2 (by omega) (by omega)
  zb := nm2 (by omega) (by omega)
  ta := nm2 (by omega) (by omega)
  tb := nm2 (by omega) (by omega)
  acb := nm2 (by omega) (by omega)
  bca := nm2 (by omega) (by omega)
theorem MxAt.keep {n a b : Nat} {i : Nat} {h h' : Heap} (m : MxAt n a b i h) (k : Kp [n + 4, n + 2, n + 3, n, n + 1] h h') : MxAt n a b i h' := by
  obtain ⟨x, y, e⟩ := m.tp
  exact ⟨k _ (by simp) _ m.iz, k _ (by simp) _ m.ti, ⟨x, y, k _ (by simp) _ e⟩, m.la.at fun o q => k _ (by simp) o q, m.tb.at fun o q => k _ (by simp) o q⟩
theorem MxAt.lt {n a b : Nat} {i : Nat} {h : Heap} (m : MxAt n a b i h) : ∀ c ∈ [n + 4, n + 2, n + 3, n, n + 1], c < h.objs.size := fun c hc => by
  have h1 : (n : Nat) + 4 < h.objs.size := Heap.lt_size m.iz
  exact Nat.lt_of_le_of_lt (of5 hc).2 h1
theorem turn_mx {P : Program} {w : World} {K : PySem.W.Frag} {elts : List Expr} {kk : Nat} {tpos : Pos} {n a b : Nat} (ha : a < n) (hb : b < n) : Turn P w K (.Tuple elts kk tpos) (ItzM K a b) [n + 4, n + 2, n + 3, n, n + 1] (n + 4) (MxAt n a b) where
  mem := by simp
  obj i h m c hc := by
    obtain ⟨x, y, e⟩ := m.tp
    obtain ⟨o1, p1, _, d1⟩ := m.la
    obtain ⟨o2, p2, _, d2⟩ := m.tb
    simp at hc
    rcases hc with rfl | rfl | rfl | rfl | rfl
    · exact ⟨_, m.iz, fun v q => by cases q⟩
    · exact ⟨_, m.ti, fun v q => by cases q⟩
    · exact ⟨_, e, fun v q => by cases q⟩
    · exact ⟨o1, p1, fun v q => by rw [d1] at q; cases q⟩
    · exact ⟨o2, p2, fun v q => by rw [d2] at q; cases q⟩
  keep i h h' m k := m.keep k
  item X eP ew eK cm i pins s σ H E I fp m g := by
    subst eP ew eK
    obtain ⟨p, q, x, y, sp, sq, gx, gy⟩ := g
    obtain ⟨us, ru, lu, _⟩ := I.list sp
    obtain ⟨vs, rv, lv, _⟩ := I.tuple sq
    obtain ⟨u, hu, xu⟩ := ru.get gx
    obtain ⟨v, hv, yv⟩ := rv.get gy
    obtain ⟨x0, y0, tp⟩ := m.tp
    have zl : (n : Nat) + 4 < s.heap.objs.size := Heap.lt_size m.iz
    have ha' : (a : Nat) < n := ha
    have hb' : (b : Nat) < n := hb
    refine py_zip m.iz (zip_gives (mx_apart ha hb) (src_list (neA (by omega)) (by simpa using hu)) (src_tup (neA (by omega)) (by simpa using hv)) m.iz m.ti tp ⟨m.la, lu.isList⟩ ⟨m.tb, lv⟩ fun h1 iz1 tp1 S1 R1 new rest => ?_)
    refine ⟨_, rfl, wpAny_letOwnedTupleGo_zip (s := { s with heap := h1 }) iz1 fun h2 iz2 sb => ?_⟩
    have new2 : IsPair h2 s.heap.objs.size u v := (sb.2 _ (neA (by omega))).trans new
    have rest2 : ∀ c o, c ∉ [n + 4, n + 2, n + 3, n, n + 1] → s.heap.get? c = some o → h2.get? c = some o := fun c o hc e => (sb.2 c (fun z => hc (by simp [z]))).trans (rest c o (no4 hc) e)
    have ob : ObjOk X.prog X.w (L2.upd H s.heap.objs.size (.tup [x, y])) h2 s.heap.objs.size (.tup [x, y]) := ⟨(by decide : 2 ≤ sizeLine), [u, v], .cons xu (.cons yv .nil), ⟨_, new2, rfl, _, rfl⟩⟩
    have I2 := I.turnedNew (t' := s.toks) (ch := [n + 4, n + 2, n + 3, n, n + 1]) rest2 fp (Nat.le_refl _) ob
    refine ⟨.ref s.heap.objs.size, _, I2, rfl, ⟨_, x, y, rfl, I.hok.fresh (Nat.le_refl _), rfl, fun l hl => by rw [I.list_inj hl sp]; exact gx, fun l hl => by rw [I.tuple_inj hl sq]; exact gy⟩, ⟨iz2, ?_, ⟨u, v, ?_⟩, ?_, ?_⟩, fun c hc => ?_⟩
    · exact (sb.2 _ (neA (by omega))).trans (rest _ _ (fun z => by
        have : (n : Nat) + 2 = n + 4 ∨ (n : Nat) + 2 = n + 3 ∨ (n : Nat) + 2 = n ∨ (n : Nat) + 2 = n + 1 := by simpa using z
        omega) m.ti)
    · exact (sb.2 _ (neA (by omega))).trans tp1
    · exact S1.1.at fun o e => (sb.2 _ (neA (by omega))).trans e
    · exact R1.1.at fun o e => (sb.2 _ (neA (by omega))).trans e
    · rw [L2.upd_ne (Nat.ne_of_lt (m.lt c hc))]
      exact (fp c hc).1
  done X eP ew eK cm i pins s σ H E I fp m g := by
    subst eP ew eK
    obtain ⟨p, q, sp, sq, en⟩ := g
    obtain ⟨us, ru, lu, _⟩ := I.list sp
    obtain ⟨vs, rv, lv, _⟩ := I.tuple sq
    have l1 := ru.length
    have l2 := rv.length
    have ha' : (a : Nat) < n := ha
    have hb' : (b : Nat) < n := hb
    obtain ⟨x0, y0, tp⟩ := m.tp
    have fin : ∀ h', (∀ c o, c ∉ [n + 4, n + 3, n, n + 1] → s.heap.get? c = some o → h'.get? c = some o) → Inv X pins σ H { s with heap := h' } := fun h' k => I.turnedL (t' := s.toks) (ch := [n + 4, n + 2, n + 3, n, n + 1]) (fun c o hc e => k c o (no4 hc) e) fp
    refine py_zip m.iz ?_
    by_cases hp : i < p.length
    · have hq : q.length ≤ i := by omega
      obtain ⟨u, hu, xu⟩ := ru.get (List.getElem?_eq_getElem hp)
      exact zip_ends2 (mx_apart ha hb) (src_list (neA (by omega)) (by simpa using hu)) (src_tupE (I.ok.hd cm) (by simp; omega)) m.iz m.ti tp ⟨m.la, lu.isList⟩ ⟨m.tb, lv⟩ fun h' e k ⟨o, h1, h2⟩ => ⟨⟨o, e, rfl, h1, h2⟩, rfl, fin h' k⟩
    · exact zip_ends1 (mx_apart ha hb) (src_listE (I.ok.hd cm) (by simp; omega)) m.iz m.ti tp ⟨m.la, lu.isList⟩ fun h' e k ⟨o, h1, h2⟩ => ⟨⟨o, e, rfl, h1, h2⟩, rfl, fin h' k⟩
  self A i s Q E m h := wpAny_pyIter_zip m.iz h
/-- zip(a, b) walked: two lists, two tuples, or a list and a tuple -/
def iZipM (K : PySem.W.Frag) (ta : TA) : TI := fun σ H R => ta σ H fun vs H1 => ∃ a b p q, vs = [.ref a, .ref b] ∧ SqL K H1 a p ∧ SqT K H1 b q ∧ R (ItzM K a b) H1
theorem pi_zipM {X : Cx} {e e2 : Expr} {ta : TA} {p pos tpos : Pos} {elts : List Expr} {kk : Nat} (hg : Gl X "zip") (hm : X.mg "zip" = none) (ha : PA X [e, e2] ta)
    (hs : starEach [e, e2] X.env = (false, eval e X.env) :: starEach [e2] X.env) (hp : (backTo pos (starEach [e2] X.env)).any (·.1) = false) : PI X (.Tuple elts kk tpos) (.Call (.Name "zip" p) [e, e2] [] pos) (iZipM X.K ta) := by
  refine ⟨fun pins s σ H R I h => PyProof.Rows.Call_ (ld_blt I hg hm PyProof.Rows.boot_zip (PyProof.Rows.callWith_type1 (thn (ha.run pos pins s σ H _ I h) fun us s1 ⟨vs, H1, I1, r1, a, b, p, q, ev, sp, sq, k⟩ => ?_) hs hp))⟩
  subst ev
  cases r1 with
  | cons ra rr =>
    cases rr with
    | cons rb rr =>
      cases rr
      cases ra
      cases rb
      obtain ⟨us, ru, lu, _⟩ := I1.list sp
      obtain ⟨vs, rv, lv, _⟩ := I1.tuple sq
      obtain ⟨o1, g1, _⟩ := id lu.isList
      obtain ⟨o2, g2, _⟩ := id lv
      refine call_mx lu.isList (show s1.heap.IsTuple b vs.toArray from lv) fun h' cells kept => wpAny_pyIter_zip cells.1 ?_
      refine ⟨_, _, _, _, H1, rfl, I1.kept (t' := s1.toks) kept, turn_mx (Heap.lt_size g1) (Heap.lt_size g2), ⟨cells.1, cells.2.1, ⟨_, _, cells.2.2.1⟩, cells.2.2.2.1, cells.2.2.2.2⟩, fun c hc => ?_, k⟩
      have : (s1.heap.objs.size : Nat) ≤ c := (of5 hc).1
      exact I1.fpOk this (I1.hok.fresh this)
end TO

set_option Elab.async false
set_option linter.all false
set_option maxRecDepth 100000
set_option maxHeartbeats 4000000
/-! A list comprehension whose element may raise. -/
namespace TO
open PySem PySem.Spec PyProof.Rows L2
section
variable {M : Model} {A : Around} {E : Value → Shared → Prop} {s : Shared} {Z : Obj → Prop} {base : Heap} {env e0 : Env} {outer : List Env} {L e : Addr}
/-- the frame notes an exception that another frame, or none, holds -/
theorem note_any {fl : Value} {Q : Unit → Shared → Prop} (hZ : PXN.Steady1 Z) (hfr : A.frames = some (env :: outer)) (hf : env.frame = some L) (hkb : base.StaysIn s.heap) (hen : base.get? e = none) (hl : s.heap.FunFrames base (env :: outer))
    (ht : HandSPX.TracedZ s.heap base e Z fl) (hne : (fl == rawInt L) = false) (hQ : ∀ h', HandSPX.HeldZ base (env :: outer) e Z L h' → s.heap.UpToSlots h' → Q () { s with heap := h' }) : wpAny M A (noteFrame (.ref e) env) Q E s := by
  obtain ⟨oe, vs, T, oT, ts, he, hz, hd, h1, hnT, hTe, hT, hdT, h3⟩ := ht
  unfold noteFrame
  simp only [hf]
  refine wpAny_bind (wpAny_field he hd h1 ?_)
  rw [if_pos (show (Value.ref T != Value.none) = true from by simp)]
  refine wpAny_bind (wpAny_field hT hdT h3 ?_)
  rw [if_neg (by rw [hne]; decide)]
  refine wpAny_bind (wpAny_setField hT hdT (Array.getElem?_eq_some_iff.mp h3).1 ?_)
  have oth : ∀ b, b ≠ T → (s.heap.update T (Obj.mapFields (·.setIfInBounds 3 Value.none))).get? b = s.heap.get? b := fun b hb => Heap.get?_update_other _ _ (Ne.symm hb)
  have noT : ∀ b o, s.heap.get? b = some o → (∀ vs, o.data ≠ .fields vs) → b ≠ T := fun b o hb hnf q => by
    rw [q, hT] at hb; injection hb with hb; subst hb; exact hnf ts hdT
  refine PXN.wpAny_entryZ hZ hfr (hl.of_keeps fun b o hb hnf => ⟨o, (oth b (noT b o hb hnf)).trans hb, rfl⟩) hf ((oth e (Ne.symm hTe)).trans he)
    (fun b o hbo => (oth b fun q => by rw [q, hnT] at hbo; cases hbo).trans (hkb b o hbo)) hen hd (Array.getElem?_eq_some_iff.mp h1).1 hz fun h' hN => ?_
  obtain ⟨x1, x2, x3, x4⟩ := hN
  exact hQ h' ⟨x1, hen, x2, x3⟩ fun b o hb hnf => x4 b o ((oth b (noT b o hb hnf)).trans hb) hnf
theorem note_same (h : env.frame = e0.frame) (x : Value) : noteFrame x env = noteFrame x e0 := by
  unfold noteFrame PySem.frameOf
  rw [h]
/-- whatever is in the air, the frame holds it -/
theorem sky_note {C : Addr} {Q : Unit → Shared → Prop} (hZ : PXN.Steady1 Z) (hfr : A.frames = some (e0 :: outer)) (hf : e0.frame = some L) (he : env.frame = e0.frame) (x : Sky base (e0 :: outer) e Z C s.heap)
    (hQ : ∀ h', HandSPX.HeldZ base (e0 :: outer) e Z L h' → s.heap.UpToSlots h' → Q () { s with heap := h' }) : wpAny M A (noteFrame (.ref e) env) Q E s := by
  rw [note_same he]
  rcases x with ⟨hB, hn, hl, oe, vs, hx, hz, hd, h1⟩ | ⟨f1, f2, f3, f4⟩ | ⟨f1, f2, f3, f4⟩
  · exact PXN.look_newZ hZ hfr hl hf hx hB hn hd h1 hz hQ
  · exact note_any hZ hfr hf f1 f2 f3 f4 (by simp [rawInt]) hQ
  · by_cases hC : C = L
    · subst hC
      exact HandSPX.againZ hf f4 (hQ s.heap ⟨f1, f2, f3, f4⟩ (Heap.UpToSlots.refl _))
    · exact note_any hZ hfr hf f1 f2 f3 f4 (by simp [rawInt]; exact fun z => hC (Int.ofNat.inj z)) hQ
/-- what a comprehension's block leaves -/
def postX (M : Model) (A : Around) (E : Value → Shared → Prop) (env : Env) (use : Option (Value → Sem Unit)) (Q : Value → Shared → Prop) (acc : Value) (C : Addr) (r : Result) (s' : Shared) : Prop := match r with
  | .ok f => compPost M A E use Q acc C (.ok f) s'
  | .error x => ∃ m, s'.heap.Ns C m ∧ ∀ h', Heap.SameBut C s'.heap h' → ∀ cenv : Env, cenv.locals = C → cenv.frame = env.frame → wpAny M A (passOn "comprehension.variables-let-go" x cenv : Sem Value) (fun _ _ => False) E { s' with heap := h' }
theorem comprehension_X {x : Expr} {scope : Scope} {pos : Pos} {newAcc first : Sem Value} {g : Comprehension} {gs : List Comprehension} {cl : List (Str × Addr)} {use : Option (Value → Sem Unit)} {Q : Value → Shared → Prop}
    (hcl : clausesOf x = g :: gs) (hs : ∀ x, foldedSetIterable g.iter env x = pure x) (hclos : closureFor scope env = pure cl) (hkind : scope.kind = .function) (hnames : ∀ x ∈ scope.names, x.2 = .local → scope.names.lookup x.1 = some .local)
    (h : wpAny M A first (fun v s₁ => wpAny M A (pyIter v) (fun it s₂ => wpAny M A newAcc (fun acc s₃ => wpAny M A (newFunctionEnv scope env.globals cl [] env.qual none .none (some env)) (fun cenv s₄ =>
      cenv.frame = env.frame ∧ codeAny M A (.compStart x 0 it acc { cenv with scope := relabel scope env }) (postX M A E env use Q acc cenv.locals) s₄) E s₃) E s₂) E s₁) E s) :
    wpAny M A (comprehension x scope env pos newAcc false first use) Q E s := by
  unfold comprehension
  rw [hclos, hcl]
  refine wpAny_bind (wpAny_mono h (fun v s₁ h₁ => wpAny_bind (wpAny_standAt (wpAny_bind (wpAny_of_eq (hs v) (wpAny_bind (wpAny_holding (wpAny_mono h₁ (fun it s₂ h₂ =>
    wpAny_standIf (wpAny_bind (wpAny_mono h₂ (fun acc s₃ h₃ => wpAny_bind (wpAny_pure (wpAny_bind (wpAny_mono h₃ (fun cenv s₄ h₄ => ?_) fun _ _ z => z)))) fun _ _ z => z))) fun _ _ z => z))))))) fun _ _ z => z)
  dsimp only
  obtain ⟨hfr, h₄⟩ := h₄
  have loc : ∀ p ∈ (scope.names.filter fun x => (x.2 == .local || x.2 == .cell) && x.1 != (".0" : Str)).reverse, p.2 = .local → Env.kindOf { cenv with scope := relabel scope env } p.1 = some .local :=
    fun p hp q => lookup_relabel_local (hnames p (List.mem_filter.mp (List.mem_reverse.mp hp)).1 q)
  refine wpAny_holding (wpAny_bind (wpAny_attempt (wpAny_holding (wpAny_run (codeAny_mono h₄ fun r s' hr => ?_)))))
  cases r with
  | ok f =>
    cases use with
    | none =>
      obtain ⟨m, hn, hr⟩ := hr
      exact wpAny_bind (wpAny_holding (wpAny_comp_letGo (cenv := { cenv with scope := relabel scope env }) hkind _ s' m loc hn fun h' m' _ sb => wpAny_pure (hr h' sb)))
    | some u =>
      refine wpAny_bind (wpAny_rule (wpAny_bind (wpAny_holding (wpAny_mono hr (fun _ s'' hr' => ?_) fun _ _ z => z))))
      obtain ⟨m, hn, hr'⟩ := hr'
      refine wpAny_bind (wpAny_comp_letGo (cenv := { cenv with scope := relabel scope env }) hkind _ s'' m (fun p hp q => ?_) hn fun h' m' _ sb => wpAny_pure (hr' h' sb))
      rcases List.mem_append.mp hp with z | z
      · exact loc p (List.mem_of_mem_drop z) q
      · exact loc p (List.mem_of_mem_take z) q
  | error y =>
    obtain ⟨m, hn, hr⟩ := hr
    exact wpAny_bind (wpAny_holding (wpAny_comp_letGo (cenv := { cenv with scope := relabel scope env }) hkind _ s' m loc hn fun h' m' _ sb => wpAny_mono (hr h' sb _ rfl hfr) (fun _ _ f => f.elim) fun _ _ z => z))
end
/-- the context of a block whose exceptions go to xe -/
abbrev blkX (X : Cx) (s : Shared) (H : Hp) (scope : Scope) (cenv : Env) (fp : List Addr) (xe : Value → Shared → Prop) : Cx := { X.blk s H scope cenv fp with xe := xe }
theorem frames_but {h h' base : Heap} {C : Addr} : ∀ {l : List Env}, h.FunFrames base l → C ∉ frs l → Heap.SameBut C h h' → h'.FunFrames base l
  | [], _, _, _ => trivial
  | env :: l, x, hC, sb => by
    obtain ⟨hk, ⟨L, o, hf, hb, ho, hd⟩, hr⟩ := x
    refine ⟨hk, ⟨L, o, hf, hb, ?_, hd⟩, frames_but hr (fun z => hC ?_) sb⟩
    · exact (sb.2 L fun z => hC (by rw [← z]; exact List.mem_filterMap.mpr ⟨env, List.mem_cons_self, hf⟩)).trans ho
    · obtain ⟨e, he, q⟩ := List.mem_filterMap.mp z
      exact List.mem_filterMap.mpr ⟨e, List.mem_cons_of_mem _ he, q⟩
theorem ns_slots {h h' : Heap} {C : Addr} {m : Str → Option Value} (n : h.Ns C m) (u : h.UpToSlots h') : h'.Ns C m := by
  obtain ⟨o, es, ep, e, hd, r⟩ := n
  obtain ⟨sl, q⟩ := u C o e fun vs z => by rw [hd] at z; cases z
  exact ⟨_, es, ep, q, hd, r⟩
section
variable {X : Cx} {pins : List (Addr × Obj)} {σ : L2.St} {H3 : Hp} {s3 : Shared} {W : WX} {Ek : XK}
theorem takes_blk {scope : Scope} {cl : List (Str × Addr)} {fp : List Addr} {use : Option (Value → Sem Unit)} {Qf : Value → Shared → Prop} {acc : Value} (I3 : Inv X pins σ H3 s3) (hs : X.stack = X.env :: X.outer) (hf : X.env.frame = some X.env.locals) (tk : L2N.Takes X (fun cls d _ H => Ek cls d H))
    (f3 : ∀ b ∈ fp, FpOk X pins H3 b ∧ b < s3.heap.objs.size) :
    L2N.Takes (blkX X s3 H3 scope (compEnvC scope cl s3.heap.objs.size X.env) fp (notedBy (model X.prog X.w) X.A (compEnvC scope cl s3.heap.objs.size X.env) (fun e s' => postX (model X.prog X.w) X.A X.xe X.env use Qf acc s3.heap.objs.size (.error e) s'))) (fun cls d _ H => Ek cls d H) := by
  rintro u s' ⟨a, B, sI, pins', σ', H', cls, d, rfl, J, nb, up, sky, na, os, ag, w⟩
  have hfr : X.A.frames = some (X.env :: X.outer) := by rw [I3.ok.frames, hs]
  have sky : Sky B X.stack a (L2N.Zn cls d) s3.heap.objs.size s'.heap := sky
  rw [hs] at sky
  refine sky_note L2N.Zn.steady hfr hf (show (compEnvC scope cl s3.heap.objs.size X.env).frame = X.env.frame from rfl) sky fun h1 held up1 => ?_
  rw [← hs] at held
  obtain ⟨m, hn, _⟩ := J.loc
  have hn : sI.heap.Ns s3.heap.objs.size m := hn
  have nC : H' s3.heap.objs.size = none := J.free
  have hn1 : h1.Ns s3.heap.objs.size m := ns_slots hn (up.trans up1)
  refine ⟨m, hn1, fun h2 sb cenv hl hcf => ?_⟩
  obtain ⟨g1, g2, g3, oe, vs, T, oT, ts, he, hz, hd, hv1, hnT, hTe, hT, hdT, h3⟩ := held
  obtain ⟨oC, es, ep, hoC, hdC, _⟩ := hn1
  have aC : a ≠ s3.heap.objs.size := fun z => by rw [z, hoC] at he; cases he; rw [hdC] at hd; cases hd
  have TC : T ≠ s3.heap.objs.size := fun z => by rw [z, hoC] at hT; cases hT; rw [hdC] at hdT; cases hdT
  have he2 : h2.get? a = some oe := (sb.2 a aC).trans he
  have hT2 : h2.get? T = some oT := (sb.2 T TC).trans hT
  have stkC : s3.heap.objs.size ∉ frs X.stack := fun z => by
    obtain ⟨_, o, q, _⟩ := I3.stack.mem z
    exact absurd (Heap.lt_size q) (Nat.lt_irrefl _)
  have below : ∀ {b : Addr} {o : Obj}, s3.heap.get? b = some o → b ∉ [s3.heap.objs.size] := fun {b o} q z => by
    rw [List.mem_singleton.mp z] at q
    exact absurd (Heap.lt_size q) (Nat.lt_irrefl _)
  have u0 : Un (frs X.stack) fp H3 H' s3.heap sI.heap := J.base
  have J2 : Inv X pins σ H' { sI with heap := PySem.W.hideAll sI.heap [s3.heap.objs.size] } := by
    refine I3.call' (ch := fp) J.os ⟨fun b o q n hb hx => PySem.W.hideAll_get _ (u0.keep b o q n hb hx) (below q), fun b o q n hb hx => ?_, u0.free, fun b o q hx => ?_, u0.tups, u0.frzs, u0.tbls⟩ (fun b o q => ?_) J.bare fun b hb => ⟨(f3 b hb).1.2.2.2.1, (f3 b hb).1.2.1, (f3 b hb).1.2.2.2.2.1, (f3 b hb).1.2.2.2.2.2⟩
    · obtain ⟨sl, z⟩ := u0.slot b o q n hb hx
      exact ⟨sl, PySem.W.hideAll_get _ z (below q)⟩
    · obtain ⟨o', z⟩ := u0.there b o q hx
      exact ⟨o', PySem.W.hideAll_get _ z (below q)⟩
    · refine (J.hok b o q).stay (fun c v hc r => PySem.W.hideAll_get _ r fun z => ?_) (fun _ z => z) (fun _ _ z => z)
      have z := List.mem_singleton.mp z
      rcases hc with hc | hc
      · rw [← hc, z, nC] at q; cases q
      · rw [z, nC] at hc; cases hc
  have nothid : ∀ {b : Addr} {o : Obj} {h : Heap}, (PySem.W.hideAll h [s3.heap.objs.size]).get? b = some o → h.get? b = some o ∧ b ≠ s3.heap.objs.size := fun {b o h} q => ⟨PySem.W.of_hideAll _ q, fun z => by
    rw [z, PySem.W.hideAll_none [s3.heap.objs.size] (List.mem_singleton.mpr rfl)] at q
    cases q⟩
  have hB2 : (PySem.W.hideAll B [s3.heap.objs.size]).StaysIn h2 := fun b o q => by
    obtain ⟨q1, q2⟩ := nothid q
    exact (sb.2 b q2).trans (g1 b o q1)
  have noneB : ∀ {b : Addr}, B.get? b = none → (PySem.W.hideAll B [s3.heap.objs.size]).get? b = none := fun {b} q => by
    cases r : (PySem.W.hideAll B [s3.heap.objs.size]).get? b with
    | none => rfl
    | some o => rw [(nothid r).1] at q; cases q
  have fr2 : h2.FunFrames (PySem.W.hideAll B [s3.heap.objs.size]) X.stack := by
    refine funFrames_none (base := B) (frames_but g3 stkC sb) fun L hL => noneB ?_
    obtain ⟨q, _⟩ := g3.mem hL
    exact q
  unfold PySem.passOn
  refine wpAny_bind (wpAny_field he2 hd hv1 ?_)
  rw [if_neg (by simp)]
  refine wpAny_bind ?_
  rw [hcf, hf]
  refine HandSPX.setFlight_anyZ (fr := some X.env.locals) (Z := L2N.Zn cls d) hB2 fr2 ⟨oe, vs, T, oT, ts, he2, hz, hd, hv1, noneB hnT, hTe, hT2, hdT, h3⟩ fun h4 k1 k2 k3 k4 => ?_
  refine wpAny_throw (tk _ _ ⟨a, PySem.W.hideAll B [s3.heap.objs.size], { sI with heap := PySem.W.hideAll sI.heap [s3.heap.objs.size] }, pins, σ, H', cls, d, rfl, J2, fun b o q hb => ?_, fun b o q hnf => ?_, .inr (.inr ⟨k1, noneB g2, k2, k3⟩), na, os, ag, w⟩)
  · obtain ⟨q1, q2⟩ := nothid q
    exact PySem.W.hideAll_get _ (nb b o q1 hb) fun z => q2 (List.mem_singleton.mp z)
  · obtain ⟨q1, q2⟩ := nothid q
    obtain ⟨sl, q3⟩ := (up.trans up1) b o q1 hnf
    obtain ⟨sl2, q4⟩ := k4 b _ ((sb.2 b q2).trans q3) hnf
    exact ⟨sl2, q4⟩
theorem pe_lcX {elt tg iter : Expr} {ifs : List Expr} {scope : Scope} {own : List (Str × Nat)} {pos : Pos} {wi : TI} {g : TG} {tt : TT} {te : TE} (hc : X.calm = true) (hN : X.N.Nodup) (hst : X.stack = X.env :: X.outer) (hfr : X.env.frame = some X.env.locals) (tk : L2N.Takes X (fun cls d _ H => Ek cls d H)) (hi : PI X tg iter wi) (ok : BlkOk X.N X.env.scope scope own)
    (hg : ∀ (s : Shared) (H : Hp) (C : Addr) (cl : List (Str × Addr)) (fp : List Addr) (xe : Value → Shared → Prop), L2N.Takes (blkX X s H scope (compEnvC scope cl C X.env) fp xe) (fun cls d _ H => Ek cls d H) → PG (blkX X s H scope (compEnvC scope cl C X.env) fp xe) tg g)
    (ht : ∀ (s : Shared) (H : Hp) (C : Addr) (cl : List (Str × Addr)) (fp : List Addr) (xe : Value → Shared → Prop), L2N.Takes (blkX X s H scope (compEnvC scope cl C X.env) fp xe) (fun cls d _ H => Ek cls d H) → PTs (blkX X s H scope (compEnvC scope cl C X.env) fp xe) ifs tt)
    (he : ∀ (s : Shared) (H : Hp) (C : Addr) (cl : List (Str × Addr)) (fp : List Addr) (xe : Value → Shared → Prop), L2N.Takes (blkX X s H scope (compEnvC scope cl C X.env) fp xe) (fun cls d _ H => Ek cls d H) → PE (blkX X s H scope (compEnvC scope cl C X.env) fp xe) elt te)
    (hs : ∀ x, foldedSetIterable iter X.env x = pure x) : PE X (.ListComp elt [⟨tg, iter, ifs, 0⟩] scope pos) (tLc wi g tt te (own.map (·.2))) := by
  refine ⟨fun pins s σ H Q I h => ?_⟩
  rw [eval_ListComp]
  have hfree : ∀ y ∈ scope.names, y.2 = .free → ∃ c, X.env.cells.lookup y.1 = some c := fun y hy e => by
    rcases ok.free y hy e with k | k
    · exact I.ok.has _ (.inl k)
    · exact I.ok.has _ (.inr k)
  refine comprehension_X (use := none) rfl hs (closure_ok hfree) ok.kind (fun y hy e => by rw [ok.uniq y hy, e]) (thn (hi.run pins s σ H _ I h) fun xv s1 hx => thn hx fun itv s2 h2 => ?_)
  obtain ⟨it, fp, tn, J, H2, e, I2, T, st2, f2, q⟩ := h2
  subst e
  refine wpAny_newObj_type (newEnv_comp ⟨rfl, ?_⟩) (by show 0 ≤ sizeLine; decide)
  generalize hD : s2.heap.objs.size = D
  obtain ⟨W, ⟨m0, w0⟩, turn⟩ := q D (I2.hok.fresh (Nat.le_of_eq hD))
  generalize hs3 : ({ s2 with heap := s2.heap.push { cls := .type "list", data := .seq ([] : List Value).toArray } } : Shared) = s3
  have h3 : s3.heap = s2.heap.push { cls := .type "list", data := .seq ([] : List Value).toArray } := by rw [← hs3]
  have I3 : Inv X pins σ (upd H2 D (.lst [])) s3 := by
    rw [← hs3]
    refine I2.laid (t' := s2.toks) (fun b o e => Heap.get?_push_of_some _ e) (Nat.le_of_eq hD) ⟨Nat.zero_le _, [], 0, .nil, ?_⟩
    rw [← hD]
    exact Heap.get?_push_size _ rfl
  have f3 : ∀ b ∈ fp, FpOk X pins (upd H2 D (.lst [])) b ∧ b < s3.heap.objs.size := fun b hb => by
    obtain ⟨o, e, _⟩ := T.obj _ _ st2 b hb
    have hlt := Heap.lt_size e
    refine ⟨⟨?_, (f2 b hb).2⟩, by rw [h3, Heap.size_push]; exact Nat.lt_succ_of_lt hlt⟩
    rw [upd_ne (by rw [← hD]; exact Nat.ne_of_lt hlt)]
    exact (f2 b hb).1
  have nfp : ∀ b ∈ fp, (upd H2 D (.lst [])) b = none := fun b hb => (f3 b hb).1.1
  generalize hH3 : upd H2 D (.lst []) = H3 at I3 w0 nfp f3
  have I4 := block_start I3 ok hN f3
  have tkB := takes_blk (scope := scope) (cl := cellsFrom (s3.heap.objs.size + 1) scope.names (cloFrom X.env.cells scope.names [])) (use := none) (Qf := EP X pins σ Q) (acc := .ref D) I3 hst hfr tk f3
  have pg := hg _ _ _ _ _ _ tkB
  have pt := ht _ _ _ _ _ _ tkB
  have pe := he _ _ _ _ _ _ tkB
  show codeAny _ _ (.compStart (.ListComp elt [⟨tg, iter, ifs, 0⟩] scope pos) 0 (.ref it) (.ref D) (compEnvC scope (cellsFrom (s3.heap.objs.size + 1) scope.names (cloFrom X.env.cells scope.names [])) s3.heap.objs.size X.env)) (postX (model X.prog X.w) X.A X.xe X.env none (EP X pins σ Q) (.ref D) s3.heap.objs.size) { s3 with heap := pushCells (s3.heap.push { cls := .type "dict", data := .dict #[] }) scope.names }
  generalize hce : compEnvC scope (cellsFrom (s3.heap.objs.size + 1) scope.names (cloFrom X.env.cells scope.names [])) s3.heap.objs.size X.env = ce at I4 tkB pg pt pe ⊢
  have cL : ce.locals = s3.heap.objs.size := by subst hce; rfl
  generalize hxe : notedBy (model X.prog X.w) X.A ce (fun e s' => postX (model X.prog X.w) X.A X.xe X.env none (EP X pins σ Q) (.ref D) s3.heap.objs.size (.error e) s') = xe at tkB pg pt pe
  replace I4 : Inv (blkX X s3 H3 scope ce fp xe) [] (wipe σ (own.map (·.2))) H3 { s3 with heap := pushCells (s3.heap.push { cls := .type "dict", data := .dict #[] }) scope.names } := I4.wish xe
  generalize hs4 : ({ s3 with heap := pushCells (s3.heap.push { cls := .type "dict", data := .dict #[] }) scope.names } : Shared) = s4 at I4 ⊢
  have st4 : tn 0 s4.heap := T.keep _ _ _ st2 fun b _ o e => by rw [← hs4]; exact pushCells_keeps _ _ _ _ (Heap.get?_push_of_some _ (by rw [h3]; exact Heap.get?_push_of_some _ e))
  have stat : ∀ {σ' : L2.St} {H' : Hp} {s' : Shared}, Inv (blkX X s3 H3 scope ce fp xe) [] σ' H' s' → (∀ b ∈ fp, H' b = none) → ∀ b ∈ fp, FpOk (blkX X s3 H3 scope ce fp xe) [] H' b := fun {σ' H' s'} I' hn b hb =>
    ⟨hn b hb, (I'.ok.exf b hb).1, I'.ok.exfs b hb, .inl hb, fun x c e => (I'.ok.exf b hb).2 x c e, fun p hp => absurd (show p ∈ ([] : List (Addr × Obj)) ++ [] from hp) (by simp)⟩
  have loop : codeAny (model X.prog X.w) X.A (.compLoop (.ListComp elt [⟨tg, iter, ifs, 0⟩] scope pos) 0 (.ref it) (.ref D) ce) (postX (model X.prog X.w) X.A X.xe X.env none (EP X pins σ Q) (.ref D) s3.heap.objs.size) s4 := by
    refine compLoop_any (fun n s' => ∃ i H', Inv (blkX X s3 H3 scope ce fp xe) [] (wipe σ (own.map (·.2))) H' s' ∧ tn i s'.heap ∧ (∀ b ∈ fp, H' b = none) ∧ W i n H') ?_ m0 ⟨0, H3, I4, st4, nfp, w0⟩
    rw [hxe]
    rintro n s5 ⟨i, H5, I5, st5, n5, w5⟩
    rcases turn i n H5 w5 with ⟨stop, qq⟩ | ⟨go, Nx, hNx, step⟩
    · refine thnF (T.done (blkX X s3 H3 scope ce fp xe) rfl rfl rfl hc i [] s5 _ H5 (fun _ _ => False) I5 (stat I5 n5) st5 stop) fun r s6 ⟨hr, I6⟩ => ?_
      subst hr
      have I7 : Inv X pins σ H5 s6 := I3.call' (ch := fp) I6.os I6.base I6.hok I6.bare fun b hb => ⟨(f3 b hb).1.2.2.2.1, (f3 b hb).1.2.1, (f3 b hb).1.2.2.2.2.1, (f3 b hb).1.2.2.2.2.2⟩
      have nC : H5 s3.heap.objs.size = none := by
        have z : H5 ce.locals = none := I6.free
        rw [cL] at z
        exact z
      obtain ⟨m, hn, _⟩ := I6.loc
      have hn : s6.heap.Ns ce.locals m := hn
      rw [cL] at hn
      obtain ⟨c0, c1, c2, c3, c4, c5⟩ := I3.fpOk (Nat.le_refl _) nC
      exact ⟨m, hn, fun h'' sb => ⟨.ref D, H5, I7.turned (t' := s6.toks) (fun b o hb e => (sb.2 b hb).trans e) c0 c1 c3 c4 c5, rfl, qq⟩⟩
    · refine thnF (T.item (blkX X s3 H3 scope ce fp xe) rfl rfl rfl hc i [] s5 _ H5 (fun _ _ => False) I5 (stat I5 n5) st5 go) fun r s6 ⟨u, hr, h6⟩ => ?_
      subst hr
      refine thnF h6 fun _ s7 ⟨x, H7, I7, r7, y7, st7, n7⟩ => ?_
      refine thn (pg.run _ s7 _ H7 x u _ (I7.pinned (stat I7 n7) (T.obj _ _ st7)) r7 (step x H7 y7)) fun _ s8 ⟨σ8, H8, I8, hw8, q8⟩ => ?_
      refine thn (pt.run _ s8 σ8 H8 _ I8 q8) fun b s9 ⟨H9, I9, q9⟩ => ?_
      have fin : ∀ {s' : Shared} {H' : Hp}, Inv (blkX X s3 H3 scope ce fp xe) ([] ++ pinsAt fp s7.heap) σ8 H' s' → Nx H' → ∃ m, m < n ∧ ∃ i H', Inv (blkX X s3 H3 scope ce fp xe) [] (wipe σ (own.map (·.2))) H' s' ∧ tn i s'.heap ∧ (∀ b ∈ fp, H' b = none) ∧ W i m H' := fun {s' H'} I' nx => by
        obtain ⟨m', hm, w'⟩ := hNx H' nx
        have pin' : ∀ b ∈ fp, ∀ o, s7.heap.get? b = some o → s'.heap.get? b = some o ∧ H' b = none := fun b hb o e =>
          let z := I'.pin (b, o) (List.mem_append_right _ (List.mem_append_right _ (mem_pinsAt hb e)))
          ⟨z.1, z.2.1⟩
        have hl : (wipe σ (own.map (·.2))).length = σ8.length := by rw [← hw8, wipe_length]
        refine ⟨m', hm, i + 1, H', (I'.unpinned (pins := [])).weak hl (fun j v e => ?_), T.keep _ _ _ st7 fun b hb o e => (pin' b hb o e).1, fun b hb => ?_, w'⟩
        · rw [← hw8] at e
          exact (wipe_some e).1
        · obtain ⟨o, e, _⟩ := T.obj _ _ st7 b hb
          exact (pin' b hb o e).2
      cases b with
      | false =>
        simp only [Bool.false_eq_true, if_false] at q9 ⊢
        exact fin I9 q9
      | true =>
        simp only [if_true] at q9 ⊢
        refine thn (pe.run _ s9 σ8 H9 _ I9 q9) fun z s10 ⟨yv, H10, I10, r10, acc, hD10, hz10, nx⟩ => ?_
        exact app_ok (X := blkX X s3 H3 scope ce fp xe) I10 hD10 hz10 r10 fun s11 I11 => fin I11 nx
  exact codeAny_compStart_list loop (T.self X.A 0 _ _ _ st4 loop)
end
end TO

set_option Elab.async false
set_option linter.all false
set_option maxRecDepth 100000
set_option maxHeartbeats 4000000
/-! What a text of the small language asks of a piece of Python, and the tools for showing that the two agree. -/
namespace TO
open PySem PySem.Spec L2

/-! ### the widest readings -/
def WE (X : Cx) (e : Expr) : TE := fun σ H Q => ∀ pins s, Inv X pins σ H s → wpAny (model X.prog X.w) X.A (eval e X.env) (EP X pins σ Q) X.xe s
def WT (X : Cx) (e : Expr) : TT := fun σ H Q => ∀ pins s, Inv X pins σ H s → wpAny (model X.prog X.w) X.A (isTrue e X.env (eval e X.env)) (TP X pins σ Q) X.xe s
def WW (X : Cx) (e : Expr) : TT := fun σ H Q => ∀ (whole : Sem Value) pins s, Inv X pins σ H s → wpAny (model X.prog X.w) X.A (isTrue e X.env whole) (TP X pins σ Q) X.xe s
def WA (X : Cx) (es : List Expr) : TA := fun σ H Q => ∀ pos pins s, Inv X pins σ H s → wpAny (model X.prog X.w) X.A (spliced (backTo pos (starEach es X.env))) (AP X pins σ Q) X.xe s
def WSt (X : Cx) (st : Stmt) : TS := fun De σ H => ∀ pins s, Inv X pins σ H s → wpAny (model X.prog X.w) X.A (PySem.exec st X.env) (SP X pins De) X.xe s
def WSs (X : Cx) (st : List Stmt) : TS := fun De σ H => ∀ pins s, Inv X pins σ H s → wpAny (model X.prog X.w) X.A (PySem.execs st X.env) (SP X pins De) X.xe s
def WOp (X : Cx) (f : Value → Value → Sem Value) : R2 := fun x y H Q => ∀ pins s σ v u, Inv X pins σ H s → RelV x v → RelV y u → wpAny (model X.prog X.w) X.A (f v u) (EP X pins σ Q) X.xe s
section
variable {X : Cx} {e : Expr} {es : List Expr} {st : Stmt} {sts : List Stmt} {σ : L2.St} {H : Hp}
theorem pWE : PE X e (WE X e) := ⟨fun pins s σ H Q I h => h pins s I⟩
theorem pWT : PT X e (WT X e) := ⟨fun pins s σ H Q I h => h pins s I⟩
theorem pWW : PW X e (WW X e) := ⟨fun w pins s σ H Q I h => h w pins s I⟩
theorem pWA : PA X es (WA X es) := ⟨fun pos pins s σ H Q I h => h pos pins s I⟩
theorem pWSt : PS X st (WSt X st) := ⟨fun pins s σ H De I h => h pins s I⟩
theorem pWSs : PSs X sts (WSs X sts) := ⟨fun pins s σ H De I h => h pins s I⟩
theorem pWOp {f : Value → Value → Sem Value} : OpR X f (WOp X f) := fun pins s σ H x y v u Q I rx ry h => h pins s σ v u I rx ry
theorem toWE {t : TE} {Q : VK} (h : PE X e t) (q : t σ H Q) : WE X e σ H Q := fun pins s I => h.run pins s σ H Q I q
theorem toWT {t : TT} {Q : Bool → Hp → Prop} (h : PT X e t) (q : t σ H Q) : WT X e σ H Q := fun pins s I => h.run pins s σ H Q I q
theorem toWW {t : TT} {Q : Bool → Hp → Prop} (h : PW X e t) (q : t σ H Q) : WW X e σ H Q := fun w pins s I => h.run w pins s σ H Q I q
theorem toWA {t : TA} {Q : List V → Hp → Prop} (h : PA X es t) (q : t σ H Q) : WA X es σ H Q := fun pos pins s I => h.run pos pins s σ H Q I q
theorem toWSt {t : TS} {De : Ends} (h : PS X st t) (q : t De σ H) : WSt X st De σ H := fun pins s I => h.run pins s σ H De I q
theorem toWSs {t : TS} {De : Ends} (h : PSs X sts t) (q : t De σ H) : WSs X sts De σ H := fun pins s I => h.run pins s σ H De I q
theorem toOp {f : Value → Value → Sem Value} {r : R2} {x y : V} {Q : VK} (h : OpR X f r) (q : r x y H Q) : WOp X f x y H Q := fun pins s σ v u I rx ry => h pins s σ H x y v u Q I rx ry q
end

/-! ### the setting of a def -/
structure Ct where
  P : Program
  w : World
  K : PySem.W.Frag
  mg : Str → Option Value
  base : Heap
  T : List (Addr × Str)
  cls : Str → Option Addr
  k : Nat
  N : List Str
  lam : Option (Addr × Addr × Str)
def Ct.nl (c : Ct) : Ct := { c with lam := none }
def Ct.dn (c : Ct) : Ct := { c with k := c.k - 2, lam := none }
def BN : List Str := ["len", "tuple", "list", "all", "sum", "int", "max", "min", "isinstance", "bool", "str", "range", "enumerate", "zip", "set", "sorted", "ValueError"]
theorem takesN0 {X : Cx} : L2N.Takes X (fun _ _ _ _ => False) := fun _ _ x => by
  obtain ⟨_, _, _, _, _, _, _, _, _, _, _, _, _, _, _, _, z⟩ := x
  exact z.elim
structure GX (c : Ct) (sc : Scope) (X : Cx) (Ek : XK) : Prop where
  eP : X.prog = c.P
  ew : X.w = c.w
  eK : X.K = c.K
  em : X.mg = c.mg
  eb : X.base = c.base
  eN : X.N = c.N
  nd : X.N.Nodup
  calm : X.calm = true
  room : Room c.k X.A
  tk : L2N.Takes X (fun cls d _ H => Ek cls d H)
  bk : X.env.scope.kind = .function
  loc : ∀ x, sc.names.lookup x = some .local → X.env.scope.names.lookup x = some .local
  cel : ∀ x, sc.names.lookup x = some .cell → X.env.scope.names.lookup x = some .cell ∧ X.fn x = true
  fre : ∀ x, sc.names.lookup x = some .free → X.env.scope.names.lookup x = some .cell ∨ X.env.scope.names.lookup x = some .free
  glo : ∀ x, sc.names.lookup x = some .globalImplicit → Gl X x
  bf : ∀ x ∈ BN, c.mg x = none
  lm : ∀ a P q, c.lam = some (a, P, q) → X.env.code = .ref a ∧ X.env.qual ++ "<lambda>" = q
/-- .. where statements stand -/
structure StX (X : Cx) : Prop where
  own : PassesOwn (model X.prog X.w) X.A X.env X.xe
  hs : X.stack = X.env :: X.outer
  hf : X.env.frame = some X.env.locals
/-- the fields of a lab -/
def labFs (vn : V) (e : Addr) : List (Str × V) := [("n", vn), ("entries", .ref e)]
structure LabAt (G : Hp) (C a : Addr) (d : D) (e : Addr) : Prop where
  at_ : ∃ dx vn, G a = some (.ins C dx (labFs vn e)) ∧ Rp G vn d
theorem LabAt.mono {G G' : Hp} (h : Same G G') {C a : Addr} {d : D} {e : Addr} (l : LabAt G C a d e) : LabAt G' C a d e := by
  obtain ⟨dx, vn, h1, h2⟩ := l.at_
  exact ⟨dx, vn, h a _ h1, Rp.mono h _ _ h2⟩
/-- a slot's value -/
def RS (ad : List (Option Addr)) (G : Hp) : Option Sl → Option V → Prop
  | none, _ => True
  | some (.val d), some v => Rp G v d
  | some (.obj j), some v => ∃ p, ad[j]? = some (some p) ∧ v = .ref p
  | some (.lab C d j), some v => ∃ a e, v = .ref a ∧ ad[j]? = some (some e) ∧ LabAt G C a d e
  | some (.labF C d xs), some v => ∃ a e, v = .ref a ∧ LabAt G C a d e ∧ Rp G (.ref e) (.list xs)
  | some _, none => False
def RE (ad : List (Option Addr)) (G : Hp) (env : En) (σ : L2.St) : Prop := env.length = σ.length ∧ ∀ (i : Nat) s v, env[i]? = some s → σ[i]? = some v → RS ad G s v
section
variable {ad : List (Option Addr)} {G G' : Hp} {env : En} {σ : L2.St}
theorem RE.at (r : RE ad G env σ) {i : Nat} {s : Option Sl} (h : env[i]? = some s) : ∃ v, σ[i]? = some v ∧ RS ad G s v := by
  have hi : i < σ.length := by rw [← r.1]; exact (List.getElem?_eq_some_iff.mp h).1
  exact ⟨σ[i], List.getElem?_eq_getElem hi, r.2 i s _ h (List.getElem?_eq_getElem hi)⟩
theorem RE.val (r : RE ad G env σ) {i : Nat} {d : D} (h : env[i]? = some (some (.val d))) : ∃ v, σ[i]? = some (some v) ∧ Rp G v d := by
  obtain ⟨v, e, q⟩ := r.at h
  cases v with
  | none => exact q.elim
  | some v => exact ⟨v, e, q⟩
theorem RE.obj (r : RE ad G env σ) {i j : Nat} (h : env[i]? = some (some (.obj j))) : ∃ p, σ[i]? = some (some (.ref p)) ∧ ad[j]? = some (some p) := by
  obtain ⟨v, e, q⟩ := r.at h
  cases v with
  | none => exact q.elim
  | some v =>
    obtain ⟨p, h1, rfl⟩ := q
    exact ⟨p, e, h1⟩
theorem RS.mono (h : Same G G') {s : Option Sl} {v : Option V} (r : RS ad G s v) : RS ad G' s v := by
  cases s with
  | none => exact trivial
  | some s =>
    cases s with
    | val d => cases v with
      | none => exact r
      | some v => exact Rp.mono h d v r
    | obj j => cases v with
      | none => exact r
      | some v => exact r
    | lab C d j => cases v with
      | none => exact r
      | some v =>
        obtain ⟨a, e, h1, h2, h3⟩ := r
        exact ⟨a, e, h1, h2, h3.mono h⟩
    | labF C d xs => cases v with
      | none => exact r
      | some v =>
        obtain ⟨a, e, h1, h2, h3⟩ := r
        exact ⟨a, e, h1, h2.mono h, Rp.mono h _ _ h3⟩
theorem RE.lab (r : RE ad G env σ) {i C j : Nat} {d : D} (h : env[i]? = some (some (.lab C d j))) : ∃ a e, σ[i]? = some (some (.ref a)) ∧ ad[j]? = some (some e) ∧ LabAt G C a d e := by
  obtain ⟨v, e, q⟩ := r.at h
  cases v with
  | none => exact q.elim
  | some v =>
    obtain ⟨a, e', rfl, h1, h2⟩ := q
    exact ⟨a, e', e, h1, h2⟩
theorem RE.labF (r : RE ad G env σ) {i C : Nat} {d : D} {xs : List D} (h : env[i]? = some (some (.labF C d xs))) : ∃ a e, σ[i]? = some (some (.ref a)) ∧ LabAt G C a d e ∧ Rp G (.ref e) (.list xs) := by
  obtain ⟨v, e, q⟩ := r.at h
  cases v with
  | none => exact q.elim
  | some v =>
    obtain ⟨a, e', rfl, h1, h2⟩ := q
    exact ⟨a, e', e, h1, h2⟩
theorem RE.mono (h : Same G G') (r : RE ad G env σ) : RE ad G' env σ := ⟨r.1, fun i s v a b => (r.2 i s v a b).mono h⟩
theorem RE.set (r : RE ad G env σ) {s : Option Sl} {v : Option V} (i : Nat) (q : RS ad G s v) : RE ad G (env.set i s) (σ.set i v) := by
  refine ⟨by rw [List.length_set, List.length_set, r.1], fun j s' v' a b => ?_⟩
  by_cases hij : i = j
  · subst hij
    have h1 : i < env.length := by have := (List.getElem?_eq_some_iff.mp a).1; rwa [List.length_set] at this
    rw [List.getElem?_set_self h1] at a
    rw [List.getElem?_set_self (by rw [← r.1]; exact h1)] at b
    cases a; cases b
    exact q
  · rw [List.getElem?_set_ne hij] at a b
    exact r.2 j s' v' a b
theorem RE.wipe (r : RE ad G env σ) : ∀ vs : List Nat, RE ad G (wipeE env vs) (L2.wipe σ vs)
  | [] => r
  | v :: vs => (RE.wipe r vs).set v trivial
theorem RE.more (r : RE ad G env σ) {ad' : List (Option Addr)} (h : ∀ (j : Nat) p, ad[j]? = some (some p) → ad'[j]? = some (some p)) : RE ad' G env σ := by
  refine ⟨r.1, fun i s v a b => ?_⟩
  have q := r.2 i s v a b
  cases s with
  | none => exact trivial
  | some s => cases s with
    | val d => cases v with
      | none => exact q
      | some v => exact q
    | obj j => cases v with
      | none => exact q
      | some v =>
        obtain ⟨p, h1, h2⟩ := q
        exact ⟨p, h j p h1, h2⟩
    | lab C d j => cases v with
      | none => exact q
      | some v =>
        obtain ⟨a, e, h1, h2, h3⟩ := q
        exact ⟨a, e, h1, h j e h2, h3⟩
    | labF C d xs => cases v with
      | none => exact q
      | some v => exact q
end

/-! ### what is promised of a def -/
structure Stp (T : List (Addr × Str)) (Md : Addr → Prop) (G H G' H' : Hp) : Prop where
  up : Same G G'
  sub : Same G' H'
  new : ∀ b o, G' b = some o → G b = some o ∨ H b = none
  ext : Keeps Md H H'
  live : ∀ b, H' b = none → H b = none
  tabs : LamX.Tabs T H'
  flat : ∀ b o, G' b = some o → IsDat o
def spP (c : Ct) (F : List D → Option (Except Str D)) : Sp := fun vs H Q E => ∃ (G : Hp) (ds : List D), Same G H ∧ (∀ b o, G b = some o → IsDat o) ∧ LamX.Tabs c.T H ∧ RpA G vs ds ∧
  match F ds with
  | none => False
  | some (.ok d) => ∀ v G' H', Stp c.T (fun _ => False) G H G' H' → Rp G' v d → Q v H'
  | some (.error x) => ∀ C, c.cls x = some C → ∀ G' H', Stp c.T (fun _ => False) G H G' H' → E (.ref C) none H'
def spM (c : Ct) (F : List D → List D → Option (D × List D)) : Sp := fun vs H Q E => ∃ (G : Hp) (a : Addr) (rest ws : List V) (xs ds : List D), vs = .ref a :: rest ∧ Same G H ∧ (∀ b o, G b = some o → IsDat o) ∧ LamX.Tabs c.T H ∧ G a = none ∧ H a = some (.lst ws) ∧ RpA G ws xs ∧ RpA G rest ds ∧
  match F xs ds with
  | none => False
  | some (d, ys) => ∀ v G' H' ws', Stp c.T (· = a) G H G' H' → G' a = none → H' a = some (.lst ws') → RpA G' ws' ys → Rp G' v d → Q v H'
/-- a def or a method that is handed a lab -/
def spL (c : Ct) (C : Addr) (F : D → List D → List D → Option (Except Str D × List D)) : Sp := fun vs H Q E => ∃ (G : Hp) (a e : Addr) (rest ws : List V) (d : D) (xs ds : List D), vs = .ref a :: rest ∧ Same G H ∧ (∀ b o, G b = some o → IsDat o) ∧ LamX.Tabs c.T H ∧ LabAt G C a d e ∧ G e = none ∧ H e = some (.lst ws) ∧ RpA G ws xs ∧ RpA G rest ds ∧
  match F d xs ds with
  | none => False
  | some (.ok y, ys) => ∀ v G' H' ws', Stp c.T (· = e) G H G' H' → G' e = none → H' e = some (.lst ws') → RpA G' ws' ys → Rp G' v y → Q v H'
  | some (.error x, ys) => ∀ Cx, c.cls x = some Cx → ∀ G' H' ws', Stp c.T (· = e) G H G' H' → G' e = none → H' e = some (.lst ws') → RpA G' ws' ys → E (.ref Cx) none H'
/-- __init__ of a lab -/
def spI (c : Ct) (C : Addr) (F : List D → Option (Except Str D)) : Sp := fun vs H Q E => ∃ (G : Hp) (a dx : Addr) (rest : List V) (ds : List D), vs = .ref a :: rest ∧ Same G H ∧ (∀ b o, G b = some o → IsDat o) ∧ LamX.Tabs c.T H ∧ G a = none ∧ H a = some (.ins C dx []) ∧ RpA G rest ds ∧
  match F ds with
  | none => False
  | some (.ok d) => ∀ vn e G' H', Stp c.T (· = a) G H G' H' → G' a = none → H e = none → G' e = none → H' a = some (.ins C dx (labFs vn e)) → H' e = some (.lst []) → Rp G' vn d → Q .non H'
  | some (.error x) => ∀ Cx, c.cls x = some Cx → ∀ G' H', Stp c.T (· = a) G H G' H' → G' a = none → E (.ref Cx) none H'
structure ClsOk (c : Ct) (C : Addr) : Prop where
  cl : Cls c.K C
  nN : NoAttr c.K C "n"
  nE : NoAttr c.K C "entries"
def MethOk (c : Ct) (C : Addr) (m : Str) (sp : Sp) : Prop := ∃ (fa : Addr) (fd : FuncData) (ps : List Str) (kk : Nat), Meth c.K C m fa ∧ kk ≤ c.k ∧ FnOk c.P c.w c.K c.mg c.base (L2N.CX c.P c.w) kk fa fd ps sp ∧ Binds c.K fd ps []
/-- .. that needs room for one more call -/
def MethOk1 (c : Ct) (C : Addr) (m : Str) (sp : Sp) : Prop := ∃ (fa : Addr) (fd : FuncData) (ps : List Str) (kk : Nat), Meth c.K C m fa ∧ kk + 1 ≤ c.k ∧ FnOk c.P c.w c.K c.mg c.base (L2N.CX c.P c.w) kk fa fd ps sp ∧ Binds c.K fd ps []
/-- a lab's log: a new list -/
def spV (C : Addr) : Sp := fun vs H Q _ => ∃ (a dx e : Addr) (vn : V) (us : List V), vs = [.ref a] ∧ H a = some (.ins C dx (labFs vn e)) ∧ H e = some (.lst us) ∧ ∀ l, H l = none → Q (.ref l) (upd H l (.lst us))
def NewOk (c : Ct) (C : Addr) (sp : Sp) : Prop := ∃ (fa : Addr) (fd : FuncData) (ps : List Str) (kk : Nat), c.mg "Lab" = some (.ref C) ∧ Mk c.K C fa ∧ kk + 1 ≤ c.k ∧ FnOk c.P c.w c.K c.mg c.base (L2N.CX c.P c.w) kk fa fd ps sp ∧ Binds c.K fd ps []
def CallOk (c : Ct) (f : Str) (sp : Sp) : Prop := ∃ (fa : Addr) (fd : FuncData) (ps : List Str) (kk : Nat), c.mg f = some (.ref fa) ∧ kk ≤ c.k ∧ FnOk c.P c.w c.K c.mg c.base (L2N.CX c.P c.w) kk fa fd ps sp ∧ Binds c.K fd ps [] ∧ PySem.W.keepIn c.K (.ref fa) = true
def GlobOk (c : Ct) (x : Str) (d : D) : Prop := ∃ u v, c.mg x = some u ∧ RelV v u ∧ Rp (fun _ => none) v d
/-- the state behind a call -/
theorem SI.stp {n : Ent} {ad : List (Option Addr)} {Fx : Addr → Option (List V)} {G H G' H' : Hp} {m : Mu} {T : List (Addr × Str)} (hT : n.T = T) (s : SI n ad Fx G H m) (t : Stp T (fun _ => False) G H G' H') : SI n ad Fx G' H' m := by
  have keep : ∀ b o, H b = some o → (∀ ps, o ≠ .tbl ps) → H' b = some o := fun b o e q => by
    rcases t.ext b o (fun z => z) e with h | ⟨ps, qs, h1, _⟩
    · exact h
    · exact absurd h1 (q ps)
  have adk : ∀ p o, some p ∈ ad → H p = some o → H' p = some o := fun p o hp e => by
    obtain ⟨vs, hv⟩ := s.adh hp
    refine keep p o e fun ps z => ?_
    rw [hv] at e; cases e; cases z
  refine ⟨t.sub, s.up.trans t.up, s.bs.trans t.up, fun b o e => ?_, s.mu.mono t.up adk, fun p hp => ?_, s.nd, s.adm, s.adl, s.hd, fun p o e => ?_, fun b o hb e => ?_, fun b e => s.live b (t.live b e), by rw [hT]; exact t.tabs, t.flat⟩
  · rcases t.new b o e with h | h
    · exact s.new b o h
    · exact .inr (s.live b h)
  · obtain ⟨vs, hv⟩ := s.adh hp
    cases q : G' p with
    | none => rfl
    | some o =>
      rcases t.new p o q with h | h
      · rw [s.adg p hp] at h; cases h
      · rw [hv] at h; cases h
  · obtain ⟨h1, h2, h3⟩ := s.fx p o e
    have hn : G' p = none := by
      cases q : G' p with
      | none => rfl
      | some o' =>
        rcases t.new p o' q with h | h
        · rw [h2] at h; cases h
        · rw [h1] at h; cases h
    exact ⟨keep p _ h1 (fun ps z => by cases z), hn, h3⟩
  · rcases s.ext b o hb e with h | ⟨ps, qs, h1, h2⟩
    · rcases t.ext b o (fun z => z) h with h' | ⟨ps, qs, h1, h2⟩
      · exact .inl h'
      · exact .inr ⟨ps, qs, h1, h2⟩
    · rcases t.ext b _ (fun z => z) h2 with h' | ⟨ps', qs', h1', h2'⟩
      · exact .inr ⟨ps, qs, h1, h'⟩
      · exact .inr ⟨ps, qs', h1, h2'⟩
end TO

set_option Elab.async false
set_option linter.all false
set_option maxRecDepth 100000
set_option maxHeartbeats 4000000
/-! Operations: what they do to data is what the rules of the layer say of values. -/
namespace TO
open PySem PySem.Spec L2

def Fin (n : Ent) (ad : List (Option Addr)) (Fx : Addr → Option (List V)) (G : Hp) (m : Mu) (d : D) (Q : VK) : Prop := ∀ v G' H', SI n ad Fx G' H' m → Same G G' → Rp G' v d → Q v H'
section
variable {c : Ct} {sc : Scope} {X : Cx} {Ek : XK} {n : Ent} {ad : List (Option Addr)} {Fx : Addr → Option (List V)} {G H : Hp} {m : Mu} {Q : VK} {x y : V} {d e g : D}
theorem Fin.val (q : Fin n ad Fx G m d Q) (s : SI n ad Fx G H m) (r : Rp G x d) : Q x H := q x G H s (Same.refl G) r
theorem Fin.lst {p : Addr} {vs : List V} {ds : List D} (q : Fin n ad Fx G m (.list ds) Q) (s : SI n ad Fx G H m) (hp : H p = none) (r : RpA G vs ds) : Q (.ref p) (upd H p (.lst vs)) := by
  obtain ⟨s', hg, _⟩ := s.data (o := .lst vs) hp trivial
  exact q _ _ _ s' hg ⟨p, vs, rfl, upd_same, RpA.mono hg _ _ r⟩
theorem Fin.tup {vs : List V} {ds : List D} (q : Fin n ad Fx G m (.tuple ds) Q) (s : SI n ad Fx G H m) (r : RpA G vs ds) : NewT vs H Q := by
  intro p us hp
  obtain ⟨s', hg, _⟩ := s.data (o := tupH us vs) hp trivial
  exact q _ _ _ s' hg ⟨p, vs, rfl, ⟨_, rfl, upd_same⟩, RpA.mono hg _ _ r⟩
theorem Rp.lst {ds : List D} (s : SI n ad Fx G H m) (r : Rp G x (.list ds)) : ∃ a vs, x = .ref a ∧ H a = some (.lst vs) ∧ RpA G vs ds := by
  obtain ⟨a, vs, h1, h2, h3⟩ := r
  exact ⟨a, vs, h1, s.sub a _ h2, h3⟩
theorem Rp.tup {ds : List D} (s : SI n ad Fx G H m) (r : Rp G x (.tuple ds)) : ∃ a vs, x = .ref a ∧ KnT H a vs ∧ RpA G vs ds := by
  obtain ⟨a, vs, h1, ⟨o, h0, h2⟩, h3⟩ := r
  exact ⟨a, vs, h1, ⟨o, h0, s.sub a _ h2⟩, h3⟩
theorem lim_le : lim ≤ sizeLine := by decide
def bopO : Bop → Operator
  | .add => .Add
  | .sub => .Sub
  | .mul => .Mult
  | .fdiv => .FloorDiv
  | .mod => .Mod
  | .pow => .Pow
def copO : Cop → CmpOp
  | .eq => .Eq
  | .ne => .NotEq
  | .lt => .Lt
  | .le => .LtE
  | .gt => .Gt
  | .ge => .GtE
  | .isin => .In
  | .notin => .NotIn
  | .is_ => .Is
  | .isnot => .IsNot
theorem bin_ok (o : Bop) (h : binD o d e = some g) (s : SI n ad Fx G H m) (hx : Rp G x d) (hy : Rp G y e) (q : Fin n ad Fx G m g Q) : WOp X (binaryOp (bopO o)) x y H Q := by
  cases o with
  | add =>
    cases d with
    | int i =>
      cases e with
      | int j =>
        cases hx; cases hy
        simp only [binD, Option.some.injEq] at h
        subst h
        exact toOp op_add ⟨i, j, rfl, rfl, q.val s rfl⟩
      | _ => simp [binD] at h
    | str a =>
      cases e with
      | str b =>
        cases hx; cases hy
        simp only [binD, Option.ite_none_right_eq_some, Option.some.injEq] at h
        obtain ⟨hl, rfl⟩ := h
        exact toOp op_add_str ⟨a, b, rfl, rfl, Nat.le_trans hl lim_le, q.val s rfl⟩
      | _ => simp [binD] at h
    | list xs =>
      cases e with
      | list ys =>
        simp only [binD, Option.ite_none_right_eq_some, Option.some.injEq] at h
        obtain ⟨hl, rfl⟩ := h
        obtain ⟨a, vs, rfl, ha, ra⟩ := hx.lst s
        obtain ⟨b, ws, rfl, hb, rb⟩ := hy.lst s
        exact toOp op_cat ⟨a, b, vs, ws, rfl, rfl, ha, hb, by rw [ra.length, rb.length]; exact Nat.le_trans hl lim_le, fun p hp => q.lst s hp (ra.app rb)⟩
      | _ => simp [binD] at h
    | tuple xs =>
      cases e with
      | tuple ys =>
        simp only [binD, Option.ite_none_right_eq_some, Option.some.injEq] at h
        obtain ⟨hl, rfl⟩ := h
        have hx0 := hx
        have hy0 := hy
        obtain ⟨a, vs, rfl, ha, ra⟩ := hx.tup s
        obtain ⟨b, ws, rfl, hb, rb⟩ := hy.tup s
        refine toOp op_catF ⟨a, b, vs, ws, rfl, rfl, ha.sq, hb.sq, by rw [ra.length, rb.length]; exact Nat.le_trans hl lim_le, fun z => ?_, fun z => ?_, q.tup s (ra.app rb)⟩
        · subst z
          have : xs = [] := List.eq_nil_of_length_eq_zero ra.length.symm
          subst this
          exact q.val s hy0
        · subst z
          have : ys = [] := List.eq_nil_of_length_eq_zero rb.length.symm
          subst this
          rw [List.append_nil] at q
          exact q.val s hx0
      | _ => simp [binD] at h
    | _ => simp [binD] at h
  | sub =>
    cases d with
    | int i =>
      cases e with
      | int j =>
        cases hx; cases hy
        simp only [binD, Option.some.injEq] at h
        subst h
        exact toOp op_sub ⟨i, j, rfl, rfl, q.val s rfl⟩
      | _ => simp [binD] at h
    | _ => simp [binD] at h
  | mul =>
    cases d with
    | int i =>
      cases e with
      | int j =>
        cases hx; cases hy
        simp only [binD, Option.ite_none_right_eq_some, Option.some.injEq] at h
        obtain ⟨hl, rfl⟩ := h
        rcases hl with hl | ⟨h1, h2⟩
        · exact toOp op_mul ⟨i, j, rfl, rfl, hl, q.val s rfl⟩
        · exact toOp op_mulW ⟨i, j, rfl, rfl, wide_mul h1 h2 (by decide) (by decide) (by decide), q.val s rfl⟩
      | _ => simp [binD] at h
    | tuple xs =>
      cases e with
      | int k =>
        simp only [binD, Option.ite_none_right_eq_some, Option.some.injEq] at h
        obtain ⟨⟨h0, h1, h2, h3⟩, rfl⟩ := h
        have hx0 := hx
        cases hy
        obtain ⟨a, vs, rfl, ha, ra⟩ := hx.tup s
        refine toOp op_repF ⟨a, k, vs, rfl, rfl, ha.sq, fun z => h0 ?_, h2, h3, by rw [ra.length]; exact h1, fun z => ?_, q.tup s (ra.rep k.toNat)⟩
        · subst z
          exact List.eq_nil_of_length_eq_zero ra.length.symm
        · subst z
          refine q.val s ?_
          show Rp G (.ref a) (.tuple (List.replicate 1 xs).flatten)
          rw [List.replicate_one, List.flatten_cons, List.flatten_nil, List.append_nil]
          exact hx0
      | _ => simp [binD] at h
    | list xs =>
      cases e with
      | int k =>
        simp only [binD, Option.ite_none_right_eq_some, Option.some.injEq] at h
        obtain ⟨⟨h0, h1, h2⟩, rfl⟩ := h
        cases hy
        obtain ⟨a, vs, rfl, ha, ra⟩ := hx.lst s
        exact toOp op_rep ⟨a, k, vs, rfl, rfl, ha, by omega, by omega, by rw [ra.length]; exact Nat.le_trans h0 lim_le, fun p hp => q.lst s hp (ra.rep k.toNat)⟩
      | _ => simp [binD] at h
    | _ => simp [binD] at h
  | fdiv =>
    cases d with
    | int i =>
      cases e with
      | int j =>
        cases hx; cases hy
        simp only [binD, Option.ite_none_right_eq_some, Option.some.injEq] at h
        obtain ⟨⟨h1, h2⟩, rfl⟩ := h
        exact toOp op_fdivW ⟨i, j, rfl, rfl, wide_div h1 h2 (by decide) (by decide), q.val s rfl⟩
      | _ => simp [binD] at h
    | _ => simp [binD] at h
  | mod =>
    cases d with
    | int i =>
      cases e with
      | int j =>
        cases hx; cases hy
        simp only [binD, Option.ite_none_right_eq_some, Option.some.injEq] at h
        obtain ⟨h1, rfl⟩ := h
        exact toOp op_mod ⟨i, j, rfl, rfl, h1, q.val s rfl⟩
      | _ => simp [binD] at h
    | _ => simp [binD] at h
  | pow =>
    cases d with
    | int i =>
      cases e with
      | int j =>
        cases hx; cases hy
        simp only [binD, Option.ite_none_right_eq_some, Option.some.injEq] at h
        obtain ⟨h1, rfl⟩ := h
        exact toOp op_pow ⟨i, j, rfl, rfl, h1, q.val s rfl⟩
      | _ => simp [binD] at h
    | _ => simp [binD] at h
theorem in_ok (gx : GX c sc X Ek) {b : Bool} (h : inD d e = some b) (s : SI n ad Fx G H m) (hx : Rp G x d) (hy : Rp G y e) :
    (Q (.bl b) H → WOp X (compareOp .In) x y H Q) ∧ (Q (.bl (!b)) H → WOp X (compareOp .NotIn) x y H Q) := by
  have hu : X.A.units + 65 < cLine := by have := gx.room.un; omega
  cases e with
  | list ds =>
    simp only [inD, Option.ite_none_right_eq_some, Option.some.injEq, Bool.and_eq_true] at h
    obtain ⟨⟨h1, h2⟩, rfl⟩ := h
    exact ⟨fun q => toOp (op_inD hu) ⟨d, ds, Rp.dp s.sub _ _ hx, Rp.dp s.sub _ _ hy, h1, h2, q⟩, fun q => toOp (op_notInD hu) ⟨d, ds, Rp.dp s.sub _ _ hx, Rp.dp s.sub _ _ hy, h1, h2, q⟩⟩
  | tuple ds =>
    simp only [inD, Option.ite_none_right_eq_some, Option.some.injEq, Bool.and_eq_true] at h
    obtain ⟨⟨h1, h2⟩, rfl⟩ := h
    obtain ⟨a, vs, rfl, ha, ra⟩ := hy.tup s
    have ei := RpA.inV hx h1 ra h2
    refine ⟨fun q => toOp op_in_seq ⟨a, vs, rfl, .inr ha.sq, hx.flat h1, ra.flat h2, ?_⟩, fun q => toOp op_notIn_seq ⟨a, vs, rfl, .inr ha.sq, hx.flat h1, ra.flat h2, ?_⟩⟩
    · rw [if_neg (by decide), ei]; exact q
    · rw [if_pos rfl, ei]; exact q
  | str z =>
    cases d with
    | str a =>
      cases hx; cases hy
      simp only [inD] at h
      split at h
      · rename_i cc hc
        have ea : a = ⟨#[cc]⟩ := by
          cases a with
          | mk arr =>
            simp only at hc
            rw [show arr = #[cc] from by rw [← Array.toArray_toList (xs := arr), hc]]
        simp only [Option.some.injEq] at h
        subst ea h
        exact ⟨fun q => toOp op_in_sign ⟨cc, z, rfl, rfl, q⟩, fun q => toOp op_notIn_sign ⟨cc, z, rfl, rfl, q⟩⟩
      · cases h
    | _ => simp [inD] at h
  | _ => simp [inD] at h
theorem is_ok {b : Bool} (h : isD d e = some b) (hx : Rp G x d) (hy : Rp G y e) :
    (Q (.bl b) H → WOp X (compareOp .Is) x y H Q) ∧ (Q (.bl (!b)) H → WOp X (compareOp .IsNot) x y H Q) := by
  have non : ∀ {k : Bool}, y = .non → decide (x = V.non) = k → (Q (.bl k) H → WOp X (compareOp .Is) x y H Q) ∧ (Q (.bl (!k)) H → WOp X (compareOp .IsNot) x y H Q) := fun {k} e1 e2 => by
    subst e1 e2
    exact ⟨fun q => toOp op_isN ⟨rfl, q⟩, fun q => toOp op_notN ⟨rfl, q⟩⟩
  cases e with
  | none =>
    cases hy
    cases d <;> simp only [isD, Option.some.injEq] at h <;> first
      | (subst h; cases hx; exact non rfl rfl)
      | (subst h; obtain ⟨a, vs, rfl, _⟩ := hx; exact non rfl rfl)
      | cases h
  | bool j =>
    cases d with
    | bool i =>
      cases hx; cases hy
      simp only [isD, Option.some.injEq] at h
      subst h
      exact ⟨fun q => toOp op_is_bl ⟨i, j, rfl, rfl, q⟩, fun q => toOp op_isnot_bl ⟨i, j, rfl, rfl, q⟩⟩
    | _ => simp [isD] at h
  | _ => cases d <;> simp [isD] at h
theorem cmp_ok (gx : GX c sc X Ek) (o : Cop) {b : Bool} (h : cmpD o d e = some b) (s : SI n ad Fx G H m) (hx : Rp G x d) (hy : Rp G y e) (q : Q (.bl b) H) : WOp X (compareOp (copO o)) x y H Q := by
  have hu : X.A.units + 64 < cLine := gx.room.units
  cases o with
  | eq =>
    simp only [cmpD, eqD, Option.ite_none_right_eq_some, Option.some.injEq, Bool.and_eq_true] at h
    obtain ⟨⟨h1, h2⟩, rfl⟩ := h
    exact toOp (op_eqD hu) ⟨d, e, Rp.dp s.sub _ _ hx, Rp.dp s.sub _ _ hy, h1, h2, q⟩
  | ne =>
    simp only [cmpD, eqD, Option.map_eq_some_iff, Option.ite_none_right_eq_some, Option.some.injEq, Bool.and_eq_true] at h
    obtain ⟨k, ⟨⟨h1, h2⟩, rfl⟩, rfl⟩ := h
    exact toOp (op_neD hu) ⟨d, e, Rp.dp s.sub _ _ hx, Rp.dp s.sub _ _ hy, h1, h2, q⟩
  | lt => cases d <;> cases e <;> first | (simp [cmpD] at h; done) | (cases hx; cases hy; simp only [cmpD, Option.some.injEq] at h; subst h; exact toOp op_lt ⟨_, _, rfl, rfl, q⟩)
  | le => cases d <;> cases e <;> first | (simp [cmpD] at h; done) | (cases hx; cases hy; simp only [cmpD, Option.some.injEq] at h; subst h; exact toOp op_le ⟨_, _, rfl, rfl, q⟩)
  | gt => cases d <;> cases e <;> first | (simp [cmpD] at h; done) | (cases hx; cases hy; simp only [cmpD, Option.some.injEq] at h; subst h; exact toOp op_gt ⟨_, _, rfl, rfl, q⟩)
  | ge => cases d <;> cases e <;> first | (simp [cmpD] at h; done) | (cases hx; cases hy; simp only [cmpD, Option.some.injEq] at h; subst h; exact toOp op_ge ⟨_, _, rfl, rfl, q⟩)
  | isin => exact (in_ok gx (show inD d e = some b from h) s hx hy).1 q
  | notin =>
    simp only [cmpD, Option.map_eq_some_iff] at h
    obtain ⟨k, h1, rfl⟩ := h
    exact (in_ok gx h1 s hx hy).2 q
  | is_ => exact (is_ok (show isD d e = some b from h) hx hy).1 q
  | isnot =>
    simp only [cmpD, Option.map_eq_some_iff] at h
    obtain ⟨k, h1, rfl⟩ := h
    exact (is_ok h1 hx hy).2 q
end
end TO

set_option Elab.async false
set_option linter.all false
set_option maxRecDepth 100000
set_option maxHeartbeats 4000000
/-! Lists walked while an exception is handled. -/
namespace TU
open PySem PySem.Spec PyProof.Rows HotX
section
variable {P : Program} {w : World} {A : Around} {E : Value → Shared → Prop} {s : Shared}
/-- the list is at its end: the stop is made, chained to the handled one, and taken -/
theorem end_hot {it l x1 : Addr} {i : Nat} {xs : Array Value} {Q : Option Value → Shared → Prop} (hot : HotAt A x1 s.heap) (ne : x1 ≠ it) (hi : s.heap.IsListIter it l i) (hl : s.heap.IsList l xs) (hx : xs[i]? = none)
    (hQ : ∀ h', Heap.ExtBut it s.heap h' → Q none { s with heap := h' }) : wpAny (model P w) A (pyNext (.ref it)) Q E s := by
  obtain ⟨hh, z, zs, g1, g2, g3⟩ := hot
  obtain ⟨q, hq, qc, qd⟩ := id hi
  obtain ⟨u, hu, _, nu, ud⟩ := hl
  unfold pyNext
  refine wpAny_bind (wpAny_attempt (wpAny_callSpecial?_slot (name := Str.ofString "__next__") hi.typeIs slot_listiter_next (wpAny_call_entry slot_listiter_next hi.typeIs entry_listiter_next ?_ (args_listiter_next _))))
  show wpAny _ _ (field (.ref it) 0 >>= _) _ _ s; refine wpAny_bind (wpAny_field hq qd (x := .ref l) rfl ?_)
  show wpAny _ _ (if (Value.ref l == Value.none) = true then _ else _) _ _ s; rw [if_neg (show ¬ ((Value.ref l == Value.none) = true) from Bool.false_ne_true)]
  show wpAny _ _ (field (.ref it) 1 >>= _) _ _ s; refine wpAny_bind (wpAny_field hq qd (x := .int i 0) rfl ?_)
  show wpAny _ _ (seqItems? (.ref l) >>= _) _ _ s; refine wpAny_bind (wpAny_seqItems hu ud ?_)
  simp only [Int.toNat_natCast, hx]
  refine wpAny_bind (wpAny_rule (wpAny_bind (wpAny_setField hq qd (by simp) ?_))); show wpAny _ _ (newExc (.type "StopIteration") [] >>= _) _ _ _
  refine wpAny_bind ?_
  simp only [newExc, newTuple]
  refine wpAny_bind (wpAny_newObj_type (wpAny_bind (m := firstArgMember _ _) (wpAny_of_eq (a := Value.none) (by first | rfl | (simp only [firstArgMember]; rfl)) ?_)) (by size_fits))
  refine wpAny_newObj_type ?_ (by size_fits)
  have k0 : ∀ b o, b ≠ it → s.heap.get? b = some o → (s.heap.update it (Obj.mapFields (·.setIfInBounds 0 .none))).get? b = some o := fun b o hb e => by
    rw [Heap.get?_update_other _ _ (Ne.symm hb)]; exact e
  have g1' := k0 x1 z ne g1
  refine raiseNew_hot ⟨hh, z, zs, Heap.get?_push_of_some _ (Heap.get?_push_of_some _ g1'), g2, g3⟩ (Nat.ne_of_lt (Heap.lt_size (Heap.get?_push_of_some _ g1'))) (Heap.get?_push_size _ rfl) rfl (by first | (simp; done) | (simp; omega)) ?_
  refine wpAny_bind (wpAny_isInstance (T := "StopIteration") (b := true) ⟨_, Heap.get?_update_self _ (Heap.get?_push_size _ rfl) rfl, rfl⟩ isSubtype_stop (wpAny_pure (hQ _ fun b o hb e => ?_)))
  have e' := k0 b o hb e
  rw [Heap.get?_update_other _ _ (Nat.ne_of_gt (Heap.lt_size (Heap.get?_push_of_some _ e')))]
  exact Heap.get?_push_of_some _ (Heap.get?_push_of_some _ e')
/-- a list, walked while x1 is handled -/
theorem walks_hot {o1 : Obj} {x1 : Addr} {zs : Array Value} (hh : A.handled = some (.ref x1)) (d1 : o1.data = .fields zs) (c1 : zs[2]? = some .none) (I ax : Addr) (ne : ax ≠ I) (ne1 : x1 ≠ I) (xs : Array Value) :
    Walks P w A I [I, ax, x1] [I] xs.size (fun i v => xs[i]? = some v) (fun i h => (h.IsListIter I ax i ∧ h.IsList ax xs) ∧ h.get? x1 = some o1) where
  sub := fun b hb => by simp at hb; simp [hb]
  frame := fun _ _ _ st hk => ⟨⟨st.1.1.at fun o e => hk I (by simp) o e, st.1.2.at fun o e => hk ax (by simp) o e⟩, hk x1 (by simp) _ st.2⟩
  item := fun i s Q E hi st hQ => by
    refine wpAny_pyNext_list_item st.1.1 st.1.2 (x := xs[i]) (by simp [hi]) fun h' a b => hQ _ h' s.toks (by simp [hi]) ⟨⟨a, st.1.2.extBut b.extBut ne⟩, b.extBut x1 o1 ne1 st.2⟩ fun b' o hb e => b.extBut b' o (fun h => hb (by simp [h])) e
  done := fun s Q E st hQ => end_hot ⟨hh, o1, zs, st.2, d1, c1⟩ ne1 st.1.1 st.1.2 (by simp) fun h' he => hQ h' s.toks fun b o hb e => he b o (fun h => hb (by simp [h])) e
  self := fun _ _ _ _ st hQ => wpAny_pyIter_listiter st.1.1 hQ
theorem sum_hot {l x1 : Addr} {its : List Value} {ns : List Int} {Q : Value → Shared → Prop} (hot : HotAt A x1 s.heap) (hl : s.heap.IsList l its.toArray) (hi : IntsAre its ns)
    (h : ∀ h' tk t', (∀ b o, s.heap.get? b = some o → h'.get? b = some o) → Q (.int ns.sum t') { s with heap := h', toks := tk }) : wpAny (model P w) A (call (.builtin "sum") [.ref l]) Q E s := by
  obtain ⟨hh, o1, zs, g1, g2, g3⟩ := hot
  obtain ⟨xs, e⟩ := hi.allInts.items
  have hn : numsOf (intItems xs).toList = ns := by rw [← e]; exact hi.numsOf
  rw [nums_intItems] at hn
  rw [e] at hl
  refine call_sum_walkG (iter_intList hl fun s2 e2 st hfp hlI => ?_)
  subst e2
  have l1 := Heap.lt_size g1
  have g1' : (s.heap.push { cls := .type "list_iterator", data := .fields #[.ref l, .int 0 0] }).get? x1 = some o1 := Heap.get?_push_of_some _ g1
  refine ⟨_, _, _, _, _, _, numAt xs, rfl, walks_hot (A := A.in1) hh g2 g3 _ l hlI (Nat.ne_of_lt l1) (intItems xs), ⟨st, g1'⟩, fun b hb => ?_, (fun _ _ => intItems_at), fun h' tk t' hk => ?_⟩
  · simp only [List.mem_cons, List.not_mem_nil, or_false] at hb
    rcases hb with rfl | rfl | rfl
    · exact hfp _ (by simp)
    · exact hfp _ (by simp)
    · exact Heap.lt_size g1'
  · have q := h h' tk t' (old_kept hk)
    have e3 : preSum (numAt xs) (intItems xs).size = ns.sum := by
      rw [show (intItems xs).size = xs.size by simp [intItems], preSum_eq, List.take_of_length_le (by simp), hn]
    rw [e3]
    exact q
end
end TU

set_option Elab.async false
set_option linter.all false
set_option maxRecDepth 100000
set_option maxHeartbeats 4000000
/-! A list comprehension over a list, while an exception is handled. -/
namespace TU
open PySem PySem.Spec PyProof.Rows HotX L2 L2H
section
variable {X : Cx}
theorem hot_list {elt tg iter : Expr} {scope : Scope} {own : List (Str × Nat)} {pos : Pos} {ti : TE} {g : TG} {te : TE} (hot : HotC X) (nd : X.N.Nodup) (hi : PE X iter ti) (ok : BlkOk X.N X.env.scope scope own)
    (hg : ∀ (s : Shared) (H : Hp) (C : Addr) (cl : List (Str × Addr)) (fp : List Addr), PG (X.blk s H scope (compEnvC scope cl C X.env) fp) tg g)
    (he : ∀ (s : Shared) (H : Hp) (C : Addr) (cl : List (Str × Addr)) (fp : List Addr), PE (X.blk s H scope (compEnvC scope cl C X.env) fp) elt te) (fs : ∀ x, foldedSetIterable iter X.env x = pure x := by intro _; rfl) :
    PE X (.ListComp elt [⟨tg, iter, [], 0⟩] scope pos) (fun σ H Q => ti σ H fun v H1 => ∃ (a : Addr) (vs ys : List V), v = .ref a ∧ SqL X.K H1 a vs ∧ ys.length = vs.length ∧ vs.length < 1000 ∧
      (∀ (i : Nat) x y H2, vs[i]? = some x → ys[i]? = some y → g x (L2.wipe σ (own.map (·.2))) H2 fun σ2 H3 => L2.wipe σ2 (own.map (·.2)) = L2.wipe σ (own.map (·.2)) ∧ H3 = H2 ∧ te σ2 H3 fun z H4 => z = y ∧ H4 = H3) ∧
      ∀ D, H1 D = none → Q (.ref D) (upd H1 D (.lst ys))) := by
  refine ⟨fun pins s σ H Q I h => ?_⟩
  rw [eval_ListComp]
  have cap : ∀ y ∈ scope.names, y.2 = .free → ∃ c, X.env.cells.lookup y.1 = some c := fun y hy e => (ok.free y hy e).elim (fun k => I.ok.has _ (.inl k)) (fun k => I.ok.has _ (.inr k))
  refine wpAny_comprehension_free (use := none) rfl fs (closure_ok cap) ok.kind (fun y hy e => by rw [ok.uniq y hy, e]) (thn (hi.run pins s σ H _ I h) fun xv s1 q => ?_)
  obtain ⟨v, H1, I1, rv, a, vs, ys, rfl, sq, hl, hz, step, fin⟩ := q
  cases rv
  obtain ⟨its, rr, pl, _⟩ := I1.list sq
  refine wpAny_pyIter_list pl.isList ?_
  generalize hit : s1.heap.objs.size = it
  generalize hs2 : ({ s1 with heap := s1.heap.push { cls := .type "list_iterator", data := .fields #[.ref a, .int 0 0] } } : Shared) = s2
  have I2 : Inv X pins σ H1 s2 := by rw [← hs2]; exact I1.kept (t' := s1.toks) fun b o e => Heap.get?_push_of_some _ e
  have li : s2.heap.IsListIter it a 0 := by rw [← hs2, ← hit]; exact ⟨_, Heap.get?_push_size _ rfl, rfl, rfl⟩
  have itn : H1 it = none := I1.hok.fresh (Nat.le_of_eq hit)
  have itf : FpOk X pins H1 it := I1.fpOk (Nat.le_of_eq hit) itn
  refine wpAny_newObj_type (newEnv_comp ?_) (by show 0 ≤ sizeLine; decide)
  generalize hD : s2.heap.objs.size = D
  have Dn : H1 D = none := I2.hok.fresh (Nat.le_of_eq hD)
  generalize hs3 : ({ s2 with heap := s2.heap.push { cls := .type "list", data := .seq ([] : List Value).toArray } } : Shared) = s3
  have h3 : s3.heap = s2.heap.push { cls := .type "list", data := .seq ([] : List Value).toArray } := by rw [← hs3]
  have I3 : Inv X pins σ (upd H1 D (.lst [])) s3 := by
    rw [← hs3]
    refine I2.laid (t' := s2.toks) (fun b o e => Heap.get?_push_of_some _ e) (Nat.le_of_eq hD) ⟨Nat.zero_le _, [], 0, .nil, ?_⟩
    rw [← hD]; exact Heap.get?_push_size _ rfl
  have itlt : it < s2.heap.objs.size := by obtain ⟨o, e, _⟩ := li; exact Heap.lt_size e
  have itD : it ≠ D := by rw [← hD]; exact Nat.ne_of_lt itlt
  have li3 : s3.heap.IsListIter it a 0 := by obtain ⟨o, e, z⟩ := li; exact ⟨o, by rw [h3]; exact Heap.get?_push_of_some _ e, z⟩
  have fok : ∀ b ∈ [it], FpOk X pins (upd H1 D (.lst [])) b ∧ b < s3.heap.objs.size := fun b hb => by
    obtain rfl : b = it := by simpa using hb
    exact ⟨⟨by rw [upd_ne itD]; exact itn, itf.2⟩, by rw [h3, Heap.size_push]; exact Nat.lt_succ_of_lt itlt⟩
  -- the handled one
  obtain ⟨p, ⟨hh, zs, z1, z2⟩, hp⟩ := hot
  have pn3 := I3.pin p (List.mem_append_left _ hp)
  have pfr : p.1 ∉ frs X.stack := fun z => (List.mem_cons.mp (I3.stkSub _ z)).elim (fun e => pn3.2.2.1 e) (fun e => pn3.2.2.2.1 e)
  have pit : p.1 ≠ it := fun e => itf.2.2.2.2.2 p (List.mem_append_left _ hp) e
  have I4 := block_start I3 ok nd fok
  have pg := hg s3 (upd H1 D (.lst [])) s3.heap.objs.size (cellsFrom (s3.heap.objs.size + 1) scope.names (cloFrom X.env.cells scope.names [])) [it]
  have pe := he s3 (upd H1 D (.lst [])) s3.heap.objs.size (cellsFrom (s3.heap.objs.size + 1) scope.names (cloFrom X.env.cells scope.names [])) [it]
  show codeAny _ _ (.compStart (.ListComp elt [⟨tg, iter, [], 0⟩] scope pos) 0 (.ref it) (.ref D) (compEnvC scope (cellsFrom (s3.heap.objs.size + 1) scope.names (cloFrom X.env.cells scope.names [])) s3.heap.objs.size X.env)) (compPost (model X.prog X.w) X.A X.xe none _ (.ref D) s3.heap.objs.size) _
  generalize hce : compEnvC scope (cellsFrom (s3.heap.objs.size + 1) scope.names (cloFrom X.env.cells scope.names [])) s3.heap.objs.size X.env = ce at I4 pg pe ⊢
  have cL : ce.locals = s3.heap.objs.size := by subst hce; rfl
  generalize hs4 : ({ s3 with heap := pushCells (s3.heap.push { cls := .type "dict", data := .dict #[] }) scope.names } : Shared) = s4 at I4 ⊢
  have li4 : s4.heap.IsListIter it a 0 := by obtain ⟨o, e, z⟩ := li3; exact ⟨o, by rw [← hs4]; exact pushCells_keeps _ _ _ _ (Heap.get?_push_of_some _ e), z⟩
  have aD : a ≠ D := fun e => by
    obtain ⟨o, _, e', _⟩ := pl
    have := Heap.lt_size e'
    have l1 : a < it := by rw [← hit]; exact this
    have l2 : it < D := by rw [← hD]; exact itlt
    rw [e] at l1
    exact Nat.lt_asymm l1 l2
  have nfp : ∀ {σ' : L2.St} {H' : Hp} {s' : Shared}, Inv (X.blk s3 (upd H1 D (.lst [])) scope ce [it]) [] σ' H' s' → H' it = none → FpOk (X.blk s3 (upd H1 D (.lst [])) scope ce [it]) [] H' it := fun {σ' H' s'} I' hn =>
    ⟨hn, (I'.ok.exf it (by simp)).1, I'.ok.exfs it (by simp), .inl (by simp), fun x c e => (I'.ok.exf it (by simp)).2 x c e, fun q hq => absurd (show q ∈ ([] : List (Addr × Obj)) ++ [] from hq) (by simp)⟩
  have loop : codeAny (model X.prog X.w) X.A (.compLoop (.ListComp elt [⟨tg, iter, [], 0⟩] scope pos) 0 (.ref it) (.ref D) ce) (compPost (model X.prog X.w) X.A X.xe none (EP X pins σ Q) (.ref D) s3.heap.objs.size) s4 := by
    refine compLoop_any (fun n s' => ∃ i, n = vs.length - i ∧ i ≤ vs.length ∧ Inv (X.blk s3 (upd H1 D (.lst [])) scope ce [it]) [] (L2.wipe σ (own.map (·.2))) (upd H1 D (.lst (ys.take i))) s' ∧ s'.heap.IsListIter it a i) ?_ vs.length ⟨0, rfl, Nat.zero_le _, I4, li4⟩
    rintro n s5 ⟨i, rfl, hle, I5, li5⟩
    have sq5 : SqL X.K (upd H1 D (.lst (ys.take i))) a vs := by
      rcases sq with (q | ⟨ob, q⟩) | q
      · exact .inl (.inl (by rw [upd_ne aD]; exact q))
      · exact .inl (.inr ⟨ob, by rw [upd_ne aD]; exact q⟩)
      · exact .inr q
    obtain ⟨its5, rr5, pl5, _⟩ := I5.list sq5
    have hsz : vs.length = its5.length := rr5.length
    have in5 : (upd H1 D (.lst (ys.take i))) it = none := by rw [upd_ne itD]; exact itn
    obtain ⟨f0, f1, f2, f3, f4, f5⟩ := nfp I5 in5
    by_cases hlt : i < vs.length
    · obtain ⟨u, hu, ru⟩ := rr5.get (List.getElem?_eq_getElem hlt)
      have hy : ys[i]? = some ys[i] := List.getElem?_eq_getElem (by omega)
      refine wpAny_pyNext_list_item li5 pl5.isList (x := u) (by simpa using hu) fun h6 li6 sb6 => ?_
      have I6 : Inv (X.blk s3 (upd H1 D (.lst [])) scope ce [it]) [] (L2.wipe σ (own.map (·.2))) (upd H1 D (.lst (ys.take i))) { s5 with heap := h6 } := I5.turned (t' := s5.toks) (fun b o hb e => (sb6.2 b hb).trans e) f0 f1 f3 f4 f5
      obtain ⟨o6, g6, c6, d6⟩ := li6
      have I6' := I6.pinned (fp := [it]) (fun b hb => by obtain rfl : b = it := by simpa using hb
                                                         exact ⟨f0, f1, f2, f3, f4, f5⟩) (fun b hb => by
        obtain rfl : b = it := by simpa using hb
        exact ⟨o6, g6, fun v z => by rw [d6] at z; cases z⟩)
      show wpAny _ _ (letOwnedTupleGo tg (.ref it) u) _ _ _
      refine go_of g6 c6 d6 (by decide) ?_
      refine thnF (pg.run _ _ _ _ vs[i] u _ I6' ru (step i _ _ _ (List.getElem?_eq_getElem hlt) hy)) fun _ s8 ⟨σ8, H8, I8, hw8, eH, q8⟩ => ?_
      subst eH
      refine thnF ((pts_nil (X := X.blk s3 (upd H1 D (.lst [])) scope ce [it])).run _ s8 σ8 _ (fun b H9 => b = true ∧ H9 = upd H1 D (.lst (ys.take i))) I8 ⟨rfl, rfl⟩) fun b s9 ⟨H9, I9, eb, e9⟩ => ?_
      subst eb e9
      simp only [if_true]
      refine thnF (pe.run _ s9 σ8 _ _ I9 q8) fun z s10 ⟨yv, H10, I10, r10, ey, e10⟩ => ?_
      subst ey e10
      refine app_ok (X := X.blk s3 (upd H1 D (.lst [])) scope ce [it]) I10 upd_same (by rw [List.length_take]; have : (1000 : Nat) ≤ sizeLine := by decide
                                                                                        omega) r10 fun s11 I11 => ⟨vs.length - (i + 1), by omega, i + 1, rfl, by omega, ?_, ?_⟩
      · have I12 := (I11.unpinned (pins := [])).weak (σ' := L2.wipe σ (own.map (·.2))) (by rw [← hw8, L2.wipe_length]) (fun j v e => by rw [← hw8] at e; exact (L2.wipe_some e).1)
        have eU : upd (upd H1 D (.lst (ys.take i))) D (.lst (ys.take i ++ [ys[i]])) = upd H1 D (.lst (ys.take (i + 1))) := by
          funext b
          by_cases hb : b = D
          · subst hb; rw [upd_same, upd_same, List.take_add_one, hy]; rfl
          · rw [upd_ne hb, upd_ne hb, upd_ne hb]
        rw [eU] at I12
        exact I12
      · have := (I11.pin (it, o6) (List.mem_append_right _ (List.mem_append_right _ (mem_pinsAt (by simp) g6)))).1
        exact ⟨o6, this, c6, d6⟩
    · have ei : i = vs.length := by omega
      have hot5 : HotAt X.A p.1 s5.heap := ⟨hh, p.2, zs, I5.base.keep p.1 p.2 pn3.1 pn3.2.1 pfr (fun z => pit (by simpa using z)), z1, z2⟩
      refine end_hot hot5 pit li5 pl5.isList (by simp; omega) fun h6 e6 => ?_
      have I6 : Inv (X.blk s3 (upd H1 D (.lst [])) scope ce [it]) [] (L2.wipe σ (own.map (·.2))) (upd H1 D (.lst (ys.take i))) { s5 with heap := h6 } := I5.turned (t' := s5.toks) (fun b o hb e => e6 b o hb e) f0 f1 f3 f4 f5
      have I7 : Inv X pins σ (upd H1 D (.lst (ys.take i))) { s5 with heap := h6 } := I3.call' (ch := [it]) I6.os I6.base I6.hok I6.bare fun b hb => ⟨(fok b hb).1.2.2.2.1, (fok b hb).1.2.1, (fok b hb).1.2.2.2.2.1, (fok b hb).1.2.2.2.2.2⟩
      obtain ⟨m, hn, _⟩ := I6.loc
      have hn : h6.Ns ce.locals m := hn
      rw [cL] at hn
      have nC : (upd H1 D (.lst (ys.take i))) s3.heap.objs.size = none := by
        have z : (upd H1 D (.lst (ys.take i))) ce.locals = none := I6.free
        rw [cL] at z
        exact z
      obtain ⟨k0, k1, k2, k3, k4, k5⟩ := I3.fpOk (Nat.le_refl _) nC
      refine ⟨m, hn, fun h' sb => ⟨.ref D, _, I7.turned (t' := s5.toks) (fun b o hb e => (sb.2 b hb).trans e) k0 k1 k3 k4 k5, rfl, ?_⟩⟩
      rw [ei, ← hl, List.take_length]
      exact fin D Dn
  exact codeAny_compStart_list loop (wpAny_pyIter_listiter li4 loop)
end
end TU

set_option Elab.async false
set_option linter.all false
set_option maxRecDepth 100000
set_option maxHeartbeats 4000000
/-! The pieces of a def that looks at the exception that is handled. -/
namespace TU
open PySem PySem.Spec PyProof.Rows HotX L2 L2H
section
variable {X : Cx} {p : Addr × Obj} {Dc : Addr}
theorem PE.imp {e : Expr} {t t' : TE} (h : PE X e t) (w : ∀ σ H Q, t' σ H Q → t σ H Q) : PE X e t' := ⟨fun pins s σ H Q I q => h.run pins s σ H Q I (w σ H Q q)⟩
theorem PS.imp {e : Stmt} {t t' : TS} (h : PS X e t) (w : ∀ De σ H, t' De σ H → t De σ H) : PS X e t' := ⟨fun pins s σ H De I q => h.run pins s σ H De I (w De σ H q)⟩
theorem inst_of (hz : Zc (.ref Dc) none p.2) (hf : ∃ vs, p.2.data = .fields vs) {h : Heap} (g : h.get? p.1 = some p.2) : PySem.W.InstAt h p.1 p.2 Dc none := by
  obtain ⟨a, ⟨oc, od, da, sl⟩⟩ := p
  obtain ⟨vs, hv⟩ := hf
  obtain ⟨h1, h2⟩ := hz
  cases (show oc = .ref Dc from h1)
  cases (show od = none from h2)
  cases (show da = .fields vs from hv)
  exact ⟨g, rfl, rfl, trivial⟩
theorem call_isH (hp : p ∈ X.pn) (C : ExcC X.K Dc) (hz : Zc (.ref Dc) none p.2) (hf : ∃ vs, p.2.data = .fields vs) : CallR X (.builtin "isinstance") (rIsE X.K Dc p.1) := by
  rintro pins s σ H xs us Q I r ⟨c, cv, b, rfl, hcv, e, q⟩
  cases r with
  | cons rx rr =>
    cases rr with
    | cons rt rr =>
      cases rr
      cases rx
      cases hcv _ rt
      have J := inst_of hz hf (I.pin p (List.mem_append_left _ hp)).1
      exact PySem.W.kia_one (PySem.W.handS_kitx_exc C.hg C.hk C.hs C.hd C.ha C.hn C.ht C.hm) I.kIn J e (fun z => nomatch z) fun tk => ⟨.bl b, H, I.kept (t' := tk) fun _ _ z => z, rfl, q⟩
/-- isinstance(e, C), told -/
def tIs (a : Addr) (b : Bool) : TE := fun σ H Q => σ[0]? = some (some (.ref a)) ∧ Q (.bl b) H
theorem pe_isx {e1 e2 : Expr} {q pos : Pos} {c : V} {cv : Value} {b : Bool} (hp : p ∈ X.pn) (C : ExcC X.K Dc) (hz : Zc (.ref Dc) none p.2) (hf : ∃ vs, p.2.data = .fields vs) (hg : Gl X "isinstance") (hm : X.mg "isinstance" = none)
    (h1 : PE X e1 (tVar 0)) (h2 : PE X e2 (tC c)) (hc : ∀ u, RelV c u → u = cv) (hk : PySem.W.kitOne X.K (.ref Dc) cv = some b)
    (s1 : starEach [e1, e2] X.env = (false, eval e1 X.env) :: starEach [e2] X.env := by rfl) (s2 : starEach [e2] X.env = (false, eval e2 X.env) :: starEach [] X.env := by rfl) (s3 : (backTo pos (starEach [e2] X.env)).any (·.1) = false := by rfl) :
    PE X (.Call (.Name "isinstance" q) [e1, e2] [] pos) (tIs p.1 b) :=
  PE.imp (pe_callB (call_isH hp C hz hf) hg hm (by decide +kernel) (pa_cons h1 (pa_cons h2 pa_nil s2) s1) (by decide) (by decide) s1 s3) fun σ H Q ⟨h, hq⟩ => ⟨_, h, c, cv, b, rfl, hc, hk, hq⟩
/-- sum of a list of ints -/
theorem cr_sumH (hot : HotC X) : CallR X (.builtin "sum") (rSum X.K) := by
  rintro pins s σ H vs us Q I r ⟨a, ns, rfl, hs, q⟩
  obtain ⟨its, rv, hl, _⟩ := I.list hs
  rw [Vals.ref1 r]
  obtain ⟨x1, hx⟩ := hot.at I
  exact sum_hot hx hl.isList rv.ints fun h' tk t' hk => ⟨.int _, H, I.kept hk, ⟨_, rfl⟩, q⟩
end
end TU

set_option Elab.async false
set_option linter.all false
set_option maxRecDepth 100000
set_option maxHeartbeats 4000000
/-! _law_term(e), run while e is handled. -/
namespace TU
open PySem PySem.Spec PyProof.Rows HotX L2 L2H
inductive IsL : List Str → List Expr → Prop
  | nil : IsL [] []
  | cons {x : Str} {ns : List Str} {es : List Expr} {p1 p2 p3 p4 : Pos} : IsL ns es → IsL (x :: ns) (.Call (.Name "isinstance" p1) [.Name "e" p2, .Name x p3] [] p4 :: es)
inductive StL : List Str → List Expr → Prop
  | nil : StL [] []
  | cons {x : Str} {ns : List Str} {es : List Expr} {k : Nat} {p : Pos} : StL ns es → StL (x :: ns) (.Constant (.str x) k p :: es)
/-- the thirteen -/
def n1 : List Str := ["BadSuite", "BadTest", "BadOrder", "BadRole"]
def n2 : List Str := ["BadIndex", "BadCount", "BadLog"]
def n3 : List Str := ["BadResults", "Unlike", "Contradiction"]
def n4 : List Str := ["TooMany", "NothingToUndo", "BadText"]
def m1 : List Str := ["BadSuite", "BadTest", "BadOrder", "BadRole", "BadIndex", "BadCount", "BadLog", "BadResults"]
def m2 : List Str := ["Unlike", "Contradiction", "TooMany", "NothingToUndo", "BadText"]
def all13 : List Str := m1 ++ m2
theorem all13_err : all13 = TO.err13 := rfl
theorem all13_eq : all13 = ((n1 ++ n2) ++ n3) ++ n4 := by decide +kernel
def NT : List Str := ["e", "flags", "kinds", "flag"]
def gloX : List Str := ["isinstance", "sum", "ValueError"]
def gloL : List Str := all13 ++ gloX
structure TScope (sc scope : Scope) : Prop where
  loc : ∀ x ∈ (["e", "flags", "kinds"] : List Str), sc.names.lookup x = some .local
  glo : ∀ x ∈ gloL, sc.names.lookup x = some .globalImplicit
  blk : blkC NT sc scope [("flag", 3)] = true
  fl : scope.names.lookup ("flag" : Str) = some .local
  int : scope.names.lookup ("int" : Str) = some .globalImplicit
/-- what is known of the classes -/
structure TCls (K : PySem.W.Frag) (mg : Str → Option Value) (Dc : Addr) (y : Str) : Prop where
  exc : ExcC K Dc
  cls : ∀ x ∈ all13, ∃ C, mg x = some (.ref C) ∧ PySem.W.kitOne K (.ref Dc) (.ref C) = some (decide (x = y))
  val : PySem.W.kitOne K (.ref Dc) (.type "ValueError") = some true
  mem : y ∈ all13
def Grow (H H' : Hp) : Prop := Same H H' ∧ ∀ b, H' b = none → H b = none
theorem Grow.refl (H : Hp) : Grow H H := ⟨Same.refl H, fun _ h => h⟩
theorem Grow.new {H H' : Hp} (g : Grow H H') {p : Addr} {o : HO} (hp : H' p = none) : Grow H (upd H' p o) := by
  refine ⟨g.1.trans (TO.same_upd hp), fun b e => g.2 b ?_⟩
  by_cases hb : b = p
  · subst hb; rw [upd_same] at e; cases e
  · rw [upd_ne hb] at e; exact e
section
variable {X : Cx} {p : Addr × Obj} {Dc : Addr} {y : Str} {sc scope : Scope}
theorem PA.imp {es : List Expr} {t t' : TA} (h : PA X es t) (w : ∀ σ H Q, t' σ H Q → t σ H Q) : PA X es t' := ⟨fun pos pins s σ H Q I q => h.run pos pins s σ H Q I (w σ H Q q)⟩
structure TX (X : Cx) (p : Addr × Obj) (Dc : Addr) (y : Str) (sc scope : Scope) : Prop where
  eN : X.N = NT
  esc : X.env.scope = sc
  fnF : ∀ x, X.fn x = X.fn x
  hp : p ∈ X.pn
  hot : HotC X
  hz : Zc (.ref Dc) none p.2
  hf : ∃ vs, p.2.data = .fields vs
  cl : TCls X.K X.mg Dc y
  sc : TScope sc scope
  bl : ∀ x ∈ (["isinstance", "sum", "int", "ValueError"] : List Str), X.mg x = none
  un : X.A.units + 64 < cLine
theorem TX.g (t : TX X p Dc y sc scope) {x : Str} (h : x ∈ gloL) : Gl X x := by
  show X.env.scope.names.lookup x = _
  rw [t.esc]; exact t.sc.glo x h
theorem TX.nd (t : TX X p Dc y sc scope) : X.N.Nodup := by rw [t.eN]; decide +kernel
theorem TX.ve (t : TX X p Dc y sc scope) {pos : Pos} : PE X (.Name "e" pos) (tVar 0) := pe_var (i := 0) (by rw [t.eN]; rfl) (.inl (by rw [t.esc]; exact t.sc.loc _ (by decide +kernel))) (by decide) (by decide)
theorem TX.vf (t : TX X p Dc y sc scope) {pos : Pos} : PE X (.Name "flags" pos) (tVar 1) := pe_var (i := 1) (by rw [t.eN]; rfl) (.inl (by rw [t.esc]; exact t.sc.loc _ (by decide +kernel))) (by decide) (by decide)
theorem TX.vk (t : TX X p Dc y sc scope) {pos : Pos} : PE X (.Name "kinds" pos) (tVar 2) := pe_var (i := 2) (by rw [t.eN]; rfl) (.inl (by rw [t.esc]; exact t.sc.loc _ (by decide +kernel))) (by decide) (by decide)
theorem nd13 {x : Str} (h : x ∈ all13) : (x == ("__debug__" : Str)) = false := by
  have : (all13.all fun x => !(x == ("__debug__" : Str))) = true := by decide +kernel
  simpa using List.all_eq_true.mp this x h
def flg (y : Str) (ns : List Str) : List V := ns.map fun x => .bl (decide (x = y))
theorem flg_len (y : Str) (ns : List Str) : (flg y ns).length = ns.length := by simp [flg]
theorem flg_app (y : Str) (ns ms : List Str) : flg y ns ++ flg y ms = flg y (ns ++ ms) := by simp [flg]
theorem pa_is (t : TX X p Dc y sc scope) : ∀ {ns : List Str} {es : List Expr}, IsL ns es → (∀ x ∈ ns, x ∈ all13) → PA X es (fun σ H Q => σ[0]? = some (some (.ref p.1)) ∧ Q (flg y ns) H)
  | _, _, .nil, _ => PA.imp pa_nil fun σ H Q h => h.2
  | _, _, .cons (x := x) (ns := ns) (es := es) h, hm => by
    have hx := hm x List.mem_cons_self
    obtain ⟨C, h1, h2⟩ := t.cl.cls x hx
    refine PA.imp (pa_cons (pe_isx t.hp t.cl.exc t.hz t.hf (t.g (by decide +kernel)) (t.bl _ (by decide +kernel)) t.ve (pe_glob (v := .ref C) (t.g (List.mem_append_left _ hx)) h1 rfl (nd13 hx)) (fun u r => r) h2) (pa_is t h fun z hz => hm z (List.mem_cons_of_mem _ hz))) fun σ H Q q => ⟨q.1, q.1, q.2⟩
theorem pa_st : ∀ {ns : List Str} {es : List Expr}, StL ns es → PA X es (fun σ H Q => Q (ns.map V.str) H)
  | _, _, .nil => PA.imp pa_nil fun σ H Q h => h
  | _, _, .cons (x := x) (ns := ns) (es := es) h => PA.imp (pa_cons pe_str (pa_st h)) fun σ H Q q => q
theorem start0 (a : V) : L2.start NT [a] = [some a, none, none, none] := rfl
theorem sum_flags (y : Str) : ∀ ns : List Str, (ns.map fun x => if decide (x = y) = true then (1 : Int) else 0).sum = (ns.count y : Nat)
  | [] => rfl
  | x :: ns => by
    rw [List.map_cons, List.sum_cons, sum_flags y ns, List.count_cons]
    by_cases h : x = y
    · subst h; simp; omega
    · simp [h]
theorem cnt13 {y : Str} (h : y ∈ all13) : all13.count y = 1 := by
  have : (all13.all fun y => decide (all13.count y = 1)) = true := by decide +kernel
  simpa using List.all_eq_true.mp this y h
theorem idx_no : ∀ {ns : List Str} {y : Str} {k : Nat}, k < ns.idxOf y → ns[k]? ≠ some y
  | [], _, _, h => by simp at h
  | x :: ns, y, k, h => by
    rw [List.idxOf_cons] at h
    by_cases e : x = y
    · subst e; simp at h
    · have hb : (x == y) = false := beq_eq_false_iff_ne.mpr e
      rw [hb] at h
      cases k with
      | zero => simp [e]
      | succ k => exact idx_no (ns := ns) (Nat.lt_of_succ_lt_succ h)
theorem term_read {a1 a2 a3 a4 s1 s2 : List Expr} {q0 q1 q2 q3 q4 q5 q6 q7 q8 q9 q10 q11 q12 q13 q14 q15 q16 q17 q18 q19 q20 q21 q22 q23 q24 q25 q26 q27 q28 q29 q30 q31 q32 q33 q34 q35 q36 q37 q38 q39 q40 q41 q42 q43 q44 q45 q46 q47 q48 q49 q50 q51 q52 q53 q54 q55 : Pos} {k1 k2 k3 k4 k5 k6 k7 k8 : Nat}
    (t : TX X p Dc y sc scope) (i1 : IsL n1 a1) (i2 : IsL n2 a2) (i3 : IsL n3 a3) (i4 : IsL n4 a4) (j1 : StL m1 s1) (j2 : StL m2 s2) (hl : (q48.endLine == q50.line) = true) :
    ∃ ts, PSs X [.Assign [.Name "flags" q0] (.List a1 q1) q2, .Assign [.Name "flags" q3] (.BinOp (.Name "flags" q4) .Add (.List a2 q5) q6) q7, .Assign [.Name "flags" q8] (.BinOp (.Name "flags" q9) .Add (.List a3 q10) q11) q12,
      .Assign [.Name "flags" q13] (.BinOp (.Name "flags" q14) .Add (.List a4 q15) q16) q17, .Assign [.Name "kinds" q18] (.List s1 q19) q20, .Assign [.Name "kinds" q21] (.BinOp (.Name "kinds" q22) .Add (.List s2 q23) q24) q25,
      .If (.BoolOp .Or [.Compare (.Call (.Name "sum" q26) [.ListComp (.Call (.Name "int" q27) [.Name "flag" q28] [] q29) [⟨.Name "flag" q30, .Name "flags" q31, [], 0⟩] scope q32] [] q33) [.NotEq] [.Constant (.int 1) k1 q34] q35,
        .UnaryOp .Not (.Call (.Name "isinstance" q36) [.Name "e" q37, .Name "ValueError" q38] [] q39) q40] q41) [.Return (some (.Tuple [.Constant (.str "error") k2 q42, .Constant (.str "other") k3 q43] k4 q44)) q45] [] q46,
      .Return (some (.Tuple [.Constant (.str "error") k5 q47, .Subscript (.Name "kinds" q49) (.Call (.Attribute (.Name "flags" q51) "index" q48) [.Constant (.bool true) k6 q52] [] q50) q53] k7 q54)) q55] ts ∧
      ∀ (De : Ends) (H : Hp), (∀ q us H', Grow H H' → H q = none → H' q = some (TO.tupH us [.str "error", .str y]) → De.rt (.ref q) H') → ts De (L2.start NT [.ref p.1]) H := by
  have loc : ∀ x ∈ (["e", "flags", "kinds"] : List Str), X.env.scope.names.lookup x = some .local := by rw [t.esc]; exact t.sc.loc
  have lf := loc "flags" (by decide +kernel)
  have lk := loc "kinds" (by decide +kernel)
  have nd := t.nd
  have N1 : X.N[1]? = some ("flags" : Str) := by rw [t.eN]; rfl
  have N2 : X.N[2]? = some ("kinds" : Str) := by rw [t.eN]; rfl
  have sub : ∀ {ns : List Str}, (∀ x ∈ ns, x ∈ all13) ↔ (ns.all fun x => decide (x ∈ all13)) = true := by
    intro ns; simp
  have b1 : ∀ x ∈ n1, x ∈ all13 := sub.2 (by decide +kernel)
  have b2 : ∀ x ∈ n2, x ∈ all13 := sub.2 (by decide +kernel)
  have b3 : ∀ x ∈ n3, x ∈ all13 := sub.2 (by decide +kernel)
  have b4 : ∀ x ∈ n4, x ∈ all13 := sub.2 (by decide +kernel)
  have blk : BlkOk X.N X.env.scope scope [("flag", 3)] := by rw [t.eN, t.esc]; exact blkOk_by t.sc.blk
  have int' : ∀ (s : Shared) (H : Hp) (C : Addr) (cl : List (Str × Addr)) (fp : List Addr), Gl (X.blk s H scope (compEnvC scope cl C X.env) fp) "int" := fun s H C cl fp => lookup_relS_keep (sc := X.env.scope) (by decide) t.sc.int
  have fl' : ∀ (s : Shared) (H : Hp) (C : Addr) (cl : List (Str × Addr)) (fp : List Addr), (X.blk s H scope (compEnvC scope cl C X.env) fp).env.scope.names.lookup ("flag" : Str) = some .local := fun s H C cl fp => lookup_relS_keep (sc := X.env.scope) (by decide) t.sc.fl
  have P1 := ps_set (pos := q2) (pos' := q0) (i := 1) nd N1 (.inl lf) (pe_lst (pos := q1) (pa_is t i1 b1)) rfl (.inr lf)
  have P2 := ps_set (pos := q7) (pos' := q3) (i := 1) nd N1 (.inl lf) (pe_op (pos := q6) op_cat (t.vf (pos := q4)) (pe_lst (pos := q5) (pa_is t i2 b2))) rfl (.inr lf)
  have P3 := ps_set (pos := q12) (pos' := q8) (i := 1) nd N1 (.inl lf) (pe_op (pos := q11) op_cat (t.vf (pos := q9)) (pe_lst (pos := q10) (pa_is t i3 b3))) rfl (.inr lf)
  have P4 := ps_set (pos := q17) (pos' := q13) (i := 1) nd N1 (.inl lf) (pe_op (pos := q16) op_cat (t.vf (pos := q14)) (pe_lst (pos := q15) (pa_is t i4 b4))) rfl (.inr lf)
  have P5 := ps_set (pos := q20) (pos' := q18) (i := 2) nd N2 (.inl lk) (pe_lst (pos := q19) (pa_st (X := X) j1)) rfl (.inr lk)
  have P6 := ps_set (pos := q25) (pos' := q21) (i := 2) nd N2 (.inl lk) (pe_op (pos := q24) op_cat (t.vk (pos := q22)) (pe_lst (pos := q23) (pa_st j2))) rfl (.inr lk)
  have N3 : X.N[3]? = some ("flag" : Str) := by rw [t.eN]; rfl
  have LC := hot_list (pos := q32) (own := [("flag", 3)]) (g := gName 3) t.hot nd (t.vf (pos := q31)) blk (fun s H C cl fp => pg_name (pos := q30) (i := 3) nd N3 (.inl (fl' s H C cl fp)) (.inr (fl' s H C cl fp)))
    (fun s H C cl fp => pe_callTy (x := "int") (pos := q29) (p := q27) call_int1 (int' s H C cl fp) (t.bl _ (by decide +kernel)) (by decide +kernel) (pa_cons (pe_var (pos := q28) (i := 3) N3 (.inl (fl' s H C cl fp)) (by decide) (by decide)) pa_nil rfl) (by decide) (by decide) rfl rfl)
  have SM := pe_callB (x := "sum") (pos := q33) (p := q26) (cr_sumH t.hot) (t.g (by decide +kernel)) (t.bl _ (by decide +kernel)) (by decide +kernel) (pa_cons LC pa_nil rfl) (by decide) (by decide) rfl rfl
  have VE := pe_isx (q := q36) (pos := q39) t.hp t.cl.exc t.hz t.hf (t.g (by decide +kernel)) (t.bl _ (by decide +kernel)) (t.ve (pos := q37)) (pe_bltn (x := "ValueError") (pos := q38) (v := .ty "ValueError") (t.g (by decide +kernel)) (t.bl _ (by decide +kernel)) (by decide +kernel) rfl (by decide) (by decide)) (fun u r => r) t.cl.val
  have IX := pe_bm (apos := q48) (cpos := q50) PySem.F.plainAttrs_list PySem.F.slot_list_index PySem.F.type_list_index mt_index (t.vf (pos := q51)) (pa_cons (pe_bl (X := X) (b := true) (j := k6) (pos := q52)) pa_nil rfl) rfl rfl hl rfl rfl
  refine ⟨_, pss_cons P1 (pss_cons P2 (pss_cons P3 (pss_cons P4 (pss_cons P5 (pss_cons P6 (pss_cons (ps_if (PW.pt (pw_or (pt_cmpR (op_neD t.un) SM pe_int (by rfl)) (pw_or1 (pt_not (pt_val VE (fun _ => rfl))))))
    (pss_one (ps_ret (TO.pe_tupF (pa_cons pe_str (pa_cons pe_str pa_nil rfl) rfl)))) pss_nil) (pss_one (ps_ret (TO.pe_tupF (pa_cons pe_str (pa_cons (pe_ix ix_list t.vk IX (fun _ _ => rfl)) pa_nil rfl) rfl)))))))))), ?_⟩
  intro De H q
  rw [start0]
  have up : ∀ {H' : Hp} {a b : Addr} {o o' : HO}, H' a = some o → H' b = none → upd H' b o' a = some o := fun e1 e2 => by rw [upd_ne (ne_of_none e1 e2)]; exact e1
  have ln : ∀ {ns : List Str}, ns.length ≤ 13 → (flg y ns).length ≤ sizeLine := fun h => by rw [flg_len]; exact Nat.le_trans h (by decide +kernel)
  refine ⟨rfl, ln (by decide +kernel), fun l1 h1 => ?_⟩
  have g1 := (Grow.refl H).new (o := .lst (flg y n1)) h1
  have e1 : upd H l1 (.lst (flg y n1)) l1 = some (.lst (flg y n1)) := upd_same
  generalize upd H l1 (.lst (flg y n1)) = H1 at g1 e1 ⊢
  refine ⟨.ref l1, rfl, rfl, ln (by decide +kernel), fun l2 h2 => ⟨l1, l2, flg y n1, flg y n2, rfl, rfl, up e1 h2, upd_same, by rw [flg_len, flg_len]; decide +kernel, fun l3 h3 => ?_⟩⟩
  rw [flg_app]
  have g2 := (g1.new (o := .lst (flg y n2)) h2).new (o := .lst (flg y (n1 ++ n2))) h3
  have e2 : upd (upd H1 l2 (.lst (flg y n2))) l3 (.lst (flg y (n1 ++ n2))) l3 = some (.lst (flg y (n1 ++ n2))) := upd_same
  generalize upd (upd H1 l2 (.lst (flg y n2))) l3 (.lst (flg y (n1 ++ n2))) = H2 at g2 e2 ⊢
  refine ⟨.ref l3, rfl, rfl, ln (by decide +kernel), fun l4 h4 => ⟨l3, l4, flg y (n1 ++ n2), flg y n3, rfl, rfl, up e2 h4, upd_same, by rw [flg_len, flg_len]; decide +kernel, fun l5 h5 => ?_⟩⟩
  rw [flg_app]
  have g3 := (g2.new (o := .lst (flg y n3)) h4).new (o := .lst (flg y (n1 ++ n2 ++ n3))) h5
  have e3 : upd (upd H2 l4 (.lst (flg y n3))) l5 (.lst (flg y (n1 ++ n2 ++ n3))) l5 = some (.lst (flg y (n1 ++ n2 ++ n3))) := upd_same
  generalize upd (upd H2 l4 (.lst (flg y n3))) l5 (.lst (flg y (n1 ++ n2 ++ n3))) = H3 at g3 e3 ⊢
  refine ⟨.ref l5, rfl, rfl, ln (by decide +kernel), fun l6 h6 => ⟨l5, l6, flg y (n1 ++ n2 ++ n3), flg y n4, rfl, rfl, up e3 h6, upd_same, by rw [flg_len, flg_len]; decide +kernel, fun l7 h7 => ?_⟩⟩
  rw [flg_app, ← all13_eq]
  have g4 := (g3.new (o := .lst (flg y n4)) h6).new (o := .lst (flg y all13)) h7
  have e4 : upd (upd H3 l6 (.lst (flg y n4))) l7 (.lst (flg y all13)) l7 = some (.lst (flg y all13)) := upd_same
  generalize upd (upd H3 l6 (.lst (flg y n4))) l7 (.lst (flg y all13)) = H4 at g4 e4 ⊢
  refine ⟨by decide +kernel, fun l8 h8 => ?_⟩
  have g5 := g4.new (o := .lst (m1.map V.str)) h8
  have e5 : upd H4 l8 (.lst (m1.map V.str)) l8 = some (.lst (m1.map V.str)) := upd_same
  have f5 : upd H4 l8 (.lst (m1.map V.str)) l7 = some (.lst (flg y all13)) := up e4 h8
  generalize upd H4 l8 (.lst (m1.map V.str)) = H5 at g5 e5 f5 ⊢
  refine ⟨.ref l8, rfl, by decide +kernel, fun l9 h9 => ⟨l8, l9, m1.map V.str, m2.map V.str, rfl, rfl, up e5 h9, upd_same, by decide +kernel, fun k0 hk => ?_⟩⟩
  rw [← List.map_append, show m1 ++ m2 = all13 from rfl]
  have g6 := (g5.new (o := .lst (m2.map V.str)) h9).new (o := .lst (all13.map V.str)) hk
  have e6 : upd (upd H5 l9 (.lst (m2.map V.str))) k0 (.lst (all13.map V.str)) k0 = some (.lst (all13.map V.str)) := upd_same
  have f6 : upd (upd H5 l9 (.lst (m2.map V.str))) k0 (.lst (all13.map V.str)) l7 = some (.lst (flg y all13)) := up (up f5 h9) hk
  generalize upd (upd H5 l9 (.lst (m2.map V.str))) k0 (.lst (all13.map V.str)) = H6 at g6 e6 f6 ⊢
  refine ⟨.ref l7, rfl, l7, flg y all13, (all13.map fun x => if decide (x = y) = true then (1 : Int) else 0).map V.int, rfl, SqL.of f6, by simp [flg], by rw [flg_len]; decide +kernel, fun i v w H7 hv hw => ?_, fun D hD => ?_⟩
  · rw [List.map_map, List.getElem?_map, Option.map_eq_some_iff] at hw
    obtain ⟨x, hx, rfl⟩ := hw
    rw [flg, List.getElem?_map, hx] at hv
    cases hv
    exact ⟨rfl, rfl, .bl (decide (x = y)), rfl, .inr ⟨decide (x = y), rfl, rfl, rfl⟩⟩
  · have g7 := g6.new (o := .lst ((all13.map fun x => if decide (x = y) = true then (1 : Int) else 0).map V.int)) hD
    have e7 := up (o' := .lst ((all13.map fun x => if decide (x = y) = true then (1 : Int) else 0).map V.int)) e6 hD
    have f7 := up (o' := .lst ((all13.map fun x => if decide (x = y) = true then (1 : Int) else 0).map V.int)) f6 hD
    have d7 : upd H6 D (.lst ((all13.map fun x => if decide (x = y) = true then (1 : Int) else 0).map V.int)) D = some (.lst ((all13.map fun x => if decide (x = y) = true then (1 : Int) else 0).map V.int)) := upd_same
    generalize upd H6 D (.lst ((all13.map fun x => if decide (x = y) = true then (1 : Int) else 0).map V.int)) = H7 at g7 e7 f7 d7 ⊢
    refine ⟨D, all13.map fun x => if decide (x = y) = true then (1 : Int) else 0, rfl, SqL.of d7, ?_⟩
    rw [sum_flags, cnt13 t.cl.mem]
    refine ⟨.int 1, .int 1, .int 1, .int 1, by decide +kernel, by decide +kernel, false, by decide +kernel, ?_⟩
    refine iteF ⟨rfl, true, rfl, iteF ?_⟩
    have hm := t.cl.mem
    have hj := List.idxOf_lt_length_of_mem hm
    have hat : all13[all13.idxOf y]? = some y := by rw [List.getElem?_eq_getElem hj, List.getElem_idxOf hj]
    have fl : (flg y all13).all flatV = true := by simp [flg, flatV]
    refine ⟨.ref k0, rfl, .ref l7, rfl, .inl ⟨rfl, _, SqL.of f7⟩, l7, flg y all13, .bl true, all13.idxOf y, .bl true, rfl, rfl, SqL.of f7, rfl, fl, ?_, by decide, fun k z hk hz => ?_, k0, all13.map V.str, all13.idxOf y, .str y, rfl, rfl, SqL.of e7, ?_, show 2 ≤ sizeLine by decide, fun q0 us hq => ?_⟩
    · rw [flg, List.getElem?_map, hat]; simp
    · rw [flg, List.getElem?_map, Option.map_eq_some_iff] at hz
      obtain ⟨x, hx, rfl⟩ := hz
      have : x ≠ y := fun e => idx_no hk (by rw [hx, e])
      rw [decide_eq_false this]
      rfl
    · exact at_of (j := all13.idxOf y) rfl (by rw [List.getElem?_map, hat]; rfl)
    · exact q q0 us _ (g7.new hq) (by
        cases hh : H q0 with
        | none => rfl
        | some o => have := g7.1 q0 o hh; rw [hq] at this; cases this) upd_same
end
end TU

set_option Elab.async false
set_option linter.all false
set_option maxRecDepth 100000
set_option maxHeartbeats 4000000
/-! _law_told(lambda: e), seen from the def that says it. -/
namespace TU
open PySem PySem.Spec PyProof.Rows HotX L2 L2H

/-! ### a def called while p is handled, p known -/
section
variable {CX : CXT} {P : Program} {w : World} {K : PySem.W.Frag} {mg : Str → Option Value} {base : Heap}
theorem run_hot {kk : Nat} {f : Addr} {nm qu : Str} {pa : Arguments} {bo : List Stmt} {sco : Scope} {dV kV dc pmv cd ctv oc : Value} {an od : Option Addr} {osl : Array (Option Value)} {Nn pss : List Str}
    (lk : K.lookup f = some ⟨oc, od, .func (PySem.W.fnOf nm qu pa bo sco dV kV dc pmv an cd ctv), osl⟩) (hcd : PySem.W.codeIn K cd qu = true) (S : FnScope Nn pss sco)
    {A : Around} {outer : List Env} {s : Shared} {H : Hp} {args : Args} {us : List Value} {vs : List V} {Q : VK} {E : XK} {p : Addr × Obj} (hr : RoomH (kk + 1) A) (hpin : PinOk outer H s p) (e0 : Env0 P w K mg base A outer s H)
    (hb : BindsTo s (PySem.W.fnOf nm qu pa bo sco dV kV dc pmv an cd ctv) args (pss.zip us)) (r : Vals vs us) (hl : vs.length = pss.length)
    (hbody : RoomH kk (A.deeper (envOfC qu sco s.heap.objs.size f cd)) → ∃ t, PSs (cxH CX P w K mg base Nn qu sco f cd A outer s H E p) bo t ∧ t { nx := fun _ H' => Q .non H', rt := Q } (L2.start Nn vs) H) :
    codeAny (model P w) A (.call (.ref f) args) (CR CX outer P w H s Q E) s := by
  have old : ∀ b o, base.get? b = some o → s.heap.get? b = some o := fun b o e => (e0.bs b o e).1
  have KX : K.In s.heap := e0.mod.kin.keeps old
  have hnl : s.heap.NoLimit := e0.mod.nolimit.keeps old
  have kinds : ∀ y ∈ pss.zip us, sco.names.lookup y.1 = some .local ∨ (sco.names.lookup y.1 = some .cell ∧ ((cellsFrom (s.heap.objs.size + 1) sco.names []).lookup y.1).isSome = true) := by
    rintro ⟨n, v⟩ hy
    exact (S.par n (List.of_mem_zip hy).1).imp id fun q => ⟨q, PySem.W.cellsFrom_some _ _ _ (.inl q)⟩
  refine codeAny_call_function hr.depth (KX _ _ lk) rfl S.co
    S.gen rfl (PySem.W.codeRec_of KX hcd) (hb _ _ _ _ ?_)
  refine wpAny_newFunctionEnv_cells S.kind kinds fun env he t1 x => ?_
  subst he
  refine ⟨hnl.keeps x.toInCall.keep, codeAny_func ?_⟩
  obtain ⟨t, ht, hq⟩ := hbody (hr.deeper _)
  have J0 : Inv (cxH CX P w K mg base Nn qu sco f cd A outer s H E p) [] (L2.start Nn vs) H t1 := inv_startH S hpin e0 hl r x
  refine wpAny_mono (ht.run [] t1 _ H _ J0 hq) (fun fl t2 h2 => ?_) fun _ _ h2 => h2
  cases fl with
  | ret u =>
    obtain ⟨v, σ2, H2, J, rv, q⟩ := h2
    exact ⟨v, H2, J.os, J.bare, J.base, J.hok, rv, q⟩
  | next =>
    obtain ⟨σ2, H2, J, q⟩ := h2
    exact ⟨V.non, H2, J.os, J.bare, J.base, J.hok, rfl, q⟩
  | brk =>
    obtain ⟨_, _, _, z⟩ := h2
    exact (show False from z).elim
  | cont =>
    obtain ⟨_, _, _, z⟩ := h2
    exact (show False from z).elim
end
/-- the def _law_term stands, and does what it says -/
structure TermD (K : PySem.W.Frag) (mg : Str → Option Value) : Prop where
  ex : ∃ (st : Stmt) (scope : Scope) (f : Addr) (fd : FuncData), Fun K "_law_term" "_law_term" st f fd ∧ Binds K fd ["e"] [] ∧ mg "_law_term" = some (.ref f) ∧ FnScope NT ["e"] (defScope st) ∧ TScope (defScope st) scope ∧
    ∀ (X : Cx) (p : Addr × Obj) (Dc : Addr) (y : Str), TX X p Dc y (defScope st) scope → ∃ ts, PSs X (defBody st) ts ∧
      ∀ (De : Ends) (H : Hp), (∀ q us H', Grow H H' → H q = none → H' q = some (TO.tupH us [.str "error", .str y]) → De.rt (.ref q) H') → ts De (L2.start NT [.ref p.1]) H
/-- what follows a caught exception -/
def Told (K : PySem.W.Frag) (mg : Str → Option Value) (y : Str) (H : Hp) (Q : VK) : Prop := ∀ q us H', Grow H H' → H q = none → H' q = some (TO.tupH us [.str "error", .str y]) → Q (.ref q) H'
section
variable {X : Cx} {a Dc : Addr} {oe : Obj} {pn : List (Addr × Obj)} {y : Str}
theorem pe_term {p1 p2 p3 : Pos} {k : Nat} (D : TermD X.K X.mg) (hz : L2N.Zn (.ref Dc) none oe) (hf : ∃ vs, oe.data = .fields vs) (tc : TCls X.K X.mg Dc y) (hr : Room (k + 1) X.A) (hg : X.env.scope.names.lookup ("_law_term" : Str) = some .globalImplicit)
    (bl : ∀ x ∈ (["isinstance", "sum", "int", "ValueError"] : List Str), X.mg x = none) (hN : X.N[1]? = some ("e" : Str)) (hv : X.env.scope.names.lookup ("e" : Str) = some .local) :
    PE (X.suite a ((a, oe) :: pn)) (.Call (.Name "_law_term" p1) [.Name "e" p2] [] p3) (fun σ H Q => σ[1]? = some (some (.ref a)) ∧ Told X.K X.mg y H Q) := by
  obtain ⟨st, scope, f, fd, F, hb, hm, S, TS, body⟩ := D.ex
  obtain ⟨oc, od, kV, doc, pmv, an, cdv, ct, osl, rfl, lk, hcd⟩ := F.ex
  obtain ⟨vs0, hvs⟩ := hf
  have hot : Hot1 (X.suite a ((a, oe) :: pn)).A (a, oe) := ⟨rfl, vs0, hvs, hz.2.2 vs0 hvs⟩
  refine ⟨fun pins s σ H Q I h => ?_⟩
  obtain ⟨hσ, hq⟩ := h
  have va : PA (X.suite a ((a, oe) :: pn)) [.Name "e" p2] (tCons (tVar 1) tNil) := pa_cons (pe_var (i := 1) hN (.inl hv) (by decide) (by decide)) pa_nil rfl
  refine wpAny_Call_Name_kw (ld_glob I hg hm ?_ (by decide))
  refine PySem.W.callWith_K (h₀ := X.base) I.ok.mod.kin F.kp (thn (va.run p3 pins s σ H (fun vs H1 => vs = [.ref a] ∧ H1 = H) I ⟨.ref a, hσ, rfl, rfl⟩) fun us s1 ⟨vs, H1, I1, rr, e1, e2⟩ => ⟨I1.kIn, ?_⟩) (by rfl) (by rfl)
  subst e1 e2
  have P1 := I1.pin (a, oe) (List.mem_append_left _ List.mem_cons_self)
  have hpin : PinOk X.stack H1 s1 (a, oe) := ⟨P1.1, P1.2.1, fun hm => (List.mem_cons.mp (I1.stkSub a hm)).elim P1.2.2.1 P1.2.2.2.1, P1.2.2.2.2⟩
  have b := hb s1 us I1.kIn (by rw [List.append_nil]; exact rr.length.symm)
  rw [List.append_nil] at b
  have rm : RoomH (k + 1) (X.suite a ((a, oe) :: pn)).A := ⟨hr.dp, hr.un⟩
  refine wpAny_call (codeAny_mono (run_hot (CX := C8.CX0) (E := C8.E0) (Q := Q) (args := ⟨us, []⟩) lk hcd S rm hpin I1.env0 b rr rfl fun hr' => ?_) fun r s2 hq2 => ?_)
  · have hu : ((X.suite a ((a, oe) :: pn)).A.deeper (envOfC "_law_term" (defScope st) s1.heap.objs.size f cdv)).units + 64 < cLine := by have := hr'.un; omega
    obtain ⟨ts, h1, h2⟩ := body (cxH C8.CX0 X.prog X.w X.K X.mg X.base NT "_law_term" (defScope st) f cdv (X.suite a ((a, oe) :: pn)).A X.stack s1 H1 C8.E0 (a, oe)) (a, oe) Dc y
      ⟨rfl, rfl, fun _ => rfl, List.mem_singleton.mpr rfl, ⟨(a, oe), ⟨hot.1, hot.2⟩, List.mem_singleton.mpr rfl⟩, hz.zc, ⟨vs0, hvs⟩, tc, TS, bl, hu⟩
    exact ⟨ts, h1, h2 _ _ hq⟩
  · cases r with
    | error e => exact (show False from hq2).elim
    | ok fl =>
      cases fl with
      | ret u => exact I1.after hq2
      | next => exact False.elim hq2
      | brk => exact False.elim hq2
      | cont => exact False.elim hq2
end

/-! ### the lambda -/
/-- what the making of a lambda does to the heap -/
structure LStep (T : List (Addr × Str)) (H H1 : Hp) : Prop where
  keep : ∀ b o, H b = some o → H1 b = some o ∨ ∃ ps qs, o = .tbl ps ∧ H1 b = some (.tbl qs)
  live : ∀ b, H1 b = none → H b = none
  tabs : LamX.Tabs T H1
section
variable {X : Cx} {pins : List (Addr × Obj)} {σ : L2.St} {H : Hp} {s : Shared}
theorem lam_new {T : List (Addr × Str)} {c P : Addr} {params : Arguments} {body : Expr} {scope : Scope} {pos : Pos} {E : Value → Shared → Prop} {Q : Value → Shared → Prop} {nm : Str} (I : Inv X pins σ H s) (TB : LamX.TabB X.base X.mg c P) (hcode : X.env.code = .ref c) (hnm : X.env.qual ++ "<lambda>" = nm)
    (hm : (P, nm) ∈ T) (hu : ∀ p ∈ T, p.1 = P → p.2 = nm) (hT : LamX.Tabs T H) (hdef : defaultsOf params X.env = ([], [])) (hfree : ∀ y ∈ scope.names, y.2 = .free → ∃ c, X.env.cells.lookup y.1 = some c)
    (h : ∀ (f c' : Addr) (pm ctv : Value) (H1 : Hp) (s' : Shared), Inv X pins σ H1 s' → LStep T H H1 →
      s'.heap.get? f = some (PySem.W.kla_obj "<lambda>" nm params body scope (cloFrom X.env.cells scope.names []) pm c' ctv) → H1 f = none → f ∉ frs X.stack → H1 c' = some (LamX.CodeO c' nm) → Q (.ref f) s') :
    wpAny (model X.prog X.w) X.A (eval (.Lambda params body scope pos) X.env) Q E s := by
  subst hnm
  obtain ⟨ps, hP, ht, ha⟩ := hT _ hm
  refine PySem.W.kla_eval hdef ?_
  have bP : s.heap.BuiltinsAt X.mg P := TB.bm.keeps I.bk
  have oP : s.heap.get? P = some { cls := .none, data := .fields ps } := I.hok P _ hP
  have outF : ∀ f, s.heap.objs.size ≤ f → f ∉ frs X.stack := fun f hf z => (List.mem_cons.mp (I.stkSub _ z)).elim (fun e => by
    have h1 := I.lt
    rw [← e] at h1
    exact absurd (Nat.lt_of_lt_of_le h1 hf) (Nat.lt_irrefl _)) (fun e => I.nofs hf e)
  cases hc : codeAmong pos ps.toList with
  | none =>
    refine PySem.W.kla_makeFunction (mg := X.mg) (c := c) (P := P) (ps := ps) (closure_ok hfree) I.ok.glob
      (I.mod.glob.keeps I.bk) hcode (TB.code.keeps I.bk) oP ht hc TB.gP bP fun c' ctv h' tk hx hge hlt hrec htb => ?_
    obtain ⟨c2, oc, vs, t, e2, hoc, hd, hv⟩ := hrec
    cases e2
    have hsz : s.heap.objs.size ≤ h'.objs.size := Nat.le_trans hge (Nat.le_of_lt hlt)
    have nC : H c' = none := I.hok.fresh hge
    have nPc : P ≠ c' := ne_of_none hP nC
    have J := LamX.inv_table (t' := tk) (more := #[rawInt pos.line, rawInt pos.col, .ref c']) (h' := h'.push (PySem.W.kla_obj "<lambda>" (X.env.qual ++ "<lambda>") params body scope (cloFrom X.env.cells scope.names []) ((X.mg "__name__").getD .none) c' ctv)) I hP
      (fun b o hb e => Heap.get?_push_of_some _ (hx b o hb e)) (Heap.get?_push_of_some _ htb) hge ⟨oc, vs, t, Heap.get?_push_of_some _ hoc, hd, hv⟩
    have kp : ∀ b o, H b = some o → b ≠ P → upd (upd H P (.tbl (ps ++ #[rawInt pos.line, rawInt pos.col, .ref c']))) c' (LamX.CodeO c' (X.env.qual ++ "<lambda>")) b = some o := fun b o e n => by
      rw [upd_ne (ne_of_none e nC), upd_ne n]; exact e
    have kc : ∀ c0 q, H c0 = some (LamX.CodeO c0 q) → upd (upd H P (.tbl (ps ++ #[rawInt pos.line, rawInt pos.col, .ref c']))) c' (LamX.CodeO c' (X.env.qual ++ "<lambda>")) c0 = some (LamX.CodeO c0 q) := fun c0 q e => kp c0 _ e fun z => by
      rw [z, hP] at e
      exact LamX.codeO_ne ps (Option.some.inj e).symm
    have eL : (ps ++ #[rawInt pos.line, rawInt pos.col, .ref c']).toList = ps.toList ++ [rawInt pos.line, rawInt pos.col, .ref c'] := by simp
    refine h h'.objs.size c' _ ctv _ _ J ⟨fun b o e => ?_, fun b e => ?_, fun p hp => ?_⟩ (Heap.get?_push_size _ rfl) ?_ (outF _ hsz) upd_same
    · by_cases hb : b = P
      · subst hb
        rw [hP] at e
        cases e
        exact .inr ⟨ps, _, rfl, by rw [upd_ne nPc, upd_same]⟩
      · exact .inl (kp b o e hb)
    · by_cases hb : b = c'
      · rw [hb]; exact nC
      · rw [upd_ne hb] at e
        by_cases hb2 : b = P
        · rw [hb2, upd_same] at e; cases e
        · rw [upd_ne hb2] at e; exact e
    · by_cases hb : p.1 = P
      · rw [hu p hp hb, hb]
        refine ⟨_, by rw [upd_ne nPc, upd_same], by rw [eL]; exact PySem.TriplesOk_snoc _ _ _ _ ht, fun p' cv hcv => ?_⟩
        rw [eL] at hcv
        rcases LamX.among_app _ ht hcv with z | z
        · obtain ⟨c0, z1, z2⟩ := ha p' cv z
          exact ⟨c0, z1, kc c0 _ z2⟩
        · exact ⟨c', z, upd_same⟩
      · obtain ⟨qs, a1, a2, a3⟩ := hT p hp
        refine ⟨qs, kp _ _ a1 hb, a2, fun p' cv hcv => ?_⟩
        obtain ⟨c0, z1, z2⟩ := a3 p' cv hcv
        exact ⟨c0, z1, kc c0 _ z2⟩
    · rw [upd_ne (Nat.ne_of_gt hlt), upd_ne (Nat.ne_of_gt (Nat.lt_of_lt_of_le (Heap.lt_size oP) hsz))]
      exact I.hok.fresh hsz
  | some cv =>
    obtain ⟨c', e, hco⟩ := ha pos cv hc
    subst e
    refine PySem.W.kla_makeFunctionHit (mg := X.mg) (c := c) (P := P) (ps := ps) (closure_ok hfree) I.ok.glob
      (I.mod.glob.keeps I.bk) hcode (TB.code.keeps I.bk) oP ht hc bP fun ctv h' tk hx hsz => ?_
    have J : Inv X pins σ H { s with heap := h'.push (PySem.W.kla_obj "<lambda>" (X.env.qual ++ "<lambda>") params body scope (cloFrom X.env.cells scope.names []) ((X.mg "__name__").getD .none) c' ctv), toks := tk } := I.kept fun b o e => Heap.get?_push_of_some _ (hx b o e)
    exact h h'.objs.size c' _ ctv H _ J ⟨fun b o e => .inl e, fun b e => e, hT⟩ (Heap.get?_push_size _ rfl) (I.hok.fresh hsz) (outF _ hsz) hco
/-- the context of the lambda's body; what it lets out has no context -/
abbrev lamC (X : Cx) (A : Around) (outer : List Env) (s : Shared) (H : Hp) (E : XK) (scope : Scope) (f c' : Addr) : Cx :=
  (LamX.lamCx X A outer s H E scope f c').wish fun e s' => wpAny (model X.prog X.w) (A.deeper (LamX.lamEnv X scope s.heap.objs.size f c')) (leaving (LamX.lamEnv X scope s.heap.objs.size f c') e) (fun _ s2 => L2N.CX X.prog X.w outer H s E e s2) (fun e2 s2 => L2N.CX X.prog X.w outer H s E e2 s2) s'
/-- a() in the def that got the lambda -/
theorem pe_deed {CXg : CXT} {Eg : XK} {Ng : List Str} {qg : Str} {sg : Scope} {g f c' : Addr} {cdg pm ctv : Value} {params : Arguments} {body : Expr} {scope : Scope} {k i : Nat} {a : Str} {pn : List (Addr × Obj)} {xe : Value → Shared → Prop} {Wx : WX} {E : XK} {tb : TE} {p1 p2 : Pos}
    (I : Inv X pins σ H s) (L : LamX.LamS X.env.scope scope) (hf : s.heap.get? f = some (PySem.W.kla_obj "<lambda>" (X.env.qual ++ "<lambda>") params body scope (cloFrom X.env.cells scope.names []) pm c' ctv)) (hfn : H f = none) (hfr : f ∉ frs X.stack)
    (hbind : bindArgs (PySem.W.kla_fn "<lambda>" (X.env.qual ++ "<lambda>") params body scope (cloFrom X.env.cells scope.names []) pm (.ref c') ctv) ⟨[], []⟩ = pure [])
    (tk : L2N.Takes ((cxOf CXg X.prog X.w X.K X.mg X.base Ng qg sg g cdg X.A X.stack s H Eg).tr pn xe) Wx) (hW : ∀ cls d σ' H', σ'.length = Ng.length → E cls d H' → Wx cls d σ' H') (hr : Room (k + 1) (X.A.deeper (envOfC qg sg s.heap.objs.size g cdg)))
    (hbody : ∀ (A : Around) (outer : List Env) (s : Shared) (H : Hp), Room k (A.deeper (LamX.lamEnv X scope s.heap.objs.size f c')) → PE (lamC X A outer s H E scope f c') body tb)
    (hN : Ng[i]? = some a) (hv : Vis sg a) (hd : (a == ("__debug__" : Str)) = false) (hcd : (a == ("__classdict__" : Str)) = false) :
    PE ((cxOf CXg X.prog X.w X.K X.mg X.base Ng qg sg g cdg X.A X.stack s H Eg).tr pn xe) (.Call (.Name a p1) [] [] p2)
      (fun σZ HZ Q => σZ[i]? = some (some (.ref f)) ∧ HZ c' = some (LamX.CodeO c' (X.env.qual ++ "<lambda>")) ∧ tb σ HZ Q) := by
  refine ⟨fun pinsZ sZ σZ HZ Q IZ h => ?_⟩
  obtain ⟨hs, hc, ht⟩ := h
  refine wpAny_Call_Name_kw (thn ((pe_var (pos := p1) (i := i) hN hv hd hcd).run pinsZ sZ σZ HZ (fun v H1 => v = .ref f ∧ H1 = HZ) IZ ⟨.ref f, hs, rfl, rfl⟩) fun u s1 z => ?_)
  obtain ⟨v, H1, I1, r1, rfl, rfl⟩ := z
  obtain rfl : u = Value.ref f := r1
  have of1 : s1.heap.get? f = some (PySem.W.kla_obj "<lambda>" (X.env.qual ++ "<lambda>") params body scope (cloFrom X.env.cells scope.names []) pm c' ctv) :=
    I1.base.keep f _ hf hfn hfr (fun z => nomatch (show f ∈ ([] : List Addr) from z))
  refine PySem.W.callWith_F0 ⟨_, _, _, _, of1⟩ ?_
  have un : Un (frs X.stack) [] H H1 s.heap s1.heap := I1.base
  obtain ⟨⟨oc, vs, t, hoc, hdc, hvc⟩, _, _⟩ := I1.hok c' _ hc
  have rc : codeAny (model X.prog X.w) (X.A.deeper (envOfC qg sg s.heap.objs.size g cdg)) (.call (.ref f) ⟨[], []⟩) (CR (L2N.CX X.prog X.w) (envOfC qg sg s.heap.objs.size g cdg :: X.stack) X.prog X.w H1 s1 Q E) s1 := by
    refine PySem.W.kla_callFunE hr.depth of1 rfl L.co L.gen rfl ⟨c', oc, vs, t, rfl, hoc, hdc, hvc⟩ ?_
    rw [hbind]
    refine wpAny_pure (wpAny_newFunctionEnv (fun y hy => (L.own y hy).2) (fun y hy => absurd hy (by simp))
      (fun h₁ hns hsb => ⟨I1.nolimit.fresh _ hsb, ?_⟩) L.kind)
    show codeAny _ _ (.expr body (LamX.lamEnv X scope s1.heap.objs.size f c')) _ _
    have kp : ∀ b o, s1.heap.get? b = some o → h₁.get? b = some o := fun b o e =>
      hsb.extBut b o (Nat.ne_of_lt (Heap.lt_size e)) (Heap.get?_push_of_some _ e)
    have J := (LamX.lam_start2 (E := E) (f := f) (c' := c') (tk := s1.toks + ([] : List (Str × Value)).length) I L I1.env0 hr.hd un hns kp).wish (fun e s' => wpAny (model X.prog X.w) ((X.A.deeper (envOfC qg sg s.heap.objs.size g cdg)).deeper (LamX.lamEnv X scope s1.heap.objs.size f c')) (leaving (LamX.lamEnv X scope s1.heap.objs.size f c') e) (fun _ s2 => L2N.CX X.prog X.w (envOfC qg sg s.heap.objs.size g cdg :: X.stack) H1 s1 E e s2) (fun e2 s2 => L2N.CX X.prog X.w (envOfC qg sg s.heap.objs.size g cdg :: X.stack) H1 s1 E e2 s2) s')
    refine PySem.W.kla_codeExpr (wpAny_mono ((hbody _ _ s1 H1 (hr.deeper _)).run [] _ _ H1 Q J ht) (fun v s' hq => ?_) fun e s' hq => hq)
    obtain ⟨v2, H2, J2, rv, q⟩ := hq
    exact ⟨v2, H2, J2.os, J2.bare, J2.base, J2.hok, rv, q⟩
  refine wpAny_call (codeAny_mono rc fun r s2 hq => ?_)
  cases r with
  | error e => exact tk e s2 (L2N.XE.of_call I1 (fun cls d H2 z => hW cls d σZ H2 I1.len z) hq)
  | ok fl => cases fl <;> first | exact I1.after hq | exact False.elim hq
/-- the def _law_told stands -/
def NG : List Str := ["deed", "e"]
structure ToldD (K : PySem.W.Frag) (mg : Str → Option Value) : Prop where
  ex : ∃ (st : Stmt) (g : Addr) (fd : FuncData) (CS : Addr) (p1 p2 p3 p4 p5 p6 p7 p8 p9 p10 : Pos), Fun K "_law_told" "_law_told" st g fd ∧ Binds K fd ["deed"] [] ∧ mg "_law_told" = some (.ref g) ∧ FnScope NG ["deed"] (defScope st) ∧
    defBody st = [.Try [.Return (some (.Call (.Name "deed" p1) [] [] p2)) p3] [.ExceptHandler (some (.Name "OrderError" p4)) (some "e") [.Return (some (.Call (.Name "_law_term" p5) [.Name "e" p6] [] p7)) p8] p9] [] [] p10] ∧
    (∀ x ∈ (["deed", "e"] : List Str), (defScope st).names.lookup x = some .local) ∧ (∀ x ∈ (["OrderError", "_law_term"] : List Str), (defScope st).names.lookup x = some .globalImplicit) ∧ mg "OrderError" = some (.ref CS) ∧
    ∀ y ∈ all13, ∃ Dc, mg y = some (.ref Dc) ∧ TCls K mg Dc y ∧ PySem.W.exmOne K (.ref Dc) (.ref CS) = some true
def EchT (K : PySem.W.Frag) (mg : Str → Option Value) (Q : VK) : XK := fun cls d H => ∃ y Dc, y ∈ all13 ∧ mg y = some (.ref Dc) ∧ cls = .ref Dc ∧ d = none ∧ Told K mg y H Q
/-- _law_told(lambda: body) -/
theorem pe_told {T : List (Addr × Str)} {c P : Addr} {k : Nat} {params : Arguments} {body : Expr} {scope : Scope} {t : XK → TE} {p lpos pos : Pos} {nm : Str} (D : ToldD X.K X.mg) (DT : TermD X.K X.mg) (bl : ∀ x ∈ (["isinstance", "sum", "int", "ValueError"] : List Str), X.mg x = none) (hg : Gl X "_law_told")
    (TB : LamX.TabB X.base X.mg c P) (hcode : X.env.code = .ref c) (hnm : X.env.qual ++ "<lambda>" = nm) (hmT : (P, nm) ∈ T) (hu : ∀ p ∈ T, p.1 = P → p.2 = nm) (hr : Room (k + 2) X.A) (L : LamX.LamS X.env.scope scope) (hdef : defaultsOf params X.env = ([], []))
    (hbind : ∀ (q : Str) (cl : List (Str × Addr)) (pm cv ctv : Value), bindArgs (PySem.W.kla_fn "<lambda>" q params body scope cl pm cv ctv) ⟨[], []⟩ = pure [])
    (hbody : ∀ (A : Around) (outer : List Env) (s : Shared) (H : Hp) (E : XK) (f c' : Addr), Room k (A.deeper (LamX.lamEnv X scope s.heap.objs.size f c')) → PE (lamC X A outer s H E scope f c') body (t E)) :
    PE X (.Call (.Name "_law_told" p) [.Lambda params body scope lpos] [] pos) (fun σ H Q => LamX.Tabs T H ∧ ∀ H1, LStep T H H1 → t (EchT X.K X.mg Q) σ H1 Q) := by
  obtain ⟨st, g, fd, CS, p1, p2, p3, p4, p5, p6, p7, p8, p9, p10, F, hb, hm, S, eb, lo, gl, mo, tc⟩ := D.ex
  obtain ⟨oc, od, kV, doc, pmv, an, cdv, ct, osl, rfl, lk, hcd⟩ := F.ex
  refine ⟨fun pins s σ H Q I h => ?_⟩
  obtain ⟨hT, h⟩ := h
  refine wpAny_Call_Name_kw (ld_glob I hg hm ?_ (by decide))
  refine PySem.W.callWith_K (h₀ := X.base) I.ok.mod.kin F.kp ?_ (by rfl) (by rfl)
  show wpAny _ _ (spliced ((false, eval (.Lambda params body scope lpos) X.env) :: backTo pos (starEach [] X.env))) _ _ s
  refine Calls.spliced_cons (lam_new I TB hcode hnm hmT hu hT hdef (L.has I.ok) fun f c' pm' ctv H1 s1 I1 st1 hf hfn hfr hco => ?_)
  subst hnm
  refine Calls.spliced_nil ⟨I1.kIn, ?_⟩
  have rc : codeAny (model X.prog X.w) X.A (.call (.ref g) ⟨[.ref f], []⟩) (CR C8.CX0 X.stack X.prog X.w H1 s1 Q C8.E0) s1 := by
    refine LamX.run_ofS (k := k + 1) (N := NG) (ps := ["deed"]) (us := [.ref f]) (vs := [.ref f]) lk hcd S hr I1.env0 (hb s1 [.ref f] I1.kIn rfl) (.cons rfl .nil) rfl fun hr' => ?_
    rw [eb]
    have key : ∃ tt, PSs (cxOf C8.CX0 X.prog X.w X.K X.mg X.base NG "_law_told" (defScope st) g cdv X.A X.stack s1 H1 C8.E0).nox [.Try [.Return (some (.Call (.Name "deed" p1) [] [] p2)) p3] [.ExceptHandler (some (.Name "OrderError" p4)) (some "e") [.Return (some (.Call (.Name "_law_term" p5) [.Name "e" p6] [] p7)) p8] p9] [] [] p10] tt ∧
        tt { nx := fun _ H' => Q .non H', rt := Q } (L2.start NG [.ref f]) H1 := by
      refine ⟨_, pss_one (L2N.ps_try_as (X := (cxOf C8.CX0 X.prog X.w X.K X.mg X.base NG "_law_told" (defScope st) g cdv X.A X.stack s1 H1 C8.E0).nox) (c := .ref CS) (i := 1) (Wout := fun _ _ _ _ => False)
        (tb := fun Wx De σ2 H2 => ∃ Ech : XK, (∀ cls d σ' H', σ'.length = NG.length → Ech cls d H' → Wx cls d σ' H') ∧ σ2[0]? = some (some (.ref f)) ∧ H2 c' = some (LamX.CodeO c' (X.env.qual ++ "<lambda>")) ∧ t Ech σ H2 De.rt)
        (ts := fun a cls d De σ2 H2 => ∃ Dc y, cls = .ref Dc ∧ d = none ∧ TCls X.K X.mg Dc y ∧ σ2[1]? = some (some (.ref a)) ∧ Told X.K X.mg y H2 De.rt)
        rfl rfl S.nd rfl (lo _ (by decide +kernel)) ⟨gl _ (by decide +kernel), by decide, .inl mo⟩ TO.takesN0 (fun Wx pn xe tk _ => ?_) (fun a oe cls d pn hz hf' => ?_)), ?_⟩
      · refine ⟨fun pins2 s2 σ2 H2 De I2 h2 => ?_⟩
        obtain ⟨Ech, hW, z1, z2, z3⟩ := h2
        exact (pss_one (ps_ret (pos := p3) (pe_deed (CXg := C8.CX0) (Eg := C8.E0) (Ng := NG) (p1 := p1) (p2 := p2) (i := 0) I1 L hf hfn hfr (hbind _ _ _ _ _) tk hW hr' (fun A outer s H hr2 => hbody A outer s H Ech f c' hr2) rfl (.inl (lo _ (by decide +kernel))) (by decide) (by decide)))).run pins2 s2 σ2 H2 De I2 ⟨z1, z2, z3⟩
      · refine ⟨fun pins2 s2 σ2 H2 De I2 h2 => ?_⟩
        obtain ⟨Dc, y, rfl, rfl, tcy, hσ2, q2⟩ := h2
        exact (pss_one (ps_ret (pos := p8) (pe_term (X := (cxOf C8.CX0 X.prog X.w X.K X.mg X.base NG "_law_told" (defScope st) g cdv X.A X.stack s1 H1 C8.E0).nox) (p1 := p5) (p2 := p6) (p3 := p7) (k := k) (y := y) DT hz hf' tcy hr' (gl _ (by decide +kernel)) bl rfl (lo _ (by decide +kernel))))).run pins2 s2 σ2 H2 De I2 ⟨hσ2, q2⟩
      · refine ⟨EchT X.K X.mg Q, fun cls d σ' H' hl z => ?_, rfl, hco, h H1 st1⟩
        obtain ⟨y, Dc, hy, hmy, rfl, rfl, q⟩ := z
        obtain ⟨Dc', hm', tcy, hex⟩ := tc y hy
        rw [hmy] at hm'
        cases hm'
        refine ⟨true, hex, fun _ a ha => ⟨Dc, y, rfl, rfl, tcy, ?_, q⟩, fun z => by cases z⟩
        exact List.getElem?_set_self (by rw [hl]; decide)
    obtain ⟨tt, k1, k2⟩ := key
    exact ⟨tt, k1.nox, k2⟩
  refine wpAny_call (codeAny_mono rc fun r s2 hq => ?_)
  cases r with
  | error e => exact (show False from hq).elim
  | ok fl => cases fl <;> first | exact I1.after hq | exact False.elim hq
end
end TU

set_option Elab.async false
set_option linter.all false
set_option maxRecDepth 100000
set_option maxHeartbeats 4000000
/-! The look at a piece of Python: does it bear this text? -/
namespace TO
open PySem PySem.Spec L2

def visB (sc : Scope) (x : Str) : Bool := match sc.names.lookup x with
  | some .local => true
  | some .cell => true
  | some .free => true
  | _ => false
def stoB (sc : Scope) (x : Str) : Bool := match sc.names.lookup x with
  | some .local => true
  | some .cell => true
  | _ => false
def gloB (sc : Scope) (x : Str) : Bool := match sc.names.lookup x with
  | some .globalImplicit => true
  | _ => false
def nmB (x : Str) : Bool := !(x == ("__debug__" : Str)) && !(x == ("__classdict__" : Str)) && !decide (x = ("__name__" : Str))
def slB (N : List Str) (i : Nat) (x : Str) : Bool := decide (N[i]? = some x)
def cstB : D → Const → Bool
  | .none, .none => true
  | .bool a, .bool b => a == b
  | .int a, .int b => a == b
  | .str a, .str b => decide (a = b)
  | _, _ => false
def plainE : Expr → Bool
  | .Starred _ _ => false
  | .Slice _ _ _ _ => false
  | .Set _ _ _ => false
  | _ => true
def chkTgs (N : List Str) (sc : Scope) : List Nat → List Expr → Bool
  | [], [] => true
  | i :: is, .Name x _ :: es => slB N i x && stoB sc x && chkTgs N sc is es
  | _, _ => false
def chkTg (N : List Str) (sc : Scope) : Tg → Expr → Bool
  | .name i, .Name x _ => slB N i x && stoB sc x
  | .tup is, .Tuple es _ _ => chkTgs N sc is es
  | _, _ => false
def biN : Bfn → Str
  | .len => "len"
  | .tuple => "tuple"
  | .list => "list"
  | .all => "all"
  | .sum => "sum"
  | .int1 => "int"
  | .max2 => "max"
  | .min2 => "min"
  | .min1 => "min"
  | .str1 => "str"
def smtN : Smt → Str
  | .join => "join"
  | .split => "split"
  | .index => "index"
def claN : Cla → String
  | .int => "int"
  | .bool => "bool"
  | .tuple => "tuple"
  | .list => "list"
  | .str => "str"
def claS : Cla → Str
  | .int => "int"
  | .bool => "bool"
  | .tuple => "tuple"
  | .list => "list"
  | .str => "str"
def mthN : Mth → Str
  | .index => "index"
  | .count => "count"
def isTupE : Expr → Bool
  | .Tuple _ _ _ => true
  | _ => false
def noArgs : Arguments → Bool
  | ⟨[], [], none, [], [], none, []⟩ => true
  | _ => false
mutual
def chkE (N : List Str) : Scope → E → Expr → Bool
  | sc, .lend _ a, e => chkE N sc a e
  | _, .any, e => plainE e
  | _, .cst d, .Constant k _ _ => cstB d k
  | sc, .var i, .Name x _ => slB N i x && visB sc x && nmB x
  | sc, .glob y _, .Name x _ => decide (x = y) && gloB sc x && nmB x
  | sc, .neg a, .UnaryOp .USub b _ => chkE N sc a b
  | sc, .bin o a b, .BinOp a' op b' _ => decide (op = bopO o) && chkE N sc a a' && chkE N sc b b'
  | sc, .cmp o a b, .Compare a' [op] [b'] _ => decide (op = copO o) && chkE N sc a a' && chkE N sc b b'
  | sc, .chain o p a b c, .Compare a' [op, op'] [b', c'] _ => decide (op = copO o) && decide (op' = copO p) && chkE N sc a a' && chkE N sc b b' && chkE N sc c c'
  | sc, .andE es, .BoolOp .And vs _ => chkEs N sc es vs
  | sc, .orE es, .BoolOp .Or vs _ => chkEs N sc es vs
  | sc, .notE a, .UnaryOp .Not b _ => chkE N sc a b
  | sc, .ife t a b, .IfExp t' a' b' _ => chkE N sc t t' && tokB t && chkE N sc a a' && chkE N sc b b'
  | sc, .ix a b, .Subscript a' b' _ => chkE N sc a a' && chkE N sc b b'
  | sc, .oix i b, .Subscript (.Name x _) b' _ => slB N i x && visB sc x && nmB x && chkE N sc b b'
  | sc, .slc a lo hi, .Subscript a' (.Slice lo' hi' none _) _ => chkE N sc a a' && chkO N sc lo lo' && chkO N sc hi hi'
  | sc, .tup es, .Tuple vs _ _ => chkEs N sc es vs
  | sc, .lst es, .List vs _ => chkEs N sc es vs
  | sc, .call f _ es, .Call (.Name x _) (v :: vs) [] _ => decide (x = f) && gloB sc x && nmB x && chkEs N sc es (v :: vs)
  | sc, .callD f _ i es, .Call (.Name x _) (.Name y _ :: vs) [] _ => decide (x = f) && gloB sc x && nmB x && slB N i y && visB sc y && nmB y && chkEs N sc es vs
  | sc, .bi b es, .Call (.Name x _) (v :: vs) [] _ => decide (x = biN b) && gloB sc x && chkEs N sc es (v :: vs)
  | sc, .isi a k, .Call (.Name x _) [a', .Name y _] [] _ => decide (x = ("isinstance" : Str)) && gloB sc x && decide (y = claS k) && gloB sc y && chkE N sc a a'
  | sc, .lenset a, .Call (.Name x _) [.Call (.Name y _) [a'] [] _] [] _ => decide (x = ("len" : Str)) && gloB sc x && decide (y = ("set" : Str)) && gloB sc y && chkE N sc a a'
  | sc, .sset a, .Call (.Name x _) [.Call (.Name y _) [a'] [] _] [] _ => decide (x = ("sorted" : Str)) && gloB sc x && decide (y = ("set" : Str)) && gloB sc y && chkE N sc a a'
  | sc, .trng t a, .Call (.Name x _) [.Call (.Name y _) [a'] [] _] [] _ => decide (x = if t then ("tuple" : Str) else ("list" : Str)) && gloB sc x && decide (y = ("range" : Str)) && gloB sc y && chkE N sc a a'
  | sc, .mth k a [b], .Call (.Attribute a' nm ap) [b'] [] cp => decide (nm = mthN k) && (ap.endLine == cp.line) && notCall0 a' && chkE N sc a a' && chkE N sc b b'
  | sc, .comp own tg it elt ifs, .ListComp elt' [⟨tg', it', ifs', 0⟩] scope _ => blkC N sc scope own && chkTg N scope tg tg' && decide (∀ i ∈ tg.slots, i ∈ own.map (·.2)) && chkI N sc it tg' it' && chkE N scope elt elt' && chkEs N scope ifs ifs' && tokBs ifs && decide (ifs.length ≤ 1)
  | sc, .fldN _ i, .Attribute (.Name x _) nm _ => decide (nm = ("n" : Str)) && slB N i x && visB sc x && nmB x
  | sc, .fldE _ i, .Attribute (.Name x _) nm _ => decide (nm = ("entries" : Str)) && slB N i x && visB sc x && nmB x
  | sc, .lcopy _ i, .Call (.Name y _) [.Attribute (.Name x _) nm _] [] _ => decide (y = ("list" : Str)) && gloB sc y && decide (nm = ("entries" : Str)) && slB N i x && visB sc x && nmB x
  | sc, .meth _ f _ i es, .Call (.Attribute (.Name x _) nm ap) vs [] cp => (ap.endLine == cp.line) && decide (vs.length < 29) && decide (nm = f) && decide (nm ≠ ("n" : Str)) && decide (nm ≠ ("entries" : Str)) && slB N i x && visB sc x && nmB x && chkEs N sc es vs
  | sc, .callL _ f _ i es, .Call (.Name x _) (.Name y _ :: vs) [] _ => decide (x = f) && gloB sc x && nmB x && slB N i y && visB sc y && nmB y && chkEs N sc es vs
  | sc, .lenL _ _ i, .Call (.Name x _) [.Name y _] [] _ => decide (x = ("len" : Str)) && gloB sc x && slB N i y && visB sc y && nmB y
  | sc, .mkE _ _ es, .Call (.Name x _) (v :: vs) [] _ => decide (x = ("Lab" : Str)) && gloB sc x && chkEs N sc es (v :: vs)
  | sc, .mkM _ _ es f _ es1, .Call (.Attribute (.Call (.Name x _) (v :: vs) [] _) nm ap) us [] cp => (ap.endLine == cp.line) && decide (us.length < 29) && decide (x = ("Lab" : Str)) && gloB sc x && decide (nm = f) && decide (nm ≠ ("n" : Str)) && decide (nm ≠ ("entries" : Str)) && chkEs N sc es (v :: vs) && chkEs N sc es1 us
  | sc, .smth k a b, .Call (.Attribute a' nm ap) [b'] [] cp => decide (nm = smtN k) && (ap.endLine == cp.line) && notCall0 a' && chkE N sc a a' && chkE N sc b b'
  | sc, .lowr a, .Call (.Attribute a' nm ap) [] [] cp => decide (nm = ("lower" : Str)) && (ap.endLine == cp.line) && notCall0 a' && chkE N sc a a'
  | sc, .told a, .Call (.Name x _) [.Lambda params body scope _] [] _ => decide (x = ("_law_told" : Str)) && gloB sc x && LamX.lamSB sc scope && noArgs params && chkE N scope a body
  | _, _, _ => false
def chkEs (N : List Str) : Scope → List E → List Expr → Bool
  | _, [], [] => true
  | sc, e :: es, v :: vs => chkE N sc e v && chkEs N sc es vs
  | _, _, _ => false
def chkO (N : List Str) : Scope → EO → Option Expr → Bool
  | _, .no, none => true
  | sc, .yes e, some e' => chkE N sc e e'
  | _, _, _ => false
def chkI (N : List Str) : Scope → It → Expr → Expr → Bool
  | sc, .seq e, _, e' => chkE N sc e e'
  | sc, .chr e, _, e' => chkE N sc e e'
  | sc, .rng1 e, _, .Call (.Name x _) [a] [] _ => decide (x = ("range" : Str)) && gloB sc x && chkE N sc e a
  | sc, .rng2 e f, _, .Call (.Name x _) [a, b] [] _ => decide (x = ("range" : Str)) && gloB sc x && chkE N sc e a && chkE N sc f b
  | sc, .enum e, .Tuple _ _ _, .Call (.Name x _) [a] [] _ => decide (x = ("enumerate" : Str)) && gloB sc x && chkE N sc e a
  | sc, .zip e f, .Tuple _ _ _, .Call (.Name x _) [a, b] [] _ => decide (x = ("zip" : Str)) && gloB sc x && chkE N sc e a && chkE N sc f b
  | _, _, _, _ => false
/-- may stand as a test -/
def tokB : E → Bool
  | .ife _ _ _ => false
  | .andE es => tokBs es
  | .orE es => tokBs es
  | .notE a => tokB a
  | .lend _ a => tokB a
  | _ => true
def tokBs : List E → Bool
  | [] => true
  | e :: es => tokB e && tokBs es
def notCall0 : Expr → Bool
  | .Call (.Name _ _) [] [] _ => false
  | _ => true
end
/-- a lambda may be handed to _law_told here -/
structure TolC (c : Ct) : Prop where
  lam : ∃ a P q, c.lam = some (a, P, q) ∧ LamX.TabB c.base c.mg a P ∧ (P, q) ∈ c.T ∧ ∀ p ∈ c.T, p.1 = P → p.2 = q
  told : TU.ToldD c.K c.mg
  term : TU.TermD c.K c.mg
  room : 2 ≤ c.k
  cls : ∀ x C, c.cls x = some C → c.mg x = some (.ref C)
mutual
/-- what a text asks of the globals -/
def okE : Ct → E → Prop
  | c, .glob x d => GlobOk c x d
  | c, .neg a => okE c a
  | c, .bin _ a b => okE c a ∧ okE c b
  | c, .cmp _ a b => okE c a ∧ okE c b
  | c, .chain _ _ a b e => okE c a ∧ okE c b ∧ okE c e
  | c, .andE es => okEs c es
  | c, .orE es => okEs c es
  | c, .notE a => okE c a
  | c, .ife t a b => okE c t ∧ okE c a ∧ okE c b
  | c, .ix a b => okE c a ∧ okE c b
  | c, .oix _ b => okE c b
  | c, .slc a lo hi => okE c a ∧ okO c lo ∧ okO c hi
  | c, .tup es => okEs c es
  | c, .lst es => okEs c es
  | c, .call f F es => CallOk c f (spP c F) ∧ okEs c es
  | c, .callD f F _ es => CallOk c f (spM c F) ∧ okEs c es
  | c, .bi _ es => okEs c es
  | c, .isi a _ => okE c a
  | c, .lenset a => okE c a
  | c, .sset a => okE c a
  | c, .trng _ a => okE c a
  | c, .mth _ a es => okE c a ∧ okEs c es
  | c, .comp _ _ it elt ifs => okI c it ∧ okE c.nl elt ∧ okEs c.nl ifs
  | c, .told a => TolC c ∧ okE c.dn a
  | c, .lend _ a => okE c a
  | c, .smth _ a b => okE c a ∧ okE c b
  | c, .lowr a => okE c a
  | c, .fldN C _ => ClsOk c C
  | c, .fldE C _ => ClsOk c C
  | c, .lcopy C _ => ClsOk c C
  | c, .meth C f F _ es => (ClsOk c C ∧ MethOk c C f (spL c C F)) ∧ okEs c es
  | c, .callL C f F _ es => CallOk c f (spL c C F) ∧ okEs c es
  | c, .lenL C F _ => MethOk1 c C "__len__" (spL c C F)
  | c, .mkE C F es => NewOk c C (spI c C F) ∧ okEs c es
  | c, .mkM C F es f F1 es1 => (ClsOk c C ∧ NewOk c C (spI c C F) ∧ MethOk c C f (spL c C F1)) ∧ okEs c es ∧ okEs c es1
  | _, _ => True
def okEs : Ct → List E → Prop
  | _, [] => True
  | c, e :: es => okE c e ∧ okEs c es
def okO : Ct → EO → Prop
  | _, .no => True
  | c, .yes e => okE c e
def okI : Ct → It → Prop
  | c, .seq e => okE c e
  | c, .chr e => okE c e
  | c, .rng1 e => okE c e
  | c, .rng2 a b => okE c a ∧ okE c b
  | c, .enum e => okE c e
  | c, .zip a b => okE c a ∧ okE c b
end
section
variable {c : Ct} {sc : Scope} {X : Cx} {Ek : XK} {x : Str} {i : Nat} {N : List Str} {ir : E} {e : Expr} {es : List Expr}
theorem GX.vis (gx : GX c sc X Ek) (h : visB sc x = true) : Vis X.env.scope x := by
  unfold visB at h
  split at h
  · exact .inl (gx.loc x (by assumption))
  · exact .inr (.inl (gx.cel x (by assumption)).1)
  · exact .inr (gx.fre x (by assumption))
  · cases h
theorem GX.gl (gx : GX c sc X Ek) (h : gloB sc x = true) : Gl X x := by
  unfold gloB at h
  split at h
  · exact gx.glo x (by assumption)
  · cases h
theorem GX.sto (gx : GX c sc X Ek) (h : stoB sc x = true) : Loc X.env.scope x ∧ (X.fn x = true ∨ X.env.scope.names.lookup x = some .local) := by
  unfold stoB at h
  split at h
  · exact ⟨.inl (gx.loc x (by assumption)), .inr (gx.loc x (by assumption))⟩
  · exact ⟨.inr (gx.cel x (by assumption)).1, .inl (gx.cel x (by assumption)).2⟩
  · cases h
theorem nm_d (h : nmB x = true) : (x == ("__debug__" : Str)) = false := by
  unfold nmB at h
  simp only [Bool.and_eq_true, Bool.not_eq_true'] at h
  exact h.1.1
theorem nm_c (h : nmB x = true) : (x == ("__classdict__" : Str)) = false := by
  unfold nmB at h
  simp only [Bool.and_eq_true, Bool.not_eq_true'] at h
  exact h.1.2
theorem sl_of (gx : GX c sc X Ek) (h : slB c.N i x = true) : X.N[i]? = some x := by
  rw [gx.eN]
  exact of_decide_eq_true h
theorem GX.none (gx : GX c sc X Ek) (h : x ∈ BN) : X.mg x = none := by
  rw [gx.em]
  exact gx.bf x h
theorem chk_plainK : ∀ (k : Nat) {ir : E} {e : Expr}, sizeOf ir ≤ k → chkE N sc ir e = true → plainE e = true
  | 0, ir, e, hs, h => by cases ir <;> simp at hs
  | k + 1, ir, e, hs, h => by
    cases ir with
    | lend i a => exact chk_plainK k (ir := a) (by simp at hs; omega) (by simpa only [chkE] using h)
    | any => simpa only [chkE] using h
    | _ => cases e <;> first | rfl | (simp [chkE] at h)
theorem chk_plain (h : chkE N sc ir e = true) : plainE e = true := chk_plainK _ (Nat.le_refl _) h
theorem plain_star {env : Env} (h : plainE e = true) : starEach (e :: es) env = (false, eval e env) :: starEach es env := by
  cases e <;> first | rfl | (simp [plainE] at h)
theorem plain_mark {op : CmpOp} (h : plainE e = true) : behindInMarks op e = false := by
  cases e <;> first | rfl | (simp [plainE] at h)
theorem plain_ix (h : plainE e = true) : PlainIx e := by
  intro o i
  cases e <;> first | rfl | (simp [plainE] at h)
theorem plain_fold {env : Env} (h : plainE e = true) : ∀ x, foldedSetIterable e env x = pure x := by
  intro x
  cases e <;> first | rfl | (simp [plainE] at h)
end
end TO

set_option Elab.async false
set_option linter.all false
set_option maxRecDepth 100000
set_option maxHeartbeats 4000000
/-! Expressions: pieces. -/
namespace TO
open PySem PySem.Spec L2

def ErrP (c : Ct) (n : Ent) (ad : List (Option Addr)) (Fx : Addr → Option (List V)) (Ek : XK) (m : Mu) {α : Type} (r : Except Str α) : Prop :=
  ∀ x, r = .error x → ∀ C, c.cls x = some C → ∀ G' H', SI n ad Fx G' H' m → Ek (.ref C) none H'
def SE (c : Ct) (sc : Scope) (ir : E) (e : Expr) : Prop := ∀ X Ek, GX c sc X Ek → ∀ n ad Fx G H m env σ r m' (Q : VK), n.T = c.T → SI n ad Fx G H m → RE ad G env σ → ev ir env m = some (r, m') →
  (∀ d, r = .ok d → Fin n ad Fx G m' d Q) → ErrP c n ad Fx Ek m' r → WE X e σ H Q
def ST (c : Ct) (sc : Scope) (ir : E) (e : Expr) : Prop := ∀ X Ek, GX c sc X Ek → ∀ n ad Fx G H m env σ r m' (Q : Bool → Hp → Prop), n.T = c.T → SI n ad Fx G H m → RE ad G env σ → tstD (ev ir env m) = some (r, m') →
  (∀ b, r = .ok b → ∀ G' H', SI n ad Fx G' H' m' → Same G G' → Q b H') → ErrP c n ad Fx Ek m' r → WT X e σ H Q
def SA (c : Ct) (sc : Scope) (irs : List E) (es : List Expr) : Prop := ∀ X Ek, GX c sc X Ek → ∀ n ad Fx G H m env σ r m' (Q : List V → Hp → Prop), n.T = c.T → SI n ad Fx G H m → RE ad G env σ → evs irs env m = some (r, m') →
  (∀ ds, r = .ok ds → ∀ vs G' H', SI n ad Fx G' H' m' → Same G G' → RpA G' vs ds → Q vs H') → ErrP c n ad Fx Ek m' r → WA X es σ H Q
theorem bnd_some {α β : Type} {r : Rr α} {f : α → Mu → Rr β} {o : Except Str β × Mu} (h : bnd r f = some o) : (∃ a m, r = some (.ok a, m) ∧ f a m = some o) ∨ ∃ x m, r = some (.error x, m) ∧ o = (.error x, m) := by
  cases r with
  | none => cases h
  | some p =>
    obtain ⟨q, m⟩ := p
    cases q with
    | ok a => exact .inl ⟨a, m, rfl, h⟩
    | error x => exact .inr ⟨x, m, rfl, (Option.some.inj h).symm⟩
theorem opt_some {α : Type} {o : Option α} {m : Mu} {p : Except Str α × Mu} (h : opt o m = some p) : ∃ a, o = some a ∧ p = (.ok a, m) := by
  unfold opt at h
  obtain ⟨a, h1, h2⟩ := Option.map_eq_some_iff.mp h
  exact ⟨a, h1, h2.symm⟩
section
variable {c : Ct} {sc : Scope} {X : Cx} {Ek : XK} {n : Ent} {ad : List (Option Addr)} {Fx : Addr → Option (List V)} {G H : Hp} {m m' : Mu} {env : En} {σ : L2.St} {a b : Expr} {ira irb : E}
/-- the first part of a chain of steps -/
theorem SE.use {β : Type} {f : D → Mu → Rr β} {r : Except Str β} {Q : VK} (hA : SE c sc ira a) (gx : GX c sc X Ek) (hT : n.T = c.T) (s : SI n ad Fx G H m) (re : RE ad G env σ) (h : bnd (ev ira env m) f = some (r, m')) (er : ErrP c n ad Fx Ek m' r)
    (k : ∀ d m1 v G1 H1, f d m1 = some (r, m') → SI n ad Fx G1 H1 m1 → Same G G1 → Rp G1 v d → Q v H1) : WE X a σ H Q := by
  rcases bnd_some h with ⟨d, m1, h1, h2⟩ | ⟨x, m1, h1, h2⟩
  · exact hA X Ek gx n ad Fx G H m env σ _ _ Q hT s re h1 (fun d' e v G1 H1 s1 g1 r1 => by cases e; exact k d m1 v G1 H1 h2 s1 g1 r1) (fun x e => by cases e)
  · cases h2
    exact hA X Ek gx n ad Fx G H m env σ _ _ Q hT s re h1 (fun d' e => by cases e) (fun y e => by cases e; exact er x rfl)
theorem SA.use {β : Type} {f : List D → Mu → Rr β} {r : Except Str β} {Q : List V → Hp → Prop} {irs : List E} {es : List Expr} (hA : SA c sc irs es) (gx : GX c sc X Ek) (hT : n.T = c.T) (s : SI n ad Fx G H m) (re : RE ad G env σ) (h : bnd (evs irs env m) f = some (r, m')) (er : ErrP c n ad Fx Ek m' r)
    (k : ∀ ds m1 vs G1 H1, f ds m1 = some (r, m') → SI n ad Fx G1 H1 m1 → Same G G1 → RpA G1 vs ds → Q vs H1) : WA X es σ H Q := by
  rcases bnd_some h with ⟨d, m1, h1, h2⟩ | ⟨x, m1, h1, h2⟩
  · exact hA X Ek gx n ad Fx G H m env σ _ _ Q hT s re h1 (fun d' e v G1 H1 s1 g1 r1 => by cases e; exact k d m1 v G1 H1 h2 s1 g1 r1) (fun x e => by cases e)
  · cases h2
    exact hA X Ek gx n ad Fx G H m env σ _ _ Q hT s re h1 (fun d' e => by cases e) (fun y e => by cases e; exact er x rfl)
theorem ST.use {r0 : Except Str Bool} {m1 : Mu} {Q : Bool → Hp → Prop} (hA : ST c sc ira a) (gx : GX c sc X Ek) (hT : n.T = c.T) (s : SI n ad Fx G H m) (re : RE ad G env σ) (h : tstD (ev ira env m) = some (r0, m1))
    (k : ∀ t, r0 = .ok t → ∀ G1 H1, SI n ad Fx G1 H1 m1 → Same G G1 → Q t H1) (er : ErrP c n ad Fx Ek m1 r0) : WT X a σ H Q := hA X Ek gx n ad Fx G H m env σ _ _ Q hT s re h k er
/-- a test that is no chain of words: by its value -/
theorem ST.of (hA : SE c sc ira a) (he : ∀ (env : Env) whole, isTrue a env whole = (do let v ← whole; standAt a.pos; holding [v] (truthy v))) : ST c sc ira a := by
  intro X Ek gx n ad Fx G H m env σ r m' Q hT s re h q er
  refine toWT (pt_val (pWE (e := a)) (he X.env)) ?_
  refine hA.use gx hT s re h er fun d m1 v G1 H1 h1 s1 g1 r1 => ?_
  cases d with
  | bool t =>
    cases h1
    cases r1
    exact ⟨t, rfl, q t rfl G1 H1 s1 g1⟩
  | _ => cases h1
/-! ### lists of expressions -/
def A2 (P : E → Expr → Prop) : List E → List Expr → Prop
  | [], [] => True
  | i :: is, e :: es => P i e ∧ A2 P is es
  | _, _ => False
def Snd (c : Ct) (sc : Scope) (ir : E) (e : Expr) : Prop := SE c sc ir e ∧ (tokB ir = true → ST c sc ir e) ∧ plainE e = true
theorem sa_of : ∀ {irs : List E} {es : List Expr}, A2 (Snd c sc) irs es → SA c sc irs es
  | [], [], _ => by
    intro X Ek gx n ad Fx G H m env σ r m' Q hT s re h q er
    cases h
    exact toWA pa_nil (q [] rfl [] G H s (Same.refl G) trivial)
  | i :: is, e :: es, ⟨h1, h2⟩ => by
    intro X Ek gx n ad Fx G H m env σ r m' Q hT s re h q er
    refine toWA (pa_cons (pWE (e := e)) (pWA (es := es)) (plain_star h1.2.2)) ?_
    refine h1.1.use gx hT s re h er fun d m1 v G1 H1 e1 s1 g1 r1 => ?_
    refine (sa_of h2).use gx hT s1 (re.mono g1) e1 er fun ds m2 vs G2 H2 e2 s2 g2 r2 => ?_
    cases e2
    exact q _ rfl _ G2 H2 s2 (g1.trans g2) ⟨Rp.mono g2 _ _ r1, r2⟩
  | [], _ :: _, h => h.elim
  | _ :: _, [], h => h.elim
theorem a2_star {env : Env} : ∀ {irs : List E} {es : List Expr}, A2 (Snd c sc) irs es → ∀ pos, (backTo pos (starEach es env)).any (·.1) = false
  | [], [], _, _ => rfl
  | i :: is, e :: es, ⟨h1, h2⟩, pos => by
    rw [plain_star h1.2.2]
    show (false || (backTo pos (starEach es env)).any (·.1)) = false
    rw [a2_star h2]
    rfl
  | [], _ :: _, h, _ => h.elim
  | _ :: _, [], h, _ => h.elim
theorem and_of {pos : Pos} : ∀ {irs : List E} {es : List Expr}, A2 (Snd c sc) irs es → ∀ X Ek, GX c sc X Ek → ∀ n ad Fx G H m env σ r m' (Q : VK), n.T = c.T → SI n ad Fx G H m → RE ad G env σ → evAnd irs env m = some (r, m') →
    (∀ d, r = .ok d → Fin n ad Fx G m' d Q) → ErrP c n ad Fx Ek m' r → WE X (.BoolOp .And es pos) σ H Q
  | [], [], _ => by
    intro X Ek gx n ad Fx G H m env σ r m' Q hT s re h
    simp [evAnd] at h
  | [i], [e], ⟨h1, _⟩ => by
    intro X Ek gx n ad Fx G H m env σ r m' Q hT s re h q er
    exact toWE (pe_one (pWE (e := e))) (h1.1 X Ek gx n ad Fx G H m env σ r m' Q hT s re h q er)
  | i :: j :: is, e :: f :: es, ⟨h1, h2⟩ => by
    intro X Ek gx n ad Fx G H m env σ r m' Q hT s re h q er
    refine toWE (pe_and (pWE (e := e)) (pWE (e := .BoolOp .And (f :: es) pos))) ?_
    simp only [evAnd] at h
    refine h1.1.use gx hT s re h er fun d m1 v G1 H1 e1 s1 g1 r1 => ?_
    cases d with
    | bool t =>
      cases r1
      refine ⟨t, rfl, ?_⟩
      cases t with
      | true => exact iteT (and_of h2 X Ek gx n ad Fx G1 H1 m1 env σ r m' Q hT s1 (re.mono g1) e1 (fun d e v G2 H2 s2 g2 => q d e v G2 H2 s2 (g1.trans g2)) er)
      | false =>
        cases e1
        exact iteF (q _ rfl _ G1 H1 s1 g1 rfl)
    | _ => cases e1
  | [], _ :: _, h => h.elim
  | _ :: _, [], h => h.elim
  | [_], _ :: _ :: _, h => h.2.elim
  | _ :: _ :: _, [_], h => h.2.elim
theorem or_of {pos : Pos} : ∀ {irs : List E} {es : List Expr}, A2 (Snd c sc) irs es → ∀ X Ek, GX c sc X Ek → ∀ n ad Fx G H m env σ r m' (Q : VK), n.T = c.T → SI n ad Fx G H m → RE ad G env σ → evOr irs env m = some (r, m') →
    (∀ d, r = .ok d → Fin n ad Fx G m' d Q) → ErrP c n ad Fx Ek m' r → WE X (.BoolOp .Or es pos) σ H Q
  | [], [], _ => by
    intro X Ek gx n ad Fx G H m env σ r m' Q hT s re h
    simp [evOr] at h
  | [i], [e], ⟨h1, _⟩ => by
    intro X Ek gx n ad Fx G H m env σ r m' Q hT s re h q er
    exact toWE (pe_one (pWE (e := e))) (h1.1 X Ek gx n ad Fx G H m env σ r m' Q hT s re h q er)
  | i :: j :: is, e :: f :: es, ⟨h1, h2⟩ => by
    intro X Ek gx n ad Fx G H m env σ r m' Q hT s re h q er
    refine toWE (pe_or (pWE (e := e)) (pWE (e := .BoolOp .Or (f :: es) pos))) ?_
    simp only [evOr] at h
    refine h1.1.use gx hT s re h er fun d m1 v G1 H1 e1 s1 g1 r1 => ?_
    cases d with
    | bool t =>
      cases r1
      refine ⟨t, rfl, ?_⟩
      cases t with
      | false => exact iteF (or_of h2 X Ek gx n ad Fx G1 H1 m1 env σ r m' Q hT s1 (re.mono g1) e1 (fun d e v G2 H2 s2 g2 => q d e v G2 H2 s2 (g1.trans g2)) er)
      | true =>
        cases e1
        exact iteT (q _ rfl _ G1 H1 s1 g1 rfl)
    | _ => cases e1
  | [], _ :: _, h => h.elim
  | _ :: _, [], h => h.elim
  | [_], _ :: _ :: _, h => h.2.elim
  | _ :: _ :: _, [_], h => h.2.elim
theorem tst_bnd {o : Rr D} {f : D → Mu → Rr D} {p : Except Str Bool × Mu} (h : tstD (bnd o f) = some p) : (∃ d m, o = some (.ok d, m) ∧ tstD (f d m) = some p) ∨ ∃ x m, o = some (.error x, m) ∧ p = (.error x, m) := by
  cases o with
  | none => cases h
  | some q =>
    obtain ⟨q, m⟩ := q
    cases q with
    | ok a => exact .inl ⟨a, m, rfl, h⟩
    | error x => exact .inr ⟨x, m, rfl, (Option.some.inj h).symm⟩
/-- a part of a test in its own right -/
theorem ST.part {f : D → Mu → Rr D} {r : Except Str Bool} {Q : Bool → Hp → Prop} (hA : ST c sc ira a) (gx : GX c sc X Ek) (hT : n.T = c.T) (s : SI n ad Fx G H m) (re : RE ad G env σ) (h : tstD (bnd (ev ira env m) f) = some (r, m')) (er : ErrP c n ad Fx Ek m' r)
    (hf : ∀ d m1, tstD (f d m1) = some (r, m') → ∃ t, d = .bool t) (k : ∀ t m1 G1 H1, tstD (f (.bool t) m1) = some (r, m') → SI n ad Fx G1 H1 m1 → Same G G1 → Q t H1) : WT X a σ H Q := by
  rcases tst_bnd h with ⟨d, m1, h1, h2⟩ | ⟨x, m1, h1, h2⟩
  · obtain ⟨t, rfl⟩ := hf d m1 h2
    exact hA X Ek gx n ad Fx G H m env σ (.ok t) m1 Q hT s re (by rw [h1]; rfl) (fun b e G1 H1 s1 g1 => by cases e; exact k t m1 G1 H1 h2 s1 g1) (fun x e => by cases e)
  · cases h2
    exact hA X Ek gx n ad Fx G H m env σ (.error x) _ Q hT s re (by rw [h1]; rfl) (fun b e => by cases e) (fun y e => by cases e; exact er x rfl)
theorem tand_of {pos : Pos} : ∀ {irs : List E} {es : List Expr}, A2 (Snd c sc) irs es → tokBs irs = true → ∀ X Ek, GX c sc X Ek → ∀ n ad Fx G H m env σ r m' (Q : Bool → Hp → Prop), n.T = c.T → SI n ad Fx G H m → RE ad G env σ → tstD (evAnd irs env m) = some (r, m') →
    (∀ b, r = .ok b → ∀ G' H', SI n ad Fx G' H' m' → Same G G' → Q b H') → ErrP c n ad Fx Ek m' r → WW X (.BoolOp .And es pos) σ H Q
  | [], [], _, _ => by
    intro X Ek gx n ad Fx G H m env σ r m' Q hT s re h
    simp [evAnd, tstD, bnd] at h
  | [i], [e], ⟨h1, _⟩, ht => by
    intro X Ek gx n ad Fx G H m env σ r m' Q hT s re h q er
    simp only [tokBs, Bool.and_true] at ht
    exact toWW (pw_and1 (pWT (e := e))) (h1.2.1 ht X Ek gx n ad Fx G H m env σ r m' Q hT s re h q er)
  | i :: j :: is, e :: f :: es, ⟨h1, h2⟩, ht => by
    intro X Ek gx n ad Fx G H m env σ r m' Q hT s re h q er
    refine toWW (pw_and (pWT (e := e)) (pWW (e := .BoolOp .And (f :: es) pos))) ?_
    rw [tokBs, Bool.and_eq_true] at ht
    simp only [evAnd] at h
    refine (h1.2.1 ht.1).part gx hT s re h er (fun d m1 hd => ?_) fun t m1 G1 H1 e1 s1 g1 => ?_
    · cases d <;> first | exact ⟨_, rfl⟩ | (simp [tstD, bnd] at hd)
    · cases t with
      | true => exact iteT ((tand_of h2 ht.2 X Ek gx n ad Fx G1 H1 m1 env σ r m' Q hT s1 (re.mono g1) e1 (fun b e G2 H2 s2 g2 => q b e G2 H2 s2 (g1.trans g2)) er))
      | false =>
        cases e1
        exact iteF (q _ rfl G1 H1 s1 g1)
  | [], _ :: _, h, _ => h.elim
  | _ :: _, [], h, _ => h.elim
  | [_], _ :: _ :: _, h, _ => h.2.elim
  | _ :: _ :: _, [_], h, _ => h.2.elim
theorem tor_of {pos : Pos} : ∀ {irs : List E} {es : List Expr}, A2 (Snd c sc) irs es → tokBs irs = true → ∀ X Ek, GX c sc X Ek → ∀ n ad Fx G H m env σ r m' (Q : Bool → Hp → Prop), n.T = c.T → SI n ad Fx G H m → RE ad G env σ → tstD (evOr irs env m) = some (r, m') →
    (∀ b, r = .ok b → ∀ G' H', SI n ad Fx G' H' m' → Same G G' → Q b H') → ErrP c n ad Fx Ek m' r → WW X (.BoolOp .Or es pos) σ H Q
  | [], [], _, _ => by
    intro X Ek gx n ad Fx G H m env σ r m' Q hT s re h
    simp [evOr, tstD, bnd] at h
  | [i], [e], ⟨h1, _⟩, ht => by
    intro X Ek gx n ad Fx G H m env σ r m' Q hT s re h q er
    simp only [tokBs, Bool.and_true] at ht
    exact toWW (pw_or1 (pWT (e := e))) (h1.2.1 ht X Ek gx n ad Fx G H m env σ r m' Q hT s re h q er)
  | i :: j :: is, e :: f :: es, ⟨h1, h2⟩, ht => by
    intro X Ek gx n ad Fx G H m env σ r m' Q hT s re h q er
    refine toWW (pw_or (pWT (e := e)) (pWW (e := .BoolOp .Or (f :: es) pos))) ?_
    rw [tokBs, Bool.and_eq_true] at ht
    simp only [evOr] at h
    refine (h1.2.1 ht.1).part gx hT s re h er (fun d m1 hd => ?_) fun t m1 G1 H1 e1 s1 g1 => ?_
    · cases d <;> first | exact ⟨_, rfl⟩ | (simp [tstD, bnd] at hd)
    · cases t with
      | false => exact iteF ((tor_of h2 ht.2 X Ek gx n ad Fx G1 H1 m1 env σ r m' Q hT s1 (re.mono g1) e1 (fun b e G2 H2 s2 g2 => q b e G2 H2 s2 (g1.trans g2)) er))
      | true =>
        cases e1
        exact iteT (q _ rfl G1 H1 s1 g1)
  | [], _ :: _, h, _ => h.elim
  | _ :: _, [], h, _ => h.elim
  | [_], _ :: _ :: _, h, _ => h.2.elim
  | _ :: _ :: _, [_], h, _ => h.2.elim
end
end TO

set_option Elab.async false
set_option linter.all false
set_option maxRecDepth 100000
set_option maxHeartbeats 4000000
/-! Targets, what is walked, built-in functions, the block of a comprehension. -/
namespace TO
open PySem PySem.Spec L2

/-! ### slots -/
theorem wipe_get (σ : L2.St) : ∀ (vs : List Nat) (k : Nat), (L2.wipe σ vs)[k]? = if k ∈ vs then σ[k]?.map (fun _ => none) else σ[k]?
  | [], k => by simp [L2.wipe]
  | v :: vs, k => by
    unfold L2.wipe
    have ih := wipe_get σ vs k
    by_cases hk : v = k
    · subst hk
      rw [if_pos List.mem_cons_self]
      by_cases hl : v < σ.length
      · rw [List.getElem?_set_self (by rw [wipe_length]; exact hl), List.getElem?_eq_getElem hl]
        rfl
      · rw [List.getElem?_eq_none (by rw [List.length_set, wipe_length]; omega), List.getElem?_eq_none (by omega)]
        rfl
    · rw [List.getElem?_set_ne hk, ih]
      by_cases hm : k ∈ vs
      · rw [if_pos hm, if_pos (List.mem_cons_of_mem _ hm)]
      · rw [if_neg hm, if_neg (fun z => (List.mem_cons.mp z).elim (fun e => hk e.symm) hm)]
theorem wipe_set {σ : L2.St} {vs : List Nat} {i : Nat} {x : Option V} (h : i ∈ vs) : L2.wipe (σ.set i x) vs = L2.wipe σ vs := by
  apply List.ext_getElem?
  intro k
  rw [wipe_get, wipe_get]
  by_cases hk : k ∈ vs
  · rw [if_pos hk, if_pos hk]
    by_cases hi : i = k
    · subst hi
      by_cases hl : i < σ.length
      · rw [List.getElem?_set_self hl, List.getElem?_eq_getElem hl]; rfl
      · rw [List.getElem?_eq_none (by rw [List.length_set]; omega), List.getElem?_eq_none (by omega)]
    · rw [List.getElem?_set_ne hi]
  · rw [if_neg hk, if_neg hk, List.getElem?_set_ne (fun z => hk (by rw [← z]; exact h))]
theorem wipe_wipe (σ : L2.St) (vs : List Nat) : L2.wipe (L2.wipe σ vs) vs = L2.wipe σ vs := by
  apply List.ext_getElem?
  intro k
  rw [wipe_get, wipe_get]
  by_cases hk : k ∈ vs
  · rw [if_pos hk, if_pos hk]
    cases σ[k]? <;> rfl
  · rw [if_neg hk, if_neg hk]
/-! ### targets -/
def gNs : List Nat → TGs
  | [] => gNil
  | i :: is => gCons (gName i) (gNs is)
def gT (K : PySem.W.Frag) : Tg → TG
  | .name i => gName i
  | .tup is => gTup K is.length (gNs is)
def TgOk (K : PySem.W.Frag) (H G : Hp) (t : Tg) (v : V) (d : D) : Prop := match t with
  | .name _ => Rp G v d
  | .tup _ => ∀ ds, d = .tuple ds → ∃ a xs, v = .ref a ∧ SqT K H a xs ∧ RpA G xs ds
section
variable {c : Ct} {sc : Scope} {X : Cx} {Ek : XK} {n : Ent} {ad : List (Option Addr)} {Fx : Addr → Option (List V)} {G H : Hp} {m m' : Mu} {env : En} {σ : L2.St}
theorem gns_ok (gx : GX c sc X Ek) : ∀ {is : List Nat} {es : List Expr}, chkTgs c.N sc is es = true → PGs X es (gNs is) ∧ (assignEach es X.env).length = is.length ∧ (assignEach es X.env).findIdx? (·.1) = none
  | [], [], _ => ⟨pgs_nil, rfl, rfl⟩
  | i :: is, .Name x p :: es, h => by
    simp only [chkTgs, Bool.and_eq_true] at h
    obtain ⟨⟨h1, h2⟩, h3⟩ := h
    obtain ⟨g1, g2, g3⟩ := gns_ok gx h3
    obtain ⟨l1, l2⟩ := gx.sto h2
    refine ⟨pgs_cons (pg_name (i := i) gx.nd (sl_of gx h1) l1 l2) g1 rfl, ?_, ?_⟩
    · show (assignEach es X.env).length + 1 = is.length + 1
      rw [g2]
    · show List.findIdx? (·.1) ((false, assign (.Name x p) X.env) :: assignEach es X.env) = none
      rw [List.findIdx?_cons]
      simp [g3]
  | [], _ :: _, h => by simp [chkTgs] at h
  | i :: is, .BoolOp .. :: es, h | i :: is, .NamedExpr .. :: es, h | i :: is, .BinOp .. :: es, h | i :: is, .UnaryOp .. :: es, h | i :: is, .Lambda .. :: es, h | i :: is, .IfExp .. :: es, h | i :: is, .Dict .. :: es, h
  | i :: is, .Set .. :: es, h | i :: is, .ListComp .. :: es, h | i :: is, .SetComp .. :: es, h | i :: is, .DictComp .. :: es, h | i :: is, .GeneratorExp .. :: es, h | i :: is, .Await .. :: es, h | i :: is, .Yield .. :: es, h
  | i :: is, .YieldFrom .. :: es, h | i :: is, .Compare .. :: es, h | i :: is, .Call .. :: es, h | i :: is, .FormattedValue .. :: es, h | i :: is, .JoinedStr .. :: es, h | i :: is, .Constant .. :: es, h
  | i :: is, .Attribute .. :: es, h | i :: is, .Subscript .. :: es, h | i :: is, .Starred .. :: es, h | i :: is, .List .. :: es, h | i :: is, .Tuple .. :: es, h | i :: is, .Slice .. :: es, h => by simp [chkTgs] at h
  | _ :: _, [], h => by simp [chkTgs] at h
theorem gt_ok (gx : GX c sc X Ek) {t : Tg} {e : Expr} (h : chkTg c.N sc t e = true) : PG X e (gT X.K t) := by
  cases t with
  | name i =>
    cases e with
    | Name x p =>
      simp only [chkTg, Bool.and_eq_true] at h
      obtain ⟨l1, l2⟩ := gx.sto h.2
      exact pg_name (i := i) gx.nd (sl_of gx h.1) l1 l2
    | _ => simp [chkTg] at h
  | tup is =>
    cases e with
    | Tuple es k p =>
      simp only [chkTg] at h
      obtain ⟨g1, g2, g3⟩ := gns_ok gx h
      exact pg_tup gx.calm g1 g2 g3
    | _ => simp [chkTg] at h
theorem gns_go {Q : L2.St → Hp → Prop} : ∀ {is : List Nat} {ds : List D} {vs : List V} {env : En} {σ : L2.St}, is.length = ds.length → RpA G vs ds → RE ad G env σ →
    (∀ σ1, RE ad G (setL is ds env) σ1 → (∀ own : List Nat, (∀ i ∈ is, i ∈ own) → L2.wipe σ1 own = L2.wipe σ own) → Q σ1 H) → gNs is vs σ H Q
  | [], [], [], _, σ, _, _, re, q => ⟨rfl, q σ re fun _ _ => rfl⟩
  | i :: is, d :: ds, v :: vs, env, σ, hl, ⟨r1, r2⟩, re, q => by
    refine ⟨v, vs, rfl, ?_⟩
    show gNs is vs (σ.set i (some v)) H Q
    refine gns_go (Nat.succ.inj hl) r2 (re.set i (s := some (.val d)) (v := some v) r1) fun σ1 re1 hw => q σ1 re1 fun own ho => ?_
    rw [hw own fun j hj => ho j (List.mem_cons_of_mem _ hj), wipe_set (ho i List.mem_cons_self)]
  | [], [], _ :: _, _, _, _, r, _, _ => r.elim
  | [], _ :: _, _, _, _, hl, _, _, _ => by cases hl
  | _ :: _, [], _, _, _, hl, _, _, _ => by cases hl
  | _ :: _, _ :: _, [], _, _, _, r, _, _ => r.elim
theorem gt_go {K : PySem.W.Frag} {t : Tg} {v : V} {d : D} {env1 : En} {Q : L2.St → Hp → Prop} (h : TgOk K H G t v d) (hb : bindT t d env = some env1) (re : RE ad G env σ)
    (q : ∀ σ1, RE ad G env1 σ1 → (∀ own : List Nat, (∀ i ∈ t.slots, i ∈ own) → L2.wipe σ1 own = L2.wipe σ own) → Q σ1 H) : gT K t v σ H Q := by
  cases t with
  | name i =>
    simp only [bindT, Option.some.injEq] at hb
    subst hb
    exact q _ (re.set i (s := some (.val d)) (v := some v) h) fun own ho => wipe_set (ho i (List.mem_singleton.mpr rfl))
  | tup is =>
    cases d with
    | tuple ds =>
      simp only [bindT, Option.ite_none_right_eq_some, Option.some.injEq] at hb
      obtain ⟨hl, rfl⟩ := hb
      obtain ⟨a, xs, rfl, ha, r⟩ := h ds rfl
      exact ⟨a, xs, rfl, ha, by rw [r.length, hl], gns_go hl r re q⟩
    | _ => simp [bindT] at hb
theorem TgOk.of {K : PySem.W.Frag} {t : Tg} {v : V} {d : D} (hs : Same G H) (r : Rp G v d) : TgOk K H G t v d := by
  cases t with
  | name i => exact r
  | tup is =>
    intro ds e
    subst e
    obtain ⟨a, xs, h1, ⟨o, _, h2⟩, h3⟩ := r
    exact ⟨a, xs, h1, .inl (.inr ⟨o, hs a _ h2⟩), h3⟩
end

/-! ### what is walked -/
structure WkD (K : PySem.W.Frag) (t : Tg) (J : L2.It) (ds : List D) (G0 : Hp) : Prop where
  goes : ∀ i H, i < ds.length → Same G0 H → J.go i H
  stops : ∀ H, Same G0 H → J.stop ds.length H
  yields : ∀ i H x H' d, ds[i]? = some d → Same G0 H → J.yld i H x H' → (H' = H ∨ ∃ T o, H T = none ∧ H' = upd H T o) ∧ TgOk K H' G0 t x d
def WI (X : Cx) (tg iter : Expr) : TI := fun σ H R => ∀ pins s, Inv X pins σ H s →
  wpAny (model X.prog X.w) X.A (eval iter X.env) (fun v s1 => wpAny (model X.prog X.w) X.A (pyIter v) (PIE X pins σ tg R) X.xe s1) X.xe s
theorem pWI {X : Cx} {tg iter : Expr} : PI X tg iter (WI X tg iter) := ⟨fun pins s σ H R I h => h pins s I⟩
theorem toWI {X : Cx} {tg iter : Expr} {t : TI} {σ : L2.St} {H : Hp} {R : L2.It → Hp → Prop} (h : PI X tg iter t) (q : t σ H R) : WI X tg iter σ H R := fun pins s I => h.run pins s σ H R I q
theorem enumD_get : ∀ {ds : List D} {k i : Nat} {d : D}, (enumD k ds)[i]? = some d → ∃ e, ds[i]? = some e ∧ d = .tuple [.int ((k + i : Nat) : Int), e]
  | [], _, _, _, h => by simp [enumD] at h
  | e :: ds, k, 0, d, h => by
    simp only [enumD, List.getElem?_cons_zero, Option.some.injEq] at h
    exact ⟨e, rfl, h.symm⟩
  | e :: ds, k, i + 1, d, h => by
    simp only [enumD, List.getElem?_cons_succ] at h
    obtain ⟨e', h1, h2⟩ := enumD_get h
    exact ⟨e', h1, by rw [h2, show k + 1 + i = k + (i + 1) by omega]⟩
theorem enumD_len : ∀ (ds : List D) (k : Nat), (enumD k ds).length = ds.length
  | [], _ => rfl
  | _ :: ds, k => congrArg (· + 1) (enumD_len ds (k + 1))
theorem zipD_get : ∀ {xs ys : List D} {i : Nat} {d : D}, (zipD xs ys)[i]? = some d → ∃ a b, xs[i]? = some a ∧ ys[i]? = some b ∧ d = .tuple [a, b]
  | [], _, _, _, h => by simp [zipD] at h
  | _ :: _, [], _, _, h => by simp [zipD] at h
  | a :: xs, b :: ys, 0, d, h => by
    simp only [zipD, List.getElem?_cons_zero, Option.some.injEq] at h
    exact ⟨a, b, rfl, rfl, h.symm⟩
  | a :: xs, b :: ys, i + 1, d, h => by
    simp only [zipD, List.getElem?_cons_succ] at h
    exact zipD_get (xs := xs) (ys := ys) (i := i) h
theorem zipD_len : ∀ (xs ys : List D), (zipD xs ys).length = min xs.length ys.length
  | [], _ => by simp [zipD]
  | _ :: _, [] => by simp [zipD]
  | _ :: xs, _ :: ys => by simp only [zipD, List.length_cons, zipD_len xs ys]; omega
section
variable {K : PySem.W.Frag} {t : Tg} {G : Hp} {a b : Addr} {xs ys : List V} {ds es : List D}
theorem wk_list (h : G a = some (.lst xs)) (r : RpA G xs ds) : WkD K t (Itl K a) ds G where
  goes := fun i H hi hs => ⟨xs, xs[i]'(by rw [r.length]; exact hi), SqL.of (hs a _ h), by simp [r.length, hi]⟩
  stops := fun H hs => ⟨xs, SqL.of (hs a _ h), Nat.le_of_eq r.length⟩
  yields := fun i H x H' d hd hs y => by
    obtain ⟨v, h1, h2⟩ := r.get hd
    have := y.2 xs (SqL.of (hs a _ h))
    rw [h1] at this
    cases this
    exact ⟨.inl y.1, TgOk.of (by rw [y.1]; exact hs) h2⟩
theorem wk_str {z : Str} : WkD K t (Its z) (chrsD z) G where
  goes := fun i H hi hs => by
    show i < z.cps.size
    simpa [chrsD] using hi
  stops := fun H hs => by
    show z.cps.size ≤ (chrsD z).length
    simp [chrsD]
  yields := fun i H x H' d hd hs y => by
    obtain ⟨e1, c, hc, rfl⟩ := y
    unfold chrsD at hd
    rw [List.getElem?_map] at hd
    have hc' : z.cps.toList[i]? = some c := by rw [Array.getElem?_toList]; exact hc
    rw [hc'] at hd
    cases hd
    exact ⟨.inl e1, TgOk.of (by rw [e1]; exact hs) rfl⟩
theorem wk_tup (h : KnT G a xs) (r : RpA G xs ds) : WkD K t (Itt K a) ds G := by
  obtain ⟨o, _, h⟩ := h
  have sq : ∀ H, Same G H → SqT K H a xs := fun H hs => .inl (.inr ⟨o, hs a _ h⟩)
  exact {
    goes := fun i H hi hs => ⟨xs, xs[i]'(by rw [r.length]; exact hi), sq H hs, by simp [r.length, hi]⟩
    stops := fun H hs => ⟨xs, sq H hs, Nat.le_of_eq r.length⟩
    yields := fun i H x H' d hd hs y => by
      obtain ⟨v, h1, h2⟩ := r.get hd
      have := y.2 xs (sq H hs)
      rw [h1] at this
      cases this
      exact ⟨.inl y.1, TgOk.of (by rw [y.1]; exact hs) h2⟩ }
theorem wk_rng {lo : Int} {n : Nat} : WkD K t (Itr lo n) ((List.range n).map fun (k : Nat) => .int (lo + (k : Int))) G where
  goes := fun i H hi hs => by show i < n; simpa using hi
  stops := fun H hs => by show n ≤ _; simp
  yields := fun i H x H' d hd hs y => by
    obtain ⟨h1, h2⟩ := y
    rw [List.getElem?_map, Option.map_eq_some_iff] at hd
    obtain ⟨k, hk, rfl⟩ := hd
    have hk' : k = i := by
      obtain ⟨hl, e⟩ := List.getElem?_eq_some_iff.mp hk
      rw [List.getElem_range] at e
      exact e.symm
    subst hk' h2
    exact ⟨.inl h1, TgOk.of (by rw [h1]; exact hs) rfl⟩
theorem wk_pair {i : Nat} {H H' : Hp} {T : Addr} {u v : V} {d e : D} (hs : Same G H) (hT : H T = none) (hH : H' = upd H T (.tup [u, v])) (ru : Rp G u d) (rv : Rp G v e) {is : List Nat} :
    (H' = H ∨ ∃ T o, H T = none ∧ H' = upd H T o) ∧ TgOk K H' G (.tup is) (.ref T) (.tuple [d, e]) := by
  refine ⟨.inr ⟨T, _, hT, hH⟩, fun ds ed => ?_⟩
  cases ed
  exact ⟨T, [u, v], rfl, by rw [hH]; exact .inl (.inl upd_same), ru, rv, trivial⟩
theorem wk_enumL {is : List Nat} (h : G a = some (.lst xs)) (r : RpA G xs ds) : WkD K (.tup is) (Ite K a) (enumD 0 ds) G where
  goes := fun i H hi hs => by
    rw [enumD_len] at hi
    exact ⟨xs, xs[i]'(by rw [r.length]; exact hi), SqL.of (hs a _ h), by simp [r.length, hi]⟩
  stops := fun H hs => ⟨xs, SqL.of (hs a _ h), by rw [enumD_len]; exact Nat.le_of_eq r.length⟩
  yields := fun i H x H' d hd hs y => by
    obtain ⟨T, v, rfl, hT, hH, hv⟩ := y
    obtain ⟨e, he, rfl⟩ := enumD_get hd
    obtain ⟨w, h1, h2⟩ := r.get he
    have := hv xs (SqL.of (hs a _ h))
    rw [h1] at this
    cases this
    rw [Nat.zero_add]
    exact wk_pair (i := i) hs hT hH (show Rp G (.int (i : Int)) (.int (i : Int)) from rfl) h2
theorem wk_enumT {is : List Nat} (h : KnT G a xs) (r : RpA G xs ds) : WkD K (.tup is) (IteT K a) (enumD 0 ds) G := by
  obtain ⟨o, _, h⟩ := h
  have sq : ∀ H, Same G H → SqT K H a xs := fun H hs => .inl (.inr ⟨o, hs a _ h⟩)
  exact {
    goes := fun i H hi hs => by
      rw [enumD_len] at hi
      exact ⟨xs, xs[i]'(by rw [r.length]; exact hi), sq H hs, by simp [r.length, hi]⟩
    stops := fun H hs => ⟨xs, sq H hs, by rw [enumD_len]; exact r.length⟩
    yields := fun i H x H' d hd hs y => by
      obtain ⟨T, v, rfl, hT, hH, hv⟩ := y
      obtain ⟨e, he, rfl⟩ := enumD_get hd
      obtain ⟨w, h1, h2⟩ := r.get he
      have := hv xs (sq H hs)
      rw [h1] at this
      cases this
      rw [Nat.zero_add]
      exact wk_pair (i := i) hs hT hH (show Rp G (.int (i : Int)) (.int (i : Int)) from rfl) h2 }
theorem wk_zipL {is : List Nat} (h : G a = some (.lst xs)) (r : RpA G xs ds) (h' : G b = some (.lst ys)) (r' : RpA G ys es) : WkD K (.tup is) (Itz K a b) (zipD ds es) G where
  goes := fun i H hi hs => by
    rw [zipD_len] at hi
    have h1 : i < xs.length := by rw [r.length]; omega
    have h2 : i < ys.length := by rw [r'.length]; omega
    exact ⟨xs, ys, xs[i], ys[i], SqL.of (hs a _ h), SqL.of (hs b _ h'), by simp [h1], by simp [h2]⟩
  stops := fun H hs => ⟨xs, ys, SqL.of (hs a _ h), SqL.of (hs b _ h'), by rw [zipD_len, r.length, r'.length]; omega⟩
  yields := fun i H x H' d hd hs y => by
    obtain ⟨T, u, v, rfl, hT, hH, hu, hv⟩ := y
    obtain ⟨e1, e2, he1, he2, rfl⟩ := zipD_get hd
    obtain ⟨w1, a1, b1⟩ := r.get he1
    obtain ⟨w2, a2, b2⟩ := r'.get he2
    have q1 := hu xs (SqL.of (hs a _ h))
    have q2 := hv ys (SqL.of (hs b _ h'))
    rw [a1] at q1
    rw [a2] at q2
    cases q1
    cases q2
    exact wk_pair (i := i) hs hT hH b1 b2
theorem wk_zipM {is : List Nat} (h : G a = some (.lst xs)) (r : RpA G xs ds) (h' : KnT G b ys) (r' : RpA G ys es) : WkD K (.tup is) (ItzM K a b) (zipD ds es) G := by
  obtain ⟨o, _, h'⟩ := h'
  have sq : ∀ H, Same G H → SqT K H b ys := fun H hs => .inl (.inr ⟨o, hs b _ h'⟩)
  refine ⟨fun i H hi hs => ?_, fun H hs => ⟨xs, ys, SqL.of (hs a _ h), sq H hs, by rw [zipD_len, r.length, r'.length]; omega⟩, fun i H x H' d hd hs y => ?_⟩
  · rw [zipD_len] at hi
    have h1 : i < xs.length := by rw [r.length]; omega
    have h2 : i < ys.length := by rw [r'.length]; omega
    exact ⟨xs, ys, xs[i], ys[i], SqL.of (hs a _ h), sq H hs, by simp [h1], by simp [h2]⟩
  · obtain ⟨T, u, v, rfl, hT, hH, hu, hv⟩ := y
    obtain ⟨e1, e2, he1, he2, rfl⟩ := zipD_get hd
    obtain ⟨w1, a1, b1⟩ := r.get he1
    obtain ⟨w2, a2, b2⟩ := r'.get he2
    have q1 := hu xs (SqL.of (hs a _ h))
    have q2 := hv ys (sq H hs)
    rw [a1] at q1
    rw [a2] at q2
    cases q1
    cases q2
    exact wk_pair (i := i) hs hT hH b1 b2
theorem wk_zipT {is : List Nat} (h : KnT G a xs) (r : RpA G xs ds) (h' : KnT G b ys) (r' : RpA G ys es) : WkD K (.tup is) (RZ.ItzT K a b) (zipD ds es) G := by
  obtain ⟨o, _, h⟩ := h
  obtain ⟨o', _, h'⟩ := h'
  have sq : ∀ H, Same G H → SqT K H a xs := fun H hs => .inl (.inr ⟨o, hs a _ h⟩)
  have sq' : ∀ H, Same G H → SqT K H b ys := fun H hs => .inl (.inr ⟨o', hs b _ h'⟩)
  exact {
    goes := fun i H hi hs => by
      rw [zipD_len] at hi
      have h1 : i < xs.length := by rw [r.length]; omega
      have h2 : i < ys.length := by rw [r'.length]; omega
      exact ⟨xs, ys, xs[i], ys[i], sq H hs, sq' H hs, by simp [h1], by simp [h2]⟩
    stops := fun H hs => ⟨xs, ys, sq H hs, sq' H hs, by rw [zipD_len, r.length, r'.length]; omega⟩
    yields := fun i H x H' d hd hs y => by
      obtain ⟨T, u, v, rfl, hT, hH, hu, hv⟩ := y
      obtain ⟨e1, e2, he1, he2, rfl⟩ := zipD_get hd
      obtain ⟨w1, a1, b1⟩ := r.get he1
      obtain ⟨w2, a2, b2⟩ := r'.get he2
      have q1 := hu xs (sq H hs)
      have q2 := hv ys (sq' H hs)
      rw [a1] at q1
      rw [a2] at q2
      cases q1
      cases q2
      exact wk_pair (i := i) hs hT hH b1 b2 }
end
/-! ### the block of a comprehension -/
theorem relS_free {sc : Scope} : ∀ {names : List (Str × NameKind)} {x : Str}, names.lookup x = some .free →
    (names.map fun (n, k) => if (k == NameKind.free && sc.kind == .function && sc.names.lookup n == some .cell) then (n, NameKind.cell) else (n, k)).lookup x = some .cell ∨
    (names.map fun (n, k) => if (k == NameKind.free && sc.kind == .function && sc.names.lookup n == some .cell) then (n, NameKind.cell) else (n, k)).lookup x = some .free
  | [], _, h => by simp at h
  | (n, k) :: r, x, h => by
    have ih := @relS_free sc r x
    rw [List.map_cons]
    cases hx : x == n with
    | true =>
      simp only [List.lookup_cons, hx] at h
      cases h
      by_cases hc : (NameKind.free == NameKind.free && sc.kind == .function && sc.names.lookup n == some .cell) = true
      · left; simp only [if_pos hc, List.lookup_cons, hx]
      · right; simp only [if_neg hc, List.lookup_cons, hx]
    | false =>
      simp only [List.lookup_cons, hx] at h
      by_cases hc : (k == NameKind.free && sc.kind == .function && sc.names.lookup n == some .cell) = true
      · simp only [if_pos hc, List.lookup_cons, hx]; exact ih h
      · simp only [if_neg hc, List.lookup_cons, hx]; exact ih h
theorem GX.blk {c : Ct} {sc scope : Scope} {X : Cx} {Ek : XK} (gx : GX c sc X Ek) (hk : scope.kind = .function) (s : Shared) (H : Hp) (C : Addr) (cl : List (Str × Addr)) (fp : List Addr) :
    GX c.nl scope (X.blk s H scope (compEnvC scope cl C X.env) fp) (fun _ _ _ => False) where
  eP := gx.eP
  ew := gx.ew
  eK := gx.eK
  em := gx.em
  eb := gx.eb
  eN := gx.eN
  nd := gx.nd
  calm := gx.calm
  room := gx.room
  tk := takesN0
  bk := hk
  loc := fun x h => lookup_relS_keep (sc := X.env.scope) (by decide) h
  cel := fun x h => ⟨lookup_relS_keep (sc := X.env.scope) (by decide) h, by show (scope.names.lookup x == some .cell) = true; rw [h]; rfl⟩
  fre := fun x h => relS_free (sc := X.env.scope) h
  glo := fun x h => lookup_relS_keep (sc := X.env.scope) (by decide) h
  bf := gx.bf
  lm := fun _ _ _ z => by cases z
theorem GX.lamG {c : Ct} {sc scope : Scope} {X : Cx} {Ek : XK} (gx : GX c sc X Ek) (L : LamX.LamS X.env.scope scope) {A : Around} {outer : List Env} {s : Shared} {H : Hp} {E : XK} {f c' : Addr} (hr : Room (c.k - 2) (A.deeper (LamX.lamEnv X scope s.heap.objs.size f c'))) :
    GX c.dn scope (TU.lamC X A outer s H E scope f c') E where
  eP := gx.eP
  ew := gx.ew
  eK := gx.eK
  em := gx.em
  eb := gx.eb
  eN := gx.eN
  nd := gx.nd
  calm := rfl
  room := hr
  tk := L2N.takes_of rfl rfl rfl rfl
  bk := L.kind
  loc := fun x h => absurd rfl (L.own _ (PySem.mem_of_lookup h)).1
  cel := fun x h => absurd rfl (L.own _ (PySem.mem_of_lookup h)).2
  fre := fun x h => .inr h
  glo := fun x h => h
  bf := gx.bf
  lm := fun _ _ _ z => by cases z
theorem GX.blkOk {c : Ct} {sc scope : Scope} {X : Cx} {Ek : XK} {own : List (Str × Nat)} (gx : GX c sc X Ek) (h : blkC c.N sc scope own = true) : BlkOk X.N X.env.scope scope own := by
  have ok := blkOk_by h
  rw [gx.eN]
  refine ⟨ok.kind, ok.uniq, ok.ix, fun y hy e => ?_, ok.own⟩
  rcases ok.free y hy e with h | h
  · exact .inl (gx.cel _ h).1
  · exact gx.fre _ h
end TO

set_option Elab.async false
set_option linter.all false
set_option maxRecDepth 100000
set_option maxHeartbeats 4000000
/-! Expressions: calls, built-in functions, comprehensions. -/
namespace TO
open PySem PySem.Spec L2

theorem SI.stpM {n : Ent} {ad : List (Option Addr)} {Fx : Addr → Option (List V)} {G H G' H' : Hp} {m : Mu} {T : List (Addr × Str)} {a : Addr} {j : Nat} {ws : List V} {ys : List D} (hT : n.T = T) (s : SI n ad Fx G H m) (hj : ad[j]? = some (some a))
    (t : Stp T (· = a) G H G' H') (ha : H' a = some (.lst ws)) (hg : G' a = none) (r : RpA G' ws ys) : SI n ad Fx G' H' (m.set j (some ys)) := by
  have hm : some a ∈ ad := List.mem_of_getElem? hj
  have keep : ∀ b o, b ≠ a → H b = some o → (∀ ps, o ≠ .tbl ps) → H' b = some o := fun b o hb e q => by
    rcases t.ext b o hb e with h | ⟨ps, qs, h1, _⟩
    · exact h
    · exact absurd h1 (q ps)
  have eH : (upd (fun b => if b = a then H a else H' b) a (.lst ws)) = H' := by
    funext b
    by_cases hb : b = a
    · subst hb; rw [upd_same, ha]
    · rw [upd_ne hb, if_neg hb]
  have mu1 : MuOk G' (fun b => if b = a then H a else H' b) ad m := s.mu.mono t.up fun p o hp e => by
    by_cases hb : p = a
    · subst hb; rw [if_pos rfl]; exact e
    · rw [if_neg hb]
      obtain ⟨vs, hv⟩ := s.adh hp
      refine keep p o hb e fun ps z => ?_
      rw [hv] at e; cases e; cases z
  have mu2 := mu1.set r (fun i hi => s.nd i j a hi hj) hj
  rw [eH] at mu2
  refine ⟨t.sub, s.up.trans t.up, s.bs.trans t.up, fun b o e => ?_, mu2, fun p hp => ?_, s.nd, s.adm, s.adl, s.hd, fun p o e => ?_, fun b o hb e => ?_, fun b e => s.live b (t.live b e), by rw [hT]; exact t.tabs, t.flat⟩
  · rcases t.new b o e with h | h
    · exact s.new b o h
    · exact .inr (s.live b h)
  · obtain ⟨vs, hv⟩ := s.adh hp
    cases q : G' p with
    | none => rfl
    | some o =>
      rcases t.new p o q with h | h
      · rw [s.adg p hp] at h; cases h
      · rw [hv] at h; cases h
  · obtain ⟨h1, h2, h3⟩ := s.fx p o e
    have hn : G' p = none := by
      cases q : G' p with
      | none => rfl
      | some o' =>
        rcases t.new p o' q with h | h
        · rw [h2] at h; cases h
        · rw [h1] at h; cases h
    exact ⟨keep p _ (fun z => h3 (by rw [z]; exact hm)) h1 (fun ps z => by cases z), hn, h3⟩
  · by_cases hba : b = a
    · subst hba
      rcases s.adm b hm with h | h
      · exact absurd h hb
      · rw [h] at e; cases e
    · rcases s.ext b o hb e with h | ⟨ps, qs, h1, h2⟩
      · rcases t.ext b o hba h with h' | ⟨ps, qs, h1, h2⟩
        · exact .inl h'
        · exact .inr ⟨ps, qs, h1, h2⟩
      · rcases t.ext b _ hba h2 with h' | ⟨ps', qs', h1', h2'⟩
        · exact .inr ⟨ps, qs, h1, h'⟩
        · exact .inr ⟨ps, qs', h1, h2'⟩
def WCall (X : Cx) (f : Value) : List V → Hp → VK → Prop := fun xs H Q => ∀ pins s σ us, Inv X pins σ H s → Vals xs us → wpAny (model X.prog X.w) X.A (call f us) (EP X pins σ Q) X.xe s
theorem pWCall {X : Cx} {f : Value} : CallR X f (WCall X f) := fun pins s σ H xs us Q I r h => h pins s σ us I r
theorem toCall {X : Cx} {f : Value} {r : List V → Hp → VK → Prop} {xs : List V} {H : Hp} {Q : VK} (h : CallR X f r) (q : r xs H Q) : WCall X f xs H Q := fun pins s σ us I rx => h pins s σ H xs us Q I rx q
def biV : Bfn → Value
  | .len => .builtin "len"
  | .all => .builtin "all"
  | .sum => .builtin "sum"
  | .max2 => .builtin "max"
  | .min2 => .builtin "min"
  | .min1 => .builtin "min"
  | .tuple => .type "tuple"
  | .list => .type "list"
  | .int1 => .type "int"
  | .str1 => .type "str"
def tyN : D → String
  | .none => "NoneType"
  | .bool _ => "bool"
  | .int _ => "int"
  | .str _ => "str"
  | .list _ => "list"
  | .tuple _ => "tuple"
  | .dict _ => "dict"
theorem ty_of {K : PySem.W.Frag} {G H : Hp} (hs : Same G H) {v : V} {d : D} (r : Rp G v d) : TyX K H v (.type (tyN d)) := by
  cases d with
  | none => cases r; exact .base .non
  | bool b => cases r; exact .base (.bl b)
  | int i => cases r; exact .base (.int i)
  | str z => cases r; exact .base (.str z)
  | list ds =>
    obtain ⟨a, xs, rfl, h, _⟩ := r
    exact .base (.lst (hs a _ h))
  | tuple ds =>
    obtain ⟨a, xs, rfl, ⟨o, _, h⟩, _⟩ := r
    exact .fTuple (hs a _ h)
  | dict _ => exact r.elim
theorem kit_of_D {K : PySem.W.Frag} {G : Hp} {v : V} (k : Cla) (d : D) (r : Rp G v d) : PySem.W.kitOne K (.type (tyN d)) (.type (claN k)) = some (isiD k d) := by
  cases d <;> first | exact r.elim | (cases k <;> exact kit_ty (by simp only [tyN, claN, isiD]; decide +kernel))
theorem notCall_base {a : Expr} {nm : Str} {env : Env} {w : Sem Value} (h : notCall0 a = true) : attributeBase a nm env w = w := by
  unfold attributeBase
  split
  · simp [notCall0] at h
  · rfl
section
variable {c : Ct} {sc : Scope} {X : Cx} {Ek : XK} {n : Ent} {ad : List (Option Addr)} {Fx : Addr → Option (List V)} {G H : Hp} {m m' : Mu} {env : En} {σ : L2.St}
theorem a2_plain {i : List E} {e : Expr} {es : List Expr} (h : A2 (Snd c sc) i (e :: es)) : plainE e = true ∧ ∃ is, A2 (Snd c sc) is es := by
  cases i with
  | nil => exact h.elim
  | cons i is => exact ⟨h.1.2.2, is, h.2⟩
theorem bi_val {f : Value} (hc : X.calm = true) (hu : X.A.units + 65 < cLine) (b : Bfn) (hf : f = biV b)
    {ds : List D} {g : D} {vs : List V} {Q : VK} (h : biD b ds = some g) (s : SI n ad Fx G H m) (r : RpA G vs ds) (q : Fin n ad Fx G m g Q) : WCall X f vs H Q := by
  have one : ∀ {d : D}, ds = [d] → ∃ v, vs = [v] ∧ Rp G v d := fun {d} e => by
    subst e
    cases vs with
    | nil => exact r.elim
    | cons v vs =>
      cases vs with
      | nil => exact ⟨v, rfl, r.1⟩
      | cons _ _ => exact r.2.elim
  have two : ∀ {d e : D}, ds = [d, e] → ∃ v w, vs = [v, w] ∧ Rp G v d ∧ Rp G w e := fun {d e} z => by
    subst z
    match vs, r with
    | [v, w], r => exact ⟨v, w, rfl, r.1, r.2.1⟩
  have lst1 : ∀ {xs : List D}, ds = [.list xs] → ∃ a ws, vs = [.ref a] ∧ H a = some (.lst ws) ∧ RpA G ws xs := fun {xs} z => by
    obtain ⟨v, rfl, rv⟩ := one z
    obtain ⟨a, ws, rfl, ha, ra⟩ := rv.lst s
    exact ⟨a, ws, rfl, ha, ra⟩
  have tup1 : ∀ {xs : List D}, ds = [.tuple xs] → ∃ a ws, vs = [.ref a] ∧ KnT H a ws ∧ RpA G ws xs ∧ Rp G (.ref a) (.tuple xs) := fun {xs} z => by
    obtain ⟨v, rfl, rv⟩ := one z
    have rv0 := rv
    obtain ⟨a, ws, rfl, ha, ra⟩ := rv.tup s
    exact ⟨a, ws, rfl, ha, ra, rv0⟩
  match b, ds, h with
  | .min1, [.list (d :: ds)], h =>
    subst hf
    simp only [biD, Option.ite_none_right_eq_some, Option.some.injEq] at h
    obtain ⟨hk, rfl⟩ := h
    obtain ⟨a, ws, rfl, ha, ra⟩ := lst1 rfl
    exact toCall (cr_minD hc hu) ⟨a, ws, d, ds, rfl, SqL.of ha, hk, RpA.dp s.sub _ _ ra, fun i v hv hr => q.val s (by
      obtain ⟨d', e1, e2⟩ := ra.getV hv
      rw [hr] at e1
      cases e1
      exact e2)⟩
  | .len, [.list xs], h =>
    subst hf; cases h
    obtain ⟨a, ws, rfl, ha, ra⟩ := lst1 rfl
    exact toCall call_len_seq ⟨a, ws, rfl, .inl (SqL.of ha), by rw [ra.length]; exact q.val s rfl⟩
  | .len, [.tuple xs], h =>
    subst hf; cases h
    obtain ⟨a, ws, rfl, ha, ra, _⟩ := tup1 rfl
    exact toCall call_len_seq ⟨a, ws, rfl, .inr ha.sq, by rw [ra.length]; exact q.val s rfl⟩
  | .len, [.str z], h =>
    subst hf
    simp only [biD, Option.ite_none_right_eq_some, Option.some.injEq] at h
    obtain ⟨hl, rfl⟩ := h
    obtain ⟨v, rfl, rv⟩ := one rfl
    cases rv
    exact toCall call_len_str ⟨z, rfl, Nat.le_trans hl lim_le, q.val s rfl⟩
  | .tuple, [.list xs], h =>
    subst hf; cases h
    obtain ⟨a, ws, rfl, ha, ra⟩ := lst1 rfl
    exact toCall call_tupF ⟨a, ws, rfl, .inl ⟨SqL.of ha, q.tup s ra⟩⟩
  | .tuple, [.tuple xs], h =>
    subst hf; cases h
    obtain ⟨a, ws, rfl, ha, ra, r0⟩ := tup1 rfl
    exact toCall call_tupF ⟨a, ws, rfl, .inr ⟨ha.sq, q.val s r0⟩⟩
  | .list, [.list xs], h =>
    subst hf; cases h
    obtain ⟨a, ws, rfl, ha, ra⟩ := lst1 rfl
    exact toCall call_list_of ⟨a, ws, rfl, .inl (SqL.of ha), fun l hl => q.lst s hl ra⟩
  | .list, [.tuple xs], h =>
    subst hf; cases h
    obtain ⟨a, ws, rfl, ha, ra, r0⟩ := tup1 rfl
    exact toCall call_list_of ⟨a, ws, rfl, .inr ha.sq, fun l hl => q.lst s hl ra⟩
  | .all, [.list xs], h =>
    subst hf
    simp only [biD, Option.map_eq_some_iff] at h
    obtain ⟨ns, h1, rfl⟩ := h
    obtain ⟨a, ws, rfl, ha, ra⟩ := lst1 rfl
    have e := ra.bools h1
    subst e
    exact toCall (cr_all hc) ⟨a, ns, rfl, SqL.of ha, q.val s rfl⟩
  | .all, [.tuple xs], h =>
    subst hf
    simp only [biD, Option.map_eq_some_iff] at h
    obtain ⟨ns, h1, rfl⟩ := h
    obtain ⟨a, ws, rfl, ha, ra, _⟩ := tup1 rfl
    have e := ra.bools h1
    subst e
    exact toCall (cr_allT hc) ⟨a, ns, rfl, ha.sq, q.val s rfl⟩
  | .sum, [.list xs], h =>
    subst hf
    simp only [biD, Option.map_eq_some_iff] at h
    obtain ⟨ns, h1, rfl⟩ := h
    obtain ⟨a, ws, rfl, ha, ra⟩ := lst1 rfl
    have e := ra.ints h1
    subst e
    exact toCall (cr_sum hc) ⟨a, ns, rfl, SqL.of ha, q.val s rfl⟩
  | .int1, [.int i], h =>
    subst hf; cases h
    obtain ⟨v, rfl, rv⟩ := one rfl
    cases rv
    exact toCall call_int1 (.inl ⟨i, rfl, q.val s rfl⟩)
  | .int1, [.bool i], h =>
    subst hf; cases h
    obtain ⟨v, rfl, rv⟩ := one rfl
    cases rv
    exact toCall call_int1 (.inr ⟨i, rfl, q.val s rfl⟩)
  | .int1, [.str i], h =>
    subst hf
    simp only [biD] at h
    split at h
    · rename_i z hz
      rw [Option.ite_none_right_eq_some, Option.some.injEq] at h
      obtain ⟨h1, rfl⟩ := h
      obtain ⟨v, rfl, rv⟩ := one rfl
      cases rv
      exact toCall call_int_str ⟨i, z, rfl, hz, h1, q.val s rfl⟩
    · cases h
  | .str1, [.int i], h =>
    subst hf
    simp only [biD, Option.ite_none_right_eq_some, Option.some.injEq] at h
    obtain ⟨h1, rfl⟩ := h
    obtain ⟨v, rfl, rv⟩ := one rfl
    cases rv
    exact toCall call_str_int ⟨i, rfl, h1, q.val s rfl⟩
  | .max2, [.int i, .int j], h =>
    subst hf; cases h
    obtain ⟨v, w, rfl, r1, r2⟩ := two rfl
    cases r1; cases r2
    exact toCall (call_max2 hc) ⟨i, j, rfl, q.val s rfl⟩
  | .min2, [.int i, .int j], h =>
    subst hf; cases h
    obtain ⟨v, w, rfl, r1, r2⟩ := two rfl
    cases r1; cases r2
    exact toCall (call_min2 hc) ⟨i, j, rfl, q.val s rfl⟩
theorem bi_se {b : Bfn} {es : List E} {v : Expr} {vs : List Expr} {x : Str} {p pos : Pos} (ex : x = biN b) (hg : gloB sc x = true) (A : A2 (Snd c sc) es (v :: vs)) : SE c sc (.bi b es) (.Call (.Name x p) (v :: vs) [] pos) := by
  subst ex
  intro X Ek gx n ad Fx G H m env σ r m' Q hT s re h q er
  obtain ⟨pv, is, A'⟩ := a2_plain A
  have g := gx.gl hg
  have st := plain_star (es := vs) (env := X.env) pv
  have hp := a2_star (env := X.env) A' pos
  have fin : ∀ (f : Value), (f = biV b) → tCB (WCall X f) (WA X (v :: vs)) σ H Q := fun f hf => by
    refine (sa_of A).use gx hT s re h er fun ds m1 ws G1 H1 e1 s1 g1 r1 => ?_
    obtain ⟨a, ea, ep⟩ := opt_some e1
    cases ep
    exact bi_val gx.calm (by have := gx.room.un; omega) b hf ea s1 r1 fun v G2 H2 s2 g2 => q a rfl v G2 H2 s2 (g1.trans g2)
  cases b with
  | len => exact toWE (pe_callB pWCall g (gx.none (by decide +kernel)) PySem.boot_len pWA (by decide) (by decide) st hp) (fin _ rfl)
  | all => exact toWE (pe_callB pWCall g (gx.none (by decide +kernel)) (by decide +kernel) pWA (by decide) (by decide) st hp) (fin _ rfl)
  | sum => exact toWE (pe_callB pWCall g (gx.none (by decide +kernel)) (by decide +kernel) pWA (by decide) (by decide) st hp) (fin _ rfl)
  | max2 => exact toWE (pe_callB pWCall g (gx.none (by decide +kernel)) (by decide +kernel) pWA (by decide) (by decide) st hp) (fin _ rfl)
  | min1 => exact toWE (pe_callB pWCall g (gx.none (by decide +kernel)) (by decide +kernel) pWA (by decide) (by decide) st hp) (fin _ rfl)
  | min2 => exact toWE (pe_callB pWCall g (gx.none (by decide +kernel)) (by decide +kernel) pWA (by decide) (by decide) st hp) (fin _ rfl)
  | tuple => exact toWE (pe_callTy pWCall g (gx.none (by decide +kernel)) (by decide +kernel) pWA (by decide) (by decide) st hp) (fin _ rfl)
  | list => exact toWE (pe_callTy pWCall g (gx.none (by decide +kernel)) (by decide +kernel) pWA (by decide) (by decide) st hp) (fin _ rfl)
  | str1 => exact toWE (pe_callTy pWCall g (gx.none (by decide +kernel)) (by decide +kernel) pWA (by decide) (by decide) st hp) (fin _ rfl)
  | int1 => exact toWE (pe_callTy pWCall g (gx.none (by decide +kernel)) (by decide +kernel) pWA (by decide) (by decide) st hp) (fin _ rfl)
end
end TO

set_option Elab.async false
set_option linter.all false
set_option maxRecDepth 100000
set_option maxHeartbeats 4000000
/-! Expressions: each form by its parts. -/
namespace TO
open PySem PySem.Spec L2

theorem SI.lstep {n : Ent} {ad : List (Option Addr)} {Fx : Addr → Option (List V)} {G H H1 : Hp} {m : Mu} (s : SI n ad Fx G H m) (t : TU.LStep n.T H H1) : SI n ad Fx G H1 m := by
  have keep : ∀ b o, H b = some o → (∀ ps, o ≠ .tbl ps) → H1 b = some o := fun b o e q => by
    rcases t.keep b o e with h | ⟨ps, qs, h1, _⟩
    · exact h
    · exact absurd h1 (q ps)
  refine ⟨fun b o e => keep b o (s.sub b o e) fun ps z => ?_, s.up, s.bs, s.new, s.mu.mono (Same.refl G) fun p o hp e => ?_, s.adg, s.nd, s.adm, s.adl, s.hd, fun p o e => ?_, fun b o hb e => ?_, fun b e => s.live b (t.live b e), t.tabs, s.flat⟩
  · subst z
    exact s.flat b _ e
  · obtain ⟨vs, hv⟩ := s.adh hp
    refine keep p o e fun ps z => ?_
    rw [hv] at e; cases e; cases z
  · obtain ⟨h1, h2, h3⟩ := s.fx p o e
    exact ⟨keep p _ h1 (fun ps z => by cases z), h2, h3⟩
  · rcases s.ext b o hb e with h | ⟨ps, qs, h1, h2⟩
    · exact t.keep b o h
    · rcases t.keep b _ h2 with h' | ⟨ps', qs', h1', h2'⟩
      · exact .inr ⟨ps, qs, h1, h'⟩
      · exact .inr ⟨ps, qs', h1, h2'⟩
def Ent.on (n : Ent) (G : Hp) : Ent := { n with Gb := G }
theorem SI.on {n : Ent} {ad : List (Option Addr)} {Fx : Addr → Option (List V)} {G H : Hp} {m : Mu} (s : SI n ad Fx G H m) : SI (n.on G) ad Fx G H m := ⟨s.sub, s.up, Same.refl G, s.new, s.mu, s.adg, s.nd, s.adm, s.adl, s.hd, s.fx, s.ext, s.live, s.tabs, s.flat⟩
theorem SI.off {n : Ent} {ad : List (Option Addr)} {Fx : Addr → Option (List V)} {G0 G H : Hp} {m : Mu} (s : SI (n.on G0) ad Fx G H m) (b : Same n.Gb G0) : SI n ad Fx G H m := ⟨s.sub, s.up, b.trans s.bs, s.new, s.mu, s.adg, s.nd, s.adm, s.adl, s.hd, s.fx, s.ext, s.live, s.tabs, s.flat⟩
/-- the heap has grown by things that are not looked at -/
theorem SI.grow {n : Ent} {ad : List (Option Addr)} {Fx : Addr → Option (List V)} {G H H1 : Hp} {m : Mu} (s : SI n ad Fx G H m) (g : TU.Grow H H1) : SI n ad Fx G H1 m :=
  s.lstep ⟨fun b o e => .inl (g.1 b o e), g.2, s.tabs.ext g.1⟩
/-- one of these is data -/
theorem SI.adopt {n : Ent} {ad : List (Option Addr)} {Fx : Addr → Option (List V)} {G H : Hp} {m : Mu} (s : SI n ad Fx G H m) {p : Addr} {o : HO} (hp : H p = some o) (ho : IsDat o) (hl : ∀ xs, o ≠ .lst xs) (h0 : n.H0 p = none) : SI n ad Fx (upd G p o) H m ∧ Same G (upd G p o) := by
  have na : some p ∉ ad := fun h => by
    obtain ⟨vs, hv⟩ := s.adh h
    rw [hp] at hv; exact hl _ (Option.some.inj hv)
  have hG : Same G (upd G p o) := fun b x e => by
    by_cases hb : b = p
    · subst hb
      have := s.sub b x e
      rw [hp] at this
      cases this
      exact upd_same
    · rw [upd_ne hb]; exact e
  refine ⟨⟨fun b x e => ?_, s.up.trans hG, s.bs.trans hG, fun b x e => ?_, s.mu.mono hG (fun _ _ _ e => e), fun q hq => ?_, s.nd, s.adm, s.adl, s.hd, fun q x e => ?_, s.ext, s.live, s.tabs, fun b x e => ?_⟩, hG⟩
  · by_cases hb : b = p
    · subst hb; rw [upd_same] at e; cases e; exact hp
    · rw [upd_ne hb] at e; exact s.sub b x e
  · by_cases hb : b = p
    · subst hb; exact .inr h0
    · rw [upd_ne hb] at e; exact s.new b x e
  · rw [upd_ne (fun z => na (by rw [← z]; exact hq))]; exact s.adg q hq
  · obtain ⟨h1, h2, h3⟩ := s.fx q x e
    exact ⟨h1, by rw [upd_ne (fun z => by subst z; rw [hp] at h1; exact hl _ (Option.some.inj h1))]; exact h2, h3⟩
  · by_cases hb : b = p
    · subst hb; rw [upd_same] at e; cases e; exact ho
    · rw [upd_ne hb] at e; exact s.flat b x e
theorem noArgs_def {params : Arguments} {env : Env} (h : noArgs params = true) : defaultsOf params env = ([], []) := by
  unfold noArgs at h
  split at h
  · rfl
  · cases h
theorem noArgs_bind {params : Arguments} {body : Expr} {scope : Scope} {q : Str} {cl : List (Str × Addr)} {pm cv ctv : Value} (h : noArgs params = true) : bindArgs (PySem.W.kla_fn "<lambda>" q params body scope cl pm cv ctv) ⟨[], []⟩ = pure [] := by
  unfold noArgs at h
  split at h
  · rfl
  · cases h
theorem GX.lamS {c : Ct} {sc scope : Scope} {X : Cx} {Ek : XK} (gx : GX c sc X Ek) (h : LamX.lamSB sc scope = true) : LamX.LamS X.env.scope scope := by
  have L := LamX.lamS_by h
  refine ⟨L.kind, L.co, L.gen, L.own, fun y hy e => ?_⟩
  rcases L.free y hy e with k | k
  · exact .inl (gx.cel _ k).1
  · exact gx.fre _ k
section
variable {c : Ct} {sc : Scope}
theorem told_se {x : Str} {a : E} {params : Arguments} {body : Expr} {scope : Scope} {p lp pos : Pos} (ex : x = "_law_told") (hg : gloB sc x = true) (hL : LamX.lamSB sc scope = true) (hA : noArgs params = true) (ok : TolC c) (A : Snd c.dn scope a body) : SE c sc (.told a) (.Call (.Name x p) [.Lambda params body scope lp] [] pos) := by
  subst ex
  intro X Ek gx n ad Fx G H m env σ r m' Q hT s re h q er
  obtain ⟨ca, P, nm, e1, TB, hmT, hu⟩ := ok.lam
  obtain ⟨hcode, hnm⟩ := gx.lm _ _ _ e1
  have L := gx.lamS hL
  have hr : Room (c.k - 2 + 2) X.A := by
    have := ok.room
    rw [show c.k - 2 + 2 = c.k by omega]
    exact gx.room
  have bl : ∀ x ∈ (["isinstance", "sum", "int", "ValueError"] : List Str), X.mg x = none := fun x hx => gx.none (by
    have : ((["isinstance", "sum", "int", "ValueError"] : List Str).all fun x => decide (x ∈ BN)) = true := by decide +kernel
    simpa using List.all_eq_true.mp this x hx)
  refine toWE (TU.pe_told (T := c.T) (k := c.k - 2) (t := fun E σ H Q => ∀ Y, GX c.dn scope Y E → WE Y body σ H Q) (by rw [gx.eK, gx.em]; exact ok.told) (by rw [gx.eK, gx.em]; exact ok.term) bl (gx.gl hg) (by rw [gx.eb, gx.em]; exact TB) hcode hnm hmT hu hr L (noArgs_def hA) (fun _ _ _ _ _ => noArgs_bind hA)
    fun A outer s H E f c' hr' => ⟨fun pins s2 σ H2 Q I h => h _ (gx.lamG L hr') pins s2 I⟩) ?_
  refine ⟨by rw [← hT]; exact s.tabs, fun H1 st Y gy => ?_⟩
  have s1 : SI n ad Fx G H1 m := s.lstep (by rw [hT]; exact st)
  simp only [ev] at h
  cases h0 : ev a env m with
  | none => rw [h0] at h; cases h
  | some z =>
    obtain ⟨z, m1⟩ := z
    rw [h0] at h
    cases z with
    | ok d =>
      cases h
      exact A.1 Y _ gy (n.on G) ad Fx G H1 m env σ _ _ Q hT s1.on re h0 (fun d' e v G2 H2 s2 => by cases e; exact q d rfl v G2 H2 (s2.off s.bs)) (fun x e => by cases e)
    | error x =>
      simp only [toldR] at h
      by_cases hx : x ∈ err13
      · rw [if_pos hx] at h
        cases h
        refine A.1 Y _ gy (n.on G) ad Fx G H1 m env σ _ _ Q hT s1.on re h0 (fun d' e => by cases e) (fun y e C hC G2 H2 s2 => ?_)
        cases e
        have g2 : Same G G2 := s2.bs
        replace s2 := s2.off s.bs
        refine ⟨x, C, by rw [TU.all13_err]; exact hx, by rw [gx.em]; exact ok.cls x C hC, rfl, rfl, fun q0 us H3 g hq0 hq1 => ?_⟩
        have s3 := s2.grow g
        obtain ⟨s4, g4⟩ := s3.adopt (o := tupH us [.str "error", .str x]) hq1 trivial (fun xs z => by cases z) (s2.live q0 hq0)
        exact q _ rfl _ _ _ s4 (g2.trans g4) ⟨q0, _, rfl, ⟨_, rfl, upd_same⟩, rfl, rfl, trivial⟩
      · rw [if_neg hx] at h
        cases h
theorem call_se {f x : Str} {F : List D → Option (Except Str D)} {es : List E} {v : Expr} {vs : List Expr} {p pos : Pos} (ex : x = f) (hg : gloB sc x = true) (hn : nmB x = true) (ok : CallOk c f (spP c F)) (A : A2 (Snd c sc) es (v :: vs)) : SE c sc (.call f F es) (.Call (.Name x p) (v :: vs) [] pos) := by
  subst ex
  intro X Ek gx n ad Fx G H m env σ r m' Q hT s re h q er
  obtain ⟨fa, fd, ps, kk, hm, hk, hF, hb, kp⟩ := ok
  obtain ⟨pv, is, A'⟩ := a2_plain A
  have F' : FnOk X.prog X.w X.K X.mg X.base (L2N.CX X.prog X.w) kk fa fd ps (spP c F) := by
    rw [gx.eP, gx.ew, gx.eK, gx.em, gx.eb]; exact hF
  have hx : Passes (L2N.CX X.prog X.w) X Ek := L2N.passes_call gx.tk fun _ _ _ _ z => z
  refine toWE (pe_call F' (gx.room.mono hk) (gx.gl hg) (by rw [gx.em]; exact hm) (by rw [gx.eK]; exact kp) (by rw [gx.eK]; exact hb) .nil hx pWA (nm_d hn) (plain_star pv) (a2_star A' pos)) ?_
  refine (sa_of A).use gx hT s re h er fun ds m1 ws G1 H1 e1 s1 g1 r1 => ?_
  rw [List.append_nil]
  obtain ⟨y, hy, ey⟩ := Option.map_eq_some_iff.mp e1
  cases ey
  refine ⟨G1, ds, s1.sub, s1.flat, by rw [← hT]; exact s1.tabs, r1, ?_⟩
  rw [hy]
  cases r with
  | ok d => exact fun w G2 H2 t2 r2 => q d rfl w G2 H2 (s1.stp hT t2) (g1.trans t2.up) r2
  | error z => exact fun C hC G2 H2 t2 => er z rfl C hC G2 H2 (s1.stp hT t2)
theorem callD_se {f x y : Str} {F : List D → List D → Option (D × List D)} {i : Nat} {es : List E} {vs : List Expr} {p p2 pos : Pos} (ex : x = f) (hg : gloB sc x = true) (hn : nmB x = true) (hi : slB c.N i y = true) (hv : visB sc y = true) (hn2 : nmB y = true) (ok : CallOk c f (spM c F)) (A : A2 (Snd c sc) es vs) :
    SE c sc (.callD f F i es) (.Call (.Name x p) (.Name y p2 :: vs) [] pos) := by
  subst ex
  intro X Ek gx n ad Fx G H m env σ r m' Q hT s re h q er
  obtain ⟨fa, fd, ps, kk, hm, hk, hF, hb, kp⟩ := ok
  have F' : FnOk X.prog X.w X.K X.mg X.base (L2N.CX X.prog X.w) kk fa fd ps (spM c F) := by
    rw [gx.eP, gx.ew, gx.eK, gx.em, gx.eb]; exact hF
  have hx : Passes (L2N.CX X.prog X.w) X Ek := L2N.passes_call gx.tk fun _ _ _ _ z => z
  refine toWE (pe_call F' (gx.room.mono hk) (gx.gl hg) (by rw [gx.em]; exact hm) (by rw [gx.eK]; exact kp) (by rw [gx.eK]; exact hb) .nil hx (pa_cons (pe_var (i := i) (sl_of gx hi) (gx.vis hv) (nm_d hn2) (nm_c hn2)) (pWA (es := vs)) rfl) (nm_d hn) rfl (a2_star A pos)) ?_
  simp only [ev] at h
  cases ee : env[i]? with
  | none => rw [ee] at h; cases h
  | some o =>
    rw [ee] at h
    cases o with
    | none => cases h
    | some o =>
      cases o with
      | val d => cases h
      | lab _ _ _ => cases h
      | labF _ _ _ => cases h
      | obj j =>
        obtain ⟨a, hσ, ha⟩ := re.obj ee
        refine ⟨.ref a, hσ, ?_⟩
        refine (sa_of A).use gx hT s re h er fun ds m1 ws G1 H1 e1 s1 g1 r1 => ?_
        show spM c F ((V.ref a :: ws) ++ []) H1 Q Ek
        rw [List.append_nil]
        cases em : m1[j]? with
        | none => rw [em] at e1; cases e1
        | some o =>
          rw [em] at e1
          cases o with
          | none => cases e1
          | some xs =>
            obtain ⟨y, hy, ey⟩ := Option.map_eq_some_iff.mp e1
            cases ey
            obtain ⟨a', ws', ha', hH, rw'⟩ := s1.mu.get em
            rw [ha] at ha'
            cases ha'
            refine ⟨G1, a, ws, ws', xs, ds, rfl, s1.sub, s1.flat, by rw [← hT]; exact s1.tabs, s1.adg a (List.mem_of_getElem? ha), hH, rw', r1, ?_⟩
            rw [hy]
            exact fun w G2 H2 us t2 hg2 hH2 ru r2 => q _ rfl w G2 H2 (s1.stpM hT ha t2 hH2 hg2 ru) (g1.trans t2.up) r2
theorem isi_se {k : Cla} {ir : E} {a : Expr} {p p2 pos : Pos} {x y : Str} (ex : x = "isinstance") (hg : gloB sc x = true) (ey : y = claS k) (hg2 : gloB sc y = true) (A : Snd c sc ir a) : SE c sc (.isi ir k) (.Call (.Name x p) [a, .Name y p2] [] pos) := by
  subst ex ey
  intro X Ek gx n ad Fx G H m env σ r m' Q hT s re h q er
  have cl : PE X (.Name (claS k) p2) (tC (.ty (claN k))) := by
    have g2 := gx.gl hg2
    cases k <;> exact pe_bltn g2 (gx.none (by decide +kernel)) (by decide +kernel) rfl (by decide) (by decide)
  refine toWE (pe_callB call_isi (gx.gl hg) (gx.none (by decide +kernel)) (by decide +kernel) (pa_cons (pWE (e := a)) (pa_cons cl pa_nil rfl) (plain_star A.2.2)) (by decide) (by decide) (plain_star A.2.2) rfl) ?_
  refine A.1.use gx hT s re h er fun d m1 v G1 H1 e1 s1 g1 r1 => ?_
  cases e1
  refine ⟨v, .ty (claN k), _, _, isiD k d, rfl, .ty _, ty_of s1.sub r1, kit_of_D k d r1, q _ rfl _ G1 H1 s1 g1 rfl⟩
theorem lenset_se {ir : E} {a : Expr} {p p2 p3 pos : Pos} {x y : Str} (ex : x = "len") (hg : gloB sc x = true) (ey : y = "set") (hg2 : gloB sc y = true) (A : Snd c sc ir a) : SE c sc (.lenset ir) (.Call (.Name x p) [.Call (.Name y p2) [a] [] p3] [] pos) := by
  subst ex ey
  intro X Ek gx n ad Fx G H m env σ r m' Q hT s re h q er
  refine toWE (pe_lenSetT (gx.gl hg) (gx.none (by decide +kernel)) (gx.gl hg2) (gx.none (by decide +kernel)) (pWE (e := a)) gx.calm (plain_star A.2.2)) ?_
  refine A.1.use gx hT s re h er fun d m1 v G1 H1 e1 s1 g1 r1 => ?_
  obtain ⟨b, hb, eb⟩ := opt_some e1
  cases eb
  cases d with
  | tuple xs =>
    simp only [lensetD, Option.bind_eq_some_iff, Option.ite_none_right_eq_some, Option.some.injEq] at hb
    obtain ⟨ns, h1, h2, rfl⟩ := hb
    obtain ⟨l, ws, rfl, hl, rl⟩ := r1.tup s1
    have e := rl.ints h1
    subst e
    exact ⟨l, ns, rfl, hl.sq, h2, q _ rfl _ G1 H1 s1 g1 rfl⟩
  | _ => simp [lensetD] at hb
theorem ints_rp {G : Hp} : ∀ ns : List Int, RpA G (ns.map V.int) (ns.map .int)
  | [] => trivial
  | _ :: r => ⟨rfl, ints_rp r⟩
theorem bls_rp {G : Hp} : ∀ ns : List Bool, RpA G (ns.map V.bl) (ns.map .bool)
  | [] => trivial
  | _ :: r => ⟨rfl, bls_rp r⟩
theorem sset_se {ir : E} {a : Expr} {p p2 p3 pos : Pos} {x y : Str} (ex : x = "sorted") (hg : gloB sc x = true) (ey : y = "set") (hg2 : gloB sc y = true) (A : Snd c sc ir a) : SE c sc (.sset ir) (.Call (.Name x p) [.Call (.Name y p2) [a] [] p3] [] pos) := by
  subst ex ey
  intro X Ek gx n ad Fx G H m env σ r m' Q hT s re h q er
  refine toWE (pe_sset (gx.gl hg) (gx.none (by decide +kernel)) (gx.gl hg2) (gx.none (by decide +kernel)) (pWE (e := a)) gx.calm (by have := gx.room.un; omega) (plain_star A.2.2)) ?_
  refine A.1.use gx hT s re h er fun d m1 v G1 H1 e1 s1 g1 r1 => ?_
  obtain ⟨b, hb, eb⟩ := opt_some e1
  cases eb
  cases d with
  | list xs =>
    obtain ⟨l, ws, rfl, hl, rl⟩ := r1.lst s1
    cases hi : intsD xs with
    | some ns =>
      simp only [ssetD, hi, Option.ite_none_right_eq_some, Option.some.injEq] at hb
      obtain ⟨⟨h2, h3⟩, rfl⟩ := hb
      have e := rl.ints hi
      subst e
      exact ⟨l, rfl, .inl ⟨ns, SqL.of hl, h2, h3, fun l hl => (show Fin n ad Fx G1 _ (.list ((upI ns).map .int)) Q from fun v G2 H2 s2 g2 => q _ rfl v G2 H2 s2 (g1.trans g2)).lst s1 hl (ints_rp _)⟩⟩
    | none =>
      simp only [ssetD, hi, Option.bind_eq_some_iff, Option.ite_none_right_eq_some, Option.some.injEq] at hb
      obtain ⟨bs, h1, h2, rfl⟩ := hb
      have e := rl.bools h1
      subst e
      exact ⟨l, rfl, .inr ⟨bs, SqL.of hl, h2, fun l hl => (show Fin n ad Fx G1 _ (.list ((upB (decide (false ∈ bs)) (decide (true ∈ bs))).map .bool)) Q from fun v G2 H2 s2 g2 => q _ rfl v G2 H2 s2 (g1.trans g2)).lst s1 hl (bls_rp _)⟩⟩
  | _ => simp [ssetD] at hb
theorem rgV_rp {G : Hp} (n : Int) : RpA G (rgV 0 n) (rngD n) := by
  unfold rgV rngD
  rw [Int.sub_zero]
  generalize List.range n.toNat = l
  induction l with
  | nil => exact trivial
  | cons a r ih => exact ⟨by show V.int (0 + (a : Int)) = V.int (a : Int); rw [Int.zero_add], ih⟩
theorem trng_se {t : Bool} {ir : E} {a : Expr} {p p2 p3 pos : Pos} {x y : Str} (ex : x = if t then ("tuple" : Str) else ("list" : Str)) (hg : gloB sc x = true) (ey : y = "range") (hg2 : gloB sc y = true) (A : Snd c sc ir a) : SE c sc (.trng t ir) (.Call (.Name x p) [.Call (.Name y p2) [a] [] p3] [] pos) := by
  subst ey
  intro X Ek gx n ad Fx G H m env σ r m' Q hT s re h q er
  have pr : PRg X (.Call (.Name "range" p2) [a] [] p3) (tRg1 (WE X a)) := prg_1 (gx.gl hg2) (gx.none (by decide +kernel)) pWE (plain_star A.2.2)
  cases t with
  | true =>
    subst ex
    refine toWE (pe_tupRgF gx.calm (gx.gl hg) (gx.none (by decide +kernel)) pr rfl) ?_
    refine A.1.use gx hT s re h er fun d m1 v G1 H1 e1 s1 g1 r1 => ?_
    cases d with
    | int k =>
      cases r1
      simp only [Option.ite_none_right_eq_some, Option.some.injEq, Prod.mk.injEq] at e1
      obtain ⟨hk, e1, rfl⟩ := e1
      subst e1
      exact ⟨k, rfl, RgOk.of_le (Int.le_refl _) (by omega) (by omega) hk.1, (show Fin n ad Fx G1 _ (.tuple (rngD k)) Q from fun v G2 H2 s2 g2 => q _ rfl v G2 H2 s2 (g1.trans g2)).tup s1 (rgV_rp k)⟩
    | _ => cases e1
  | false =>
    subst ex
    refine toWE (pe_listRg gx.calm (gx.gl hg) (gx.none (by decide +kernel)) pr rfl) ?_
    refine A.1.use gx hT s re h er fun d m1 v G1 H1 e1 s1 g1 r1 => ?_
    cases d with
    | int k =>
      cases r1
      simp only [Option.ite_none_right_eq_some, Option.some.injEq, Prod.mk.injEq] at e1
      obtain ⟨hk, e1, rfl⟩ := e1
      subst e1
      exact ⟨k, rfl, RgOk.of_le (Int.le_refl _) (by omega) (by omega) hk.1, fun l hl => (show Fin n ad Fx G1 _ (.list (rngD k)) Q from fun v G2 H2 s2 g2 => q _ rfl v G2 H2 s2 (g1.trans g2)).lst s1 hl (rgV_rp k)⟩
    | _ => cases e1
theorem idxOf_at {ns : List Int} {i : Int} (h : i ∈ ns) : ns[ns.idxOf i]? = some i ∧ ∀ m, m < ns.idxOf i → ns[m]? ≠ some i := by
  induction ns with
  | nil => cases h
  | cons a r ih =>
    rw [List.idxOf_cons]
    by_cases e : a = i
    · subst e
      simp
    · have hb : (a == i) = false := beq_eq_false_iff_ne.mpr e
      have hr : i ∈ r := (List.mem_cons.mp h).elim (fun z => absurd z.symm e) id
      obtain ⟨h1, h2⟩ := ih hr
      rw [hb]
      refine ⟨h1, fun m hm => ?_⟩
      cases m with
      | zero => simp [e]
      | succ m => exact h2 m (Nat.lt_of_succ_lt_succ hm)
theorem SE.val {X : Cx} {Ek : XK} {n : Ent} {ad : List (Option Addr)} {Fx : Addr → Option (List V)} {G H : Hp} {m m1 : Mu} {env : En} {σ : L2.St} {ir : E} {a : Expr} {d : D} {Q : VK} (hA : SE c sc ir a) (gx : GX c sc X Ek) (hT : n.T = c.T) (s : SI n ad Fx G H m) (re : RE ad G env σ)
    (h : ev ir env m = some (.ok d, m1)) (k : ∀ v G1 H1, SI n ad Fx G1 H1 m1 → Same G G1 → Rp G1 v d → Q v H1) : WE X a σ H Q :=
  hA X Ek gx n ad Fx G H m env σ _ _ Q hT s re h (fun d' e => by cases e; exact k) (fun x e => by cases e)
theorem SE.err {X : Cx} {Ek : XK} {n : Ent} {ad : List (Option Addr)} {Fx : Addr → Option (List V)} {G H : Hp} {m m1 : Mu} {env : En} {σ : L2.St} {ir : E} {a : Expr} {x : Str} {Q : VK} {α : Type} (hA : SE c sc ir a) (gx : GX c sc X Ek) (hT : n.T = c.T) (s : SI n ad Fx G H m) (re : RE ad G env σ)
    (h : ev ir env m = some (.error x, m1)) (er : ErrP c n ad Fx Ek m1 (α := α) (.error x)) : WE X a σ H Q :=
  hA X Ek gx n ad Fx G H m env σ _ _ Q hT s re h (fun d' e => by cases e) (fun y e => by cases e; exact er x rfl)
theorem tyL_of {K : PySem.W.Frag} {H : Hp} {a : Addr} {vs : List V} (h : H a = some (.lst vs)) : tyV K "list" (.ref a) H := by
  exact .inl ⟨rfl, vs, SqL.of h⟩
theorem mth_list {k : Mth} {ir jr : E} {a b : Expr} {ap cp : Pos} (hl : (ap.endLine == cp.line) = true) (hc : notCall0 a = true) (A : Snd c sc ir a) (B : Snd c sc jr b)
    {X : Cx} {Ek : XK} (gx : GX c sc X Ek) {n : Ent} {ad : List (Option Addr)} {Fx : Addr → Option (List V)} {G H : Hp} {m m1 m' : Mu} {env : En} {σ : L2.St} {r : Except Str D} {Q : VK} (hT : n.T = c.T) (s : SI n ad Fx G H m) (re : RE ad G env σ) {xs : List D}
    (h1 : ev ir env m = some (.ok (.list xs), m1)) (h2 : bnd (evs [jr] env m1) (fun ds m => opt (mthD k (.list xs) ds) m) = some (r, m')) (q : ∀ d, r = .ok d → Fin n ad Fx G m' d Q) (er : ErrP c n ad Fx Ek m' r) : WE X (.Call (.Attribute a (mthN k) ap) [b] [] cp) σ H Q := by
  have st := plain_star (es := []) (env := X.env) B.2.2
  have few : ((backTo cp (starEach [b] X.env)).all (fun x => !x.1) && (backToKw cp (keywordEach [] X.env)).all (fun x => x.1.isSome)
      && decide (([b] : List Expr).length + ([] : List Keyword).length + (if ([] : List Keyword).isEmpty then 0 else 1) < 30)) = true := by
    rw [st]; rfl
  have AB : A2 (Snd c sc) [jr] [b] := ⟨B, trivial⟩
  cases k with
  | index =>
    refine toWE (pe_bm PySem.F.plainAttrs_list PySem.F.slot_list_index PySem.F.type_list_index (mt_indexD (by have := gx.room.un; omega)) (pWE (e := a)) (pWA (es := [b])) (notCall_base hc) few hl st rfl) ?_
    refine A.1.val gx hT s re h1 fun v G1 H1 s1 g1 r1 => ?_
    have r0 := r1
    obtain ⟨l, ws, rfl, hk, rl⟩ := r1.lst s1
    refine ⟨tyL_of hk, ?_⟩
    refine (sa_of AB).use gx hT s1 (re.mono g1) h2 er fun ds m2 us G2 H2 e2 s2 g2 r2 => ?_
    obtain ⟨y, hy, ey⟩ := opt_some e2
    cases ey
    match ds, us, r2, hy with
    | [d], [u], r2, hy =>
      simp only [mthD, Option.ite_none_right_eq_some, Option.map_eq_some_iff, Bool.and_eq_true] at hy
      obtain ⟨⟨z1, z2⟩, j, hj, rfl⟩ := hy
      rw [List.findIdx?_eq_some_iff_getElem] at hj
      obtain ⟨hjl, hjt, hjn⟩ := hj
      refine ⟨l, u, d, xs, j, xs[j], rfl, rfl, Rp.dp s2.sub _ _ (Rp.mono g2 _ _ r0), Rp.dp s2.sub _ _ r2.1, z1, z2, List.getElem?_eq_getElem hjl, hjt, fun i z hi hz => ?_, q _ rfl _ G2 H2 s2 (g1.trans g2) rfl⟩
      have := hjn i hi
      rw [(List.getElem?_eq_some_iff.mp hz).2] at this
      simpa using this
    | [], _, _, hy | _ :: _ :: _, _, _, hy => simp [mthD] at hy
  | count =>
    refine toWE (pe_bm PySem.F.plainAttrs_list PySem.F.slot_list_count PySem.F.type_list_count mt_lcountF (pWE (e := a)) (pWA (es := [b])) (notCall_base hc) few hl st rfl) ?_
    refine A.1.val gx hT s re h1 fun v G1 H1 s1 g1 r1 => ?_
    have r0 := r1
    obtain ⟨l, ws, rfl, hk, rl⟩ := r1.lst s1
    refine ⟨tyL_of hk, ?_⟩
    refine (sa_of AB).use gx hT s1 (re.mono g1) h2 er fun ds m2 us G2 H2 e2 s2 g2 r2 => ?_
    obtain ⟨y, hy, ey⟩ := opt_some e2
    cases ey
    match ds, us, r2, hy with
    | [d], [u], r2, hy =>
      simp only [mthD, Option.ite_none_right_eq_some, Option.some.injEq, Bool.and_eq_true] at hy
      obtain ⟨⟨z1, z2⟩, rfl⟩ := hy
      obtain ⟨l', ws', el, hk', rl'⟩ := (Rp.mono g2 _ _ r0).lst s2
      cases el
      refine ⟨l, ws', u, rfl, rfl, SqL.of hk', r2.1.flat z2, rl'.flat z1, ?_⟩
      rw [RpA.cnt r2.1 z2 rl' z1]
      exact q _ rfl _ G2 H2 s2 (g1.trans g2) rfl
    | [], _, _, hy | _ :: _ :: _, _, _, hy => simp [mthD] at hy
theorem mt_sindex {X : Cx} : MtR X "str.index" (fun x xs H Q => ∃ (a b : Str) (k : Nat), x = .str a ∧ xs = [.str b] ∧ Txt.index0 a b = some k ∧ Q (.int (k : Nat)) H) := by
  intro pins s σ H x xs v us Q I rx rs h
  obtain ⟨a, b, k, rfl, rfl, hy, w⟩ := h
  obtain ⟨t, rfl⟩ := rx
  cases rs with
  | cons r1 rs =>
    cases rs
    obtain ⟨u, rfl⟩ := r1
    cases q : Builtin.Str.occurrences a b 0 a.length 1 with
    | nil =>
      unfold Txt.index0 at hy
      rw [q] at hy
      cases hy
    | cons k' rest =>
      unfold Txt.index0 at hy
      rw [q] at hy
      cases hy
      exact PySem.SC.index q ⟨.int (k : Nat), H, I.tok _, ⟨_, rfl⟩, w⟩
theorem mth_se {k : Mth} {ir jr : E} {a b : Expr} {nm : Str} {ap cp : Pos} (en : nm = mthN k) (hl : (ap.endLine == cp.line) = true) (hc : notCall0 a = true) (A : Snd c sc ir a) (B : Snd c sc jr b) : SE c sc (.mth k ir [jr]) (.Call (.Attribute a nm ap) [b] [] cp) := by
  subst en
  intro X Ek gx n ad Fx G H m env σ r m' Q hT s re h q er
  have st := plain_star (es := []) (env := X.env) B.2.2
  have few : ((backTo cp (starEach [b] X.env)).all (fun x => !x.1) && (backToKw cp (keywordEach [] X.env)).all (fun x => x.1.isSome)
      && decide (([b] : List Expr).length + ([] : List Keyword).length + (if ([] : List Keyword).isEmpty then 0 else 1) < 30)) = true := by
    rw [st]; rfl
  have AB : A2 (Snd c sc) [jr] [b] := ⟨B, trivial⟩
  simp only [ev] at h
  by_cases hL : ∃ xs m1, ev ir env m = some (.ok (.list xs), m1)
  · obtain ⟨xs, m1, h1⟩ := hL
    rw [h1] at h
    exact mth_list hl hc A B gx hT s re h1 h q er
  have nL : ∀ {xs m1}, ev ir env m = some (.ok (.list xs), m1) → False := fun h => hL ⟨_, _, h⟩
  cases k with
  | index =>
    refine toWE (pe_tm PySem.F.slot_tuple_index PySem.F.type_tuple_index mt_tindex (pWE (e := a)) (pWA (es := [b])) (notCall_base hc) few hl st rfl) ?_
    rcases bnd_some h with ⟨d, m1, h0, e1⟩ | ⟨x, m1, h0, e1⟩
    rotate_left
    · cases e1
      exact A.1.err gx hT s re h0 er
    refine A.1.val gx hT s re h0 fun v G1 H1 s1 g1 r1 => ?_
    cases d with
    | tuple xs =>
      have r0 := r1
      obtain ⟨l, ws, rfl, hk, rl⟩ := r1.tup s1
      refine ⟨⟨l, ws, rfl, hk⟩, ?_⟩
      refine (sa_of AB).use gx hT s1 (re.mono g1) e1 er fun ds m2 us G2 H2 e2 s2 g2 r2 => ?_
      obtain ⟨y, hy, ey⟩ := opt_some e2
      cases ey
      obtain ⟨l', ws', el, hk', rl'⟩ := (Rp.mono g2 _ _ r0).tup s2
      cases el
      match ds, us, r2, hy with
      | [.int i], [u], r2, hy =>
        simp only [mthD, Option.bind_eq_some_iff, Option.ite_none_right_eq_some, Option.some.injEq] at hy
        obtain ⟨ns, h1, h2, rfl⟩ := hy
        have e := rl'.ints h1
        subst e
        obtain ⟨ru, _⟩ := r2
        cases ru
        obtain ⟨i1, i2⟩ := idxOf_at h2
        exact ⟨l, ns, i, ns.idxOf i, rfl, rfl, hk'.sq, i1, i2, q _ rfl _ G2 H2 s2 (g1.trans g2) rfl⟩
      | [.none], _, _, hy | [.bool _], _, _, hy | [.str _], _, _, hy | [.list _], _, _, hy | [.tuple _], _, _, hy | [.dict _], _, _, hy | [], _, _, hy | _ :: _ :: _, _, _, hy => simp [mthD] at hy
    | list xs => exact (nL h0).elim
    | _ => cases e1
  | count =>
    refine toWE (pe_tm PySem.F.slot_tuple_count PySem.F.type_tuple_count mt_tcount (pWE (e := a)) (pWA (es := [b])) (notCall_base hc) few hl st rfl) ?_
    rcases bnd_some h with ⟨d, m1, h0, e1⟩ | ⟨x, m1, h0, e1⟩
    rotate_left
    · cases e1
      exact A.1.err gx hT s re h0 er
    refine A.1.val gx hT s re h0 fun v G1 H1 s1 g1 r1 => ?_
    cases d with
    | tuple xs =>
      have r0 := r1
      obtain ⟨l, ws, rfl, hk, rl⟩ := r1.tup s1
      refine ⟨⟨l, ws, rfl, hk⟩, ?_⟩
      refine (sa_of AB).use gx hT s1 (re.mono g1) e1 er fun ds m2 us G2 H2 e2 s2 g2 r2 => ?_
      obtain ⟨y, hy, ey⟩ := opt_some e2
      cases ey
      obtain ⟨l', ws', el, hk', rl'⟩ := (Rp.mono g2 _ _ r0).tup s2
      cases el
      match ds, us, r2, hy with
      | [.bool true], [u], r2, hy =>
        simp only [mthD, Option.map_eq_some_iff] at hy
        obtain ⟨bs, h1, rfl⟩ := hy
        have e := rl'.bools h1
        subst e
        obtain ⟨ru, _⟩ := r2
        cases ru
        exact ⟨l, bs, rfl, rfl, hk'.sq, q _ rfl _ G2 H2 s2 (g1.trans g2) rfl⟩
      | [.bool false], _, _, hy | [.none], _, _, hy | [.int _], _, _, hy | [.str _], _, _, hy | [.list _], _, _, hy | [.tuple _], _, _, hy | [.dict _], _, _, hy | [], _, _, hy | _ :: _ :: _, _, _, hy => simp [mthD] at hy
    | list xs => exact (nL h0).elim
    | _ => cases e1

/-! ### what is walked -/
def SIt (c : Ct) (sc : Scope) (it : It) (t : Tg) (tg' it' : Expr) : Prop := ∀ X Ek, GX c sc X Ek → ∀ n ad Fx G H m env σ r m' (R : L2.It → Hp → Prop), n.T = c.T → SI n ad Fx G H m → RE ad G env σ → itv it env m = some (r, m') →
  (∀ ds, r = .ok ds → ∀ J G' H', SI n ad Fx G' H' m' → Same G G' → WkD c.K t J ds G' → R J H') → ErrP c n ad Fx Ek m' r → WI X tg' it' σ H R
theorem seq_si {ir : E} {e tg : Expr} {t : Tg} (A : Snd c sc ir e) : SIt c sc (.seq ir) t tg e := by
  intro X Ek gx n ad Fx G H m env σ r m' R hT s re h q er
  simp only [itv] at h
  rcases bnd_some h with ⟨d, m1, h1, h2⟩ | ⟨x, m1, h1, h2⟩
  · obtain ⟨ds, hd, ed⟩ := opt_some h2
    cases ed
    cases d with
    | list xs =>
      cases hd
      refine toWI (pi_list (pWE (e := e))) (A.1.val gx hT s re h1 fun v G1 H1 s1 g1 r1 => ?_)
      obtain ⟨a, ws, rfl, ha, ra⟩ := r1
      rw [gx.eK]
      exact ⟨a, rfl, ⟨ws, SqL.of (s1.sub a _ ha)⟩, q _ rfl _ G1 H1 s1 g1 (wk_list ha ra)⟩
    | tuple xs =>
      cases hd
      refine toWI (pi_tup (pWE (e := e))) (A.1.val gx hT s re h1 fun v G1 H1 s1 g1 r1 => ?_)
      obtain ⟨a, ws, rfl, ⟨o, od, ho⟩, ra⟩ := r1
      rw [gx.eK]
      exact ⟨a, rfl, ⟨ws, .inl (.inr ⟨o, s1.sub a _ ho⟩)⟩, q _ rfl _ G1 H1 s1 g1 (wk_tup ⟨o, od, ho⟩ ra)⟩
    | _ => cases hd
  · cases h2
    exact toWI (pi_list (pWE (e := e))) (A.1.err gx hT s re h1 er)
theorem chr_si {ir : E} {e tg : Expr} {t : Tg} (A : Snd c sc ir e) : SIt c sc (.chr ir) t tg e := by
  intro X Ek gx n ad Fx G H m env σ r m' R hT s re h q er
  simp only [itv] at h
  refine toWI (pi_str (pWE (e := e))) ?_
  rcases bnd_some h with ⟨d, m1, h1, h2⟩ | ⟨x, m1, h1, h2⟩
  · refine A.1.val gx hT s re h1 fun v G1 H1 s1 g1 r1 => ?_
    cases d with
    | str z =>
      cases h2
      cases r1
      exact ⟨z, rfl, q _ rfl _ G1 H1 s1 g1 wk_str⟩
    | _ => cases h2
  · cases h2
    exact A.1.err gx hT s re h1 er
theorem RpA.strs {G : Hp} : ∀ {ws : List V} {xs : List D} {ys : List Str}, RpA G ws xs → strsD xs = some ys → ws = ys.map V.str
  | [], [], _, _, h => by cases h; rfl
  | w :: ws, .str i :: xs, ys, ⟨r1, r2⟩, h => by
    obtain ⟨zs, h1, h2⟩ := Option.map_eq_some_iff.mp h
    subst h2
    cases r1
    rw [RpA.strs r2 h1]
    rfl
  | _ :: _, .none :: _, _, _, h | _ :: _, .bool _ :: _, _, _, h | _ :: _, .int _ :: _, _, _, h | _ :: _, .list _ :: _, _, _, h | _ :: _, .tuple _ :: _, _, _, h | _ :: _, .dict _ :: _, _, _, h => by cases h
  | [], _ :: _, _, r, _ => r.elim
  | _ :: _, [], _, r, _ => r.elim
theorem rpa_strs (G : Hp) : ∀ ys : List Str, RpA G (ys.map V.str) (ys.map .str)
  | [] => trivial
  | _ :: ys => ⟨rfl, rpa_strs G ys⟩
theorem smth_se {k : Smt} {ir jr : E} {a b : Expr} {nm : Str} {ap cp : Pos} (en : nm = smtN k) (hl : (ap.endLine == cp.line) = true) (hc : notCall0 a = true) (A : Snd c sc ir a) (B : Snd c sc jr b) : SE c sc (.smth k ir jr) (.Call (.Attribute a nm ap) [b] [] cp) := by
  subst en
  intro X Ek gx n ad Fx G H m env σ r m' Q hT s re h q er
  have st := plain_star (es := []) (env := X.env) B.2.2
  simp only [ev] at h
  -- the receiver, then the argument
  have go : ∀ {R : V → List V → Hp → VK → Prop}, (∀ (z : Str) (e g : D) (u : V) m1 G1 H1, smtD k z e = some g → SI n ad Fx G1 H1 m1 → Rp G1 u e → Fin n ad Fx G1 m1 g Q → R (.str z) [u] H1 Q) → tM1 R (WE X a) (WE X b) σ H Q := fun {R} hR => by
    rcases bnd_some h with ⟨d, m1, h1, h2⟩ | ⟨x, m1, h1, h2⟩
    · refine A.1.val gx hT s re h1 fun v G1 H1 s1 g1 r1 => ?_
      cases d with
      | str z =>
        cases r1
        refine ⟨⟨z, rfl⟩, ?_⟩
        rcases bnd_some h2 with ⟨e, m2, h3, h4⟩ | ⟨x, m2, h3, h4⟩
        · refine B.1.val gx hT s1 (re.mono g1) h3 fun u G2 H2 s2 g2 r2 => ?_
          obtain ⟨y, hy, ey⟩ := opt_some h4
          cases ey
          exact hR z e y u _ G2 H2 hy s2 r2 fun v G3 H3 s3 g3 => q y rfl v G3 H3 s3 ((g1.trans g2).trans g3)
        · cases h4
          exact B.1.err gx hT s1 (re.mono g1) h3 er
      | _ => cases h2
    · cases h2
      exact A.1.err gx hT s re h1 er
  cases k with
  | join =>
    refine toWE (pe_m1 PySem.F.slot_str_join PySem.F.type_str_join mt_join (pWE (e := a)) (pWE (e := b)) st (notCall_base hc) hl) (go fun z e g u m1 G1 H1 hg s1 ru fin => ?_)
    cases e with
    | list xs =>
      simp only [smtD, Option.bind_eq_some_iff, Option.ite_none_right_eq_some, Option.some.injEq] at hg
      obtain ⟨ys, h1, h2, rfl⟩ := hg
      obtain ⟨p, ws, rfl, hp, rw'⟩ := ru.lst s1
      have e := rw'.strs h1
      subst e
      exact ⟨z, p, ys, rfl, rfl, .inl (SqL.of hp), Nat.le_trans h2 (by decide), fin.val s1 rfl⟩
    | _ => simp [smtD] at hg
  | split =>
    refine toWE (pe_m1 PySem.F.slot_str_split PySem.F.type_str_split mt_split (pWE (e := a)) (pWE (e := b)) st (notCall_base hc) hl) (go fun z e g u m1 G1 H1 hg s1 ru fin => ?_)
    cases e with
    | str y =>
      simp only [smtD, Option.ite_none_right_eq_some, Option.some.injEq] at hg
      obtain ⟨⟨h1, h2⟩, rfl⟩ := hg
      cases ru
      refine ⟨z, y, rfl, rfl, h1, ?_, fun p hp => fin.lst s1 hp (rpa_strs _ _)⟩
      have : sizeLine = 16777216 := sizeLine_eq
      have : z.length ≤ 100000 := h2
      omega
    | _ => simp [smtD] at hg
  | index =>
    refine toWE (pe_m1 PySem.F.slot_str_index PySem.F.type_str_index mt_sindex (pWE (e := a)) (pWE (e := b)) st (notCall_base hc) hl) (go fun z e g u m1 G1 H1 hg s1 ru fin => ?_)
    cases e with
    | str y =>
      simp only [smtD, Option.map_eq_some_iff] at hg
      obtain ⟨k, h1, rfl⟩ := hg
      cases ru
      exact ⟨z, y, k, rfl, rfl, h1, fin.val s1 rfl⟩
    | _ => simp [smtD] at hg
theorem lowr_se {ir : E} {a : Expr} {ap cp : Pos} (hl : (ap.endLine == cp.line) = true) (hc : notCall0 a = true) (A : Snd c sc ir a) : SE c sc (.lowr ir) (.Call (.Attribute a "lower" ap) [] [] cp) := by
  intro X Ek gx n ad Fx G H m env σ r m' Q hT s re h q er
  simp only [ev] at h
  refine toWE (pe_lower (pWE (e := a)) (notCall_base hc) hl) ?_
  rcases bnd_some h with ⟨d, m1, h1, h2⟩ | ⟨x, m1, h1, h2⟩
  · refine A.1.val gx hT s re h1 fun v G1 H1 s1 g1 r1 => ?_
    cases d with
    | str z =>
      cases r1
      simp only [Option.ite_none_right_eq_some, Option.some.injEq, Prod.mk.injEq] at h2
      obtain ⟨h3, h4, rfl⟩ := h2
      refine ⟨⟨z, rfl⟩, z, rfl, rfl, Nat.le_trans h3 (by decide), q _ h4.symm _ G1 H1 s1 g1 rfl⟩
    | _ => cases h2
  · cases h2
    exact A.1.err gx hT s re h1 er
theorem rngD_eq (k : Int) : rngD k = (List.range k.toNat).map fun (i : Nat) => .int ((0 : Int) + (i : Int)) := by
  unfold rngD
  exact List.map_congr_left fun i _ => by rw [Int.zero_add]
theorem rng1_si {ir : E} {a tg : Expr} {t : Tg} {x : Str} {p pos : Pos} (ex : x = "range") (hg : gloB sc x = true) (A : Snd c sc ir a) : SIt c sc (.rng1 ir) t tg (.Call (.Name x p) [a] [] pos) := by
  subst ex
  intro X Ek gx n ad Fx G H m env σ r m' R hT s re h q er
  simp only [itv] at h
  refine toWI (pi_range1 (gx.gl hg) (gx.none (by decide +kernel)) (pa_cons (pWE (e := a)) pa_nil (plain_star A.2.2)) (plain_star A.2.2)) ?_
  rcases bnd_some h with ⟨d, m1, h1, h2⟩ | ⟨x, m1, h1, h2⟩
  · refine A.1.val gx hT s re h1 fun v G1 H1 s1 g1 r1 => ?_
    cases d with
    | int k =>
      cases r1
      simp only [Option.ite_none_right_eq_some, Option.some.injEq, Prod.mk.injEq] at h2
      obtain ⟨hk, h2, rfl⟩ := h2
      refine ⟨k, rfl, by omega, by omega, q _ h2.symm _ G1 H1 s1 g1 ?_⟩
      rw [rngD_eq]
      exact wk_rng
    | _ => cases h2
  · cases h2
    exact A.1.err gx hT s re h1 er
theorem rng2_si {ir jr : E} {a b tg : Expr} {t : Tg} {x : Str} {p pos : Pos} (ex : x = "range") (hg : gloB sc x = true) (A : Snd c sc ir a) (B : Snd c sc jr b) : SIt c sc (.rng2 ir jr) t tg (.Call (.Name x p) [a, b] [] pos) := by
  subst ex
  intro X Ek gx n ad Fx G H m env σ r m' R hT s re h q er
  simp only [itv] at h
  have sb : starEach [b] X.env = [(false, eval b X.env)] := plain_star B.2.2
  refine toWI (pi_range2 (gx.gl hg) (gx.none (by decide +kernel)) (pa_cons (pWE (e := a)) (pa_cons (pWE (e := b)) pa_nil (plain_star B.2.2)) (plain_star A.2.2)) (by rw [plain_star A.2.2, sb]) sb) ?_
  rcases bnd_some h with ⟨d, m1, h1, h2⟩ | ⟨x, m1, h1, h2⟩
  · refine A.1.val gx hT s re h1 fun v G1 H1 s1 g1 r1 => ?_
    rcases bnd_some h2 with ⟨e, m2, h3, h4⟩ | ⟨x, m2, h3, h4⟩
    · refine B.1.val gx hT s1 (re.mono g1) h3 fun w G2 H2 s2 g2 r2 => ?_
      cases d with
      | int i =>
        cases e with
        | int j =>
          cases r1; cases r2
          simp only [Option.ite_none_right_eq_some, Option.some.injEq, Prod.mk.injEq] at h4
          obtain ⟨hk, h4, rfl⟩ := h4
          exact ⟨i, j, rfl, ⟨by omega, by omega, by omega, by omega⟩, q _ h4.symm _ G2 H2 s2 (g1.trans g2) wk_rng⟩
        | _ => cases h4
      | _ => cases h4
    · cases h4
      exact B.1.err gx hT s1 (re.mono g1) h3 er
  · cases h2
    exact A.1.err gx hT s re h1 er
theorem enum_si {ir : E} {a : Expr} {t : Tg} {tes : List Expr} {kk : Nat} {tp : Pos} {x : Str} {p pos : Pos} (ht : chkTg c.N sc t (.Tuple tes kk tp) = true ∨ ∃ sc', chkTg c.N sc' t (.Tuple tes kk tp) = true) (ex : x = "enumerate") (hg : gloB sc x = true) (A : Snd c sc ir a) : SIt c sc (.enum ir) t (.Tuple tes kk tp) (.Call (.Name x p) [a] [] pos) := by
  subst ex
  intro X Ek gx n ad Fx G H m env σ r m' R hT s re h q er
  obtain ⟨is, rfl⟩ : ∃ is, t = .tup is := by
    cases t with
    | tup is => exact ⟨is, rfl⟩
    | name i => rcases ht with ht | ⟨_, ht⟩ <;> simp [chkTg] at ht
  simp only [itv] at h
  refine toWI (pi_enumT (gx.gl hg) (gx.none (by decide +kernel)) (pa_cons (pWE (e := a)) pa_nil (plain_star A.2.2)) (plain_star A.2.2)) ?_
  rcases bnd_some h with ⟨d, m1, h1, h2⟩ | ⟨x, m1, h1, h2⟩
  · refine A.1.val gx hT s re h1 fun v G1 H1 s1 g1 r1 => ?_
    obtain ⟨ds, hd, ed⟩ := opt_some h2
    cases ed
    rw [gx.eK]
    cases d with
    | list xs =>
      cases hd
      obtain ⟨a, ws, rfl, ha, ra⟩ := r1
      exact ⟨a, ws, rfl, .inl ⟨SqL.of (s1.sub a _ ha), q _ rfl _ G1 H1 s1 g1 (wk_enumL ha ra)⟩⟩
    | tuple xs =>
      cases hd
      obtain ⟨a, ws, rfl, ⟨o, od, ho⟩, ra⟩ := r1
      exact ⟨a, ws, rfl, .inr ⟨.inl (.inr ⟨o, s1.sub a _ ho⟩), q _ rfl _ G1 H1 s1 g1 (wk_enumT ⟨o, od, ho⟩ ra)⟩⟩
    | _ => cases hd
  · cases h2
    exact A.1.err gx hT s re h1 er
theorem zip_si {ir jr : E} {a b : Expr} {t : Tg} {tes : List Expr} {kk : Nat} {tp : Pos} {x : Str} {p pos : Pos} (ht : chkTg c.N sc t (.Tuple tes kk tp) = true ∨ ∃ sc', chkTg c.N sc' t (.Tuple tes kk tp) = true) (ex : x = "zip") (hg : gloB sc x = true) (A : Snd c sc ir a) (B : Snd c sc jr b) : SIt c sc (.zip ir jr) t (.Tuple tes kk tp) (.Call (.Name x p) [a, b] [] pos) := by
  subst ex
  intro X Ek gx n ad Fx G H m env σ r m' R hT s re h q er
  obtain ⟨is, rfl⟩ : ∃ is, t = .tup is := by
    cases t with
    | tup is => exact ⟨is, rfl⟩
    | name i => rcases ht with ht | ⟨_, ht⟩ <;> simp [chkTg] at ht
  simp only [itv] at h
  have AB : A2 (Snd c sc) [jr] [b] := ⟨B, trivial⟩
  have pa : PA X [a, b] _ := pa_cons (pWE (e := a)) (pa_cons (pWE (e := b)) pa_nil (plain_star B.2.2)) (plain_star A.2.2)
  by_cases hx : ∃ xs ys m1 m2, ev ir env m = some (.ok (.list xs), m1) ∧ ev jr env m1 = some (.ok (.tuple ys), m2)
  · obtain ⟨xs, ys, m1, m2, h1, h3⟩ := hx
    simp only [h1, h3, bnd, Option.some.injEq, Prod.mk.injEq] at h
    obtain ⟨h4, rfl⟩ := h
    refine toWI (pi_zipM (gx.gl hg) (gx.none (by decide +kernel)) pa (plain_star A.2.2) (a2_star AB pos)) (A.1.val gx hT s re h1 fun v G1 H1 s1 g1 r1 => B.1.val gx hT s1 (re.mono g1) h3 fun w G2 H2 s2 g2 r2 => ?_)
    rw [gx.eK]
    obtain ⟨a, ws, rfl, ha, ra⟩ := Rp.mono g2 _ _ r1
    obtain ⟨b, us, rfl, ⟨o, od, hb⟩, rb⟩ := r2
    exact ⟨a, b, ws, us, rfl, SqL.of (s2.sub a _ ha), .inl (.inr ⟨o, s2.sub b _ hb⟩), q _ h4.symm _ G2 H2 s2 (g1.trans g2) (wk_zipM ha ra ⟨o, od, hb⟩ rb)⟩
  refine toWI (RZ.pi_zipA (gx.gl hg) (gx.none (by decide +kernel)) pa (plain_star A.2.2) (a2_star AB pos)) ?_
  rcases bnd_some h with ⟨d, m1, h1, h2⟩ | ⟨x, m1, h1, h2⟩
  · refine A.1.val gx hT s re h1 fun v G1 H1 s1 g1 r1 => ?_
    rcases bnd_some h2 with ⟨e, m2, h3, h4⟩ | ⟨x, m2, h3, h4⟩
    · refine B.1.val gx hT s1 (re.mono g1) h3 fun w G2 H2 s2 g2 r2 => ?_
      have r1' := Rp.mono g2 _ _ r1
      rw [gx.eK]
      cases d with
      | list xs =>
        cases e with
        | list ys =>
          simp only [Option.some.injEq, Prod.mk.injEq] at h4
          obtain ⟨h4, rfl⟩ := h4
          obtain ⟨a, ws, rfl, ha, ra⟩ := r1'
          obtain ⟨b, us, rfl, hb, rb⟩ := r2
          exact ⟨a, b, ws, us, rfl, .inl ⟨SqL.of (s2.sub a _ ha), SqL.of (s2.sub b _ hb), q _ h4.symm _ G2 H2 s2 (g1.trans g2) (wk_zipL ha ra hb rb)⟩⟩
        | tuple ys => exact (hx ⟨xs, ys, m1, m2, h1, h3⟩).elim
        | _ => cases h4
      | tuple xs =>
        cases e with
        | tuple ys =>
          simp only [Option.some.injEq, Prod.mk.injEq] at h4
          obtain ⟨h4, rfl⟩ := h4
          obtain ⟨a, ws, rfl, ⟨o, od, ha⟩, ra⟩ := r1'
          obtain ⟨b, us, rfl, ⟨o', od', hb⟩, rb⟩ := r2
          exact ⟨a, b, ws, us, rfl, .inr ⟨.inl (.inr ⟨o, s2.sub a _ ha⟩), .inl (.inr ⟨o', s2.sub b _ hb⟩), q _ h4.symm _ G2 H2 s2 (g1.trans g2) (wk_zipT ⟨o, od, ha⟩ ra ⟨o', od', hb⟩ rb)⟩⟩
        | _ => cases h4
      | _ => cases h4
    · cases h4
      exact B.1.err gx hT s1 (re.mono g1) h3 er
  · cases h2
    exact A.1.err gx hT s re h1 er
end
end TO

set_option Elab.async false
set_option linter.all false
set_option maxRecDepth 100000
set_option maxHeartbeats 4000000
/-! An object is lent as data while an expression is evaluated. -/
namespace TO
open PySem PySem.Spec L2
theorem thaw_re {ad : List (Option Addr)} {G G' : Hp} {env : En} {σ : L2.St} {j : Nat} {p : Addr} {xs : List D} (re : RE ad G env σ) (hj : ad[j]? = some (some p)) (g : Same G G') (r : Rp G' (.ref p) (.list xs)) : RE (ad.set j none) G' (thawE env j xs) σ := by
  refine ⟨by unfold thawE; rw [List.length_map, re.1], fun i s v a b => ?_⟩
  unfold thawE at a
  rw [List.getElem?_map, Option.map_eq_some_iff] at a
  obtain ⟨s0, h0, h1⟩ := a
  have q := (re.2 i s0 v h0 b).mono g
  cases s0 with
  | none => subst h1; exact trivial
  | some s0 =>
    cases s0 with
    | val d => subst h1; cases v with
      | none => exact q
      | some v => exact q
    | obj k =>
      cases v with
      | none => exact q.elim
      | some v =>
        obtain ⟨p', h2, rfl⟩ := q
        by_cases hk : k = j
        · subst hk
          simp only [if_true] at h1
          subst h1
          rw [hj] at h2
          cases h2
          exact r
        · simp only [if_neg hk] at h1
          subst h1
          exact ⟨p', by rw [List.getElem?_set_ne (Ne.symm hk)]; exact h2, rfl⟩
    | lab C d k =>
      cases v with
      | none => exact q.elim
      | some v =>
        obtain ⟨a0, e0, rfl, h2, h3⟩ := q
        by_cases hk : k = j
        · subst hk
          simp only [if_true] at h1
          subst h1
          rw [hj] at h2
          cases h2
          exact ⟨a0, p, rfl, h3, r⟩
        · simp only [if_neg hk] at h1
          subst h1
          exact ⟨a0, e0, rfl, by rw [List.getElem?_set_ne (Ne.symm hk)]; exact h2, h3⟩
    | labF C d zs => subst h1; cases v with
      | none => exact q
      | some v => exact q

theorem kind_eq {G : Hp} {v : V} {d e : D} (h : Rp G v d) (h' : Rp G v e) : hk [d] = hk [e] := by
  cases d with
  | none => cases h; cases e <;> first | rfl | (cases h'; done) | (obtain ⟨_, _, z, _⟩ := h'; cases z) | exact h'.elim
  | bool b => cases h; cases e <;> first | rfl | (cases h'; done) | (obtain ⟨_, _, z, _⟩ := h'; cases z) | exact h'.elim
  | int b => cases h; cases e <;> first | rfl | (cases h'; done) | (obtain ⟨_, _, z, _⟩ := h'; cases z) | exact h'.elim
  | str b => cases h; cases e <;> first | rfl | (cases h'; done) | (obtain ⟨_, _, z, _⟩ := h'; cases z) | exact h'.elim
  | list ds =>
    obtain ⟨a, xs, rfl, ha, _⟩ := h
    cases e with
    | list es => rfl
    | tuple es =>
      obtain ⟨b, ys, z, ⟨o, _, hb⟩, _⟩ := h'
      cases z
      rw [ha] at hb
      cases hb
    | dict _ => exact h'.elim
    | _ => cases h'
  | tuple ds =>
    obtain ⟨a, xs, rfl, ⟨o, _, ha⟩, _⟩ := h
    cases e with
    | tuple es => rfl
    | list es =>
      obtain ⟨b, ys, z, hb, _⟩ := h'
      cases z
      rw [ha] at hb
      cases hb
    | dict _ => exact h'.elim
    | _ => cases h'
  | dict _ => exact h.elim
theorem hk_cons (d : D) (r : List D) : hk (d :: r) = hk [d] := by cases d <;> rfl
theorem kindA_eq {G : Hp} {vs : List V} {ds es : List D} (h : RpA G vs ds) (h' : RpA G vs es) : hk ds = hk es := by
  cases vs with
  | nil =>
    cases ds with
    | nil => cases es with
      | nil => rfl
      | cons _ _ => exact h'.elim
    | cons _ _ => exact h.elim
  | cons v vs =>
    cases ds with
    | nil => exact h.elim
    | cons d ds =>
      cases es with
      | nil => exact h'.elim
      | cons e es => rw [hk_cons d, hk_cons e]; exact kind_eq h.1 h'.1
def less (G : Hp) (p : Addr) : Hp := fun b => if b = p then none else G b
theorem less_ne {G : Hp} {p b : Addr} (h : b ≠ p) : less G p b = G b := if_neg h
theorem less_at {G : Hp} {p : Addr} : less G p p = none := if_pos rfl
mutual
theorem Rp.less {G : Hp} {p : Addr} {ws : List V} {xs : List D} (hp : G p = some (.lst ws)) (rx : RpA G ws xs) : ∀ (d : D) (v : V), Rp G v d → noS (hk xs) d = true → Rp (less G p) v d
  | .none, _, h, _ => h
  | .bool _, _, h, _ => h
  | .int _, _, h, _ => h
  | .str _, _, h, _ => h
  | .list ds, _, ⟨a, us, h1, h2, h3⟩, k => by
    simp only [noS, Bool.and_eq_true, decide_eq_true_eq] at k
    have hne : a ≠ p := fun z => by
      subst z
      rw [hp] at h2
      cases h2
      exact k.1 (kindA_eq h3 rx)
    exact ⟨a, us, h1, by rw [less_ne hne]; exact h2, RpA.less hp rx ds us h3 k.2⟩
  | .tuple ds, _, ⟨a, us, h1, ⟨o, h0, h2⟩, h3⟩, k => by
    simp only [noS] at k
    have hne : a ≠ p := fun z => by
      subst z
      rw [hp] at h2
      cases h2
    exact ⟨a, us, h1, ⟨o, h0, by rw [less_ne hne]; exact h2⟩, RpA.less hp rx ds us h3 k⟩
  | .dict _, _, h, _ => h
theorem RpA.less {G : Hp} {p : Addr} {ws : List V} {xs : List D} (hp : G p = some (.lst ws)) (rx : RpA G ws xs) : ∀ (ds : List D) (vs : List V), RpA G vs ds → noSA (hk xs) ds = true → RpA (less G p) vs ds
  | [], [], h, _ => h
  | d :: ds, v :: vs, ⟨h1, h2⟩, k => by
    simp only [noSA, Bool.and_eq_true] at k
    exact ⟨Rp.less hp rx d v h1 k.1, RpA.less hp rx ds vs h2 k.2⟩
  | [], _ :: _, h, _ => h
  | _ :: _, [], h, _ => h
end
theorem lend_re {ad : List (Option Addr)} {G G' : Hp} {env : En} {σ : L2.St} {j : Nat} {p : Addr} {xs : List D} (re : RE ad G env σ) (hj : ad[j]? = some (some p)) (g : Same G G') (r : Rp G' (.ref p) (.list xs)) : RE [none] G' (lendE env j xs) σ := by
  refine ⟨by unfold lendE; rw [List.length_map, re.1], fun i s v a b => ?_⟩
  unfold lendE at a
  rw [List.getElem?_map, Option.map_eq_some_iff] at a
  obtain ⟨s0, h0, h1⟩ := a
  have q := (re.2 i s0 v h0 b).mono g
  cases s0 with
  | none => subst h1; exact trivial
  | some s0 =>
    cases s0 with
    | val d => subst h1; cases v with
      | none => exact q
      | some v => exact q
    | obj k =>
      cases v with
      | none => exact q.elim
      | some v =>
        obtain ⟨p', h2, rfl⟩ := q
        by_cases hk : k = j
        · subst hk
          simp only [if_true] at h1
          subst h1
          rw [hj] at h2
          cases h2
          exact r
        · simp only [if_neg hk] at h1
          subst h1
          exact trivial
    | lab C d k =>
      cases v with
      | none => exact q.elim
      | some v =>
        obtain ⟨a0, e0, rfl, h2, h3⟩ := q
        by_cases hk : k = j
        · subst hk
          simp only [if_true] at h1
          subst h1
          rw [hj] at h2
          cases h2
          exact ⟨a0, p, rfl, h3, r⟩
        · simp only [if_neg hk] at h1
          subst h1
          exact trivial
    | labF C d zs => subst h1; cases v with
      | none => exact q
      | some v => exact q
theorem SI.unfixObj {n : Ent} {ad : List (Option Addr)} {Fx : Addr → Option (List V)} {G H : Hp} {m : Mu} {p : Addr} {vs : List V} {ds : List D} (s : SI n ad (fxP Fx p vs) G H m) (r : RpA G vs ds) (h0 : n.H0 p = none) (hF : Fx p = none) : SI n (ad ++ [some p]) Fx G H (m ++ [some ds]) := by
  obtain ⟨hp, gp, np⟩ := s.fx p vs (by unfold fxP; rw [if_pos rfl])
  have at_ : ∀ (i : Nat) q, (ad ++ [some p])[i]? = some (some q) → (i < ad.length ∧ ad[i]? = some (some q)) ∨ (i = ad.length ∧ q = p) := fun i q e => by
    by_cases hi : i < ad.length
    · rw [List.getElem?_append_left hi] at e; exact .inl ⟨hi, e⟩
    · rw [List.getElem?_append_right (Nat.le_of_not_lt hi)] at e
      have : i - ad.length < 1 := (List.getElem?_eq_some_iff.mp e).1
      have hi' : i = ad.length := by omega
      subst hi'
      rw [Nat.sub_self] at e
      cases e
      exact .inr ⟨rfl, rfl⟩
  have old : ∀ (i : Nat) q, ad[i]? = some (some q) → q ≠ p := fun i q e z => np (by rw [← z]; exact List.mem_of_getElem? e)
  refine ⟨s.sub, s.up, s.bs, s.new, MuOk.snoc r hp s.mu, fun q hq => ?_, fun i j q e1 e2 => ?_, fun q hq => ?_, fun i q hi e => ?_, by rw [List.getElem?_append_left (List.getElem?_eq_some_iff.mp s.hd).1]; exact s.hd, fun q o e => ?_, s.ext, s.live, s.tabs, s.flat⟩
  · rcases List.mem_append.mp hq with h | h
    · exact s.adg q h
    · rw [List.mem_singleton] at h; cases h; exact gp
  · rcases at_ i q e1 with ⟨h1, h2⟩ | ⟨h1, h2⟩ <;> rcases at_ j q e2 with ⟨h3, h4⟩ | ⟨h3, h4⟩
    · exact s.nd i j q h2 h4
    · exact absurd h4 (old i q h2)
    · exact absurd h2 (old j q h4)
    · rw [h1, h3]
  · rcases List.mem_append.mp hq with h | h
    · exact s.adm q h
    · rw [List.mem_singleton] at h; cases h; exact .inr h0
  · rcases at_ i q e with ⟨h1, h2⟩ | ⟨h1, h2⟩
    · exact s.adl i q hi h2
    · rw [h2]; exact h0
  · have hq : q ≠ p := fun z => by subst z; rw [hF] at e; cases e
    obtain ⟨h1, h2, h3⟩ := s.fx q o (by unfold fxP; rw [if_neg hq]; exact e)
    refine ⟨h1, h2, fun h => ?_⟩
    rcases List.mem_append.mp h with h | h
    · exact h3 h
    · rw [List.mem_singleton] at h; cases h; exact hq rfl
theorem SI.to {n : Ent} {ad : List (Option Addr)} {Fx : Addr → Option (List V)} {G H : Hp} {m : Mu} (s : SI n ad Fx G H m) : Stp n.T n.Md n.G0 n.H0 G H := ⟨s.up, s.sub, s.new, s.ext, s.live, s.tabs, s.flat⟩
section
variable {c : Ct} {sc : Scope} {n : Ent} {ad : List (Option Addr)} {Fx : Addr → Option (List V)} {G H : Hp} {m : Mu}
/-- a state as at a def's entry -/
theorem si_start {T : List (Addr × Str)} (hs : Same G H) (ht : LamX.Tabs T H) (hf : ∀ b o, G b = some o → IsDat o) : SI ⟨T, G, H, fun _ => False, none, fun _ => none⟩ [none] (fun _ => none) G H [none] where
  sub := hs
  up := Same.refl G
  bs := fun b o e => by cases e
  new := fun b o e => .inl e
  mu := trivial
  adg := fun p hp => by simp at hp
  nd := fun i j p e1 e2 => by
    have h1 : i < 1 := (List.getElem?_eq_some_iff.mp e1).1
    have h2 : i = 0 := by omega
    subst h2
    cases e1
  adm := fun p hp => by simp at hp
  adl := fun j p hj e => by
    have h1 : j < 1 := (List.getElem?_eq_some_iff.mp e).1
    omega
  hd := rfl
  fx := fun p o e => by cases e
  ext := fun b o _ e => .inl e
  live := fun b e => e
  tabs := ht
  flat := hf
/-- a step with p lent -/
theorem Stp.back {T : List (Addr × Str)} {G H G' H' : Hp} {p : Addr} {vs : List V} (gp : G p = none) (t : Stp T (fun _ => False) (upd G p (.lst vs)) H G' H') : Stp T (fun _ => False) G H (less G' p) H' ∧ G' p = some (.lst vs) := by
  have hG := same_upd (o := .lst vs) gp
  refine ⟨⟨fun b o e => ?_, fun b o e => ?_, fun b o e => ?_, t.ext, t.live, t.tabs, fun b o e => ?_⟩, t.up p _ upd_same⟩
  · have hne : b ≠ p := fun z => by subst z; rw [gp] at e; cases e
    rw [less_ne hne]
    exact t.up b o (hG b o e)
  · by_cases hb : b = p
    · subst hb; rw [less_at] at e; cases e
    · rw [less_ne hb] at e; exact t.sub b o e
  · by_cases hb : b = p
    · subst hb; rw [less_at] at e; cases e
    · rw [less_ne hb] at e
      rcases t.new b o e with h | h
      · rw [upd_ne hb] at h; exact .inl h
      · exact .inr h
  · by_cases hb : b = p
    · subst hb; rw [less_at] at e; cases e
    · rw [less_ne hb] at e; exact t.flat b o e
theorem lend_step {i : Nat} {ir : E} {env : En} {r : Except Str D} {m' : Mu} (h : ev (.lend i ir) env m = some (r, m')) : ∃ j xs m1, m[j]? = some (some xs) ∧ ev ir (lendE env j xs) [none] = some (r, m1) ∧ m' = m ∧ ∀ d, r = .ok d → noS (hk xs) d = true := by
  simp only [ev] at h
  split at h
  · rename_i j he
    split at h
    · rename_i xs hm
      cases hr : ev ir (lendE env j xs) [none] with
      | none => rw [hr] at h; cases h
      | some z =>
        obtain ⟨z, m1⟩ := z
        rw [hr] at h
        cases z with
        | ok d =>
          simp only [lendR] at h
          split at h
          · rename_i hc
            cases h
            exact ⟨j, xs, m1, hm, hr, rfl, fun d' e => by cases e; exact hc⟩
          · cases h
        | error x =>
          cases h
          exact ⟨j, xs, m1, hm, hr, rfl, fun d' e => by cases e⟩
    · cases h
  · cases h
theorem tst_inv {o : Rr D} {r : Except Str Bool} {m' : Mu} (h : tstD o = some (r, m')) : (∃ b, o = some (.ok (.bool b), m') ∧ r = .ok b) ∨ ∃ x, o = some (.error x, m') ∧ r = .error x := by
  unfold tstD at h
  rcases bnd_some h with ⟨d, m1, h1, h2⟩ | ⟨x, m1, h1, h2⟩
  · cases d with
    | bool b => cases h2; exact .inl ⟨b, h1, rfl⟩
    | _ => cases h2
  · cases h2
    exact .inr ⟨x, h1, rfl⟩
theorem lend_snd {i : Nat} {ir : E} {e : Expr} (A : Snd c sc ir e) : Snd c sc (.lend i ir) e := by
  refine ⟨fun X Ek gx n ad Fx G H m env σ r m' Q hT s re h q er => ?_, fun tk X Ek gx n ad Fx G H m env σ r m' Q hT s re h q er => ?_, A.2.2⟩
  · obtain ⟨j, xs, m1, hm, hev, rfl, hd⟩ := lend_step h
    obtain ⟨p, vs, hp, hH, rp⟩ := s.mu.get hm
    have gp := s.adg p (List.mem_of_getElem? hp)
    have g1 := same_upd (o := .lst vs) gp
    have sub1 : Same (upd G p (.lst vs)) H := fun b o e => by
      by_cases hb : b = p
      · subst hb; rw [upd_same] at e; cases e; exact hH
      · rw [upd_ne hb] at e; exact s.sub b o e
    have fl1 : ∀ b o, upd G p (.lst vs) b = some o → IsDat o := fun b o e => by
      by_cases hb : b = p
      · subst hb; rw [upd_same] at e; cases e; exact trivial
      · rw [upd_ne hb] at e; exact s.flat b o e
    have s1 := si_start (T := c.T) sub1 (by rw [← hT]; exact s.tabs) fl1
    refine A.1 X Ek gx _ _ _ _ H _ _ σ r m1 Q rfl s1 (lend_re re hp g1 ⟨p, vs, rfl, upd_same, RpA.mono g1 _ _ rp⟩) hev (fun d ed v G2 H2 s2 g2 r2 => ?_) (fun x ex C hC G2 H2 s2 => ?_)
    · obtain ⟨t, hgp⟩ := Stp.back gp s2.to
      exact q d ed v _ H2 (s.stp hT t) t.up (Rp.less hgp (RpA.mono (g1.trans g2) _ _ rp) d v r2 (hd d ed))
    · obtain ⟨t, hgp⟩ := Stp.back gp s2.to
      exact er x ex C hC _ H2 (s.stp hT t)
  · have key : ∃ r0 : Except Str D, ev (.lend i ir) env m = some (r0, m') ∧ ∀ m1, tstD (some (r0, m1)) = some (r, m1) := by
      rcases tst_inv h with ⟨b, h1, rfl⟩ | ⟨x, h1, rfl⟩
      · exact ⟨_, h1, fun _ => rfl⟩
      · exact ⟨_, h1, fun _ => rfl⟩
    obtain ⟨r0, h0, ht⟩ := key
    obtain ⟨j, xs, m1, hm, hev, rfl, hd⟩ := lend_step h0
    obtain ⟨p, vs, hp, hH, rp⟩ := s.mu.get hm
    have gp := s.adg p (List.mem_of_getElem? hp)
    have g1 := same_upd (o := .lst vs) gp
    have sub1 : Same (upd G p (.lst vs)) H := fun b o e => by
      by_cases hb : b = p
      · subst hb; rw [upd_same] at e; cases e; exact hH
      · rw [upd_ne hb] at e; exact s.sub b o e
    have fl1 : ∀ b o, upd G p (.lst vs) b = some o → IsDat o := fun b o e => by
      by_cases hb : b = p
      · subst hb; rw [upd_same] at e; cases e; exact trivial
      · rw [upd_ne hb] at e; exact s.flat b o e
    have s1 := si_start (T := c.T) sub1 (by rw [← hT]; exact s.tabs) fl1
    refine A.2.1 (by simpa only [tokB] using tk) X Ek gx _ _ _ _ H _ _ σ r m1 Q rfl s1 (lend_re re hp g1 ⟨p, vs, rfl, upd_same, RpA.mono g1 _ _ rp⟩) (by rw [hev]; exact ht m1) (fun b ed G2 H2 s2 g2 => ?_) (fun x ex C hC G2 H2 s2 => ?_)
    · obtain ⟨t, hgp⟩ := Stp.back gp s2.to
      exact q b ed _ H2 (s.stp hT t) t.up
    · obtain ⟨t, hgp⟩ := Stp.back gp s2.to
      exact er x ex C hC _ H2 (s.stp hT t)
end
end TO

set_option Elab.async false
set_option linter.all false
set_option maxRecDepth 100000
set_option maxHeartbeats 4000000
/-! Labs. -/
namespace TO
open PySem PySem.Spec L2
theorem labFs_n (vn : V) (e : Addr) : (labFs vn e).lookup ("n" : Str) = some vn := rfl
theorem labFs_e (vn : V) (e : Addr) : (labFs vn e).lookup ("entries" : Str) = some (.ref e) := rfl
theorem labFs_no (vn : V) (e : Addr) {m : Str} (h1 : m ≠ ("n" : Str)) (h2 : m ≠ ("entries" : Str)) : (labFs vn e).lookup m = none := by
  unfold labFs
  rw [List.lookup_cons, beq_false_of_ne h1, List.lookup_cons, beq_false_of_ne h2]
  rfl
section
variable {c : Ct} {sc : Scope} {n : Ent} {ad : List (Option Addr)} {Fx : Addr → Option (List V)} {G H G' H' : Hp} {m : Mu}
/-- a step that may change things that are not looked at -/
theorem SI.stpX {T : List (Addr × Str)} {Md : Addr → Prop} (hT : n.T = T) (s : SI n ad Fx G H m) (t : Stp T Md G H G' H') (hmd : ∀ b, Md b → some b ∉ ad ∧ Fx b = none ∧ n.H0 b = none) : SI n ad Fx G' H' m := by
  have keep : ∀ b o, ¬ Md b → H b = some o → (∀ ps, o ≠ .tbl ps) → H' b = some o := fun b o hb e q => by
    rcases t.ext b o hb e with h | ⟨ps, qs, h1, _⟩
    · exact h
    · exact absurd h1 (q ps)
  have adk : ∀ p o, some p ∈ ad → H p = some o → H' p = some o := fun p o hp e => by
    obtain ⟨vs, hv⟩ := s.adh hp
    refine keep p o (fun z => (hmd p z).1 hp) e fun ps z => ?_
    rw [hv] at e; cases e; cases z
  refine ⟨t.sub, s.up.trans t.up, s.bs.trans t.up, fun b o e => ?_, s.mu.mono t.up adk, fun p hp => ?_, s.nd, s.adm, s.adl, s.hd, fun p o e => ?_, fun b o hb e => ?_, fun b e => s.live b (t.live b e), by rw [hT]; exact t.tabs, t.flat⟩
  · rcases t.new b o e with h | h
    · exact s.new b o h
    · exact .inr (s.live b h)
  · obtain ⟨vs, hv⟩ := s.adh hp
    cases q : G' p with
    | none => rfl
    | some o =>
      rcases t.new p o q with h | h
      · rw [s.adg p hp] at h; cases h
      · rw [hv] at h; cases h
  · obtain ⟨h1, h2, h3⟩ := s.fx p o e
    have hn : G' p = none := by
      cases q : G' p with
      | none => rfl
      | some o' =>
        rcases t.new p o' q with h | h
        · rw [h2] at h; cases h
        · rw [h1] at h; cases h
    exact ⟨keep p _ (fun z => by have := (hmd p z).2.1; rw [e] at this; cases this) h1 (fun ps z => by cases z), hn, h3⟩
  · have nb : ¬ Md b := fun z => by have := (hmd b z).2.2; rw [e] at this; cases this
    rcases s.ext b o hb e with h | ⟨ps, qs, h1, h2⟩
    · rcases t.ext b o nb h with h' | ⟨ps, qs, h1, h2⟩
      · exact .inl h'
      · exact .inr ⟨ps, qs, h1, h2⟩
    · rcases t.ext b _ nb h2 with h' | ⟨ps', qs', h1', h2'⟩
      · exact .inr ⟨ps, qs, h1, h'⟩
      · exact .inr ⟨ps, qs', h1, h2'⟩
theorem SI.free (s : SI n ad Fx G H m) {p : Addr} (h : H p = none) : some p ∉ ad ∧ Fx p = none ∧ n.H0 p = none ∧ G p = none := by
  refine ⟨fun z => ?_, ?_, s.live p h, ?_⟩
  · obtain ⟨vs, hv⟩ := s.adh z
    rw [h] at hv; cases hv
  · cases q : Fx p with
    | none => rfl
    | some o =>
      have := (s.fx p o q).1
      rw [h] at this; cases this
  · cases q : G p with
    | none => rfl
    | some o =>
      have := s.sub p o q
      rw [h] at this; cases this
theorem SI.fixed (s : SI n ad Fx G H m) {e : Addr} {vs : List V} (he : H e = some (.lst vs)) (hg : G e = none) (ha : some e ∉ ad) : SI n ad (fxP Fx e vs) G H m := by
  refine ⟨s.sub, s.up, s.bs, s.new, s.mu, s.adg, s.nd, s.adm, s.adl, s.hd, fun p o q => ?_, s.ext, s.live, s.tabs, s.flat⟩
  unfold fxP at q
  by_cases hp : p = e
  · subst hp
    rw [if_pos rfl] at q
    cases q
    exact ⟨he, hg, ha⟩
  · rw [if_neg hp] at q
    exact s.fx p o q
theorem SI.unfx {e : Addr} {vs : List V} (s : SI n ad (fxP Fx e vs) G H m) (hF : Fx e = none) : SI n ad Fx G H m := by
  refine ⟨s.sub, s.up, s.bs, s.new, s.mu, s.adg, s.nd, s.adm, s.adl, s.hd, fun p o q => s.fx p o ?_, s.ext, s.live, s.tabs, s.flat⟩
  unfold fxP
  rw [if_neg (fun z => by subst z; rw [hF] at q; cases q)]
  exact q
/-- a lab has been made -/
theorem SI.born {T : List (Addr × Str)} {C x dx e : Addr} {vn : V} (hT : n.T = T) (s : SI n ad Fx G H m) (hx : H x = none) (hd : H dx = none) (hne : dx ≠ x) (t : Stp T (· = x) G (upd (upd H dx (.own x)) x (.ins C dx [])) G' H')
    (he : upd (upd H dx (.own x)) x (.ins C dx []) e = none) (gx : G' x = none) (ge : G' e = none) (hx' : H' x = some (.ins C dx (labFs vn e))) (he' : H' e = some (.lst [])) :
    SI n ad (fxP Fx e []) (upd G' x (.ins C dx (labFs vn e))) H' m ∧ Same G (upd G' x (.ins C dx (labFs vn e))) ∧ n.H0 e = none ∧ Fx e = none ∧ some e ∉ ad := by
  obtain ⟨f1, f2, f3, f4⟩ := s.free hx
  have hx1 : upd H dx (.own x) x = none := by rw [upd_ne (Ne.symm hne)]; exact hx
  have s1 : SI n ad Fx G (upd (upd H dx (.own x)) x (.ins C dx [])) m := (s.junk hd).junk hx1
  obtain ⟨e1, e2, e3, e4⟩ := s1.free he
  have s2 : SI n ad Fx G' H' m := s1.stpX hT t fun b hb => by
    have hb : b = x := hb
    subst hb
    exact ⟨f1, f2, f3⟩
  obtain ⟨s3, g3⟩ := s2.adopt hx' trivial (fun xs z => by cases z) f3
  have nx : e ≠ x := fun z => by subst z; rw [upd_same] at he; cases he
  exact ⟨s3.fixed he' (by rw [upd_ne nx]; exact ge) e1, t.up.trans g3, e3, e2, e1⟩
end
section
variable {c : Ct} {sc : Scope}
theorem fldN_se {C i : Nat} {x : Str} {q p : Pos} (h1 : slB c.N i x = true) (h2 : visB sc x = true) (h3 : nmB x = true) (ok : ClsOk c C) : SE c sc (.fldN C i) (.Attribute (.Name x q) "n" p) := by
  intro X Ek gx n ad Fx G H m env σ r m' Q hT s re h k er
  refine toWE (pe_fld (pe_var (i := i) (sl_of gx h1) (gx.vis h2) (nm_d h3) (nm_c h3)) rfl) ?_
  rw [gx.eK]
  simp only [ev] at h
  split at h
  · rename_i C' d j he
    split at h
    · rename_i hC
      subst hC
      cases h
      obtain ⟨a, e, hσ, _, l⟩ := re.lab he
      obtain ⟨dx, vn, l1, l2⟩ := l.at_
      exact ⟨.ref a, hσ, a, _, dx, _, vn, rfl, s.sub a _ l1, ok.cl, ok.nN, labFs_n _ _, k d rfl vn G H s (Same.refl G) l2⟩
    · cases h
  · rename_i C' d xs he
    split at h
    · rename_i hC
      subst hC
      cases h
      obtain ⟨a, e, hσ, l, _⟩ := re.labF he
      obtain ⟨dx, vn, l1, l2⟩ := l.at_
      exact ⟨.ref a, hσ, a, _, dx, _, vn, rfl, s.sub a _ l1, ok.cl, ok.nN, labFs_n _ _, k d rfl vn G H s (Same.refl G) l2⟩
    · cases h
  · cases h
theorem fldE_se {C i : Nat} {x : Str} {q p : Pos} (h1 : slB c.N i x = true) (h2 : visB sc x = true) (h3 : nmB x = true) (ok : ClsOk c C) : SE c sc (.fldE C i) (.Attribute (.Name x q) "entries" p) := by
  intro X Ek gx n ad Fx G H m env σ r m' Q hT s re h k er
  refine toWE (pe_fld (pe_var (i := i) (sl_of gx h1) (gx.vis h2) (nm_d h3) (nm_c h3)) rfl) ?_
  rw [gx.eK]
  simp only [ev] at h
  split at h
  · rename_i C' d xs he
    split at h
    · rename_i hC
      subst hC
      cases h
      obtain ⟨a, e, hσ, l, le⟩ := re.labF he
      obtain ⟨dx, vn, l1, l2⟩ := l.at_
      exact ⟨.ref a, hσ, a, _, dx, _, .ref e, rfl, s.sub a _ l1, ok.cl, ok.nE, labFs_e _ _, k _ rfl (.ref e) G H s (Same.refl G) le⟩
    · cases h
  · cases h
theorem lcopy_se {C i : Nat} {x : Str} {q0 q p p2 : Pos} (hg : gloB sc "list" = true) (h1 : slB c.N i x = true) (h2 : visB sc x = true) (h3 : nmB x = true) (ok : ClsOk c C) : SE c sc (.lcopy C i) (.Call (.Name "list" q0) [.Attribute (.Name x q) "entries" p] [] p2) := by
  intro X Ek gx n ad Fx G H m env σ r m' Q hT s re h k er
  refine toWE (pe_callTy call_list_of (gx.gl hg) (gx.none (by decide +kernel)) (by decide +kernel) (pa_cons (pe_fld (pe_var (i := i) (sl_of gx h1) (gx.vis h2) (nm_d h3) (nm_c h3)) rfl) pa_nil rfl)) ?_
  rw [gx.eK]
  simp only [ev] at h
  split at h
  · rename_i C' d j he
    split at h
    · rename_i hC
      subst hC
      split at h
      · rename_i xs hm
        cases h
        obtain ⟨a, e, hσ, had, l⟩ := re.lab he
        obtain ⟨dx, vn, l1, l2⟩ := l.at_
        obtain ⟨e', ws, had', hH, rp⟩ := s.mu.get hm
        rw [had] at had'
        cases had'
        refine ⟨.ref a, hσ, a, _, dx, _, .ref e, rfl, s.sub a _ l1, ok.cl, ok.nE, labFs_e _ _, e, ws, rfl, .inl (SqL.of hH), fun l hl => ?_⟩
        exact (k _ rfl).lst s hl rp
      · cases h
    · cases h
  · cases h
/-- a lab is handed to what keeps its promise -/
theorem spL_go {n : Ent} {ad : List (Option Addr)} {Fx : Addr → Option (List V)} {G H : Hp} {m : Mu} {C a e : Addr} {j : Nat} {d : D} {xs ys ds : List D} {ws : List V} {F : D → List D → List D → Option (Except Str D × List D)} {r : Except Str D} {Q : VK} {Ek : XK} (hT : n.T = c.T) (s : SI n ad Fx G H m) (l : LabAt G C a d e) (hj : ad[j]? = some (some e)) (hm : m[j]? = some (some xs)) (r1 : RpA G ws ds)
    (hF : F d xs ds = some (r, ys)) (q : ∀ d, r = .ok d → Fin n ad Fx G (m.set j (some ys)) d Q) (er : ErrP c n ad Fx Ek (m.set j (some ys)) r) : spL c C F (.ref a :: ws) H Q Ek := by
  obtain ⟨e', us, h1, hH, ru⟩ := s.mu.get hm
  rw [hj] at h1
  cases h1
  refine ⟨G, a, e, ws, us, d, xs, ds, rfl, s.sub, s.flat, by rw [← hT]; exact s.tabs, l, s.adg e (List.mem_of_getElem? hj), hH, ru, r1, ?_⟩
  rw [hF]
  cases r with
  | ok y => exact fun v G2 H2 us2 t2 hg2 hH2 ru2 r2 => q y rfl v G2 H2 (s.stpM hT hj t2 hH2 hg2 ru2) t2.up r2
  | error x => exact fun Cx hC G2 H2 us2 t2 hg2 hH2 ru2 => er x rfl Cx hC G2 H2 (s.stpM hT hj t2 hH2 hg2 ru2)
theorem star_all {env : Env} {es : List E} {vs : List Expr} (A : A2 (Snd c sc) es vs) (pos : Pos) (hl : vs.length < 29) : methodCallForm (vs.length + ([] : List Keyword).length) (backTo pos (starEach vs env)) (backToKw pos (keywordEach [] env)) = true := by
  have h := a2_star (env := env) A pos
  have h1 : (backTo pos (starEach vs env)).all (fun x => !x.1) = true := by
    rw [List.all_eq_true]
    intro x hx
    have := (List.any_eq_false.1 h) x hx
    simpa using this
  unfold methodCallForm
  rw [h1, show (backToKw pos (keywordEach [] env)) = [] from rfl]
  simp
  omega
theorem meth_ev {o : Expr} {name : Str} {apos pos : Pos} {args : List Expr} {env : Env} (hb : attributeBase o name env (eval o env) = eval o env) (hf : methodCallForm (args.length + ([] : List Keyword).length) (backTo pos (starEach args env)) (backToKw pos (keywordEach [] env)) = true) (hl : (apos.endLine == pos.line) = true) :
    eval (.Call (.Attribute o name apos) args [] pos) env = (do
      let ov ← eval o env
      standAt apos.atName
      let (f, first) ← holding [ov] (getMethod ov name (do return (← importBound o env).getD true))
      callWith pos f first (backTo pos (starEach args env)) (backToKw pos (keywordEach [] env))) := by
  rw [arm_eval_Call, hb]
  unfold methodCall calleeOf methodCallPos
  rw [hf, hl]
  rfl
theorem meth_se {C : Nat} {f : Str} {F : D → List D → List D → Option (Except Str D × List D)} {i : Nat} {es : List E} {x : Str} {q p p2 : Pos} {vs : List Expr} (hl : (p.endLine == p2.line) = true) (hv : vs.length < 29) (n1 : f ≠ ("n" : Str)) (n2 : f ≠ ("entries" : Str)) (h1 : slB c.N i x = true) (h2 : visB sc x = true) (h3 : nmB x = true) (ok : ClsOk c C) (mk : MethOk c C f (spL c C F)) (A : A2 (Snd c sc) es vs) :
    SE c sc (.meth C f F i es) (.Call (.Attribute (.Name x q) f p) vs [] p2) := by
  intro X Ek gx n ad Fx G H m env σ r m' Q hT s re h k er
  obtain ⟨fa, fd, ps, kk, hme, hk, hF, hb⟩ := mk
  have F' : FnOk X.prog X.w X.K X.mg X.base (L2N.CX X.prog X.w) kk fa fd ps (spL c C F) := by
    rw [gx.eP, gx.ew, gx.eK, gx.em, gx.eb]; exact hF
  have hx : Passes (L2N.CX X.prog X.w) X Ek := L2N.passes_call gx.tk fun _ _ _ _ z => z
  have cl : Cls X.K C := by rw [gx.eK]; exact ok.cl
  have me : Meth X.K C f fa := by rw [gx.eK]; exact hme
  have hb' : Binds X.K fd ps [] := by rw [gx.eK]; exact hb
  have pv : PE X (.Name x q) (tVar i) := pe_var (i := i) (sl_of gx h1) (gx.vis h2) (nm_d h3) (nm_c h3)
  have mev := meth_ev (o := .Name x q) (name := f) (apos := p) (pos := p2) (args := vs) (env := X.env) rfl (star_all A p2 hv) hl
  simp only [ev] at h
  split at h
  · rename_i C' d j he
    split at h
    · rename_i hC
      subst hC
      obtain ⟨a, e, hσ, had, l⟩ := re.lab he
      obtain ⟨dx, vn, l1, l2⟩ := l.at_
      match vs, A, h, mev with
      | [], A, h, mev =>
        match es, A, h with
        | [], _, h =>
          refine toWE (pe_meth0 pv cl me F' (gx.room.mono hk) hb' .nil hx mev) ?_
          refine ⟨.ref a, hσ, a, dx, _, rfl, s.sub a _ l1, labFs_no _ _ n1 n2, ?_⟩
          show spL c _ F (.ref a :: ([] ++ [])) H Q Ek
          simp only [evs, bnd] at h
          split at h
          · rename_i xs hm
            obtain ⟨⟨r', ys⟩, hy, ey⟩ := Option.map_eq_some_iff.mp h
            cases ey
            exact spL_go (ws := []) (ds := []) hT s l had hm trivial hy k er
          · cases h
        | _ :: _, A, _ => exact A.elim
      | v :: vs, A, h, mev =>
        obtain ⟨pv', is, A'⟩ := a2_plain A
        refine toWE (pe_meth pv cl me F' (gx.room.mono hk) hb' .nil hx pWA (plain_star pv') (a2_star A' p2) mev) ?_
        refine ⟨.ref a, hσ, a, dx, _, rfl, s.sub a _ l1, labFs_no _ _ n1 n2, ?_⟩
        refine (sa_of A).use gx hT s re h er fun ds m1 ws G1 H1 e1 s1 g1 r1 => ?_
        rw [List.append_nil]
        split at e1
        · rename_i xs hm
          obtain ⟨⟨r', ys⟩, hy, ey⟩ := Option.map_eq_some_iff.mp e1
          cases ey
          exact spL_go hT s1 (l.mono g1) had hm r1 hy (fun d ed v G2 H2 s2 g2 => k d ed v G2 H2 s2 (g1.trans g2)) er
        · cases e1
    · cases h
  · cases h
theorem callL_se {C : Nat} {f x y : Str} {F : D → List D → List D → Option (Except Str D × List D)} {i : Nat} {es : List E} {vs : List Expr} {p p2 pos : Pos} (ex : x = f) (hg : gloB sc x = true) (hn : nmB x = true) (hi : slB c.N i y = true) (hv : visB sc y = true) (hn2 : nmB y = true) (ok : CallOk c f (spL c C F)) (A : A2 (Snd c sc) es vs) :
    SE c sc (.callL C f F i es) (.Call (.Name x p) (.Name y p2 :: vs) [] pos) := by
  subst ex
  intro X Ek gx n ad Fx G H m env σ r m' Q hT s re h k er
  obtain ⟨fa, fd, ps, kk, hm, hk, hF, hb, kp⟩ := ok
  have F' : FnOk X.prog X.w X.K X.mg X.base (L2N.CX X.prog X.w) kk fa fd ps (spL c C F) := by
    rw [gx.eP, gx.ew, gx.eK, gx.em, gx.eb]; exact hF
  have hx : Passes (L2N.CX X.prog X.w) X Ek := L2N.passes_call gx.tk fun _ _ _ _ z => z
  refine toWE (pe_call F' (gx.room.mono hk) (gx.gl hg) (by rw [gx.em]; exact hm) (by rw [gx.eK]; exact kp) (by rw [gx.eK]; exact hb) .nil hx (pa_cons (pe_var (i := i) (sl_of gx hi) (gx.vis hv) (nm_d hn2) (nm_c hn2)) (pWA (es := vs)) rfl) (nm_d hn) rfl (a2_star A pos)) ?_
  simp only [ev] at h
  split at h
  · rename_i C' d j he
    split at h
    · rename_i hC
      subst hC
      obtain ⟨a, e, hσ, had, l⟩ := re.lab he
      refine ⟨.ref a, hσ, ?_⟩
      refine (sa_of A).use gx hT s re h er fun ds m1 ws G1 H1 e1 s1 g1 r1 => ?_
      show spL c _ F ((V.ref a :: ws) ++ []) H1 Q Ek
      rw [List.append_nil]
      split at e1
      · rename_i xs hm
        obtain ⟨⟨r', ys⟩, hy, ey⟩ := Option.map_eq_some_iff.mp e1
        cases ey
        exact spL_go hT s1 (l.mono g1) had hm r1 hy (fun d ed v G2 H2 s2 g2 => k d ed v G2 H2 s2 (g1.trans g2)) er
      · cases e1
    · cases h
  · cases h
theorem call_lenI {X : Cx} {k : Nat} {f C : Addr} {fd : FuncData} {ps : List Str} {sp : Sp} {E : XK} {CX : CXT} (me : Meth X.K C "__len__" f) (F : FnOk X.prog X.w X.K X.mg X.base CX k f fd ps sp) (hr : Room (k + 1) X.A) (hb : Binds X.K fd ps []) (hx : Passes CX X E) :
    CallR X (.builtin "len") (fun xs H Q => ∃ a dx fs, xs = [.ref a] ∧ H a = some (.ins C dx fs) ∧ sp [.ref a] H (fun v H2 => ∃ i : Int, v = .int i ∧ 0 ≤ i ∧ i ≤ 100000 ∧ Q (.int i) H2) E) := by
  intro pins s σ H xs us Q I r h
  obtain ⟨a, dx, fs, rfl, ea, q⟩ := h
  obtain ⟨u, rfl, rx⟩ := vals1 r
  obtain rfl : u = Value.ref a := rx
  obtain ⟨mA, O, _, _, _, _⟩ := ins_get I.hok ea
  obtain ⟨od, J, hl⟩ := O.look
  refine Calls.call_function_entry PySem.kind_len PySem.plain_len PySem.entry_len (PySem.args_len1 _) ?_
  unfold Builtin.«len»
  refine wpAny_bind (m := oneArg "len" _) (wpAny_pure ?_)
  refine wpAny_bind (m := callSpecial? (.ref a) (Str.ofString "__len__")) ?_
  unfold callSpecial? specialOf
  refine wpAny_bind (wpAny_bind (J.type.here ((PySem.W.looks_findIn I.kIn me.at_).here ?_)))
  refine wpAny_holding (wpAny_bind ?_)
  unfold bindSpecial
  refine wpAny_bind ((PySem.W.looks_typeIn I.kIn (beq_iff_eq.mp me.fn)).here ?_)
  rw [if_pos (by decide +kernel)]
  refine wpAny_pure (wpAny_bind ?_)
  have r2 : Vals [V.ref a] [Value.ref a] := .cons rfl .nil
  have hl : ([Value.ref a] ++ []).length = ps.length := by
    have e := F.len _ _ _ _ q
    simpa using e
  refine wpAny_call (codeAny_mono (F.run X.A.in1 X.stack s H ⟨[.ref a], []⟩ [.ref a] [.ref a] _ E hr.in1 I.env0.in1 (hb s [.ref a] I.kIn hl) r2 q) fun r s' hq => ?_)
  cases r with
  | error e => exact hx pins σ H s e s' I hq
  | ok fl =>
    cases fl with
    | ret u =>
      obtain ⟨v, H', I', rv, i, ev, h0, h1, q'⟩ := I.after hq
      subst ev
      obtain ⟨t, rfl⟩ := rv
      refine wpAny_pure ?_
      refine wpAny_bind (wpAny_holding (wpAny_pure ?_))
      refine wpAny_bind (wpAny_letGo ?_)
      show wpAny _ _ (if i < 0 then _ else _) _ _ _
      rw [if_neg (by omega)]
      show wpAny _ _ (if i ≥ 2 ^ 63 then _ else _) _ _ _
      rw [if_neg (by omega)]
      exact wpAny_bind (wpAny_mkInt (wpAny_pure ⟨_, rfl, ⟨.int i, H', I'.tok _, ⟨_, rfl⟩, q'⟩⟩))
    | next => exact False.elim hq
    | brk => exact False.elim hq
    | cont => exact False.elim hq
theorem lenL_se {C i : Nat} {F : D → List D → List D → Option (Except Str D × List D)} {y : Str} {q q2 p : Pos} (hg : gloB sc "len" = true) (h1 : slB c.N i y = true) (h2 : visB sc y = true) (h3 : nmB y = true) (mk : MethOk1 c C "__len__" (spL c C F)) :
    SE c sc (.lenL C F i) (.Call (.Name "len" q) [.Name y q2] [] p) := by
  intro X Ek gx n ad Fx G H m env σ r m' Q hT s re h k er
  obtain ⟨fa, fd, ps, kk, hme, hk, hF, hb⟩ := mk
  have F' : FnOk X.prog X.w X.K X.mg X.base (L2N.CX X.prog X.w) kk fa fd ps (spL c C F) := by
    rw [gx.eP, gx.ew, gx.eK, gx.em, gx.eb]; exact hF
  have hx : Passes (L2N.CX X.prog X.w) X Ek := L2N.passes_call gx.tk fun _ _ _ _ z => z
  have me : Meth X.K C "__len__" fa := by rw [gx.eK]; exact hme
  have hb' : Binds X.K fd ps [] := by rw [gx.eK]; exact hb
  refine toWE (pe_callB (call_lenI me F' (gx.room.mono hk) hb' hx) (gx.gl hg) (gx.none (by decide +kernel)) PySem.boot_len (pa_cons (pe_var (i := i) (sl_of gx h1) (gx.vis h2) (nm_d h3) (nm_c h3)) pa_nil rfl)) ?_
  simp only [ev] at h
  split at h
  · rename_i C' d j he
    split at h
    · rename_i hC
      subst hC
      split at h
      · rename_i xs hm
        split at h
        · rename_i z ys hy
          split at h
          · rename_i hz
            cases h
            obtain ⟨a, e, hσ, had, l⟩ := re.lab he
            obtain ⟨dx, vn, l1, l2⟩ := l.at_
            refine ⟨.ref a, hσ, a, dx, _, rfl, s.sub a _ l1, ?_⟩
            exact spL_go (ws := []) (ds := []) hT s l had hm trivial hy (fun d ed v G2 H2 s2 g2 r2 => by
              cases ed
              obtain rfl : v = .int z := r2
              exact ⟨z, rfl, hz.1, hz.2, k _ rfl (.int z) G2 H2 s2 g2 rfl⟩) er
          · cases h
        · cases h
      · cases h
    · cases h
  · cases h
/-- what a new lab's __init__ is handed -/
theorem spI_er {n : Ent} {ad : List (Option Addr)} {Fx : Addr → Option (List V)} {G H : Hp} {m : Mu} {C x dx : Addr} {ds : List D} {ws : List V} {F : List D → Option (Except Str D)} {z : Str} {Q : VK} {Ek : XK} {α : Type} (hT : n.T = c.T) (s : SI n ad Fx G H m) (hx : H x = none) (hd : H dx = none) (hne : dx ≠ x) (r1 : RpA G ws ds)
    (hF : F ds = some (.error z)) (er : ErrP c n ad Fx Ek m (α := α) (.error z)) : spI c C F (.ref x :: ws) (upd (upd H dx (.own x)) x (.ins C dx [])) Q Ek := by
  obtain ⟨f1, f2, f3, f4⟩ := s.free hx
  have hx1 : upd H dx (.own x) x = none := by rw [upd_ne (Ne.symm hne)]; exact hx
  have s1 : SI n ad Fx G (upd (upd H dx (.own x)) x (.ins C dx [])) m := (s.junk hd).junk hx1
  refine ⟨G, x, dx, ws, ds, rfl, s1.sub, s1.flat, by rw [← hT]; exact s1.tabs, f4, upd_same, r1, ?_⟩
  rw [hF]
  exact fun Cx hC G2 H2 t2 g2 => er z rfl Cx hC G2 H2 (s1.stpX hT t2 fun b hb => by
    have hb : b = x := hb
    subst hb
    exact ⟨f1, f2, f3⟩)
theorem spI_ok {n : Ent} {ad : List (Option Addr)} {Fx : Addr → Option (List V)} {G H : Hp} {m : Mu} {C x dx : Addr} {ds : List D} {ws : List V} {F : List D → Option (Except Str D)} {d : D} {Q : VK} {Ek : XK} (hT : n.T = c.T) (s : SI n ad Fx G H m) (hx : H x = none) (hd : H dx = none) (hne : dx ≠ x) (r1 : RpA G ws ds)
    (hF : F ds = some (.ok d)) (q : ∀ vn e G' H', SI n ad (fxP Fx e []) G' H' m → Same G G' → n.H0 e = none → Fx e = none → some e ∉ ad → H' x = some (.ins C dx (labFs vn e)) → LabAt G' C x d e → Q .non H') : spI c C F (.ref x :: ws) (upd (upd H dx (.own x)) x (.ins C dx [])) Q Ek := by
  obtain ⟨f1, f2, f3, f4⟩ := s.free hx
  have hx1 : upd H dx (.own x) x = none := by rw [upd_ne (Ne.symm hne)]; exact hx
  have s1 : SI n ad Fx G (upd (upd H dx (.own x)) x (.ins C dx [])) m := (s.junk hd).junk hx1
  refine ⟨G, x, dx, ws, ds, rfl, s1.sub, s1.flat, by rw [← hT]; exact s1.tabs, f4, upd_same, r1, ?_⟩
  rw [hF]
  intro vn e G2 H2 t2 g2 he ge h2 h3 rn
  obtain ⟨b1, b2, b3, b4, b5⟩ := s.born hT hx hd hne t2 he g2 ge h2 h3
  have g3 : Same G2 (upd G2 x (.ins C dx (labFs vn e))) := same_upd g2
  exact q vn e _ H2 b1 b2 b3 b4 b5 h2 ⟨dx, vn, upd_same, Rp.mono g3 _ _ rn⟩
theorem mkE_se {C : Nat} {F : List D → Option (Except Str D)} {es : List E} {v : Expr} {vs : List Expr} {q p : Pos} (hg : gloB sc "Lab" = true) (ok : NewOk c C (spI c C F)) (A : A2 (Snd c sc) es (v :: vs)) : SE c sc (.mkE C F es) (.Call (.Name "Lab" q) (v :: vs) [] p) := by
  intro X Ek gx n ad Fx G H m env σ r m' Q hT s re h k er
  obtain ⟨fa, fd, ps, kk, hm, hM, hk, hF, hb⟩ := ok
  have F' : FnOk X.prog X.w X.K X.mg X.base (L2N.CX X.prog X.w) kk fa fd ps (spI c C F) := by
    rw [gx.eP, gx.ew, gx.eK, gx.em, gx.eb]; exact hF
  have hx : Passes (L2N.CX X.prog X.w) X Ek := L2N.passes_call gx.tk fun _ _ _ _ z => z
  obtain ⟨pv', is, A'⟩ := a2_plain A
  refine toWE (pe_make (by rw [gx.eK]; exact hM) F' (gx.room.mono hk) (gx.gl hg) (by rw [gx.em]; exact hm) (by rw [gx.eK]; exact hb) .nil hx pWA (by decide) (plain_star pv') (a2_star A' p)) ?_
  simp only [ev] at h
  refine (sa_of A).use gx hT s re h er fun ds m1 ws G1 H1 e1 s1 g1 r1 => ?_
  intro x dx hx hd hne
  rw [List.append_nil]
  split at e1
  · rename_i z hz
    cases e1
    exact spI_er hT s1 hx hd hne r1 hz er
  · cases e1
theorem mkM_se {C : Nat} {F : List D → Option (Except Str D)} {es es1 : List E} {f : Str} {F1 : D → List D → List D → Option (Except Str D × List D)} {v : Expr} {vs us : List Expr} {q p p1 p2 : Pos} (hl : (p1.endLine == p2.line) = true) (hv : us.length < 29) (hg : gloB sc "Lab" = true) (n1 : f ≠ ("n" : Str)) (n2 : f ≠ ("entries" : Str)) (cl : ClsOk c C) (ok : NewOk c C (spI c C F)) (mk : MethOk c C f (spL c C F1)) (A : A2 (Snd c sc) es (v :: vs)) (B : A2 (Snd c sc) es1 us) :
    SE c sc (.mkM C F es f F1 es1) (.Call (.Attribute (.Call (.Name "Lab" q) (v :: vs) [] p) f p1) us [] p2) := by
  intro X Ek gx n ad Fx G H m env σ r m' Q hT s re h k er
  obtain ⟨fa, fd, ps, kk, hm, hM, hk, hF, hb⟩ := ok
  obtain ⟨fa1, fd1, ps1, kk1, hme, hk1, hF1, hb1⟩ := mk
  have F' : FnOk X.prog X.w X.K X.mg X.base (L2N.CX X.prog X.w) kk fa fd ps (spI c C F) := by
    rw [gx.eP, gx.ew, gx.eK, gx.em, gx.eb]; exact hF
  have F1' : FnOk X.prog X.w X.K X.mg X.base (L2N.CX X.prog X.w) kk1 fa1 fd1 ps1 (spL c C F1) := by
    rw [gx.eP, gx.ew, gx.eK, gx.em, gx.eb]; exact hF1
  have hx : Passes (L2N.CX X.prog X.w) X Ek := L2N.passes_call gx.tk fun _ _ _ _ z => z
  have cl' : Cls X.K C := by rw [gx.eK]; exact cl.cl
  have me : Meth X.K C f fa1 := by rw [gx.eK]; exact hme
  have hb1' : Binds X.K fd1 ps1 [] := by rw [gx.eK]; exact hb1
  obtain ⟨pv', is, A'⟩ := a2_plain A
  have pm := pe_make (p := q) (pos := p) (x := "Lab") (by rw [gx.eK]; exact hM) F' (gx.room.mono hk) (gx.gl hg) (by rw [gx.em]; exact hm) (by rw [gx.eK]; exact hb) .nil hx (pWA (es := v :: vs)) (by decide) (plain_star pv') (a2_star A' p)
  simp only [ev] at h
  -- the method runs
  have run : ∀ {x dx e : Addr} {vn : V} {d : D} {ds : List D} {ws : List V} {G3 H3 : Hp} {m3 : Mu}, SI n ad (fxP Fx e []) G3 H3 m3 → Same G G3 → n.H0 e = none → Fx e = none → some e ∉ ad → LabAt G3 C x d e → RpA G3 ws ds → ∀ {o}, (F1 d [] ds).map (fun r => (r.1, m3)) = some o → o = (r, m') → spL c C F1 (.ref x :: ws) H3 Q Ek := by
    intro x dx e vn d ds ws G3 H3 m3 s3 g3 h0 hFe hne l r3 o ho eo
    subst eo
    obtain ⟨⟨r', ys⟩, hy, ey⟩ := Option.map_eq_some_iff.mp ho
    have er1 : r' = r := congrArg Prod.fst ey
    have er2 : m3 = m' := congrArg Prod.snd ey
    subst er1 er2
    obtain ⟨h1, h2, h3⟩ := s3.fx e [] (by unfold fxP; rw [if_pos rfl])
    have s4 := s3.unfx hFe
    have fr : ∀ b, b = e → some b ∉ ad ∧ Fx b = none ∧ n.H0 b = none := fun b hb => by
      subst hb
      exact ⟨hne, hFe, h0⟩
    refine ⟨G3, x, e, ws, [], d, [], ds, rfl, s4.sub, s4.flat, by rw [← hT]; exact s4.tabs, l, h2, h1, trivial, r3, ?_⟩
    rw [hy]
    cases r' with
    | ok y => exact fun v G5 H5 us2 t5 hg5 hH5 ru5 r5 => k y rfl v G5 H5 (s4.stpX hT t5 fr) (g3.trans t5.up) r5
    | error z => exact fun Cx hC G5 H5 us2 t5 hg5 hH5 ru5 => er z rfl Cx hC G5 H5 (s4.stpX hT t5 fr)
  -- the lab is made
  have made : ∀ {ds : List D} {m1 : Mu} {ws : List V} {G1 H1 : Hp} {K : Addr → VK}, SI n ad Fx G1 H1 m1 → Same G G1 → RpA G1 ws ds →
      (match F ds with
        | some (.error x) => some (.error x, m1)
        | some (.ok d) => bnd (evs es1 env m1) fun es m => (F1 d [] es).map fun r => (r.1, m)
        | none => none : Rr D) = some (r, m') →
      (∀ x dx vn e d G' H', SI n ad (fxP Fx e []) G' H' m1 → Same G1 G' → n.H0 e = none → Fx e = none → some e ∉ ad → H' x = some (.ins C dx (labFs vn e)) → LabAt G' C x d e → (bnd (evs es1 env m1) fun es m => (F1 d [] es).map fun r => (r.1, m)) = some (r, m') → K x (.ref x) H') →
      ∀ x dx, H1 x = none → H1 dx = none → dx ≠ x → spI c C F (.ref x :: (ws ++ [])) (upd (upd H1 dx (.own x)) x (.ins C dx [])) (fun v H2 => v = .non ∧ K x (.ref x) H2) Ek := by
    intro ds m1 ws G1 H1 K s1 g1 r1 e1 kk x dx hx hd hne
    rw [List.append_nil]
    cases hz : F ds with
    | none => rw [hz] at e1; cases e1
    | some z =>
      rw [hz] at e1
      cases z with
      | error z =>
        cases e1
        exact spI_er hT s1 hx hd hne r1 hz er
      | ok d => exact spI_ok hT s1 hx hd hne r1 hz fun vn e G' H' s' g' h0 hFe hna hx' l => ⟨rfl, kk x dx vn e d G' H' s' g' h0 hFe hna hx' l e1⟩
  have mev := meth_ev (o := .Call (.Name "Lab" q) (v :: vs) [] p) (name := f) (apos := p1) (pos := p2) (args := us) (env := X.env) (notCall_base rfl) (star_all B p2 hv) hl
  match us, B, mev with
  | [], B, mev =>
    have he1 : es1 = [] := by
      cases es1 with
      | nil => rfl
      | cons _ _ => exact B.elim
    subst he1
    refine toWE (pe_meth0 pm cl' me F1' (gx.room.mono hk1) hb1' .nil hx mev) ?_
    refine (sa_of A).use gx hT s re h er fun ds m1 ws G1 H1 e1 s1 g1 r1 => ?_
    refine made (K := fun x v H2 => ∃ a dx fs, v = .ref a ∧ H2 a = some (.ins C dx fs) ∧ fs.lookup f = none ∧ spL c C F1 (v :: ([] ++ [])) H2 Q Ek) s1 g1 r1 e1 ?_
    intro x dx vn e d G' H' s' g' h0 hFe hna hx' l e2
    refine ⟨x, dx, _, rfl, hx', labFs_no _ _ n1 n2, ?_⟩
    simp only [evs, bnd] at e2
    exact run (dx := dx) (vn := vn) s' (g1.trans g') h0 hFe hna l (ds := []) (ws := []) trivial e2 rfl
  | u :: us, B, mev =>
    obtain ⟨pu, is1, B'⟩ := a2_plain B
    refine toWE (pe_meth pm cl' me F1' (gx.room.mono hk1) hb1' .nil hx (pWA (es := u :: us)) (plain_star pu) (a2_star B' p2) mev) ?_
    refine (sa_of A).use gx hT s re h er fun ds m1 ws G1 H1 e1 s1 g1 r1 => ?_
    refine made (K := fun x v H2 => ∃ a dx fs, v = .ref a ∧ H2 a = some (.ins C dx fs) ∧ fs.lookup f = none ∧ WA X (u :: us) σ H2 fun vs H3 => spL c C F1 (v :: (vs ++ [])) H3 Q Ek) s1 g1 r1 e1 ?_
    intro x dx vn e d G' H' s' g' h0 hFe hna hx' l e2
    refine ⟨x, dx, _, rfl, hx', labFs_no _ _ n1 n2, ?_⟩
    refine (sa_of B).use gx hT s' (re.mono (g1.trans g')) e2 (fun z ez Cx hC G5 H5 s5 => er z ez Cx hC G5 H5 (s5.unfx hFe)) fun ds2 m2 ws2 G2 H2 e3 s2 g2 r2 => ?_
    rw [List.append_nil]
    exact run (dx := dx) (vn := vn) s2 ((g1.trans g').trans g2) h0 hFe hna (l.mono g2) r2 e3 rfl
end
end TO

set_option Elab.async false
set_option linter.all false
set_option maxRecDepth 100000
set_option maxHeartbeats 4000000
/-! Comprehensions, and expressions as a whole. -/
namespace TO
open PySem PySem.Spec L2

def EF : XK := fun _ _ _ => False
def teU (c : Ct) (sc : Scope) (e : Expr) : TE := fun σ H Q => ∀ X, GX c sc X EF → WE X e σ H Q
def ttU (c : Ct) (sc : Scope) : List Expr → TT
  | [] => tYes
  | [t] => fun σ H Q => ∀ X, GX c sc X EF → WT X t σ H Q
  | _ => fun _ _ _ => False
theorem TgOk.mono {K : PySem.W.Frag} {H G G' : Hp} {t : Tg} {v : V} {d : D} (hs : Same G G') (h : TgOk K H G t v d) : TgOk K H G' t v d := by
  cases t with
  | name i => exact Rp.mono hs _ _ h
  | tup is =>
    intro ds e
    obtain ⟨a, xs, h1, h2, h3⟩ := h ds e
    exact ⟨a, xs, h1, h2, RpA.mono hs _ _ h3⟩
theorem compF_cons {f : D → Mu → Rr (Option D)} {d : D} {r ys : List D} {m m2 : Mu} (h : compF f (d :: r) m = some (.ok ys, m2)) : ∃ o m1 ys', f d m = some (.ok o, m1) ∧ compF f r m1 = some (.ok ys', m2) ∧ ys = (match o with | some d => d :: ys' | none => ys') := by
  simp only [compF] at h
  rcases bnd_some h with ⟨o, m1, h1, h2⟩ | ⟨x, m1, h1, h2⟩
  · rcases bnd_some h2 with ⟨ys', m3, h3, h4⟩ | ⟨x, m3, h3, h4⟩
    · cases h4
      exact ⟨o, m1, ys', h1, h3, rfl⟩
    · cases h4
  · cases h2
section
variable {c : Ct} {sc scope : Scope}
theorem comp_read {own : List (Str × Nat)} {tg : Tg} {it : It} {elt : E} {ifs : List E} {elt' tg' it' : Expr} {ifs' : List Expr} (ho : ∀ i ∈ tg.slots, i ∈ own.map (·.2)) (I : SIt c sc it tg tg' it') (A : Snd c.nl scope elt elt') (B : A2 (Snd c.nl scope) ifs ifs') (tb : tokBs ifs = true)
    {X : Cx} {Ek : XK} (gx : GX c sc X Ek) {n : Ent} {ad : List (Option Addr)} {Fx : Addr → Option (List V)} {G H : Hp} {m m' : Mu} {env : En} {σ : L2.St} {r : Except Str D} {Q : VK} (hT : n.T = c.T) (s : SI n ad Fx G H m) (re : RE ad G env σ)
    (h : ev (.comp own tg it elt ifs) env m = some (r, m')) (q : ∀ d, r = .ok d → Fin n ad Fx G m' d Q) (er : ErrP c n ad Fx Ek m' r) : tLc (WI X tg' it') (gT c.K tg) (ttU c.nl scope ifs') (teU c.nl scope elt') (own.map (·.2)) σ H Q := by
  simp only [ev] at h
  rcases bnd_some h with ⟨ds, m1, h1, h2⟩ | ⟨x, m1, h1, h2⟩
  · revert h2
    generalize hf : (fun (d : D) (m : Mu) => match bindT tg d (wipeE env (own.map (·.2))) with
      | some env1 => bnd (evIf ifs env1 m) fun b m => if b then bnd (ev elt env1 m) fun y m => some (.ok (some y), m) else some (.ok none, m)
      | none => none) = f
    intro h2
    have h3 : ∃ ys m2, compF f ds m1 = some (.ok ys, m2) ∧ ds.length ≤ lim ∧ r = .ok (.list ys) ∧ m' = m2 := by
      cases e : compF f ds m1 with
      | none => rw [e] at h2; cases h2
      | some p =>
        obtain ⟨p, m2⟩ := p
        rw [e] at h2
        cases p with
        | error x => cases h2
        | ok ys =>
          simp only [bnd] at h2
          by_cases hl : ds.length ≤ lim
          · rw [if_pos hl] at h2
            cases h2
            exact ⟨ys, _, rfl, hl, rfl, rfl⟩
          · rw [if_neg hl] at h2
            cases h2
    obtain ⟨ys, m2, h3, hl, rfl, rfl⟩ := h3
    refine I X Ek gx n ad Fx G H m env σ _ _ _ hT s re h1 (fun ds' e J G1 H1 s1 g1 wk => ?_) (fun x e => by cases e)
    cases e
    intro Dd hD
    have h0 : n.H0 Dd = none := s1.live Dd hD
    have hFx : Fx Dd = none := by
      cases e : Fx Dd with
      | none => rfl
      | some vs =>
        have := (s1.fx Dd vs e).1
        rw [hD] at this; cases this
    refine ⟨fun i k H => k = ds.length - i ∧ i ≤ ds.length ∧ ∃ G2 m3 acc done rest, SI n ad (fxP Fx Dd acc) G2 H m3 ∧ Same G1 G2 ∧ RpA G2 acc done ∧ acc.length ≤ i ∧ compF f (ds.drop i) m3 = some (.ok rest, m') ∧ done ++ rest = ys,
      ⟨ds.length, by omega, Nat.zero_le _, G1, m1, [], [], ys, s1.fix hD, Same.refl _, trivial, Nat.le_refl _, h3, rfl⟩, ?_⟩
    rintro i k H2 ⟨rfl, hi, G2, m3, acc, dn, rest, s2, g2, ra, hacc, hc, hy⟩
    have hD2 : H2 Dd = some (.lst acc) := (s2.fx Dd acc (by unfold fxP; rw [if_pos rfl])).1
    by_cases hlt : i < ds.length
    · right
      obtain ⟨d, hd⟩ : ∃ d, ds[i]? = some d := ⟨ds[i], List.getElem?_eq_getElem hlt⟩
      have hdrop : ds.drop i = d :: ds.drop (i + 1) := by
        rw [List.drop_eq_getElem_cons hlt]
        rw [List.getElem?_eq_getElem hlt] at hd
        cases hd
        rfl
      rw [hdrop] at hc
      obtain ⟨o, m4, rest', hf1, hc', hrest⟩ := compF_cons hc
      have sub2 : Same G1 H2 := g2.trans s2.sub
      refine ⟨wk.goes i H2 hlt sub2, fun H' => ds.length - (i + 1) = ds.length - (i + 1) ∧ i + 1 ≤ ds.length ∧ ∃ G2 m3 acc done rest, SI n ad (fxP Fx Dd acc) G2 H' m3 ∧ Same G1 G2 ∧ RpA G2 acc done ∧ acc.length ≤ i + 1 ∧ compF f (ds.drop (i + 1)) m3 = some (.ok rest, m') ∧ done ++ rest = ys,
        fun H' w => ⟨ds.length - (i + 1), by omega, w⟩, fun x H3 y => ?_⟩
      obtain ⟨hh, tgo⟩ := wk.yields i H2 x H3 d hd sub2 y
      have s3 : SI n ad (fxP Fx Dd acc) G2 H3 m3 := by
        rcases hh with e | ⟨T, ob, hT, e⟩
        · rw [e]; exact s2
        · rw [e]; exact s2.junk hT
      rw [← hf] at hf1
      simp only at hf1
      cases hbi : bindT tg d (wipeE env (own.map (·.2))) with
      | none => rw [hbi] at hf1; cases hf1
      | some env1 =>
        rw [hbi] at hf1
        simp only at hf1
        refine gt_go (tgo.mono g2) hbi ((re.mono (g1.trans g2)).wipe _) fun σ1 re1 hw => ?_
        refine ⟨by rw [hw _ ho, wipe_wipe], ?_⟩
        -- what follows the tests
        have after : ∀ (b : Bool) m5 G5 H5, (if b then bnd (ev elt env1 m5) fun y m => some (.ok (some y), m) else some (.ok none, m5) : Rr (Option D)) = some (.ok o, m4) → SI n ad (fxP Fx Dd acc) G5 H5 m5 → Same G2 G5 →
            if b = true then teU c.nl scope elt' σ1 H5 fun y H4 => ∃ acc, H4 Dd = some (.lst acc) ∧ acc.length < sizeLine ∧ (ds.length - (i + 1) = ds.length - (i + 1) ∧ i + 1 ≤ ds.length ∧ ∃ G2 m3 acc' done rest, SI n ad (fxP Fx Dd acc') G2 (upd H4 Dd (.lst (acc ++ [y]))) m3 ∧ Same G1 G2 ∧ RpA G2 acc' done ∧ acc'.length ≤ i + 1 ∧ compF f (ds.drop (i + 1)) m3 = some (.ok rest, m') ∧ done ++ rest = ys)
            else (ds.length - (i + 1) = ds.length - (i + 1) ∧ i + 1 ≤ ds.length ∧ ∃ G2 m3 acc done rest, SI n ad (fxP Fx Dd acc) G2 H5 m3 ∧ Same G1 G2 ∧ RpA G2 acc done ∧ acc.length ≤ i + 1 ∧ compF f (ds.drop (i + 1)) m3 = some (.ok rest, m') ∧ done ++ rest = ys) := by
          intro b m5 G5 H5 hb s5 g5
          cases b with
          | true =>
            refine iteT fun X' gx' => ?_
            rw [if_pos rfl] at hb
            rcases bnd_some hb with ⟨yd, m6, e1, e2⟩ | ⟨z, m6, e1, e2⟩
            · cases e2
              refine A.1.val gx' hT s5 (re1.mono g5) e1 fun v G6 H6 s6 g6 r6 => ?_
              have hD6 := (s6.fx Dd acc (by unfold fxP; rw [if_pos rfl])).1
              have r7 := s6.refix (ws := acc ++ [v]) h0
              refine ⟨acc, hD6, ?_, rfl, hlt, G6, m4, acc ++ [v], dn ++ [yd], rest', r7, (g2.trans g5).trans g6, (RpA.mono (g5.trans g6) _ _ ra).app (RpA.one r6), by rw [List.length_append]; exact Nat.add_le_add_right hacc 1, hc', ?_⟩
              · exact Nat.lt_of_le_of_lt hacc (Nat.lt_of_lt_of_le hlt (Nat.le_trans hl lim_le))
              · rw [← hy, hrest, List.append_assoc]; rfl
            · cases e2
          | false =>
            refine iteF ?_
            rw [if_neg (by decide)] at hb
            cases hb
            exact ⟨rfl, hlt, G5, m4, acc, dn, rest', s5, g2.trans g5, RpA.mono g5 _ _ ra, Nat.le_succ_of_le hacc, hc', by rw [← hy, hrest]⟩
        match ifs, ifs', B, tb, hf1 with
        | [], [], _, _, hf1 => exact after true m3 G2 H3 hf1 s3 (Same.refl _)
        | [t], [t'], B, tb, hf1 =>
          intro X' gx'
          simp only [tokBs, Bool.and_true] at tb
          simp only [evIf] at hf1
          rcases bnd_some hf1 with ⟨b, m5, e1, e2⟩ | ⟨z, m5, e1, e2⟩
          · exact B.1.2.1 tb X' _ gx' n ad _ G2 H3 m3 env1 σ1 _ _ _ hT s3 re1 e1 (fun b' e G5 H5 s5 g5 => by cases e; exact after b m5 G5 H5 e2 s5 g5) (fun z e => by cases e)
          · cases e2
        | [], _ :: _, B, _, _ => exact B.elim
        | _ :: _, [], B, _, _ => exact B.elim
        | [_], _ :: _ :: _, B, _, _ => exact B.2.elim
        | _ :: _ :: _, [_], B, _, _ => exact B.2.elim
        | _ :: _ :: _, _ :: _ :: _, B, _, hf1 => simp [evIf, bnd] at hf1
    · left
      have e : i = ds.length := by omega
      subst e
      rw [List.drop_length] at hc
      cases hc
      rw [List.append_nil] at hy
      subst hy
      obtain ⟨s4, g4⟩ := s2.unfix h0 hFx
      refine ⟨wk.stops H2 (g2.trans s2.sub), q _ rfl _ _ _ s4 ((g1.trans g2).trans g4) ⟨Dd, acc, rfl, upd_same, RpA.mono g4 _ _ ra⟩⟩
  · cases h2
    exact I X Ek gx n ad Fx G H m env σ _ _ _ hT s re h1 (fun ds' e => by cases e) (fun y e => by cases e; exact er x rfl)
/-- the parts of a comprehension's block -/
theorem comp_parts {own : List (Str × Nat)} {tg : Tg} {ifs : List E} {elt' tg' : Expr} {ifs' : List Expr} {X : Cx} {Ek : XK} (gx : GX c sc X Ek) (hb : blkC c.N sc scope own = true) (ht : chkTg c.N scope tg tg' = true) (B : A2 (Snd c.nl scope) ifs ifs') (hl : ifs.length ≤ 1) :
    (∀ (s : Shared) (H : Hp) (C : Addr) (cl : List (Str × Addr)) (fp : List Addr), PG (X.blk s H scope (compEnvC scope cl C X.env) fp) tg' (gT c.K tg)) ∧
    (∀ (s : Shared) (H : Hp) (C : Addr) (cl : List (Str × Addr)) (fp : List Addr), PTs (X.blk s H scope (compEnvC scope cl C X.env) fp) ifs' (ttU c.nl scope ifs')) ∧
    (∀ (s : Shared) (H : Hp) (C : Addr) (cl : List (Str × Addr)) (fp : List Addr), PE (X.blk s H scope (compEnvC scope cl C X.env) fp) elt' (teU c.nl scope elt')) := by
  have hk := (blkOk_by hb).kind
  refine ⟨fun s H C cl fp => ?_, fun s H C cl fp => ?_, fun s H C cl fp => ?_⟩
  · have := gt_ok (gx.blk hk s H C cl fp) ht
    rw [← gx.eK]
    exact this
  · match ifs, ifs', B, hl with
    | [], [], _, _ => exact pts_nil
    | [t], [t'], B, _ => exact pts_one ⟨fun pins s2 σ H2 Q I h => h _ (gx.blk hk s H C cl fp) pins s2 I⟩
    | [], _ :: _, B, _ => exact B.elim
    | _ :: _, [], B, _ => exact B.elim
    | [_], _ :: _ :: _, B, _ => exact B.2.elim
    | _ :: _ :: _, _, _, hl => simp at hl
  · exact ⟨fun pins s2 σ H2 Q I h => h _ (gx.blk hk s H C cl fp) pins s2 I⟩
theorem comp_se {own : List (Str × Nat)} {tg : Tg} {it : It} {elt : E} {ifs : List E} {elt' tg' it' : Expr} {ifs' : List Expr} {pos : Pos} (hb : blkC c.N sc scope own = true) (ht : chkTg c.N scope tg tg' = true) (ho : ∀ i ∈ tg.slots, i ∈ own.map (·.2)) (I : SIt c sc it tg tg' it') (pI : ∀ (env : Env) x, foldedSetIterable it' env x = pure x)
    (A : Snd c.nl scope elt elt') (B : A2 (Snd c.nl scope) ifs ifs') (tb : tokBs ifs = true) (hl : ifs.length ≤ 1) : SE c sc (.comp own tg it elt ifs) (.ListComp elt' [⟨tg', it', ifs', 0⟩] scope pos) := by
  intro X Ek gx n ad Fx G H m env σ r m' Q hT s re h q er
  obtain ⟨h1, h2, h3⟩ := comp_parts (elt' := elt') gx hb ht B hl
  exact toWE (pe_lc gx.calm gx.nd pWI (gx.blkOk hb) h1 h2 h3 (pI X.env)) (comp_read ho I A B tb gx hT s re h q er)
end
end TO

set_option Elab.async false
set_option linter.all false
set_option maxRecDepth 100000
set_option maxHeartbeats 4000000
/-! A comprehension that may raise: what it makes. -/
namespace TO
open PySem PySem.Spec L2
def teX (c : Ct) (sc : Scope) (Ek : XK) (e : Expr) : TE := fun σ H Q => ∀ X, GX c sc X Ek → WE X e σ H Q
section
variable {c : Ct} {sc scope : Scope}
theorem GX.blkX {X : Cx} {Ek : XK} (gx : GX c sc X Ek) (hk : scope.kind = .function) (s : Shared) (H : Hp) (C : Addr) (cl : List (Str × Addr)) (fp : List Addr) (xe : Value → Shared → Prop) (tk : L2N.Takes (blkX X s H scope (compEnvC scope cl C X.env) fp xe) (fun cls d _ H => Ek cls d H)) :
    GX c.nl scope (TO.blkX X s H scope (compEnvC scope cl C X.env) fp xe) Ek := { gx.blk hk s H C cl fp with tk := tk }
theorem lcX_pe {own : List (Str × Nat)} {tg : Tg} {elt' tg' it' : Expr} {pos : Pos} {X : Cx} {Ek : XK} (gx : GX c sc X Ek) (stx : StX X) (hb : blkC c.N sc scope own = true) (ht : chkTg c.N scope tg tg' = true) (pI : ∀ x, foldedSetIterable it' X.env x = pure x) :
    PE X (.ListComp elt' [⟨tg', it', [], 0⟩] scope pos) (tLc (WI X tg' it') (gT c.K tg) tYes (teX c.nl scope Ek elt') (own.map (·.2))) := by
  have hk := (blkOk_by hb).kind
  refine pe_lcX (Ek := Ek) gx.calm gx.nd stx.hs stx.hf gx.tk pWI (gx.blkOk hb) (fun s H C cl fp xe tk => ?_) (fun s H C cl fp xe tk => pts_nil) (fun s H C cl fp xe tk => ⟨fun pins s2 σ H2 Q I h => h _ (gx.blkX hk s H C cl fp xe tk) pins s2 I⟩) pI
  have := gt_ok (gx.blkX hk s H C cl fp xe tk) ht
  rw [← gx.eK]
  exact this
theorem compF_step {f : D → Mu → Rr (Option D)} {d : D} {r : List D} {ro : Except Str (List D)} {m m2 : Mu} (h : compF f (d :: r) m = some (ro, m2)) : (∃ o m1 ro', f d m = some (.ok o, m1) ∧ compF f r m1 = some (ro', m2) ∧ ro = (match ro' with | .ok ys => .ok (match o with | some d => d :: ys | none => ys) | .error x => .error x)) ∨ ∃ x, f d m = some (.error x, m2) ∧ ro = .error x := by
  simp only [compF] at h
  rcases bnd_some h with ⟨o, m1, h1, h2⟩ | ⟨x, m1, h1, h2⟩
  · rcases bnd_some h2 with ⟨ys', m3, h3, h4⟩ | ⟨x, m3, h3, h4⟩
    · cases h4
      exact .inl ⟨o, m1, _, h1, h3, rfl⟩
    · cases h4
      exact .inl ⟨o, m1, _, h1, h3, rfl⟩
  · cases h2
    exact .inr ⟨x, h1, rfl⟩
theorem comp_readX {own : List (Str × Nat)} {tg : Tg} {it : It} {elt : E} {elt' tg' it' : Expr} (ho : ∀ i ∈ tg.slots, i ∈ own.map (·.2)) (I : SIt c sc it tg tg' it') (A : Snd c.nl scope elt elt')
    {X : Cx} {Ek : XK} (gx : GX c sc X Ek) {n : Ent} {ad : List (Option Addr)} {Fx : Addr → Option (List V)} {G H : Hp} {m m' : Mu} {env : En} {σ : L2.St} {r : Except Str (List D)} {Q : VK} (hT : n.T = c.T) (s : SI n ad Fx G H m) (re : RE ad G env σ)
    (h : (bnd (itv it env m) fun ds m => if ds.length ≤ lim then compF (fun d m => match bindT tg d (wipeE env (own.map (·.2))) with
      | some env1 => bnd (ev elt env1 m) fun y m => some (.ok (some y), m)
      | none => none) ds m else none) = some (r, m')) (q : ∀ ys, r = .ok ys → Fin n ad Fx G m' (.list ys) Q) (er : ErrP c n ad Fx Ek m' r) : tLc (WI X tg' it') (gT c.K tg) tYes (teX c.nl scope Ek elt') (own.map (·.2)) σ H Q := by
  rcases bnd_some h with ⟨ds, m1, h1, h2⟩ | ⟨x, m1, h1, h2⟩
  · revert h2
    generalize hf : (fun (d : D) (m : Mu) => match bindT tg d (wipeE env (own.map (·.2))) with
      | some env1 => bnd (ev elt env1 m) fun y m => some (.ok (some y), m)
      | none => none) = f
    intro h2
    rw [Option.ite_none_right_eq_some] at h2
    obtain ⟨hl, h3⟩ := h2
    refine I X Ek gx n ad Fx G H m env σ _ _ _ hT s re h1 (fun ds' e J G1 H1 s1 g1 wk => ?_) (fun x e => by cases e)
    cases e
    intro Dd hD
    have h0 : n.H0 Dd = none := s1.live Dd hD
    have hFx : Fx Dd = none := (s1.free hD).2.1
    refine ⟨fun i k H => k = ds.length - i ∧ i ≤ ds.length ∧ ∃ G2 m3 acc done ro, SI n ad (fxP Fx Dd acc) G2 H m3 ∧ Same G1 G2 ∧ RpA G2 acc done ∧ acc.length ≤ i ∧ compF f (ds.drop i) m3 = some (ro, m') ∧ r = (match ro with | .ok rest => .ok (done ++ rest) | .error x => .error x),
      ⟨ds.length, by omega, Nat.zero_le _, G1, m1, [], [], r, s1.fix hD, Same.refl _, trivial, Nat.le_refl _, h3, by cases r <;> rfl⟩, ?_⟩
    rintro i k H2 ⟨rfl, hi, G2, m3, acc, dn, ro, s2, g2, ra, hacc, hc, hy⟩
    have hD2 : H2 Dd = some (.lst acc) := (s2.fx Dd acc (by unfold fxP; rw [if_pos rfl])).1
    by_cases hlt : i < ds.length
    · right
      obtain ⟨d, hd⟩ : ∃ d, ds[i]? = some d := ⟨ds[i], List.getElem?_eq_getElem hlt⟩
      have hdrop : ds.drop i = d :: ds.drop (i + 1) := by
        rw [List.drop_eq_getElem_cons hlt]
        rw [List.getElem?_eq_getElem hlt] at hd
        cases hd
        rfl
      rw [hdrop] at hc
      have sub2 : Same G1 H2 := g2.trans s2.sub
      refine ⟨wk.goes i H2 hlt sub2, fun H' => i + 1 ≤ ds.length ∧ ∃ G2 m3 acc done ro, SI n ad (fxP Fx Dd acc) G2 H' m3 ∧ Same G1 G2 ∧ RpA G2 acc done ∧ acc.length ≤ i + 1 ∧ compF f (ds.drop (i + 1)) m3 = some (ro, m') ∧ r = (match ro with | .ok rest => .ok (done ++ rest) | .error x => .error x),
        fun H' w => ⟨ds.length - (i + 1), by omega, rfl, w⟩, fun x H3 y => ?_⟩
      obtain ⟨hh, tgo⟩ := wk.yields i H2 x H3 d hd sub2 y
      have s3 : SI n ad (fxP Fx Dd acc) G2 H3 m3 := by
        rcases hh with e | ⟨T, ob, hT, e⟩
        · rw [e]; exact s2
        · rw [e]; exact s2.junk hT
      have hbi : ∃ env1, bindT tg d (wipeE env (own.map (·.2))) = some env1 := by
        cases hb : bindT tg d (wipeE env (own.map (·.2))) with
        | some env1 => exact ⟨env1, rfl⟩
        | none =>
          have : f d m3 = none := by rw [← hf]; simp only [hb]
          rcases compF_step hc with ⟨o, m4, ro', hf1, _⟩ | ⟨x, hf1, _⟩ <;> (rw [this] at hf1; cases hf1)
      obtain ⟨env1, hbi⟩ := hbi
      have hfd : f d m3 = bnd (ev elt env1 m3) fun y m => some (.ok (some y), m) := by rw [← hf]; simp only [hbi]
      refine gt_go (tgo.mono g2) hbi ((re.mono (g1.trans g2)).wipe _) fun σ1 re1 hw => ?_
      refine ⟨by rw [hw _ ho, wipe_wipe], ?_⟩
      unfold tYes
      dsimp only
      rw [if_pos rfl]
      intro X' gx'
      rcases compF_step hc with ⟨o, m4, ro', hf1, hc', hro⟩ | ⟨x, hf1, hro⟩
      · rw [hfd] at hf1
        rcases bnd_some hf1 with ⟨yd, m6, e1, e2⟩ | ⟨z, m6, e1, e2⟩
        · cases e2
          refine A.1.val gx' hT s3 re1 e1 fun v G6 H6 s6 g6 r6 => ?_
          have hD6 := (s6.fx Dd acc (by unfold fxP; rw [if_pos rfl])).1
          have r7 := s6.refix (ws := acc ++ [v]) h0
          refine ⟨acc, hD6, ?_, hlt, G6, m4, acc ++ [v], dn ++ [yd], ro', r7, g2.trans g6, (RpA.mono g6 _ _ ra).app (RpA.one r6), by rw [List.length_append]; exact Nat.add_le_add_right hacc 1, hc', ?_⟩
          · exact Nat.lt_of_le_of_lt hacc (Nat.lt_of_lt_of_le hlt (Nat.le_trans hl lim_le))
          · rw [hy, hro]
            cases ro' with
            | ok rest => simp
            | error x => rfl
        · cases e2
      · rw [hfd] at hf1
        rcases bnd_some hf1 with ⟨yd, m6, e1, e2⟩ | ⟨z, m6, e1, e2⟩
        · cases e2
        · cases e2
          rw [hro] at hy
          subst hy
          refine A.1 X' Ek gx' n ad _ G2 H3 m3 env1 σ1 _ _ _ hT s3 re1 e1 (fun d e => by cases e) fun y e C hC G' H' s' => ?_
          cases e
          exact er _ rfl C hC _ H' (s'.unfix h0 hFx).1
    · left
      have e : i = ds.length := by omega
      subst e
      rw [List.drop_length] at hc
      cases hc
      have hy : r = .ok (dn ++ []) := hy
      rw [List.append_nil] at hy
      subst hy
      obtain ⟨s4, g4⟩ := s2.unfix h0 hFx
      exact ⟨wk.stops H2 (g2.trans s2.sub), q _ rfl _ _ _ s4 ((g1.trans g2).trans g4) ⟨Dd, acc, rfl, upd_same, RpA.mono g4 _ _ ra⟩⟩
  · cases h2
    exact I X Ek gx n ad Fx G H m env σ _ _ _ hT s re h1 (fun ds' e => by cases e) (fun y e => by cases e; exact er x rfl)
end
end TO

set_option Elab.async false
set_option linter.all false
set_option maxRecDepth 100000
set_option maxHeartbeats 8000000
/-! What the look at an expression has seen. -/
namespace TO
open PySem PySem.Spec L2
section
variable {N : List Str} {sc : Scope} {e : Expr}
theorem inv_cst {d : D} (h : chkE N sc (.cst d) e = true) : ∃ k j p, e = .Constant k j p ∧ cstB d k = true := by
  unfold chkE at h
  split at h <;> first | contradiction | (injections; subst_vars; exact ⟨_, _, _, rfl, h⟩)
theorem inv_var {i : Nat} (h : chkE N sc (.var i) e = true) : ∃ x p, e = .Name x p ∧ slB N i x = true ∧ visB sc x = true ∧ nmB x = true := by
  unfold chkE at h
  split at h <;> first | contradiction | (injections; subst_vars; simp only [Bool.and_eq_true, decide_eq_true_eq] at h; exact ⟨_, _, rfl, h.1.1, h.1.2, h.2⟩)
theorem inv_glob {y : Str} {d : D} (h : chkE N sc (.glob y d) e = true) : ∃ x p, e = .Name x p ∧ x = y ∧ gloB sc x = true ∧ nmB x = true := by
  unfold chkE at h
  split at h <;> first | contradiction | (injections; subst_vars; simp only [Bool.and_eq_true, decide_eq_true_eq] at h; exact ⟨_, _, rfl, h.1.1, h.1.2, h.2⟩)
theorem inv_neg {a : E} (h : chkE N sc (.neg a) e = true) : ∃ b p, e = .UnaryOp .USub b p ∧ chkE N sc a b = true := by
  unfold chkE at h
  split at h <;> first | contradiction | (injections; subst_vars; exact ⟨_, _, rfl, h⟩)
theorem inv_bin {o : Bop} {a b : E} (h : chkE N sc (.bin o a b) e = true) : ∃ a' op b' p, e = .BinOp a' op b' p ∧ op = bopO o ∧ chkE N sc a a' = true ∧ chkE N sc b b' = true := by
  unfold chkE at h
  split at h <;> first | contradiction | (injections; subst_vars; simp only [Bool.and_eq_true, decide_eq_true_eq] at h; exact ⟨_, _, _, _, rfl, h.1.1, h.1.2, h.2⟩)
theorem inv_cmp {o : Cop} {a b : E} (h : chkE N sc (.cmp o a b) e = true) : ∃ a' op b' p, e = .Compare a' [op] [b'] p ∧ op = copO o ∧ chkE N sc a a' = true ∧ chkE N sc b b' = true := by
  unfold chkE at h
  split at h <;> first | contradiction | (injections; subst_vars; simp only [Bool.and_eq_true, decide_eq_true_eq] at h; exact ⟨_, _, _, _, rfl, h.1.1, h.1.2, h.2⟩)
theorem inv_chain {o p : Cop} {a b d : E} (h : chkE N sc (.chain o p a b d) e = true) : ∃ a' op op' b' d' q, e = .Compare a' [op, op'] [b', d'] q ∧ op = copO o ∧ op' = copO p ∧ chkE N sc a a' = true ∧ chkE N sc b b' = true ∧ chkE N sc d d' = true := by
  unfold chkE at h
  split at h <;> first | contradiction | (injections; subst_vars; simp only [Bool.and_eq_true, decide_eq_true_eq] at h; exact ⟨_, _, _, _, _, _, rfl, h.1.1.1.1, h.1.1.1.2, h.1.1.2, h.1.2, h.2⟩)
theorem inv_andE {es : List E} (h : chkE N sc (.andE es) e = true) : ∃ vs p, e = .BoolOp .And vs p ∧ chkEs N sc es vs = true := by
  unfold chkE at h
  split at h <;> first | contradiction | (injections; subst_vars; exact ⟨_, _, rfl, h⟩)
theorem inv_orE {es : List E} (h : chkE N sc (.orE es) e = true) : ∃ vs p, e = .BoolOp .Or vs p ∧ chkEs N sc es vs = true := by
  unfold chkE at h
  split at h <;> first | contradiction | (injections; subst_vars; exact ⟨_, _, rfl, h⟩)
theorem inv_notE {a : E} (h : chkE N sc (.notE a) e = true) : ∃ b p, e = .UnaryOp .Not b p ∧ chkE N sc a b = true := by
  unfold chkE at h
  split at h <;> first | contradiction | (injections; subst_vars; exact ⟨_, _, rfl, h⟩)
theorem inv_ife {t a b : E} (h : chkE N sc (.ife t a b) e = true) : ∃ t' a' b' p, e = .IfExp t' a' b' p ∧ chkE N sc t t' = true ∧ tokB t = true ∧ chkE N sc a a' = true ∧ chkE N sc b b' = true := by
  unfold chkE at h
  split at h <;> first | contradiction | (injections; subst_vars; simp only [Bool.and_eq_true, decide_eq_true_eq] at h; exact ⟨_, _, _, _, rfl, h.1.1.1, h.1.1.2, h.1.2, h.2⟩)
theorem inv_ix {a b : E} (h : chkE N sc (.ix a b) e = true) : ∃ a' b' p, e = .Subscript a' b' p ∧ chkE N sc a a' = true ∧ chkE N sc b b' = true := by
  unfold chkE at h
  split at h <;> first | contradiction | (injections; subst_vars; simp only [Bool.and_eq_true, decide_eq_true_eq] at h; exact ⟨_, _, _, rfl, h.1, h.2⟩)
theorem inv_oix {i : Nat} {b : E} (h : chkE N sc (.oix i b) e = true) : ∃ x q b' p, e = .Subscript (.Name x q) b' p ∧ slB N i x = true ∧ visB sc x = true ∧ nmB x = true ∧ chkE N sc b b' = true := by
  unfold chkE at h
  split at h <;> first | contradiction | (injections; subst_vars; simp only [Bool.and_eq_true, decide_eq_true_eq] at h; exact ⟨_, _, _, _, rfl, h.1.1.1, h.1.1.2, h.1.2, h.2⟩)
theorem inv_slc {a : E} {lo hi : EO} (h : chkE N sc (.slc a lo hi) e = true) : ∃ a' l' h' q p, e = .Subscript a' (.Slice l' h' none q) p ∧ chkE N sc a a' = true ∧ chkO N sc lo l' = true ∧ chkO N sc hi h' = true := by
  unfold chkE at h
  split at h <;> first | contradiction | (injections; subst_vars; simp only [Bool.and_eq_true, decide_eq_true_eq] at h; exact ⟨_, _, _, _, _, rfl, h.1.1, h.1.2, h.2⟩)
theorem inv_tup {es : List E} (h : chkE N sc (.tup es) e = true) : ∃ vs k p, e = .Tuple vs k p ∧ chkEs N sc es vs = true := by
  unfold chkE at h
  split at h <;> first | contradiction | (injections; subst_vars; exact ⟨_, _, _, rfl, h⟩)
theorem inv_lst {es : List E} (h : chkE N sc (.lst es) e = true) : ∃ vs p, e = .List vs p ∧ chkEs N sc es vs = true := by
  unfold chkE at h
  split at h <;> first | contradiction | (injections; subst_vars; exact ⟨_, _, rfl, h⟩)
theorem inv_call {f : Str} {F : List D → Option (Except Str D)} {es : List E} (h : chkE N sc (.call f F es) e = true) : ∃ x q v vs p, e = .Call (.Name x q) (v :: vs) [] p ∧ x = f ∧ gloB sc x = true ∧ nmB x = true ∧ chkEs N sc es (v :: vs) = true := by
  unfold chkE at h
  split at h <;> first | contradiction | (injections; subst_vars; simp only [Bool.and_eq_true, decide_eq_true_eq] at h; exact ⟨_, _, _, _, _, rfl, h.1.1.1, h.1.1.2, h.1.2, h.2⟩)
theorem inv_callD {f : Str} {F : List D → List D → Option (D × List D)} {i : Nat} {es : List E} (h : chkE N sc (.callD f F i es) e = true) : ∃ x q y q2 vs p, e = .Call (.Name x q) (.Name y q2 :: vs) [] p ∧ x = f ∧ gloB sc x = true ∧ nmB x = true ∧ slB N i y = true ∧ visB sc y = true ∧ nmB y = true ∧ chkEs N sc es vs = true := by
  unfold chkE at h
  split at h <;> first | contradiction | (injections; subst_vars; simp only [Bool.and_eq_true, decide_eq_true_eq] at h; exact ⟨_, _, _, _, _, _, rfl, h.1.1.1.1.1.1, h.1.1.1.1.1.2, h.1.1.1.1.2, h.1.1.1.2, h.1.1.2, h.1.2, h.2⟩)
theorem inv_bi {b : Bfn} {es : List E} (h : chkE N sc (.bi b es) e = true) : ∃ x q v vs p, e = .Call (.Name x q) (v :: vs) [] p ∧ x = biN b ∧ gloB sc x = true ∧ chkEs N sc es (v :: vs) = true := by
  unfold chkE at h
  split at h <;> first | contradiction | (injections; subst_vars; simp only [Bool.and_eq_true, decide_eq_true_eq] at h; exact ⟨_, _, _, _, _, rfl, h.1.1, h.1.2, h.2⟩)
theorem inv_isi {a : E} {k : Cla} (h : chkE N sc (.isi a k) e = true) : ∃ x q a' y q2 p, e = .Call (.Name x q) [a', .Name y q2] [] p ∧ x = "isinstance" ∧ gloB sc x = true ∧ y = claS k ∧ gloB sc y = true ∧ chkE N sc a a' = true := by
  unfold chkE at h
  split at h <;> first | contradiction | (injections; subst_vars; simp only [Bool.and_eq_true, decide_eq_true_eq] at h; exact ⟨_, _, _, _, _, _, rfl, h.1.1.1.1, h.1.1.1.2, h.1.1.2, h.1.2, h.2⟩)
theorem inv_lenset {a : E} (h : chkE N sc (.lenset a) e = true) : ∃ x q y q2 a' q3 p, e = .Call (.Name x q) [.Call (.Name y q2) [a'] [] q3] [] p ∧ x = "len" ∧ gloB sc x = true ∧ y = "set" ∧ gloB sc y = true ∧ chkE N sc a a' = true := by
  unfold chkE at h
  split at h <;> first | contradiction | (injections; subst_vars; simp only [Bool.and_eq_true, decide_eq_true_eq] at h; exact ⟨_, _, _, _, _, _, _, rfl, h.1.1.1.1, h.1.1.1.2, h.1.1.2, h.1.2, h.2⟩)
theorem inv_sset {a : E} (h : chkE N sc (.sset a) e = true) : ∃ x q y q2 a' q3 p, e = .Call (.Name x q) [.Call (.Name y q2) [a'] [] q3] [] p ∧ x = "sorted" ∧ gloB sc x = true ∧ y = "set" ∧ gloB sc y = true ∧ chkE N sc a a' = true := by
  unfold chkE at h
  split at h <;> first | contradiction | (injections; subst_vars; simp only [Bool.and_eq_true, decide_eq_true_eq] at h; exact ⟨_, _, _, _, _, _, _, rfl, h.1.1.1.1, h.1.1.1.2, h.1.1.2, h.1.2, h.2⟩)
theorem inv_trng {t : Bool} {a : E} (h : chkE N sc (.trng t a) e = true) : ∃ x q y q2 a' q3 p, e = .Call (.Name x q) [.Call (.Name y q2) [a'] [] q3] [] p ∧ x = (if t then ("tuple" : Str) else ("list" : Str)) ∧ gloB sc x = true ∧ y = "range" ∧ gloB sc y = true ∧ chkE N sc a a' = true := by
  unfold chkE at h
  split at h <;> first | contradiction | (injections; subst_vars; simp only [Bool.and_eq_true, decide_eq_true_eq] at h; exact ⟨_, _, _, _, _, _, _, rfl, h.1.1.1.1, h.1.1.1.2, h.1.1.2, h.1.2, h.2⟩)
theorem inv_mth {k : Mth} {a : E} {es : List E} (h : chkE N sc (.mth k a es) e = true) : ∃ b a' nm ap b' cp, es = [b] ∧ e = .Call (.Attribute a' nm ap) [b'] [] cp ∧ nm = mthN k ∧ (ap.endLine == cp.line) = true ∧ notCall0 a' = true ∧ chkE N sc a a' = true ∧ chkE N sc b b' = true := by
  unfold chkE at h
  split at h <;> first | contradiction | (injections; subst_vars; simp only [Bool.and_eq_true, decide_eq_true_eq] at h; exact ⟨_, _, _, _, _, _, rfl, rfl, h.1.1.1.1, h.1.1.1.2, h.1.1.2, h.1.2, h.2⟩)
theorem inv_comp {own : List (Str × Nat)} {tg : Tg} {it : It} {elt : E} {ifs : List E} (h : chkE N sc (.comp own tg it elt ifs) e = true) : ∃ elt' tg' it' ifs' scope p, e = .ListComp elt' [⟨tg', it', ifs', 0⟩] scope p ∧ blkC N sc scope own = true ∧ chkTg N scope tg tg' = true ∧ (∀ i ∈ tg.slots, i ∈ own.map (·.2)) ∧ chkI N sc it tg' it' = true ∧ chkE N scope elt elt' = true ∧ chkEs N scope ifs ifs' = true ∧ tokBs ifs = true ∧ ifs.length ≤ 1 := by
  unfold chkE at h
  split at h <;> first | contradiction | (injections; subst_vars; simp only [Bool.and_eq_true, decide_eq_true_eq] at h; exact ⟨_, _, _, _, _, _, rfl, h.1.1.1.1.1.1.1, h.1.1.1.1.1.1.2, h.1.1.1.1.1.2, h.1.1.1.1.2, h.1.1.1.2, h.1.1.2, h.1.2, h.2⟩)
theorem inv_fldN {C i : Nat} (h : chkE N sc (.fldN C i) e = true) : ∃ x q nm p, e = .Attribute (.Name x q) nm p ∧ nm = "n" ∧ slB N i x = true ∧ visB sc x = true ∧ nmB x = true := by
  unfold chkE at h
  split at h <;> first | contradiction | (injections; subst_vars; simp only [Bool.and_eq_true, decide_eq_true_eq] at h; exact ⟨_, _, _, _, rfl, h.1.1.1, h.1.1.2, h.1.2, h.2⟩)
theorem inv_fldE {C i : Nat} (h : chkE N sc (.fldE C i) e = true) : ∃ x q nm p, e = .Attribute (.Name x q) nm p ∧ nm = "entries" ∧ slB N i x = true ∧ visB sc x = true ∧ nmB x = true := by
  unfold chkE at h
  split at h <;> first | contradiction | (injections; subst_vars; simp only [Bool.and_eq_true, decide_eq_true_eq] at h; exact ⟨_, _, _, _, rfl, h.1.1.1, h.1.1.2, h.1.2, h.2⟩)
theorem inv_lcopy {C i : Nat} (h : chkE N sc (.lcopy C i) e = true) : ∃ y q0 x q nm p p2, e = .Call (.Name y q0) [.Attribute (.Name x q) nm p] [] p2 ∧ y = "list" ∧ gloB sc y = true ∧ nm = "entries" ∧ slB N i x = true ∧ visB sc x = true ∧ nmB x = true := by
  unfold chkE at h
  split at h <;> first | contradiction | (injections; subst_vars; simp only [Bool.and_eq_true, decide_eq_true_eq] at h; exact ⟨_, _, _, _, _, _, _, rfl, h.1.1.1.1.1, h.1.1.1.1.2, h.1.1.1.2, h.1.1.2, h.1.2, h.2⟩)
theorem inv_meth {C : Nat} {f : Str} {F : D → List D → List D → Option (Except Str D × List D)} {i : Nat} {es : List E} (h : chkE N sc (.meth C f F i es) e = true) : ∃ x q nm p vs p2, e = .Call (.Attribute (.Name x q) nm p) vs [] p2 ∧ (p.endLine == p2.line) = true ∧ vs.length < 29 ∧ nm = f ∧ nm ≠ "n" ∧ nm ≠ "entries" ∧ slB N i x = true ∧ visB sc x = true ∧ nmB x = true ∧ chkEs N sc es vs = true := by
  unfold chkE at h
  split at h <;> first | contradiction | (injections; subst_vars; simp only [Bool.and_eq_true, decide_eq_true_eq] at h; exact ⟨_, _, _, _, _, _, rfl, h.1.1.1.1.1.1.1.1, h.1.1.1.1.1.1.1.2, h.1.1.1.1.1.1.2, h.1.1.1.1.1.2, h.1.1.1.1.2, h.1.1.1.2, h.1.1.2, h.1.2, h.2⟩)
theorem inv_callL {C : Nat} {f : Str} {F : D → List D → List D → Option (Except Str D × List D)} {i : Nat} {es : List E} (h : chkE N sc (.callL C f F i es) e = true) : ∃ x q y q2 vs p, e = .Call (.Name x q) (.Name y q2 :: vs) [] p ∧ x = f ∧ gloB sc x = true ∧ nmB x = true ∧ slB N i y = true ∧ visB sc y = true ∧ nmB y = true ∧ chkEs N sc es vs = true := by
  unfold chkE at h
  split at h <;> first | contradiction | (injections; subst_vars; simp only [Bool.and_eq_true, decide_eq_true_eq] at h; exact ⟨_, _, _, _, _, _, rfl, h.1.1.1.1.1.1, h.1.1.1.1.1.2, h.1.1.1.1.2, h.1.1.1.2, h.1.1.2, h.1.2, h.2⟩)
theorem inv_lenL {C : Nat} {F : D → List D → List D → Option (Except Str D × List D)} {i : Nat} (h : chkE N sc (.lenL C F i) e = true) : ∃ x q y q2 p, e = .Call (.Name x q) [.Name y q2] [] p ∧ x = "len" ∧ gloB sc x = true ∧ slB N i y = true ∧ visB sc y = true ∧ nmB y = true := by
  unfold chkE at h
  split at h <;> first | contradiction | (injections; subst_vars; simp only [Bool.and_eq_true, decide_eq_true_eq] at h; exact ⟨_, _, _, _, _, rfl, h.1.1.1.1, h.1.1.1.2, h.1.1.2, h.1.2, h.2⟩)
theorem inv_smth {k : Smt} {a b : E} (h : chkE N sc (.smth k a b) e = true) : ∃ a' nm ap b' cp, e = .Call (.Attribute a' nm ap) [b'] [] cp ∧ nm = smtN k ∧ (ap.endLine == cp.line) = true ∧ notCall0 a' = true ∧ chkE N sc a a' = true ∧ chkE N sc b b' = true := by
  unfold chkE at h
  split at h <;> first | contradiction | (injections; subst_vars; simp only [Bool.and_eq_true, decide_eq_true_eq] at h; exact ⟨_, _, _, _, _, rfl, h.1.1.1.1, h.1.1.1.2, h.1.1.2, h.1.2, h.2⟩)
theorem inv_lowr {a : E} (h : chkE N sc (.lowr a) e = true) : ∃ a' nm ap cp, e = .Call (.Attribute a' nm ap) [] [] cp ∧ nm = "lower" ∧ (ap.endLine == cp.line) = true ∧ notCall0 a' = true ∧ chkE N sc a a' = true := by
  unfold chkE at h
  split at h <;> first | contradiction | (injections; subst_vars; simp only [Bool.and_eq_true, decide_eq_true_eq] at h; exact ⟨_, _, _, _, rfl, h.1.1.1, h.1.1.2, h.1.2, h.2⟩)
theorem inv_mkE {C : Nat} {F : List D → Option (Except Str D)} {es : List E} (h : chkE N sc (.mkE C F es) e = true) : ∃ x q v vs p, e = .Call (.Name x q) (v :: vs) [] p ∧ x = "Lab" ∧ gloB sc x = true ∧ chkEs N sc es (v :: vs) = true := by
  unfold chkE at h
  split at h <;> first | contradiction | (injections; subst_vars; simp only [Bool.and_eq_true, decide_eq_true_eq] at h; exact ⟨_, _, _, _, _, rfl, h.1.1, h.1.2, h.2⟩)
theorem inv_mkM {C : Nat} {F : List D → Option (Except Str D)} {es : List E} {f : Str} {F1 : D → List D → List D → Option (Except Str D × List D)} {es1 : List E} (h : chkE N sc (.mkM C F es f F1 es1) e = true) : ∃ x q v vs p nm p1 us p2, e = .Call (.Attribute (.Call (.Name x q) (v :: vs) [] p) nm p1) us [] p2 ∧ (p1.endLine == p2.line) = true ∧ us.length < 29 ∧ x = "Lab" ∧ gloB sc x = true ∧ nm = f ∧ nm ≠ "n" ∧ nm ≠ "entries" ∧ chkEs N sc es (v :: vs) = true ∧ chkEs N sc es1 us = true := by
  unfold chkE at h
  split at h <;> first | contradiction | (injections; subst_vars; simp only [Bool.and_eq_true, decide_eq_true_eq] at h; exact ⟨_, _, _, _, _, _, _, _, _, rfl, h.1.1.1.1.1.1.1.1, h.1.1.1.1.1.1.1.2, h.1.1.1.1.1.1.2, h.1.1.1.1.1.2, h.1.1.1.1.2, h.1.1.1.2, h.1.1.2, h.1.2, h.2⟩)
theorem inv_told {a : E} (h : chkE N sc (.told a) e = true) : ∃ x q params body scope q2 p, e = .Call (.Name x q) [.Lambda params body scope q2] [] p ∧ x = "_law_told" ∧ gloB sc x = true ∧ LamX.lamSB sc scope = true ∧ noArgs params = true ∧ chkE N scope a body = true := by
  unfold chkE at h
  split at h <;> first | contradiction | (injections; subst_vars; simp only [Bool.and_eq_true, decide_eq_true_eq] at h; exact ⟨_, _, _, _, _, _, _, rfl, h.1.1.1.1, h.1.1.1.2, h.1.1.2, h.1.2, h.2⟩)
end
end TO

set_option Elab.async false
set_option linter.all false
set_option maxRecDepth 100000
set_option maxHeartbeats 8000000
/-! Every expression that the look takes does what its text says. -/
namespace TO
open PySem PySem.Spec L2

def WO (X : Cx) (e : Option Expr) : TO := fun σ H Q => ∀ pins s, Inv X pins σ H s → wpAny (model X.prog X.w) X.A (evalPart e X.env) (fun u s' => ∃ o H', Inv X pins σ H' s' ∧ IsPart u o ∧ Q o H') X.xe s
theorem pWO {X : Cx} {e : Option Expr} : PO X e (WO X e) := ⟨fun pins s σ H Q I h => h pins s I⟩
theorem toWO {X : Cx} {e : Option Expr} {t : TO} {σ : L2.St} {H : Hp} {Q : Option Int → Hp → Prop} (h : PO X e t) (q : t σ H Q) : WO X e σ H Q := fun pins s I => h.run pins s σ H Q I q
def SOp (c : Ct) (sc : Scope) (o : EO) (e : Option Expr) : Prop := ∀ X Ek, GX c sc X Ek → ∀ n ad Fx G H m env σ r m' (Q : Option Int → Hp → Prop), n.T = c.T → SI n ad Fx G H m → RE ad G env σ → evo o env m = some (r, m') →
  (∀ v, r = .ok v → ∀ G' H', SI n ad Fx G' H' m' → Same G G' → Q v H') → ErrP c n ad Fx Ek m' r → WO X e σ H Q
def WSl (X : Cx) : V → Option Int → Option Int → Hp → VK → Prop := fun x lo hi H Q => ∀ (pins : List (Addr × Obj)) (s : Shared) (σ : L2.St) (v vl vu : Value) (sl : Addr), Inv X pins σ H s → RelV x v → s.heap.IsSliceOf sl vl vu .none → IsPart vl lo → IsPart vu hi →
    ∃ T id, typeLookup (.type T) "__getitem__" = pure (some (.builtin id)) ∧ s.TypeIs v T ∧ wpAny (model X.prog X.w) X.A (getItem v (.ref sl)) (EP X pins σ Q) X.xe s
theorem pWSl {X : Cx} : SlR X (WSl X) := fun pins s σ H x v vl vu lo hi sl Q I rx hs pl pu h => h pins s σ v vl vu sl I rx hs pl pu
theorem toSl {X : Cx} {r : V → Option Int → Option Int → Hp → VK → Prop} {x : V} {lo hi : Option Int} {H : Hp} {Q : VK} (h : SlR X r) (q : r x lo hi H Q) : WSl X x lo hi H Q := fun pins s σ v vl vu sl I rx hs pl pu => h pins s σ H x v vl vu lo hi sl Q I rx hs pl pu q
def WIx (X : Cx) : R2 := fun x y H Q => ∀ (value slice : Expr) (pins : List (Addr × Obj)) (s : Shared) (σ : L2.St) (v u : Value), Inv X pins σ H s → RelV x v → RelV y u →
    subscripted slice false v u = operate [v, u] (getItem v u) → wpAny (model X.prog X.w) X.A (PyProof.Rows.subscriptTail value slice v u) (EP X pins σ Q) X.xe s
theorem pWIx {X : Cx} : IxR X (WIx X) := fun value slice pins s σ H x y v u Q I rx ry h he => h value slice pins s σ v u I rx ry he
theorem toIx {X : Cx} {r : R2} {x y : V} {H : Hp} {Q : VK} (h : IxR X r) (q : r x y H Q) : WIx X x y H Q := fun value slice pins s σ v u I rx ry he => h value slice pins s σ H x y v u Q I rx ry q he
section
variable {c : Ct} {sc : Scope} {X : Cx} {Ek : XK} {n : Ent} {ad : List (Option Addr)} {Fx : Addr → Option (List V)} {G H : Hp} {m m' : Mu} {env : En} {σ : L2.St}
theorem cst_val {d : D} {k : Const} {j : Nat} {p : Pos} (h : cstB d k = true) : ∃ v, PE X (.Constant k j p) (tC v) ∧ ∀ G, Rp G v d := by
  cases d <;> cases k <;> simp [cstB] at h
  · exact ⟨.non, pe_non, fun _ => rfl⟩
  · subst h; exact ⟨.bl _, pe_bl, fun _ => rfl⟩
  · subst h; exact ⟨.int _, pe_int, fun _ => rfl⟩
  · subst h; exact ⟨.str _, pe_str, fun _ => rfl⟩
theorem rp_any {v : V} {d : D} (h : Rp (fun _ => none) v d) (G : Hp) : Rp G v d := Rp.mono (fun b o e => by cases e) d v h
theorem at_rp {xs : List D} {vs : List V} {i : Int} {d : D} (r : RpA G vs xs) (h : atI xs i = some d) : ∃ v, atI vs i = some v ∧ Rp G v d := by
  unfold atI at h ⊢
  rw [r.length]
  cases e : ixN xs.length i with
  | none => rw [e] at h; cases h
  | some j =>
    rw [e] at h
    exact r.get h
theorem ix_ok {d e g : D} {x y : V} {Q : VK} (h : ixD d e = some g) (s : SI n ad Fx G H m) (hx : Rp G x d) (hy : Rp G y e) (q : Fin n ad Fx G m g Q) : WIx X x y H Q := by
  cases e with
  | int i =>
    cases hy
    cases d with
    | list xs =>
      obtain ⟨a, vs, rfl, ha, ra⟩ := hx.lst s
      obtain ⟨v, h1, h2⟩ := at_rp ra (show atI xs i = some g from h)
      exact toIx ix_list ⟨a, vs, i, v, rfl, rfl, SqL.of ha, h1, q.val s h2⟩
    | tuple xs =>
      obtain ⟨a, vs, rfl, ha, ra⟩ := hx.tup s
      obtain ⟨v, h1, h2⟩ := at_rp ra (show atI xs i = some g from h)
      exact toIx ix_tup ⟨a, vs, i, v, rfl, rfl, ha.sq, h1, q.val s h2⟩
    | str z =>
      cases hx
      simp only [ixD, Option.ite_none_right_eq_some, Option.map_eq_some_iff] at h
      obtain ⟨hl, k, h1, rfl⟩ := h
      exact toIx ix_str ⟨z, i, k, rfl, rfl, Nat.le_trans hl lim_le, h1, q.val s rfl⟩
    | _ => simp [ixD] at h
  | _ => cases d <;> simp [ixD] at h
theorem cut_rp {xs : List D} {vs : List V} (r : RpA G vs xs) (lo hi : Option Int) : RpA G (cutV vs lo hi) (cutD xs lo hi) := by
  unfold cutV cutD
  rw [r.length]
  exact (r.drop _).take _
theorem sl_ok {d g : D} {x : V} {lo hi : Option Int} {Q : VK} (h : slcD d lo hi = some g) (s : SI n ad Fx G H m) (hx : Rp G x d) (q : Fin n ad Fx G m g Q) : WSl X x lo hi H Q := by
  cases d with
  | list xs =>
    cases h
    obtain ⟨a, vs, rfl, ha, ra⟩ := hx.lst s
    exact toSl sl_list ⟨a, vs, rfl, SqL.of ha, fun p hp => q.lst s hp (cut_rp ra lo hi)⟩
  | tuple xs =>
    cases h
    have hx0 := hx
    obtain ⟨a, vs, rfl, ha, ra⟩ := hx.tup s
    refine toSl sl_tupF ⟨a, vs, rfl, ha.sq, fun e => ?_, q.tup s (cut_rp ra lo hi)⟩
    have rc := cut_rp ra lo hi
    rw [e] at rc
    obtain ⟨o, od, ho⟩ := ha
    obtain ⟨a', vs', e', ⟨o', od', h2⟩, _⟩ := hx0
    cases e'
    have := s.sub a _ h2
    rw [ho] at this
    cases this
    exact q.val s ⟨a, vs, rfl, ⟨o, od, h2⟩, rc⟩
  | str z =>
    simp only [slcD, Option.ite_none_right_eq_some, Option.some.injEq] at h
    obtain ⟨h1, rfl⟩ := h
    cases hx
    exact toSl sl_str ⟨z, rfl, Nat.le_trans h1 lim_le, q.val s rfl⟩
  | _ => simp [slcD] at h
end
/-- a test by its value alone -/
theorem snd_of {c : Ct} {sc : Scope} {ir : E} {e : Expr} (h : SE c sc ir e) (he : ∀ (env : Env) whole, isTrue e env whole = (do let v ← whole; standAt e.pos; holding [v] (truthy v))) (hp : plainE e = true) : Snd c sc ir e := ⟨h, fun _ => ST.of h he, hp⟩
mutual
theorem sE : ∀ (ir : E) (c : Ct) (sc : Scope) (e : Expr), chkE c.N sc ir e = true → okE c ir → Snd c sc ir e
  | .cst d, c, sc, e, h, _ => by
    obtain ⟨k, j, p, rfl, hk⟩ := inv_cst h
    refine snd_of (fun X Ek gx n ad Fx G H m env σ r m' Q hT s re h q er => ?_) (fun _ _ => rfl) rfl
    cases h
    obtain ⟨v, hp, hr⟩ := cst_val (X := X) (j := j) (p := p) hk
    exact toWE hp (q d rfl v G H s (Same.refl G) (hr G))
  | .var i, c, sc, e, h, _ => by
    obtain ⟨x, p, rfl, h1, h2, h3⟩ := inv_var h
    refine snd_of (fun X Ek gx n ad Fx G H m env σ r m' Q hT s re h q er => ?_) (fun _ _ => rfl) rfl
    refine toWE (pe_var (i := i) (sl_of gx h1) (gx.vis h2) (nm_d h3) (nm_c h3)) ?_
    simp only [ev] at h
    cases ee : env[i]? with
    | none => rw [ee] at h; cases h
    | some o =>
      rw [ee] at h
      cases o with
      | none => cases h
      | some o =>
        cases o with
        | obj j => cases h
        | lab _ _ _ => cases h
        | labF _ _ _ => cases h
        | val d =>
          cases h
          obtain ⟨v, hv, rv⟩ := re.val ee
          exact ⟨v, hv, q d rfl v G H s (Same.refl G) rv⟩
  | .glob y d, c, sc, e, h, ok => by
    obtain ⟨x, p, rfl, rfl, h2, h3⟩ := inv_glob h
    refine snd_of (fun X Ek gx n ad Fx G H m env σ r m' Q hT s re h q er => ?_) (fun _ _ => rfl) rfl
    simp only [okE] at ok
    obtain ⟨u, v, hm, rv, rd⟩ := ok
    cases h
    exact toWE (pe_glob (gx.gl h2) (by rw [gx.em]; exact hm) rv (nm_d h3)) (q d rfl v G H s (Same.refl G) (rp_any rd G))
  | .neg a, c, sc, e, h, ok => by
    obtain ⟨b, p, rfl, h1⟩ := inv_neg h
    have A := sE a c sc b h1 (by simpa only [okE] using ok)
    refine snd_of (fun X Ek gx n ad Fx G H m env σ r m' Q hT s re h q er => ?_) (fun _ _ => rfl) rfl
    simp only [ev] at h
    refine toWE (pe_un un_neg (pWE (e := b))) (A.1.use gx hT s re h er fun d m1 v G1 H1 e1 s1 g1 r1 => ?_)
    cases d with
    | int i =>
      cases e1
      cases r1
      exact ⟨i, rfl, q _ rfl _ G1 H1 s1 g1 rfl⟩
    | _ => cases e1
  | .bin o a b, c, sc, e, h, ok => by
    obtain ⟨a', op, b', p, rfl, rfl, h1, h2⟩ := inv_bin h
    simp only [okE] at ok
    have A := sE a c sc a' h1 ok.1
    have B := sE b c sc b' h2 ok.2
    refine snd_of (fun X Ek gx n ad Fx G H m env σ r m' Q hT s re h q er => ?_) (fun _ _ => rfl) rfl
    simp only [ev] at h
    refine toWE (pe_op pWOp (pWE (e := a')) (pWE (e := b'))) (A.1.use gx hT s re h er fun d m1 v G1 H1 e1 s1 g1 r1 => B.1.use gx hT s1 (re.mono g1) e1 er fun d2 m2 v2 G2 H2 e2 s2 g2 r2 => ?_)
    obtain ⟨g, hg, eg⟩ := opt_some e2
    cases eg
    exact bin_ok o hg s2 (Rp.mono g2 _ _ r1) r2 fun w G3 H3 s3 g3 => q g rfl w G3 H3 s3 ((g1.trans g2).trans g3)
  | .cmp o a b, c, sc, e, h, ok => by
    obtain ⟨a', op, b', p, rfl, rfl, h1, h2⟩ := inv_cmp h
    simp only [okE] at ok
    have A := sE a c sc a' h1 ok.1
    have B := sE b c sc b' h2 ok.2
    have mk := plain_mark (op := copO o) B.2.2
    refine ⟨fun X Ek gx n ad Fx G H m env σ r m' Q hT s re h q er => ?_, fun _ X Ek gx n ad Fx G H m env σ r m' Q hT s re h q er => ?_, rfl⟩
    · simp only [ev] at h
      refine toWE (pe_cmpR pWOp (pWE (e := a')) (pWE (e := b')) mk) (A.1.use gx hT s re h er fun d m1 v G1 H1 e1 s1 g1 r1 => B.1.use gx hT s1 (re.mono g1) e1 er fun d2 m2 v2 G2 H2 e2 s2 g2 r2 => ?_)
      obtain ⟨g, hg, eg⟩ := opt_some e2
      cases eg
      obtain ⟨t, ht, rfl⟩ := Option.map_eq_some_iff.mp hg
      exact cmp_ok gx o ht s2 (Rp.mono g2 _ _ r1) r2 (q _ rfl _ G2 H2 s2 (g1.trans g2) rfl)
    · simp only [ev] at h
      refine toWT (pt_cmpR pWOp (pWE (e := a')) (pWE (e := b')) mk) ?_
      rcases tst_bnd h with ⟨d, m1, h3, h4⟩ | ⟨x, m1, h3, h4⟩
      · refine A.1.val gx hT s re h3 fun v G1 H1 s1 g1 r1 => ?_
        rcases tst_bnd h4 with ⟨d2, m2, h5, h6⟩ | ⟨x, m2, h5, h6⟩
        · refine B.1.val gx hT s1 (re.mono g1) h5 fun v2 G2 H2 s2 g2 r2 => ?_
          cases ht : cmpD o d d2 with
          | none => rw [ht] at h6; cases h6
          | some t =>
            rw [ht] at h6
            cases h6
            exact cmp_ok gx o ht s2 (Rp.mono g2 _ _ r1) r2 ⟨t, rfl, q t rfl G2 H2 s2 (g1.trans g2)⟩
        · cases h6
          exact B.1.err gx hT s1 (re.mono g1) h5 er
      · cases h4
        exact A.1.err gx hT s re h3 er
  | .chain o p a b d, c, sc, e, h, ok => by
    obtain ⟨a', op, op', b', d', q0, rfl, rfl, rfl, h1, h2, h3⟩ := inv_chain h
    simp only [okE] at ok
    have A := sE a c sc a' h1 ok.1
    have B := sE b c sc b' h2 ok.2.1
    have C := sE d c sc d' h3 ok.2.2
    have mk : lastMarks [copO o, copO p] [b', d'] = false := plain_mark (op := copO p) C.2.2
    have key : ∀ X Ek, GX c sc X Ek → ∀ n ad Fx G H m env σ r m' (Q : VK), n.T = c.T → SI n ad Fx G H m → RE ad G env σ → ev (.chain o p a b d) env m = some (r, m') →
        (∀ d, r = .ok d → ∃ t, d = .bool t ∧ ∀ G' H', SI n ad Fx G' H' m' → Same G G' → Q (.bl t) H') → ErrP c n ad Fx Ek m' r → tChain (WOp X (compareOp (copO o))) (WOp X (compareOp (copO p))) (WE X a') (WE X b') (WE X d') σ H Q := by
      intro X Ek gx n ad Fx G H m env σ r m' Q hT s re h q er
      simp only [ev] at h
      refine A.1.use gx hT s re h er fun d1 m1 v1 G1 H1 e1 s1 g1 r1 => B.1.use gx hT s1 (re.mono g1) e1 er fun d2 m2 v2 G2 H2 e2 s2 g2 r2 => ?_
      cases ht : cmpD o d1 d2 with
      | none => rw [ht] at e2; cases e2
      | some t =>
        rw [ht] at e2
        refine cmp_ok gx o ht s2 (Rp.mono g2 _ _ r1) r2 ⟨t, rfl, ?_⟩
        cases t with
        | true =>
          refine iteT (C.1.use gx hT s2 (re.mono (g1.trans g2)) e2 er fun d3 m3 v3 G3 H3 e3 s3 g3 r3 => ?_)
          obtain ⟨g, hg, eg⟩ := opt_some e3
          cases eg
          obtain ⟨t, ht, rfl⟩ := Option.map_eq_some_iff.mp hg
          obtain ⟨t', et, q'⟩ := q _ rfl
          cases et
          exact cmp_ok gx p ht s3 (Rp.mono g3 _ _ r2) r3 (q' G3 H3 s3 ((g1.trans g2).trans g3))
        | false =>
          cases e2
          obtain ⟨t', et, q'⟩ := q _ rfl
          cases et
          exact iteF (q' G2 H2 s2 (g1.trans g2))
    refine ⟨fun X Ek gx n ad Fx G H m env σ r m' Q hT s re h q er => ?_, fun _ X Ek gx n ad Fx G H m env σ r m' Q hT s re h q er => ?_, rfl⟩
    · refine toWE (pe_chain pWOp pWOp (pWE (e := a')) (pWE (e := b')) (pWE (e := d')) mk) ?_
      refine key X Ek gx n ad Fx G H m env σ r m' Q hT s re h (fun g eg => ?_) er
      subst eg
      have : ∃ t, g = .bool t := by
        simp only [ev] at h
        rcases bnd_some h with ⟨d1, m1, h4, h5⟩ | ⟨x, m1, h4, h5⟩
        · rcases bnd_some h5 with ⟨d2, m2, h6, h7⟩ | ⟨x, m2, h6, h7⟩
          · cases ht : cmpD o d1 d2 with
            | none => rw [ht] at h7; cases h7
            | some t =>
              rw [ht] at h7
              cases t with
              | true =>
                rcases bnd_some h7 with ⟨d3, m3, h8, h9⟩ | ⟨x, m3, h8, h9⟩
                · obtain ⟨g', hg, eg⟩ := opt_some h9
                  cases eg
                  obtain ⟨t, _, rfl⟩ := Option.map_eq_some_iff.mp hg
                  exact ⟨t, rfl⟩
                · cases h9
              | false => cases h7; exact ⟨false, rfl⟩
          · cases h7
        · cases h5
      obtain ⟨t, rfl⟩ := this
      exact ⟨t, rfl, fun G' H' s' g' => q _ rfl _ G' H' s' g' rfl⟩
    · refine toWT (pt_chain pWOp pWOp (pWE (e := a')) (pWE (e := b')) (pWE (e := d')) mk) ?_
      unfold tstD at h
      rcases bnd_some h with ⟨g, m1, h4, h5⟩ | ⟨x, m1, h4, h5⟩
      · refine key X Ek gx n ad Fx G H m env σ _ _ _ hT s re h4 (fun g' eg => ?_) (fun x e => by cases e)
        cases eg
        cases g with
        | bool t =>
          cases h5
          exact ⟨t, rfl, fun G' H' s' g' => ⟨t, rfl, q t rfl G' H' s' g'⟩⟩
        | _ => cases h5
      · cases h5
        exact key X Ek gx n ad Fx G H m env σ _ _ _ hT s re h4 (fun g' eg => by cases eg) (fun y e => by cases e; exact er x rfl)
  | .andE es, c, sc, e, h, ok => by
    obtain ⟨vs, p, rfl, h1⟩ := inv_andE h
    have A := sEs es c sc vs h1 (by simpa only [okE] using ok)
    refine ⟨fun X Ek gx n ad Fx G H m env σ r m' Q hT s re h q er => ?_, fun ht X Ek gx n ad Fx G H m env σ r m' Q hT s re h q er => ?_, rfl⟩
    · simp only [ev] at h
      exact and_of A X Ek gx n ad Fx G H m env σ r m' Q hT s re h q er
    · simp only [ev] at h
      simp only [tokB] at ht
      exact toWT (PW.pt (pWW (e := .BoolOp .And vs p))) (tand_of A ht X Ek gx n ad Fx G H m env σ r m' Q hT s re h q er)
  | .orE es, c, sc, e, h, ok => by
    obtain ⟨vs, p, rfl, h1⟩ := inv_orE h
    have A := sEs es c sc vs h1 (by simpa only [okE] using ok)
    refine ⟨fun X Ek gx n ad Fx G H m env σ r m' Q hT s re h q er => ?_, fun ht X Ek gx n ad Fx G H m env σ r m' Q hT s re h q er => ?_, rfl⟩
    · simp only [ev] at h
      exact or_of A X Ek gx n ad Fx G H m env σ r m' Q hT s re h q er
    · simp only [ev] at h
      simp only [tokB] at ht
      exact toWT (PW.pt (pWW (e := .BoolOp .Or vs p))) (tor_of A ht X Ek gx n ad Fx G H m env σ r m' Q hT s re h q er)
  | .notE a, c, sc, e, h, ok => by
    obtain ⟨b, p, rfl, h1⟩ := inv_notE h
    have A := sE a c sc b h1 (by simpa only [okE] using ok)
    refine ⟨fun X Ek gx n ad Fx G H m env σ r m' Q hT s re h q er => ?_, fun ht X Ek gx n ad Fx G H m env σ r m' Q hT s re h q er => ?_, rfl⟩
    · simp only [ev] at h
      refine toWE (pe_not (pWE (e := b))) (A.1.use gx hT s re h er fun d m1 v G1 H1 e1 s1 g1 r1 => ?_)
      cases d with
      | bool t =>
        cases e1
        cases r1
        exact ⟨t, rfl, q _ rfl _ G1 H1 s1 g1 rfl⟩
      | _ => cases e1
    · simp only [ev] at h
      simp only [tokB] at ht
      refine toWT (pt_not (pWT (e := b))) ((A.2.1 ht).part gx hT s re h er (fun d m1 hd => ?_) fun t m1 G1 H1 e1 s1 g1 => ?_)
      · cases d <;> first | exact ⟨_, rfl⟩ | (simp [tstD, bnd] at hd)
      · cases e1
        exact q _ rfl G1 H1 s1 g1
  | .ife t a b, c, sc, e, h, ok => by
    obtain ⟨t', a', b', p, rfl, h1, h2, h3, h4⟩ := inv_ife h
    simp only [okE] at ok
    have Te := sE t c sc t' h1 ok.1
    have A := sE a c sc a' h3 ok.2.1
    have B := sE b c sc b' h4 ok.2.2
    refine ⟨fun X Ek gx n ad Fx G H m env σ r m' Q hT s re h q er => ?_, fun ht => by simp [tokB] at ht, rfl⟩
    simp only [ev] at h
    refine toWE (pe_ifExp (pWT (e := t')) (pWE (e := a')) (pWE (e := b'))) ?_
    rcases bnd_some h with ⟨d, m1, h5, h6⟩ | ⟨x, m1, h5, h6⟩
    · cases d with
      | bool z =>
        refine Te.2.1 h2 X Ek gx n ad Fx G H m env σ (.ok z) m1 _ hT s re (by rw [h5]; rfl) (fun z' e G1 H1 s1 g1 => ?_) (fun x e => by cases e)
        cases e
        cases z with
        | true => exact iteT (A.1 X Ek gx n ad Fx G1 H1 m1 env σ r m' Q hT s1 (re.mono g1) h6 (fun d e v G2 H2 s2 g2 => q d e v G2 H2 s2 (g1.trans g2)) er)
        | false => exact iteF (B.1 X Ek gx n ad Fx G1 H1 m1 env σ r m' Q hT s1 (re.mono g1) h6 (fun d e v G2 H2 s2 g2 => q d e v G2 H2 s2 (g1.trans g2)) er)
      | _ => cases h6
    · cases h6
      exact Te.2.1 h2 X Ek gx n ad Fx G H m env σ (.error x) _ _ hT s re (by rw [h5]; rfl) (fun z' e => by cases e) (fun y e => by cases e; exact er x rfl)
  | .ix a b, c, sc, e, h, ok => by
    obtain ⟨a', b', p, rfl, h1, h2⟩ := inv_ix h
    simp only [okE] at ok
    have A := sE a c sc a' h1 ok.1
    have B := sE b c sc b' h2 ok.2
    refine snd_of (fun X Ek gx n ad Fx G H m env σ r m' Q hT s re h q er => ?_) (fun _ _ => rfl) rfl
    simp only [ev] at h
    refine toWE (pe_ix pWIx (pWE (e := a')) (pWE (e := b')) (plain_ix B.2.2)) (A.1.use gx hT s re h er fun d m1 v G1 H1 e1 s1 g1 r1 => B.1.use gx hT s1 (re.mono g1) e1 er fun d2 m2 v2 G2 H2 e2 s2 g2 r2 => ?_)
    obtain ⟨g, hg, eg⟩ := opt_some e2
    cases eg
    exact ix_ok hg s2 (Rp.mono g2 _ _ r1) r2 fun w G3 H3 s3 g3 => q g rfl w G3 H3 s3 ((g1.trans g2).trans g3)
  | .oix i b, c, sc, e, h, ok => by
    obtain ⟨x, q0, b', p, rfl, h1, h2, h3, h4⟩ := inv_oix h
    have B := sE b c sc b' h4 (by simpa only [okE] using ok)
    refine snd_of (fun X Ek gx n ad Fx G H m env σ r m' Q hT s re h q er => ?_) (fun _ _ => rfl) rfl
    simp only [ev] at h
    refine toWE (pe_ix ix_list (pe_var (i := i) (sl_of gx h1) (gx.vis h2) (nm_d h3) (nm_c h3)) (pWE (e := b')) (plain_ix B.2.2)) ?_
    cases ee : env[i]? with
    | none => rw [ee] at h; cases h
    | some o =>
      rw [ee] at h
      cases o with
      | none => cases h
      | some o =>
        cases o with
        | val d => cases h
        | lab _ _ _ => cases h
        | labF _ _ _ => cases h
        | obj j =>
          obtain ⟨a, hσ, ha⟩ := re.obj ee
          refine ⟨.ref a, hσ, B.1.use gx hT s re h er fun d m1 v G1 H1 e1 s1 g1 r1 => ?_⟩
          cases em : m1[j]? with
          | none => rw [em] at e1; cases e1
          | some o =>
            rw [em] at e1
            cases o with
            | none => cases e1
            | some xs =>
              obtain ⟨g, hg, eg⟩ := opt_some e1
              cases eg
              obtain ⟨a', ws, ha', hH, rw'⟩ := s1.mu.get em
              rw [ha] at ha'
              cases ha'
              cases d with
              | int k =>
                cases r1
                obtain ⟨v, hv, rv⟩ := at_rp rw' (show atI xs k = some g from hg)
                exact ⟨a, ws, k, v, rfl, rfl, SqL.of hH, hv, q g rfl v G1 H1 s1 g1 rv⟩
              | _ => cases hg
  | .slc a lo hi, c, sc, e, h, ok => by
    obtain ⟨a', l', h', q0, p, rfl, h1, h2, h3⟩ := inv_slc h
    simp only [okE] at ok
    have A := sE a c sc a' h1 ok.1
    have L := sO lo c sc l' h2 ok.2.1
    have U := sO hi c sc h' h3 ok.2.2
    refine snd_of (fun X Ek gx n ad Fx G H m env σ r m' Q hT s re h q er => ?_) (fun _ _ => rfl) rfl
    simp only [ev] at h
    refine toWE (pe_slice pWSl (pWE (e := a')) (pWO (e := l')) (pWO (e := h'))) (A.1.use gx hT s re h er fun d m1 v G1 H1 e1 s1 g1 r1 => ?_)
    rcases bnd_some e1 with ⟨x, m2, h4, h5⟩ | ⟨x, m2, h4, h5⟩
    · refine L X Ek gx n ad Fx G1 H1 m1 env σ _ _ _ hT s1 (re.mono g1) h4 (fun x' ex G2 H2 s2 g2 => ?_) (fun x e => by cases e)
      cases ex
      rcases bnd_some h5 with ⟨y, m3, h6, h7⟩ | ⟨y, m3, h6, h7⟩
      · refine U X Ek gx n ad Fx G2 H2 m2 env σ _ _ _ hT s2 (re.mono (g1.trans g2)) h6 (fun y' ey G3 H3 s3 g3 => ?_) (fun x e => by cases e)
        cases ey
        obtain ⟨g, hg, eg⟩ := opt_some h7
        cases eg
        exact sl_ok hg s3 (Rp.mono (g2.trans g3) _ _ r1) fun w G4 H4 s4 g4 => q g rfl w G4 H4 s4 (((g1.trans g2).trans g3).trans g4)
      · cases h7
        exact U X Ek gx n ad Fx G2 H2 m2 env σ _ _ _ hT s2 (re.mono (g1.trans g2)) h6 (fun y' ey => by cases ey) (fun z e => by cases e; exact er y rfl)
    · cases h5
      exact L X Ek gx n ad Fx G1 H1 m1 env σ _ _ _ hT s1 (re.mono g1) h4 (fun y' ey => by cases ey) (fun z e => by cases e; exact er x rfl)
  | .tup es, c, sc, e, h, ok => by
    obtain ⟨vs, k, p, rfl, h1⟩ := inv_tup h
    have A := sEs es c sc vs h1 (by simpa only [okE] using ok)
    refine snd_of (fun X Ek gx n ad Fx G H m env σ r m' Q hT s re h q er => ?_) (fun _ _ => rfl) rfl
    simp only [ev] at h
    refine toWE (pe_tupF (pWA (es := vs))) ((sa_of A).use gx hT s re h er fun ds m1 ws G1 H1 e1 s1 g1 r1 => ?_)
    by_cases hl : ds.length ≤ lim
    · rw [if_pos hl] at e1
      cases e1
      exact ⟨by rw [r1.length]; exact Nat.le_trans hl lim_le, (show Fin n ad Fx G1 _ (.tuple ds) Q from fun w G3 H3 s3 g3 => q _ rfl w G3 H3 s3 (g1.trans g3)).tup s1 r1⟩
    · rw [if_neg hl] at e1
      cases e1
  | .lst es, c, sc, e, h, ok => by
    obtain ⟨vs, p, rfl, h1⟩ := inv_lst h
    have A := sEs es c sc vs h1 (by simpa only [okE] using ok)
    refine snd_of (fun X Ek gx n ad Fx G H m env σ r m' Q hT s re h q er => ?_) (fun _ _ => rfl) rfl
    simp only [ev] at h
    refine toWE (pe_lst (pWA (es := vs))) ((sa_of A).use gx hT s re h er fun ds m1 ws G1 H1 e1 s1 g1 r1 => ?_)
    by_cases hl : ds.length ≤ lim
    · rw [if_pos hl] at e1
      cases e1
      exact ⟨by rw [r1.length]; exact Nat.le_trans hl lim_le, fun l hl => (show Fin n ad Fx G1 _ (.list ds) Q from fun w G3 H3 s3 g3 => q _ rfl w G3 H3 s3 (g1.trans g3)).lst s1 hl r1⟩
    · rw [if_neg hl] at e1
      cases e1
  | .call f F es, c, sc, e, h, ok => by
    obtain ⟨x, q, v, vs, p, rfl, h1, h2, h3, h4⟩ := inv_call h
    simp only [okE] at ok
    exact snd_of (call_se h1 h2 h3 ok.1 (sEs es c sc (v :: vs) h4 ok.2)) (fun _ _ => rfl) rfl
  | .callD f F i es, c, sc, e, h, ok => by
    obtain ⟨x, q, y, q2, vs, p, rfl, h1, h2, h3, h4, h5, h6, h7⟩ := inv_callD h
    simp only [okE] at ok
    exact snd_of (callD_se h1 h2 h3 h4 h5 h6 ok.1 (sEs es c sc vs h7 ok.2)) (fun _ _ => rfl) rfl
  | .bi b es, c, sc, e, h, ok => by
    obtain ⟨x, q, v, vs, p, rfl, h1, h2, h3⟩ := inv_bi h
    exact snd_of (bi_se h1 h2 (sEs es c sc (v :: vs) h3 (by simpa only [okE] using ok))) (fun _ _ => rfl) rfl
  | .isi a k, c, sc, e, h, ok => by
    obtain ⟨x, q, a', y, q2, p, rfl, h1, h2, h3, h4, h5⟩ := inv_isi h
    exact snd_of (isi_se h1 h2 h3 h4 (sE a c sc a' h5 (by simpa only [okE] using ok))) (fun _ _ => rfl) rfl
  | .lenset a, c, sc, e, h, ok => by
    obtain ⟨x, q, y, q2, a', q3, p, rfl, h1, h2, h3, h4, h5⟩ := inv_lenset h
    exact snd_of (lenset_se h1 h2 h3 h4 (sE a c sc a' h5 (by simpa only [okE] using ok))) (fun _ _ => rfl) rfl
  | .lend i a, c, sc, e, h, ok => lend_snd (sE a c sc e (by simpa only [chkE] using h) (by simpa only [okE] using ok))
  | .fldN C i, c, sc, e, h, ok => by
    obtain ⟨x, q, nm, p, rfl, rfl, h1, h2, h3⟩ := inv_fldN h
    exact snd_of (fldN_se h1 h2 h3 (by simpa only [okE] using ok)) (fun _ _ => rfl) rfl
  | .fldE C i, c, sc, e, h, ok => by
    obtain ⟨x, q, nm, p, rfl, rfl, h1, h2, h3⟩ := inv_fldE h
    exact snd_of (fldE_se h1 h2 h3 (by simpa only [okE] using ok)) (fun _ _ => rfl) rfl
  | .lcopy C i, c, sc, e, h, ok => by
    obtain ⟨y, q0, x, q, nm, p, p2, rfl, rfl, hg, rfl, h1, h2, h3⟩ := inv_lcopy h
    exact snd_of (lcopy_se hg h1 h2 h3 (by simpa only [okE] using ok)) (fun _ _ => rfl) rfl
  | .meth C f F i es, c, sc, e, h, ok => by
    obtain ⟨x, q, nm, p, vs, p2, rfl, hl, hv, rfl, n1, n2, h1, h2, h3, h4⟩ := inv_meth h
    simp only [okE] at ok
    exact snd_of (meth_se hl hv n1 n2 h1 h2 h3 ok.1.1 ok.1.2 (sEs es c sc vs h4 ok.2)) (fun _ _ => rfl) rfl
  | .callL C f F i es, c, sc, e, h, ok => by
    obtain ⟨x, q, y, q2, vs, p, rfl, h1, h2, h3, h4, h5, h6, h7⟩ := inv_callL h
    simp only [okE] at ok
    exact snd_of (callL_se h1 h2 h3 h4 h5 h6 ok.1 (sEs es c sc vs h7 ok.2)) (fun _ _ => rfl) rfl
  | .lenL C F i, c, sc, e, h, ok => by
    obtain ⟨x, q, y, q2, p, rfl, rfl, h1, h2, h3, h4⟩ := inv_lenL h
    exact snd_of (lenL_se h1 h2 h3 h4 (by simpa only [okE] using ok)) (fun _ _ => rfl) rfl
  | .smth k a b, c, sc, e, h, ok => by
    obtain ⟨a', nm, ap, b', cp, rfl, h1, h2, h3, h4, h5⟩ := inv_smth h
    simp only [okE] at ok
    exact snd_of (smth_se h1 h2 h3 (sE a c sc a' h4 ok.1) (sE b c sc b' h5 ok.2)) (fun _ _ => rfl) rfl
  | .lowr a, c, sc, e, h, ok => by
    obtain ⟨a', nm, ap, cp, rfl, rfl, h2, h3, h4⟩ := inv_lowr h
    simp only [okE] at ok
    exact snd_of (lowr_se h2 h3 (sE a c sc a' h4 ok)) (fun _ _ => rfl) rfl
  | .mkE C F es, c, sc, e, h, ok => by
    obtain ⟨x, q, v, vs, p, rfl, rfl, h1, h2⟩ := inv_mkE h
    simp only [okE] at ok
    exact snd_of (mkE_se h1 ok.1 (sEs es c sc (v :: vs) h2 ok.2)) (fun _ _ => rfl) rfl
  | .mkM C F es f F1 es1, c, sc, e, h, ok => by
    obtain ⟨x, q, v, vs, p, nm, p1, us, p2, rfl, hl, hv, rfl, h1, rfl, n1, n2, h2, h3⟩ := inv_mkM h
    simp only [okE] at ok
    exact snd_of (mkM_se hl hv h1 n1 n2 ok.1.1 ok.1.2.1 ok.1.2.2 (sEs es c sc (v :: vs) h2 ok.2.1) (sEs es1 c sc us h3 ok.2.2)) (fun _ _ => rfl) rfl
  | .any, c, sc, e, h, ok => ⟨fun X Ek gx n ad Fx G H m env σ r m' Q hT s re h q er => by simp [ev] at h, fun _ X Ek gx n ad Fx G H m env σ r m' Q hT s re h q er => by simp [ev, tstD, bnd] at h, by simpa only [chkE] using h⟩
  | .sset a, c, sc, e, h, ok => by
    obtain ⟨x, q, y, q2, a', q3, p, rfl, h1, h2, h3, h4, h5⟩ := inv_sset h
    exact snd_of (sset_se h1 h2 h3 h4 (sE a c sc a' h5 (by simpa only [okE] using ok))) (fun _ _ => rfl) rfl
  | .trng t a, c, sc, e, h, ok => by
    obtain ⟨x, q, y, q2, a', q3, p, rfl, h1, h2, h3, h4, h5⟩ := inv_trng h
    exact snd_of (trng_se h1 h2 h3 h4 (sE a c sc a' h5 (by simpa only [okE] using ok))) (fun _ _ => rfl) rfl
  | .mth k a es, c, sc, e, h, ok => by
    obtain ⟨b, a', nm, ap, b', cp, rfl, rfl, h1, h2, h3, h4, h5⟩ := inv_mth h
    simp only [okE, okEs] at ok
    exact snd_of (mth_se h1 h2 h3 (sE a c sc a' h4 ok.1) (sE b c sc b' h5 ok.2.1)) (fun _ _ => rfl) rfl
  | .comp own tg it elt ifs, c, sc, e, h, ok => by
    obtain ⟨elt', tg', it', ifs', scope, p, rfl, h1, h2, h3, h4, h5, h6, h7, h8⟩ := inv_comp h
    simp only [okE] at ok
    obtain ⟨I, pI⟩ := sI it c sc tg' it' tg h4 ok.1 ⟨scope, h2⟩
    exact snd_of (comp_se h1 h2 h3 I pI (sE elt c.nl scope elt' h5 ok.2.1) (sEs ifs c.nl scope ifs' h6 ok.2.2) h7 h8) (fun _ _ => rfl) rfl
  | .told a, c, sc, e, h, ok => by
    obtain ⟨x, q, params, body, scope, q2, p, rfl, h1, h2, h3, h4, h5⟩ := inv_told h
    simp only [okE] at ok
    exact snd_of (told_se h1 h2 h3 h4 ok.1 (sE a c.dn scope body h5 ok.2)) (fun _ _ => rfl) rfl
theorem sEs : ∀ (irs : List E) (c : Ct) (sc : Scope) (es : List Expr), chkEs c.N sc irs es = true → okEs c irs → A2 (Snd c sc) irs es
  | [], _, _, [], _, _ => trivial
  | [], _, _, _ :: _, h, _ => by simp [chkEs] at h
  | _ :: _, _, _, [], h, _ => by simp [chkEs] at h
  | i :: is, c, sc, e :: es, h, ok => by
    simp only [chkEs, Bool.and_eq_true] at h
    simp only [okEs] at ok
    exact ⟨sE i c sc e h.1 ok.1, sEs is c sc es h.2 ok.2⟩
theorem sO : ∀ (o : EO) (c : Ct) (sc : Scope) (e : Option Expr), chkO c.N sc o e = true → okO c o → SOp c sc o e
  | .no, c, sc, none, _, _ => fun X Ek gx n ad Fx G H m env σ r m' Q hT s re h q er => by
    simp only [evo] at h
    cases h
    exact toWO po_none (q none rfl G H s (Same.refl G))
  | .no, c, sc, some _, h, _ => by simp [chkO] at h
  | .yes _, c, sc, none, h, _ => by simp [chkO] at h
  | .yes ir, c, sc, some e, h, ok => fun X Ek gx n ad Fx G H m env σ r m' Q hT s re hh q er => by
    simp only [chkO] at h
    simp only [okO] at ok
    have A := sE ir c sc e h ok
    simp only [evo] at hh
    refine toWO (po_some (pWE (e := e))) (A.1.use gx hT s re hh er fun d m1 v G1 H1 e1 s1 g1 r1 => ?_)
    cases d with
    | int i =>
      cases e1
      cases r1
      exact ⟨i, rfl, q _ rfl G1 H1 s1 g1⟩
    | _ => cases e1
theorem sI : ∀ (it : It) (c : Ct) (sc : Scope) (tg' it' : Expr) (t : Tg), chkI c.N sc it tg' it' = true → okI c it → (∃ sc', chkTg c.N sc' t tg' = true) → SIt c sc it t tg' it' ∧ ∀ (env : Env) x, foldedSetIterable it' env x = pure x
  | .seq ir, c, sc, tg', it', t, h, ok, ht => by
    simp only [chkI] at h
    simp only [okI] at ok
    have A := sE ir c sc it' h ok
    exact ⟨seq_si A, fun env => plain_fold A.2.2⟩
  | .chr ir, c, sc, tg', it', t, h, ok, ht => by
    simp only [chkI] at h
    simp only [okI] at ok
    have A := sE ir c sc it' h ok
    exact ⟨chr_si A, fun env => plain_fold A.2.2⟩
  | .rng1 ir, c, sc, tg', it', t, h, ok, ht => by
    simp only [okI] at ok
    unfold chkI at h
    split at h <;> first | contradiction | skip
    injections; subst_vars
    simp only [Bool.and_eq_true, decide_eq_true_eq] at h
    exact ⟨rng1_si h.1.1 h.1.2 (sE _ c _ _ h.2 ok), fun _ _ => rfl⟩
  | .rng2 ir jr, c, sc, tg', it', t, h, ok, ht => by
    simp only [okI] at ok
    unfold chkI at h
    split at h <;> first | contradiction | skip
    injections; subst_vars
    simp only [Bool.and_eq_true, decide_eq_true_eq] at h
    exact ⟨rng2_si h.1.1.1 h.1.1.2 (sE _ c _ _ h.1.2 ok.1) (sE _ c _ _ h.2 ok.2), fun _ _ => rfl⟩
  | .enum ir, c, sc, tg', it', t, h, ok, ht => by
    simp only [okI] at ok
    unfold chkI at h
    split at h <;> first | contradiction | skip
    injections; subst_vars
    simp only [Bool.and_eq_true, decide_eq_true_eq] at h
    exact ⟨enum_si (.inr ht) h.1.1 h.1.2 (sE _ c _ _ h.2 ok), fun _ _ => rfl⟩
  | .zip ir jr, c, sc, tg', it', t, h, ok, ht => by
    simp only [okI] at ok
    unfold chkI at h
    split at h <;> first | contradiction | skip
    injections; subst_vars
    simp only [Bool.and_eq_true, decide_eq_true_eq] at h
    exact ⟨zip_si (.inr ht) h.1.1.1 h.1.1.2 (sE _ c _ _ h.1.2 ok.1) (sE _ c _ _ h.2 ok.2), fun _ _ => rfl⟩
end
end TO

set_option Elab.async false
set_option linter.all false
set_option maxRecDepth 100000
set_option maxHeartbeats 8000000
/-! Statements: the look, and what they do. -/
namespace TO
open PySem PySem.Spec L2

def noLc : Expr → Bool
  | .ListComp _ _ _ _ => false
  | .SetComp _ _ _ _ => false
  | .DictComp _ _ _ _ _ => false
  | _ => true
def locN (sc : Scope) : Expr → Bool
  | .Name x _ => decide (sc.names.lookup x = some .local)
  | _ => false
def asgB (sc : Scope) : Expr → Expr → Bool
  | .Name _ _, _ => true
  | .Tuple ts _ _, .Tuple vs _ _ => vs.all (foldedForSure 8) || !ts.all (locN sc)
  | .Tuple _ _ _, e => noLc e
  | _, _ => false
def chkP (N : List Str) (sc : Scope) : PN → Expr → Bool
  | .dat e, e' => chkE N sc e e'
  | .new es, .List vs _ => chkEs N sc es vs
  | _, _ => false
def ldB : E → Bool
  | .lend _ _ => false
  | _ => true
mutual
def chkS (N : List Str) (sc : Scope) : S → Stmt → Bool
  | .asg t e, .Assign [tg] e' _ => chkTg N sc t tg && chkE N sc e e' && asgB sc tg e' && (ldB e || noLc e')
  | .par i j a b, .Assign [.Tuple [.Name x px, .Name y py] _ _] (.Tuple [a', b'] _ _) _ => slB N i x && slB N j y && decide (i ≠ j) && decide (sc.names.lookup x = some .local) && decide (sc.names.lookup y = some .local) && (py.line == px.line) && decide (x ≠ y)
      && !([a', b'].all (foldedForSure 8)) && !([a', b'].all (constantsAlone 8)) && chkP N sc a a' && chkP N sc b b'
  | .new i es, .Assign [.Name x _] (.List vs _) _ => slB N i x && stoB sc x && chkEs N sc es vs
  | .app i e, .Expr (.Call (.Attribute (.Name x _) nm ap) [e'] [] cp) _ => decide (nm = ("append" : Str)) && slB N i x && visB sc x && nmB x && (ap.endLine == cp.line) && chkE N sc e e'
  | .oset i k e, .Assign [.Subscript (.Name x _) k' _] e' _ => slB N i x && visB sc x && nmB x && chkE N sc k k' && chkE N sc e e'
  | .ifS t a b, .If t' a' b' _ => chkE N sc t t' && tokB t && chkSs N sc a a' && chkSs N sc b b'
  | .forS t it b, .For tg it' b' [] _ => chkTg N sc t tg && chkI N sc it tg it' && chkSs N sc b b'
  | .whl t b, .While t' b' [] _ => chkE N sc t t' && tokB t && chkSs N sc b b'
  | .ret e, .Return (some e') _ => chkE N sc e e'
  | .retN, .Return none _ => true
  | .raise x, .Raise (some (.Call (.Name y _) [.Constant (.str _) _ _] [] _)) none _ => decide (y = x) && gloB sc y && nmB y
  | .exp e, .Expr e' _ => chkE N sc e e' && noLc e'
  | .any, _ => true
  | .labN i _ _ es, .Assign [.Name x _] (.Call (.Name y _) (v :: vs) [] _) _ => slB N i x && stoB sc x && decide (y = ("Lab" : Str)) && gloB sc y && chkEs N sc es (v :: vs)
  | .eapp _ i e, .Expr (.Call (.Attribute (.Attribute (.Name x _) f _) nm ap) [e'] [] cp) _ => decide (f = ("entries" : Str)) && decide (nm = ("append" : Str)) && slB N i x && visB sc x && nmB x && (ap.endLine == cp.line) && chkE N sc e e'
  | .lab3 i j k a _ _ es, .Assign [.Tuple [.Name x px, .Name y py, .Name z pz] kt pt] (.Tuple [a', .Call (.Name f _) (v :: vs) [] _, .List [] _] _ _) _ => chkTg N sc (.tup [i, j, k]) (.Tuple [.Name x px, .Name y py, .Name z pz] kt pt) && !([Expr.Name x px, .Name y py, .Name z pz].all (locN sc)) && chkE N sc a a' && decide (f = ("Lab" : Str)) && gloB sc f && chkEs N sc es (v :: vs)
  | .tcx i own tg it elt, .Assign [.Name x _] (.Call (.Name y _) [.ListComp elt' [⟨tg', it', [], 0⟩] scope _] [] _) _ => slB N i x && stoB sc x && decide (y = ("tuple" : Str)) && gloB sc y && blkC N sc scope own && chkTg N scope tg tg' && decide (∀ i ∈ tg.slots, i ∈ own.map (·.2)) && chkI N sc it tg' it' && chkE N scope elt elt'
  | .vw i _ j, .Assign [.Name x _] (.Call (.Attribute (.Name y _) nm ap) [] [] cp) _ => slB N i x && stoB sc x && decide (nm = ("log" : Str)) && slB N j y && visB sc y && nmB y && (ap.endLine == cp.line)
  | .epop _ i, .Expr (.Call (.Attribute (.Attribute (.Name x _) f _) nm ap) [] [] cp) _ => decide (f = ("entries" : Str)) && decide (nm = ("pop" : Str)) && slB N i x && visB sc x && nmB x && (ap.endLine == cp.line)
  | _, _ => false
def chkSs (N : List Str) (sc : Scope) : List S → List Stmt → Bool
  | [], [] => true
  | .frz _ :: r, ss => chkSs N sc r ss
  | s :: r, st :: ss => chkS N sc s st && chkSs N sc r ss
  | _, _ => false
end
def RaiseOk (c : Ct) (x : Str) : Prop := ∃ C, c.cls x = some C ∧ c.mg x = some (.ref C) ∧ PySem.W.excIn c.K C [.type "ValueError", .type "Exception", .type "BaseException", .type "object"] "ValueError.__new__" = true ∧ PySem.W.keepIn c.K (.ref C) = true ∧
  PySem.W.subIn c.K (.ref C) (.type "BaseException") = some true ∧ PySem.W.typeIn c.K (.ref C) = some (.type "type")
def okP (c : Ct) : PN → Prop
  | .dat e => okE c e
  | .new es => okEs c es
mutual
def okS (c : Ct) : S → Prop
  | .asg _ e => okE c e
  | .par _ _ a b => okP c a ∧ okP c b
  | .new _ es => okEs c es
  | .app _ e => okE c e
  | .oset _ k e => okE c k ∧ okE c e
  | .ifS t a b => okE c t ∧ okSs c a ∧ okSs c b
  | .forS _ it b => okI c it ∧ okSs c b
  | .whl t b => okE c t ∧ okSs c b
  | .ret e => okE c e
  | .raise x => RaiseOk c x
  | .exp e => okE c e
  | .labN _ C F es => NewOk c C (spI c C F) ∧ okEs c es
  | .eapp C _ e => ClsOk c C ∧ okE c e
  | .epop C _ => ClsOk c C
  | .lab3 _ _ _ a C F es => okE c a ∧ NewOk c C (spI c C F) ∧ okEs c es
  | .tcx _ _ _ it elt => okI c it ∧ okE c.nl elt
  | .vw _ C _ => ClsOk c C ∧ MethOk c C "log" (spV C)
  | _ => True
def okSs (c : Ct) : List S → Prop
  | [] => True
  | s :: r => okS c s ∧ okSs c r
end
def PostS (c : Ct) (n : Ent) (Fx : Addr → Option (List V)) (G : Hp) (Ek : XK) (De : Ends) : Oc → Prop
  | .nx env m => ∀ ad G' H' σ', SI n ad Fx G' H' m → Same G G' → RE ad G' env σ' → De.nx σ' H'
  | .rt d m => ∀ ad v G' H', SI n ad Fx G' H' m → Same G G' → Rp G' v d → De.rt v H'
  | .ex x m => ∀ C, c.cls x = some C → ∀ ad G' H', SI n ad Fx G' H' m → Ek (.ref C) none H'
theorem PostS.mono {c : Ct} {n : Ent} {Fx : Addr → Option (List V)} {G G1 : Hp} {Ek : XK} {De : Ends} (g : Same G G1) : ∀ {oc : Oc}, PostS c n Fx G Ek De oc → PostS c n Fx G1 Ek De oc
  | .nx _ _, h => fun ad G' H' σ' s g' r => h ad G' H' σ' s (g.trans g') r
  | .rt _ _, h => fun ad v G' H' s g' r => h ad v G' H' s (g.trans g') r
  | .ex _ _, h => h
def SS (c : Ct) (sc : Scope) (ir : S) (st : Stmt) : Prop := ∀ X Ek, GX c sc X Ek → X.env.scope = sc → StX X → ∀ n ad Fx G H m env σ oc (De : Ends), n.T = c.T → SI n ad Fx G H m → RE ad G env σ → exec ir env m = some oc → PostS c n Fx G Ek De oc → WSt X st De σ H
def SSs (c : Ct) (sc : Scope) (ir : List S) (st : List Stmt) : Prop := ∀ X Ek, GX c sc X Ek → X.env.scope = sc → StX X → ∀ n ad Fx G H m env σ oc (De : Ends), n.T = c.T → SI n ad Fx G H m → RE ad G env σ → execs ir env m = some oc → PostS c n Fx G Ek De oc → WSs X st De σ H
theorem ob_some {α : Type} {r : Rr α} {f : α → Mu → Option Oc} {oc : Oc} (h : ob r f = some oc) : (∃ a m, r = some (.ok a, m) ∧ f a m = some oc) ∨ ∃ x m, r = some (.error x, m) ∧ oc = .ex x m := by
  cases r with
  | none => cases h
  | some p =>
    obtain ⟨q, m⟩ := p
    cases q with
    | ok a => exact .inl ⟨a, m, rfl, h⟩
    | error x => exact .inr ⟨x, m, rfl, (Option.some.inj h).symm⟩
theorem err_of {c : Ct} {n : Ent} {Fx : Addr → Option (List V)} {G : Hp} {Ek : XK} {De : Ends} {x : Str} {m : Mu} {ad : List (Option Addr)} {α : Type} (h : PostS c n Fx G Ek De (.ex x m)) : ErrP c n ad Fx Ek m (α := α) (.error x) := fun y e C hC G' H' s => by
  cases e
  exact h C hC ad G' H' s
theorem swap_no {e : Expr} {t : Option Expr} {l : Nat} {env : Env} (h : noLc e = true) : swapsWith e t l env = pure false := by
  cases e <;> first | rfl | (simp [noLc] at h)
theorem filterMap_short {α β : Type} {g : α → Option β} : ∀ {l : List α} {a : α}, a ∈ l → g a = none → (l.filterMap g).length < l.length
  | x :: r, a, h, e => by
    rcases List.mem_cons.mp h with rfl | h
    · rw [List.filterMap_cons_none e, List.length_cons]
      exact Nat.lt_succ_of_le (List.length_filterMap_le g r)
    · have ih := filterMap_short h e
      cases hx : g x with
      | none => rw [List.filterMap_cons_none hx, List.length_cons]; omega
      | some y => rw [List.filterMap_cons_some hx, List.length_cons, List.length_cons]; omega
theorem swapped_none {ts : List Expr} {e : Expr} {k : Nat} {p : Pos} {env : Env} (h : asgB env.scope (.Tuple ts k p) e = true) : swappedStores [.Tuple ts k p] e env = pure none := by
  cases e with
  | Tuple vs k2 p2 =>
    simp only [asgB, Bool.or_eq_true, Bool.not_eq_true'] at h
    rcases h with h | h
    · unfold swappedStores
      simp only [h]
      split
      · rfl
      · split
        · rfl
        · split
          · rfl
          · rfl
    · obtain ⟨t, ht, hn⟩ : ∃ t ∈ ts, locN env.scope t = false := by
        rw [List.all_eq_false] at h
        obtain ⟨t, ht, hn⟩ := h
        exact ⟨t, ht, by simpa using hn⟩
      have sh : ∀ g : Expr → Option Str, g t = none → ((ts.filterMap g).length != ts.length) = true := fun g hg => by
        have := filterMap_short ht hg
        rw [bne_iff_ne]
        omega
      unfold swappedStores
      simp only
      split
      · rfl
      · split
        · rfl
        · rw [sh _ (by
            cases t with
            | Name x px =>
              have : ¬ env.kindOf x = some .local := by
                simpa [locN, Env.kindOf] using hn
              simp [this]
            | _ => rfl)]
          rfl
  | _ => first | rfl | (simp [asgB, noLc] at h)
theorem swapped_two {x y : Str} {px py pt pt2 : Pos} {k k2 : Nat} {a b : Expr} {env : Env} (hk : env.scope.kind = .function) (hx : env.kindOf x = some .local) (hy : env.kindOf y = some .local) (hl : (py.line == px.line) = true) (hxy : x ≠ y)
    (h1 : ([a, b].all (foldedForSure 8)) = false) (h2 : ([a, b].all (constantsAlone 8)) = false) (pa : plainE a = true) (pb : plainE b = true) : swappedStores [.Tuple [.Name x px, .Name y py] k pt] (.Tuple [a, b] k2 pt2) env = pure (some [x, y]) := by
  have bk : env.blockKind = .function := by unfold Env.blockKind; rw [hk]; rfl
  have hl' : py.line = px.line := by simpa using hl
  have hb : (y == x) = false := beq_eq_false_iff_ne.mpr (Ne.symm hxy)
  have sa : ∀ f : Expr → Bool, (∀ e, plainE e = true → f e = false) → [a, b].any f = false := fun f hf => by simp [hf a pa, hf b pb]
  have fm : ∀ g : Expr → Option Str, g (.Name x px) = some x → g (.Name y py) = some y → [Expr.Name x px, Expr.Name y py].filterMap g = [x, y] := fun g e1 e2 => by simp [e1, e2]
  have he : [x, y].eraseDups = [x, y] := by simp [List.eraseDups_cons, hb]
  unfold swappedStores
  simp only [h1, h2, bk]
  rw [sa _ (by intro e he; cases e <;> first | rfl | (simp [plainE] at he)), fm _ (by simp [hx, Expr.pos]) (by simp [hy, hl', Expr.pos])]
  simp [he]
end TO

set_option Elab.async false
set_option linter.all false
set_option maxRecDepth 100000
set_option maxHeartbeats 8000000
/-! Statements: each does what its text says. -/
namespace TO
open PySem PySem.Spec L2

theorem fxP_comm {Fx : Addr → Option (List V)} {p q : Addr} {vs ws : List V} (h : p ≠ q) : fxP (fxP Fx p vs) q ws = fxP (fxP Fx q ws) p vs := by
  funext b
  unfold fxP
  by_cases h1 : b = q
  · subst h1
    rw [if_pos rfl, if_neg (Ne.symm h), if_pos rfl]
  · rw [if_neg h1]
    by_cases h2 : b = p
    · rw [if_pos h2, if_pos h2]
    · rw [if_neg h2, if_neg h2, if_neg h1]
section
variable {c : Ct} {sc : Scope} {X : Cx} {Ek : XK} {n : Ent} {ad : List (Option Addr)} {Fx : Addr → Option (List V)} {G H : Hp} {m m' : Mu} {env : En} {σ : L2.St}
theorem more_ad {ad more : List (Option Addr)} : ∀ (j : Nat) p, ad[j]? = some (some p) → (ad ++ more)[j]? = some (some p) := fun j p h => by
  rw [List.getElem?_append_left (List.getElem?_eq_some_iff.mp h).1]; exact h
/-- a new list that may change -/
theorem new_use {irs : List E} {es : List Expr} {pos : Pos} {r : Except Str (List D)} {Q : VK} (A : A2 (Snd c sc) irs es) (gx : GX c sc X Ek) (hT : n.T = c.T) (s : SI n ad Fx G H m) (re : RE ad G env σ) (h : evs irs env m = some (r, m'))
    (er : ErrP c n ad Fx Ek m' r) (k : ∀ ds, r = .ok ds → ds.length ≤ lim ∧ ∀ p vs G1 H1, SI n ad (fxP Fx p vs) G1 H1 m' → Same G G1 → RpA G1 vs ds → n.H0 p = none → Fx p = none → Q (.ref p) H1) : WE X (.List es pos) σ H Q := by
  refine toWE (pe_lst (pWA (es := es))) (sa_of A X Ek gx n ad Fx G H m env σ r m' _ hT s re h (fun ds e vs G1 H1 s1 g1 r1 => ?_) er)
  obtain ⟨hl, k⟩ := k ds e
  refine ⟨by rw [r1.length]; exact Nat.le_trans hl lim_le, fun p hp => ?_⟩
  have hF : Fx p = none := by
    cases e : Fx p with
    | none => rfl
    | some ws =>
      have := (s1.fx p ws e).1
      rw [hp] at this; cases this
  exact k p vs G1 _ (s1.fix hp) g1 r1 (s1.live p hp) hF
theorem pn_use {a : PN} {e : Expr} {r : Except Str (Sum D (List D))} {Q : VK} (hc : chkP c.N sc a e = true) (ok : okP c a) (gx : GX c sc X Ek) (hT : n.T = c.T) (s : SI n ad Fx G H m) (re : RE ad G env σ) (h : pnv a env m = some (r, m')) (er : ErrP c n ad Fx Ek m' r)
    (k1 : ∀ d, r = .ok (.inl d) → Fin n ad Fx G m' d Q) (k2 : ∀ ds, r = .ok (.inr ds) → ∀ p vs G1 H1, SI n ad (fxP Fx p vs) G1 H1 m' → Same G G1 → RpA G1 vs ds → n.H0 p = none → Fx p = none → Q (.ref p) H1) : WE X e σ H Q := by
  cases a with
  | dat ir =>
    simp only [chkP] at hc
    have A := sE ir c sc e hc ok
    simp only [pnv] at h
    refine A.1.use gx hT s re h er fun d m1 v G1 H1 e1 s1 g1 r1 => ?_
    cases e1
    exact k1 d rfl v G1 H1 s1 g1 r1
  | new irs =>
    cases e with
    | List es pos =>
      simp only [chkP] at hc
      have A := sEs irs c sc es hc ok
      simp only [pnv] at h
      rcases bnd_some h with ⟨ds, m1, h1, h2⟩ | ⟨x, m1, h1, h2⟩
      · by_cases hl : ds.length ≤ lim
        · rw [if_pos hl] at h2
          cases h2
          exact new_use A gx hT s re h1 (fun x e => by cases e) fun ds' e => by cases e; exact ⟨hl, k2 ds rfl⟩
        · rw [if_neg hl] at h2
          cases h2
      · cases h2
        exact new_use A gx hT s re h1 (fun y e => by cases e; exact er x rfl) fun ds' e => by cases e
    | _ => simp [chkP] at hc
theorem chkP_plain {a : PN} {e : Expr} (hc : chkP c.N sc a e = true) : plainE e = true := by
  cases a with
  | dat ir => exact chk_plain (show chkE c.N sc ir e = true from hc)
  | new irs => cases e <;> first | rfl | (simp [chkP] at hc)
end
def isFrz : S → Option Nat
  | .frz i => some i
  | _ => none
theorem isFrz_some {s : S} {i : Nat} (h : isFrz s = some i) : s = .frz i := by
  cases s <;> simp [isFrz] at h
  subst h
  rfl
theorem chk_cons {N : List Str} {sc : Scope} {s : S} {r : List S} {sts : List Stmt} (h : isFrz s = none) (hc : chkSs N sc (s :: r) sts = true) : ∃ st ss, sts = st :: ss ∧ chkS N sc s st = true ∧ chkSs N sc r ss = true := by
  cases sts with
  | nil => cases s <;> simp [chkSs, isFrz] at hc h
  | cons st ss => cases s <;> first | (simp [isFrz] at h; done) | (simp only [chkSs, Bool.and_eq_true] at hc; exact ⟨st, ss, rfl, hc.1, hc.2⟩)
mutual
theorem sS (c : Ct) (sc : Scope) : ∀ (ir : S) (st : Stmt), chkS c.N sc ir st = true → okS c ir → SS c sc ir st
  | .asg t e, st, h, ok => by
    unfold chkS at h
    split at h <;> first | contradiction | skip
    injections; subst_vars
    rename_i _ _ t e tg e' pos
    simp only [Bool.and_eq_true] at h
    obtain ⟨⟨⟨h1, h2⟩, h3⟩, hld⟩ := h
    simp only [okS] at ok
    have A := sE e c sc e' h2 ok
    intro X Ek gx hsc stx n ad Fx G H m env σ oc De hT s re hx post
    simp only [exec] at hx
    -- the value, then the store
    have go : ∀ {tE : TE}, (∀ Q : VK, (∀ r m1, ev e env m = some (r, m1) → (∀ d, r = .ok d → Fin n ad Fx G m1 d Q) ∧ ErrP c n ad Fx Ek m1 r) → tE σ H Q) → tE σ H (fun v H1 => gT X.K t v σ H1 De.nx) := fun {tE} hE => by
      refine hE _ fun r m1 hr => ?_
      rw [hr] at hx
      cases r with
      | ok d =>
        refine ⟨fun d' e v G1 H1 s1 g1 r1 => ?_, fun x e => by cases e⟩
        cases e
        obtain ⟨env1, hb, eo⟩ := Option.map_eq_some_iff.mp (show (bindT t d env).map _ = some oc from hx)
        subst eo
        exact gt_go (TgOk.of s1.sub r1) hb (re.mono g1) fun σ1 re1 _ => post ad G1 H1 σ1 s1 g1 re1
      | error x =>
        cases hx
        exact ⟨fun d e => (by cases e), err_of post⟩
    have goE : WE X e' σ H (fun v H1 => gT X.K t v σ H1 De.nx) := go (tE := WE X e') fun Q hQ => by
      cases hv : ev e env m with
      | none => rw [hv] at hx; cases hx
      | some p =>
        obtain ⟨q1, q2⟩ := hQ p.1 p.2 hv
        exact A.1 X Ek gx n ad Fx G H m env σ p.1 p.2 Q hT s re hv q1 q2
    cases t with
    | tup is =>
      cases tg with
      | Tuple ts k p =>
        have nl : swapsWithSole [.Tuple ts k p] e' pos.line X.env = pure false := by
          show swapsWith e' (some (.Tuple ts k p)) pos.line X.env = pure false
          cases e' <;> rfl
        exact toWSt (ps_asg (pWE (e := e')) (gt_ok gx h1) nl (swapped_none (by rw [hsc]; exact h3)) rfl) goE
      | _ => simp [chkTg] at h1
    | name i =>
      cases tg with
      | Name x p =>
        simp only [chkTg, Bool.and_eq_true] at h1
        obtain ⟨l1, l2⟩ := gx.sto h1.2
        by_cases hno : noLc e' = true
        · exact toWSt (ps_set (i := i) gx.nd (sl_of gx h1.1) l1 (pWE (e := e')) (swap_no hno) l2) goE
        · cases e' with
          | ListComp elt' gens scope lp =>
            have hsw : swapsWith (.ListComp elt' gens scope lp) (some (.Name x p)) pos.line X.env = pure (X.env.blockKind == .function && X.env.kindOf x == some .local && p.line == lp.line && !(scope.names.any fun (n, k) => n == x && (k == .local || k == .cell))) := rfl
            cases hB : (X.env.blockKind == .function && X.env.kindOf x == some .local && p.line == lp.line && !(scope.names.any fun (n, k) => n == x && (k == .local || k == .cell))) with
            | false =>
              rw [hB] at hsw
              exact toWSt (ps_set (i := i) gx.nd (sl_of gx h1.1) l1 (pWE (e := .ListComp elt' gens scope lp)) hsw l2) goE
            | true =>
              rw [hB] at hsw
              have hloc : X.env.scope.names.lookup x = some .local := by
                simp only [Bool.and_eq_true, beq_iff_eq] at hB
                exact hB.1.1.2
              cases e with
              | comp own tg it elt ifs =>
                obtain ⟨e1, tg', it', ifs', sc', p', e0, b1, b2, b3, b4, b5, b6, b7, b8⟩ := inv_comp h2
                cases e0
                simp only [okE] at ok
                obtain ⟨I, pI⟩ := sI it c sc tg' it' tg b4 ok.1 ⟨_, b2⟩
                have A' := sE elt c.nl _ _ b5 ok.2.1
                have B' := sEs ifs c.nl _ _ b6 ok.2.2
                obtain ⟨c1, c2, c3⟩ := comp_parts (elt' := elt') gx b1 b2 B' b8
                refine toWSt (ps_setLc (i := i) gx.calm gx.nd (sl_of gx h1.1) hloc hsw pWI (gx.blkOk b1) c1 c2 c3 (pI X.env)) ?_
                refine go (tE := tLc (WI X tg' it') (gT c.K tg) (ttU c.nl _ ifs') (teU c.nl _ elt') (own.map (·.2))) fun Q hQ => ?_
                cases hv : ev (.comp own tg it elt ifs) env m with
                | none => rw [hv] at hx; cases hx
                | some p =>
                  obtain ⟨q1, q2⟩ := hQ p.1 p.2 hv
                  exact comp_read b3 I A' B' b7 gx hT s re hv q1 q2
              | any => simp [ev, ob] at hx
              | lend i a => simp [ldB, noLc] at hld
              | _ => simp [chkE] at h2
          | SetComp _ _ _ _ => cases e <;> first | (simp [chkE] at h2; done) | (simp [ldB, noLc] at hld; done) | (simp [ev, ob] at hx; done)
          | DictComp _ _ _ _ _ => cases e <;> first | (simp [chkE] at h2; done) | (simp [ldB, noLc] at hld; done) | (simp [ev, ob] at hx; done)
          | _ => exact absurd rfl hno
      | _ => simp [chkTg] at h1
  | .par i j a b, st, h, ok => by
    unfold chkS at h
    split at h <;> first | contradiction | skip
    injections; subst_vars
    rename_i _ _ i j a b x px y py k pt a' b' k2 pt2 pos
    simp only [Bool.and_eq_true, decide_eq_true_eq, Bool.not_eq_true'] at h
    obtain ⟨⟨⟨⟨⟨⟨⟨⟨⟨⟨h1, h2⟩, h3⟩, h4⟩, h5⟩, h6⟩, h7⟩, h8⟩, h9⟩, h10⟩, h11⟩ := h
    simp only [okS] at ok
    intro X Ek gx hsc stx n ad Fx G H m env σ oc De hT s re hx post
    simp only [exec] at hx
    have pa := chkP_plain h10
    have pb := chkP_plain h11
    have lx := gx.loc x h4
    have ly := gx.loc y h5
    refine toWSt (ps_par (i := i) (j := j) gx.calm gx.nd (sl_of gx h1) (sl_of gx h2) h3 lx ly (pa_cons (pWE (e := a')) (pa_cons (pWE (e := b')) pa_nil (plain_star pb)) (plain_star pa)) (swapped_two gx.bk lx ly h6 h7 h8 h9 pa pb) rfl) ?_
    rcases ob_some hx with ⟨u, m1, e1, hx⟩ | ⟨z, m1, e1, eo⟩
    · refine pn_use h10 ok.1 gx hT s re e1 (fun x e => by cases e) (fun d ed v G1 H1 s1 g1 r1 => ?_) (fun ds ed p vs G1 H1 s1 g1 r1 h0 hF => ?_)
      · cases ed
        rcases ob_some hx with ⟨w, m2, e2, hx⟩ | ⟨z, m2, e2, eo⟩
        · refine pn_use h11 ok.2 gx hT s1 (re.mono g1) e2 (fun x e => by cases e) (fun d2 ed v2 G2 H2 s2 g2 r2 => ?_) (fun ds ed p vs G2 H2 s2 g2 r2 h0 hF => ?_)
          · cases ed
            cases hx
            exact ⟨v, v2, rfl, post ad G2 H2 _ s2 (g1.trans g2) (((re.mono (g1.trans g2)).set i (s := some (.val d)) (v := some v) (Rp.mono g2 _ _ r1)).set j (s := some (.val d2)) (v := some v2) r2)⟩
          · cases ed
            cases hx
            have s3 := s2.unfixObj r2 h0 hF
            have hlen : ad.length = m2.length := s2.mu.length
            exact ⟨v, .ref p, rfl, post _ G2 H2 _ s3 (g1.trans g2) (((re.mono (g1.trans g2)).set i (s := some (.val d)) (v := some v) (Rp.mono g2 _ _ r1)).more more_ad |>.set j (s := some (.obj m2.length)) (v := some (.ref p)) ⟨p, by rw [← hlen]; simp, rfl⟩)⟩
        · subst eo
          exact pn_use h11 ok.2 gx hT s1 (re.mono g1) e2 (err_of post) (fun d2 ed => by cases ed) (fun ds ed => by cases ed)
      · cases ed
        rcases ob_some hx with ⟨w, m2, e2, hx⟩ | ⟨z, m2, e2, eo⟩
        · refine pn_use h11 ok.2 gx hT s1 (re.mono g1) e2 (fun x e => by cases e) (fun d2 ed v2 G2 H2 s2 g2 r2 => ?_) (fun ds2 ed p2 vs2 G2 H2 s2 g2 r2 h02 hF2 => ?_)
          · cases ed
            cases hx
            have s3 := s2.unfixObj (RpA.mono g2 _ _ r1) h0 hF
            have hlen : ad.length = m2.length := s2.mu.length
            exact ⟨.ref p, v2, rfl, post _ G2 H2 _ s3 (g1.trans g2) (((re.mono (g1.trans g2)).more more_ad |>.set i (s := some (.obj m2.length)) (v := some (.ref p)) ⟨p, by rw [← hlen]; simp, rfl⟩).set j (s := some (.val d2)) (v := some v2) r2)⟩
          · cases ed
            cases hx
            have hne : p ≠ p2 := fun z => by
              subst z
              unfold fxP at hF2
              rw [if_pos rfl] at hF2
              cases hF2
            have hF2' : Fx p2 = none := by
              unfold fxP at hF2
              rw [if_neg (Ne.symm hne)] at hF2
              exact hF2
            rw [fxP_comm hne] at s2
            have s3 := s2.unfixObj (RpA.mono g2 _ _ r1) h0 (by unfold fxP; rw [if_neg hne]; exact hF)
            have s4 := s3.unfixObj r2 h02 hF2'
            have hlen : ad.length = m2.length := s2.mu.length
            refine ⟨.ref p, .ref p2, rfl, post _ G2 H2 _ s4 (g1.trans g2) (((re.mono (g1.trans g2)).more (ad' := ad ++ [some p] ++ [some p2]) (fun j q h => more_ad j q (more_ad j q h)) |>.set i (s := some (.obj m2.length)) (v := some (.ref p)) ⟨p, ?_, rfl⟩).set j (s := some (.obj (m2 ++ [some ds]).length)) (v := some (.ref p2)) ⟨p2, ?_, rfl⟩)⟩
            · exact more_ad _ _ (by rw [← hlen]; simp)
            · rw [List.length_append, ← hlen]
              simp
        · subst eo
          exact pn_use h11 ok.2 gx hT s1 (re.mono g1) e2 (fun y e C hC G' H' s' => by
            cases e
            obtain ⟨s5, _⟩ := s'.unfix h0 hF
            exact post C hC ad _ H' s5) (fun d2 ed => by cases ed) (fun ds ed => by cases ed)
    · subst eo
      exact pn_use h10 ok.1 gx hT s re e1 (err_of post) (fun d2 ed => by cases ed) (fun ds ed => by cases ed)
  | .new i es, st, h, ok => by
    unfold chkS at h
    split at h <;> first | contradiction | skip
    injections; subst_vars
    rename_i _ _ i es x p vs lp pos
    simp only [Bool.and_eq_true] at h
    obtain ⟨⟨h1, h2⟩, h3⟩ := h
    simp only [okS] at ok
    have A := sEs es c sc vs h3 ok
    intro X Ek gx hsc stx n ad Fx G H m env σ oc De hT s re hx post
    simp only [exec] at hx
    obtain ⟨l1, l2⟩ := gx.sto h2
    refine toWSt (ps_set (i := i) gx.nd (sl_of gx h1) l1 (pWE (e := .List vs lp)) (swap_no rfl) l2) ?_
    rcases ob_some hx with ⟨ds, m1, e1, hx⟩ | ⟨z, m1, e1, eo⟩
    · refine new_use A gx hT s re e1 (fun x e => by cases e) fun ds' e => ?_
      cases e
      by_cases hl : ds.length ≤ lim
      · rw [if_pos hl] at hx
        cases hx
        refine ⟨hl, fun q ws G1 H1 s1 g1 r1 h0 hF => ?_⟩
        have s3 := s1.unfixObj r1 h0 hF
        have hlen : ad.length = m1.length := s1.mu.length
        exact post _ G1 H1 _ s3 g1 ((re.mono g1).more more_ad |>.set i (s := some (.obj m1.length)) (v := some (.ref q)) ⟨q, by rw [← hlen]; simp, rfl⟩)
      · rw [if_neg hl] at hx
        cases hx
    · subst eo
      exact new_use A gx hT s re e1 (err_of post) fun ds' e => by cases e
  | .labN i C F es, st, h, ok => by
    unfold chkS at h
    split at h <;> first | contradiction | skip
    injections; subst_vars
    rename_i _ _ i C F es x px y py v vs cp pos
    simp only [Bool.and_eq_true, decide_eq_true_eq] at h
    obtain ⟨⟨⟨⟨h1, h2⟩, rfl⟩, h4⟩, h5⟩ := h
    simp only [okS] at ok
    have A := sEs es c sc (v :: vs) h5 ok.2
    obtain ⟨fa, fd, ps, kk, hm, hM, hk, hF, hb⟩ := ok.1
    intro X Ek gx hsc stx n ad Fx G H m env σ oc De hT s re hx post
    simp only [exec] at hx
    have F' : FnOk X.prog X.w X.K X.mg X.base (L2N.CX X.prog X.w) kk fa fd ps (spI c C F) := by
      rw [gx.eP, gx.ew, gx.eK, gx.em, gx.eb]; exact hF
    have hxp : Passes (L2N.CX X.prog X.w) X Ek := L2N.passes_call gx.tk fun _ _ _ _ z => z
    obtain ⟨pv', is, A'⟩ := a2_plain A
    obtain ⟨l1, l2⟩ := gx.sto h2
    refine toWSt (ps_set (i := i) gx.nd (sl_of gx h1) l1 (pWE (e := .Call (.Name "Lab" py) (v :: vs) [] cp)) (swap_no rfl) l2) ?_
    refine toWE (pe_make (by rw [gx.eK]; exact hM) F' (gx.room.mono hk) (gx.gl h4) (by rw [gx.em]; exact hm) (by rw [gx.eK]; exact hb) .nil hxp pWA (by decide) (plain_star pv') (a2_star A' cp)) ?_
    rcases ob_some hx with ⟨ds, m1, e1, hx⟩ | ⟨z, m1, e1, eo⟩
    · refine sa_of A X Ek gx n ad Fx G H m env σ _ _ _ hT s re e1 (fun ds' ed ws G1 H1 s1 g1 r1 => ?_) (fun z e => by cases e)
      cases ed
      intro x' dx hx' hd hne
      rw [List.append_nil]
      cases hz : F ds with
      | none => rw [hz] at hx; cases hx
      | some z =>
        rw [hz] at hx
        cases z with
        | error z =>
          cases hx
          exact spI_er hT s1 hx' hd hne r1 hz (err_of (α := D) post)
        | ok d =>
          cases hx
          refine spI_ok hT s1 hx' hd hne r1 hz fun vn e G' H' s' g' h0 hFe hna hxx l => ⟨rfl, ?_⟩
          have s3 := s'.unfixObj (ds := []) trivial h0 hFe
          have hlen : ad.length = m1.length := s'.mu.length
          exact post _ G' H' _ s3 (g1.trans g') (((re.mono (g1.trans g')).more more_ad).set i (s := some (.lab C d m1.length)) (v := some (.ref x')) ⟨x', e, rfl, by rw [← hlen]; simp, l⟩)
    · subst eo
      exact sa_of A X Ek gx n ad Fx G H m env σ _ _ _ hT s re e1 (fun ds' ed => by cases ed) (fun y e => by cases e; exact err_of (α := D) post z rfl)
  | .lab3 i j k a C F es, st, h, ok => by
    unfold chkS at h
    split at h <;> first | contradiction | skip
    injections; subst_vars
    rename_i _ _ i j k a C F es x px y py z pz kt pt a' f pf v vs cp lp k2 p2 pos
    simp only [Bool.and_eq_true, decide_eq_true_eq, Bool.not_eq_true'] at h
    obtain ⟨⟨⟨⟨⟨h1, h2⟩, h3⟩, rfl⟩, h5⟩, h6⟩ := h
    simp only [okS] at ok
    have A0 := sE a c sc a' h3 ok.1
    have A := sEs es c sc (v :: vs) h6 ok.2.2
    obtain ⟨fa, fd, ps, kk, hm, hM, hk, hF, hb⟩ := ok.2.1
    intro X Ek gx hsc stx n ad Fx G H m env σ oc De hT s re hx post
    simp only [exec] at hx
    have F' : FnOk X.prog X.w X.K X.mg X.base (L2N.CX X.prog X.w) kk fa fd ps (spI c C F) := by
      rw [gx.eP, gx.ew, gx.eK, gx.em, gx.eb]; exact hF
    have hxp : Passes (L2N.CX X.prog X.w) X Ek := L2N.passes_call gx.tk fun _ _ _ _ z => z
    obtain ⟨pv', is, A'⟩ := a2_plain A
    have sw : swappedStores [.Tuple [.Name x px, .Name y py, .Name z pz] kt pt] (.Tuple [a', .Call (.Name "Lab" pf) (v :: vs) [] cp, .List [] lp] k2 p2) X.env = pure none := swapped_none (by
      rw [hsc]
      simp only [asgB, Bool.or_eq_true, Bool.not_eq_true']
      exact .inr h2)
    have pm := pe_make (p := pf) (pos := cp) (x := "Lab") (by rw [gx.eK]; exact hM) F' (gx.room.mono hk) (gx.gl h5) (by rw [gx.em]; exact hm) (by rw [gx.eK]; exact hb) .nil hxp (pWA (es := v :: vs)) (by decide) (plain_star pv') (a2_star A' cp)
    refine toWSt (ps_asg (pe_tup (pa_cons (pWE (e := a')) (pa_cons pm (pa_cons (pe_lst pa_nil) pa_nil rfl) rfl) (plain_star A0.2.2))) (gt_ok gx h1) rfl sw rfl) ?_
    rcases ob_some hx with ⟨d, m1, e1, hx⟩ | ⟨z, m1, e1, eo⟩
    · refine A0.1.val gx hT s re e1 fun v0 G0 H0 s0 g0 r0 => ?_
      rcases ob_some hx with ⟨ds, m2, e2, hx⟩ | ⟨z, m2, e2, eo⟩
      · refine sa_of A X Ek gx n ad Fx G0 H0 m1 env σ _ _ _ hT s0 (re.mono g0) e2 (fun ds' ed ws G1 H1 s1 g1 r1 => ?_) (fun z e => by cases e)
        cases ed
        intro x' dx hx' hd hne
        rw [List.append_nil]
        cases hz : F ds with
        | none => rw [hz] at hx; cases hx
        | some z =>
          rw [hz] at hx
          cases z with
          | error z =>
            cases hx
            exact spI_er hT s1 hx' hd hne r1 hz (err_of (α := D) post)
          | ok dn =>
            cases hx
            refine spI_ok hT s1 hx' hd hne r1 hz fun vn e G' H' s' g' h0 hFe hna hxx l => ⟨rfl, ?_⟩
            refine ⟨Nat.zero_le _, fun q hq => ⟨(show (3 : Nat) ≤ sizeLine by rw [sizeLine_eq]; decide), fun t ht => ?_⟩⟩
            obtain ⟨s4, g4, _⟩ := s'.data (o := .lst []) hq trivial
            have s5 := s4.junk (o := .tup [v0, .ref x', .ref q]) ht
            have s6 := s5.unfixObj (ds := []) trivial h0 hFe
            have hlen : ad.length = m2.length := s'.mu.length
            have gA := (g0.trans (g1.trans g')).trans g4
            exact ⟨t, _, rfl, SqT.of upd_same, rfl, v0, _, rfl, .ref x', _, rfl, .ref q, _, rfl, rfl, post _ _ _ _ s6 gA (((((re.mono gA).more more_ad).set i (s := some (.val d)) (v := some v0) (Rp.mono ((g1.trans g').trans g4) _ _ r0)).set j (s := some (.lab C dn m2.length)) (v := some (.ref x')) ⟨x', e, rfl, by rw [← hlen]; simp, l.mono g4⟩).set k (s := some (.val (.list []))) (v := some (.ref q)) ⟨q, [], rfl, upd_same, trivial⟩)⟩
      · subst eo
        exact sa_of A X Ek gx n ad Fx G0 H0 m1 env σ _ _ _ hT s0 (re.mono g0) e2 (fun ds' ed => by cases ed) (fun y e => by cases e; exact err_of (α := D) post z rfl)
    · subst eo
      exact A0.1 X Ek gx n ad Fx G H m env σ _ _ _ hT s re e1 (fun d ed => by cases ed) (fun y e => by cases e; exact err_of (α := D) post z rfl)
  | .tcx i own tg it elt, st, h, ok => by
    unfold chkS at h
    split at h <;> first | contradiction | skip
    injections; subst_vars
    rename_i _ _ i own tg it elt x px y py elt' tg' it' scope lp cp pos
    simp only [Bool.and_eq_true, decide_eq_true_eq] at h
    obtain ⟨⟨⟨⟨⟨⟨⟨⟨h1, h2⟩, rfl⟩, h4⟩, b1⟩, b2⟩, b3⟩, b4⟩, b5⟩ := h
    simp only [okS] at ok
    intro X Ek gx hsc stx n ad Fx G H m env σ oc De hT s re hx post
    simp only [exec] at hx
    obtain ⟨I, pI⟩ := sI it c sc tg' it' tg b4 ok.1 ⟨_, b2⟩
    have A := sE elt c.nl _ _ b5 ok.2
    obtain ⟨l1, l2⟩ := gx.sto h2
    refine toWSt (ps_set (i := i) gx.nd (sl_of gx h1) l1 (pe_callTy (T := "tuple") pWCall (gx.gl h4) (gx.none (by decide +kernel)) (by decide +kernel) (pa_cons (lcX_pe (pos := lp) (elt' := elt') gx stx b1 b2 (pI X.env)) pa_nil rfl) (by decide) (by decide) rfl rfl) (swap_no rfl) l2) ?_
    show tLc (WI X tg' it') (gT c.K tg) tYes (teX c.nl scope Ek elt') (own.map (·.2)) σ H (fun v H1 => WCall X (.type "tuple") [v] H1 fun v2 H2 => De.nx (σ.set i (some v2)) H2)
    rcases ob_some hx with ⟨ys, m1, e1, hx⟩ | ⟨z, m1, e1, eo⟩
    · cases hx
      refine comp_readX b3 I A gx hT s re e1 (fun ys' ed v G1 H1 s1 g1 r1 => ?_) (fun z e => by cases e)
      cases ed
      refine bi_val gx.calm (by have := gx.room.un; omega) .tuple rfl (ds := [.list ys]) (vs := [v]) (g := .tuple ys) rfl s1 (show RpA G1 [v] [.list ys] from ⟨r1, trivial⟩) fun v2 G2 H2 s2 g2 r2 => ?_
      exact post ad G2 H2 _ s2 (g1.trans g2) ((re.mono (g1.trans g2)).set i (s := some (.val (.tuple ys))) (v := some v2) r2)
    · subst eo
      exact comp_readX b3 I A gx hT s re e1 (fun ys' ed => by cases ed) (fun y e => by cases e; exact err_of (α := D) post z rfl)
  | .vw i C j, st, h, ok => by
    unfold chkS at h
    split at h <;> first | contradiction | skip
    injections; subst_vars
    rename_i _ _ i C j x px y py nm ap cp pos
    simp only [Bool.and_eq_true, decide_eq_true_eq] at h
    obtain ⟨⟨⟨⟨⟨⟨h1, h2⟩, rfl⟩, h3⟩, h4⟩, h5⟩, h6⟩ := h
    simp only [okS] at ok
    obtain ⟨fa, fd, ps, kk, hme, hk, hF, hb⟩ := ok.2
    intro X Ek gx hsc stx n ad Fx G H m env σ oc De hT s re hx post
    simp only [exec] at hx
    have F' : FnOk X.prog X.w X.K X.mg X.base (L2N.CX X.prog X.w) kk fa fd ps (spV C) := by
      rw [gx.eP, gx.ew, gx.eK, gx.em, gx.eb]; exact hF
    have hxp : Passes (L2N.CX X.prog X.w) X Ek := L2N.passes_call gx.tk fun _ _ _ _ z => z
    have cl : Cls X.K C := by rw [gx.eK]; exact ok.1.cl
    have me : Meth X.K C "log" fa := by rw [gx.eK]; exact hme
    have hb' : Binds X.K fd ps [] := by rw [gx.eK]; exact hb
    have pv : PE X (.Name y py) (tVar j) := pe_var (i := j) (sl_of gx h3) (gx.vis h4) (nm_d h5) (nm_c h5)
    have mev := meth_ev (o := .Name y py) (name := "log") (apos := ap) (pos := cp) (args := []) (env := X.env) rfl rfl h6
    obtain ⟨l1, l2⟩ := gx.sto h2
    refine toWSt (ps_set (i := i) gx.nd (sl_of gx h1) l1 (pe_meth0 pv cl me F' (gx.room.mono hk) hb' .nil hxp mev) (swap_no rfl) l2) ?_
    split at hx
    · rename_i C' d0 jj ee
      split at hx
      · rename_i hC
        subst hC
        split at hx
        · rename_i xs em
          cases hx
          obtain ⟨a, e0, hσ, ha, l⟩ := re.lab ee
          obtain ⟨dx, vn, q1, q2⟩ := l.at_
          obtain ⟨a', us, ha', hH, ru⟩ := s.mu.get em
          rw [ha] at ha'
          cases ha'
          refine ⟨.ref a, hσ, a, dx, _, rfl, s.sub a _ q1, labFs_no _ _ (by decide +kernel) (by decide +kernel), ?_⟩
          refine ⟨a, dx, e0, vn, us, rfl, s.sub a _ q1, hH, fun l' hl' => ?_⟩
          obtain ⟨s1, _⟩ := s.obj hl' ru
          have hlen : ad.length = m.length := s.mu.length
          exact post _ G _ _ s1 (Same.refl G) (re.more more_ad |>.set i (s := some (.obj m.length)) (v := some (.ref l')) ⟨l', by rw [← hlen]; simp, rfl⟩)
        · cases hx
      · cases hx
    · cases hx
  | .eapp C i e, st, h, ok => by
    unfold chkS at h
    split at h <;> first | contradiction | skip
    injections; subst_vars
    rename_i _ _ C i e x px f pf nm ap e' cp pos
    simp only [Bool.and_eq_true, decide_eq_true_eq] at h
    obtain ⟨⟨⟨⟨⟨⟨rfl, rfl⟩, h1⟩, h2⟩, h3⟩, h4⟩, h5⟩ := h
    simp only [okS] at ok
    have A := sE e c sc e' h5 ok.2
    intro X Ek gx hsc stx n ad Fx G H m env σ oc De hT s re hx post
    simp only [exec] at hx
    have st := plain_star (es := []) (env := X.env) A.2.2
    have few : ((backTo cp (starEach [e'] X.env)).all (fun x => !x.1) && (backToKw cp (keywordEach [] X.env)).all (fun x => x.1.isSome)
        && decide (([e'] : List Expr).length + ([] : List Keyword).length + (if ([] : List Keyword).isEmpty then 0 else 1) < 30)) = true := by
      rw [st]; rfl
    refine toWSt (ps_expr (pe_bm PySem.F.plainAttrs_list PySem.F.slot_list_append PySem.F.type_list_append mt_append (pe_fld (pe_var (i := i) (sl_of gx h1) (gx.vis h2) (nm_d h3) (nm_c h3)) rfl) (pa_cons (pWE (e := e')) pa_nil st) rfl few h4 st rfl) rfl) ?_
    split at hx
    · rename_i C' d0 j ee
      split at hx
      · rename_i hC
        subst hC
        obtain ⟨a, e0, hσ, ha, l⟩ := re.lab ee
        obtain ⟨dx, vn, q1, q2⟩ := l.at_
        obtain ⟨ws, hw⟩ := s.adh (List.mem_of_getElem? ha)
        refine ⟨.ref a, hσ, a, _, dx, _, .ref e0, rfl, s.sub a _ q1, by rw [gx.eK]; exact ok.1.cl, by rw [gx.eK]; exact ok.1.nE, labFs_e _ _, .inl ⟨rfl, ws, SqL.of hw⟩, ?_⟩
        rcases ob_some hx with ⟨d, m1, e1, hx⟩ | ⟨z, m1, e1, eo⟩
        · refine A.1.val gx hT s re e1 fun v G1 H1 s1 g1 r1 => ?_
          split at hx
          · rename_i xs em
            by_cases hl : xs.length < lim
            · rw [if_pos hl] at hx
              cases hx
              obtain ⟨a', us, ha', hH, ru⟩ := s1.mu.get em
              rw [ha] at ha'
              cases ha'
              exact ⟨e0, us, v, rfl, rfl, hH, by rw [ru.length]; exact Nat.lt_of_lt_of_le hl lim_le, post ad G1 _ σ (s1.write ha (ru.app (RpA.one r1))) g1 (re.mono g1)⟩
            · rw [if_neg hl] at hx
              cases hx
          · cases hx
        · subst eo
          exact A.1.err gx hT s re e1 (err_of (α := D) post)
      · cases hx
    · cases hx
  | .epop C i, st, h, ok => by
    unfold chkS at h
    split at h <;> first | contradiction | skip
    injections; subst_vars
    rename_i _ _ C i x px f pf nm ap cp pos
    simp only [Bool.and_eq_true, decide_eq_true_eq] at h
    obtain ⟨⟨⟨⟨⟨rfl, rfl⟩, h1⟩, h2⟩, h3⟩, h4⟩ := h
    simp only [okS] at ok
    intro X Ek gx hsc stx n ad Fx G H m env σ oc De hT s re hx post
    simp only [exec] at hx
    refine toWSt (ps_expr (pe_bm0 PySem.F.plainAttrs_list PySem.F.slot_list_pop PySem.F.type_list_pop mt_pop (pe_fld (pe_var (i := i) (sl_of gx h1) (gx.vis h2) (nm_d h3) (nm_c h3)) rfl) rfl h4) rfl) ?_
    split at hx
    · rename_i C' d0 j ee
      split at hx
      · rename_i hC
        subst hC
        obtain ⟨a, e0, hσ, ha, l⟩ := re.lab ee
        obtain ⟨dx, vn, q1, q2⟩ := l.at_
        split at hx
        · rename_i y ys em
          cases hx
          obtain ⟨a', us, ha', hH, ru⟩ := s.mu.get em
          rw [ha] at ha'
          cases ha'
          have hl : us.length = ys.length + 1 := ru.length
          obtain ⟨w, hw⟩ : ∃ w, us[us.length - 1]? = some w := ⟨us[us.length - 1]'(by omega), List.getElem?_eq_getElem (by omega)⟩
          refine ⟨.ref a, hσ, a, _, dx, _, .ref e0, rfl, s.sub a _ q1, by rw [gx.eK]; exact ok.cl, by rw [gx.eK]; exact ok.nE, labFs_e _ _, .inl ⟨rfl, us, SqL.of hH⟩, e0, us, w, rfl, rfl, hH, hw, ?_⟩
          have hd : RpA G us.dropLast (y :: ys).dropLast := by
            rw [List.dropLast_eq_take, List.dropLast_eq_take, ru.length]
            exact ru.take _
          exact post ad G _ σ (s.write ha hd) (Same.refl G) re
        · cases hx
      · cases hx
    · cases hx
  | .any, st, h, ok => fun X Ek gx hsc stx n ad Fx G H m env σ oc De hT s re h post => by simp [exec] at h
  | .frz i, st, h, ok => by simp [chkS] at h
  | .app i e, st, h, ok => by
    unfold chkS at h
    split at h <;> first | contradiction | skip
    injections; subst_vars
    rename_i _ _ i e x p nm ap e' cp pos
    simp only [Bool.and_eq_true, decide_eq_true_eq] at h
    obtain ⟨⟨⟨⟨⟨rfl, h1⟩, h2⟩, h3⟩, h4⟩, h5⟩ := h
    simp only [okS] at ok
    have A := sE e c sc e' h5 ok
    have A1 : A2 (Snd c sc) [e] [e'] := ⟨A, trivial⟩
    intro X Ek gx hsc stx n ad Fx G H m env σ oc De hT s re hx post
    simp only [exec] at hx
    have st := plain_star (es := []) (env := X.env) A.2.2
    have few : ((backTo cp (starEach [e'] X.env)).all (fun x => !x.1) && (backToKw cp (keywordEach [] X.env)).all (fun x => x.1.isSome)
        && decide (([e'] : List Expr).length + ([] : List Keyword).length + (if ([] : List Keyword).isEmpty then 0 else 1) < 30)) = true := by
      rw [st]; rfl
    refine toWSt (ps_expr (pe_bm PySem.F.plainAttrs_list PySem.F.slot_list_append PySem.F.type_list_append mt_append (pe_var (i := i) (sl_of gx h1) (gx.vis h2) (nm_d h3) (nm_c h3)) (pa_cons (pWE (e := e')) pa_nil st) rfl few h4 st rfl) rfl) ?_
    cases ee : env[i]? with
    | none => rw [ee] at hx; cases hx
    | some o =>
      rw [ee] at hx
      cases o with
      | none => cases hx
      | some o =>
        cases o with
        | val d => cases hx
        | lab _ _ _ => cases hx
        | labF _ _ _ => cases hx
        | obj j =>
          obtain ⟨a, hσ, ha⟩ := re.obj ee
          obtain ⟨ws, hw⟩ := s.adh (List.mem_of_getElem? ha)
          refine ⟨.ref a, hσ, .inl ⟨rfl, ws, SqL.of hw⟩, ?_⟩
          rcases ob_some hx with ⟨d, m1, e1, hx⟩ | ⟨z, m1, e1, eo⟩
          · refine A.1.val gx hT s re e1 fun v G1 H1 s1 g1 r1 => ?_
            cases em : m1[j]? with
            | none => rw [em] at hx; cases hx
            | some o =>
              rw [em] at hx
              cases o with
              | none => cases hx
              | some xs =>
                simp only at hx
                by_cases hl : xs.length < lim
                · rw [if_pos hl] at hx
                  cases hx
                  obtain ⟨a', us, ha', hH, ru⟩ := s1.mu.get em
                  rw [ha] at ha'
                  cases ha'
                  exact ⟨a, us, v, rfl, rfl, hH, by rw [ru.length]; exact Nat.lt_of_lt_of_le hl lim_le, post ad G1 _ σ (s1.write ha (ru.app (RpA.one r1))) g1 (re.mono g1)⟩
                · rw [if_neg hl] at hx
                  cases hx
          · subst eo
            exact A.1.err gx hT s re e1 (err_of (α := D) post)
  | .oset i k e, st, h, ok => by
    unfold chkS at h
    split at h <;> first | contradiction | skip
    injections; subst_vars
    rename_i _ _ i k e x p k' sp e' pos
    simp only [Bool.and_eq_true, decide_eq_true_eq] at h
    obtain ⟨⟨⟨⟨h1, h2⟩, h3⟩, h4⟩, h5⟩ := h
    simp only [okS] at ok
    have K := sE k c sc k' h4 ok.1
    have A := sE e c sc e' h5 ok.2
    intro X Ek gx hsc stx n ad Fx G H m env σ oc De hT s re hx post
    simp only [exec] at hx
    have ns : swapsWithSole [.Subscript (.Name x p) k' sp] e' pos.line X.env = pure false := by
      show swapsWith e' (some (.Subscript (.Name x p) k' sp)) pos.line X.env = pure false
      cases e' <;> rfl
    refine toWSt (ps_asg (pWE (e := e')) (pg_sub (pe_var (i := i) (sl_of gx h1) (gx.vis h2) (nm_d h3) (nm_c h3)) (pWE (e := k')) set_list (fun v => by have pk := K.2.2; cases k' <;> first | rfl | (simp [plainE] at pk))) ns (by cases e' <;> rfl) rfl) ?_
    cases ee : env[i]? with
    | none => rw [ee] at hx; cases hx
    | some o =>
      rw [ee] at hx
      cases o with
      | none => cases hx
      | some o =>
        cases o with
        | val d => cases hx
        | lab _ _ _ => cases hx
        | labF _ _ _ => cases hx
        | obj j =>
          obtain ⟨a, hσ, ha⟩ := re.obj ee
          rcases ob_some hx with ⟨d, m1, e1, hx⟩ | ⟨z, m1, e1, eo⟩
          · refine A.1.val gx hT s re e1 fun v G1 H1 s1 g1 r1 => ⟨.ref a, hσ, ?_⟩
            rcases ob_some hx with ⟨z, m2, e2, hx⟩ | ⟨z, m2, e2, eo⟩
            · refine K.1.val gx hT s1 (re.mono g1) e2 fun w G2 H2 s2 g2 r2 => ?_
              cases z with
              | int z =>
                cases em : m2[j]? with
                | none => rw [em] at hx; cases hx
                | some o =>
                  rw [em] at hx
                  cases o with
                  | none => cases hx
                  | some xs =>
                    obtain ⟨l, hl, eo⟩ := Option.map_eq_some_iff.mp hx
                    subst eo
                    cases r2
                    obtain ⟨a', us, ha', hH, ru⟩ := s2.mu.get em
                    rw [ha] at ha'
                    cases ha'
                    exact ⟨a, us, z, l, rfl, rfl, hH, by rw [ru.length]; exact hl, post ad G2 _ σ (s2.write ha (RpA.set (Rp.mono g2 _ _ r1) l ru)) (g1.trans g2) (re.mono (g1.trans g2))⟩
              | _ => cases hx
            · subst eo
              exact K.1.err gx hT s1 (re.mono g1) e2 (err_of (α := D) post)
          · subst eo
            exact A.1.err gx hT s re e1 (err_of (α := D) post)
  | .ifS t a b, st, h, ok => by
    unfold chkS at h
    split at h <;> first | contradiction | skip
    injections; subst_vars
    rename_i _ _ t a b t' a' b' pos
    simp only [Bool.and_eq_true] at h
    obtain ⟨⟨⟨h1, h2⟩, h3⟩, h4⟩ := h
    simp only [okS] at ok
    have Te := sE t c sc t' h1 ok.1
    have A := sSs c sc a a' h3 ok.2.1
    have B := sSs c sc b b' h4 ok.2.2
    intro X Ek gx hsc stx n ad Fx G H m env σ oc De hT s re hx post
    simp only [exec] at hx
    refine toWSt (ps_if (pWT (e := t')) (pWSs (sts := a')) (pWSs (sts := b'))) ?_
    rcases ob_some hx with ⟨z, m1, e1, hx⟩ | ⟨z, m1, e1, eo⟩
    · refine Te.2.1 h2 X Ek gx n ad Fx G H m env σ _ _ _ hT s re e1 (fun z' ez G1 H1 s1 g1 => ?_) (fun x e => by cases e)
      cases ez
      cases z with
      | true =>
        rw [if_pos rfl] at hx
        exact iteT (A X Ek gx hsc stx n ad Fx G1 H1 m1 env σ oc De hT s1 (re.mono g1) hx (post.mono g1))
      | false =>
        rw [if_neg (by decide)] at hx
        exact iteF (B X Ek gx hsc stx n ad Fx G1 H1 m1 env σ oc De hT s1 (re.mono g1) hx (post.mono g1))
    · subst eo
      exact Te.2.1 h2 X Ek gx n ad Fx G H m env σ _ _ _ hT s re e1 (fun z' ez => by cases ez) (err_of post)
  | .forS t it b, st, h, ok => by
    unfold chkS at h
    split at h <;> first | contradiction | skip
    injections; subst_vars
    rename_i _ _ t it b tg it' b' pos
    simp only [Bool.and_eq_true] at h
    obtain ⟨⟨h1, h2⟩, h3⟩ := h
    simp only [okS] at ok
    obtain ⟨I, pI⟩ := sI it c sc tg it' t h2 ok.1 ⟨sc, h1⟩
    have B := sSs c sc b b' h3 ok.2
    intro X Ek gx hsc stx n ad Fx G H m env σ oc De hT s re hx post
    simp only [exec] at hx
    refine toWSt (ps_for stx.own gx.calm pWI (gt_ok gx h1) (pWSs (sts := b')) (pI X.env)) ?_
    rcases ob_some hx with ⟨ds, m1, e1, hx⟩ | ⟨z, m1, e1, eo⟩
    · revert hx
      generalize hf : (fun (d : D) (env : En) (m : Mu) => match bindT t d env with
        | some env1 => execs b env1 m
        | none => none) = f
      intro hx
      refine I X Ek gx n ad Fx G H m env σ _ _ _ hT s re e1 (fun ds' e J G1 H1 s1 g1 wk => ?_) (fun x e => by cases e)
      cases e
      refine ⟨fun i k σ H => k = ds.length - i ∧ i ≤ ds.length ∧ ∃ ad2 G2 m2 env2, SI n ad2 Fx G2 H m2 ∧ Same G1 G2 ∧ RE ad2 G2 env2 σ ∧ loopF f (ds.drop i) env2 m2 = some oc,
        ⟨ds.length, by omega, Nat.zero_le _, ad, G1, m1, env, s1, Same.refl _, re.mono g1, hx⟩, ?_⟩
      rintro i k σ2 H2 ⟨rfl, hi, ad2, G2, m2, env2, s2, g2, re2, hl⟩
      by_cases hlt : i < ds.length
      · right
        obtain ⟨d, hd⟩ : ∃ d, ds[i]? = some d := ⟨ds[i], List.getElem?_eq_getElem hlt⟩
        have hdrop : ds.drop i = d :: ds.drop (i + 1) := by
          rw [List.drop_eq_getElem_cons hlt]
          rw [List.getElem?_eq_getElem hlt] at hd
          cases hd
          rfl
        rw [hdrop] at hl
        simp only [loopF] at hl
        have sub2 : Same G1 H2 := g2.trans s2.sub
        refine ⟨wk.goes i H2 hlt sub2, fun σ' H' => i + 1 ≤ ds.length ∧ ∃ ad2 G2 m2 env2, SI n ad2 Fx G2 H' m2 ∧ Same G1 G2 ∧ RE ad2 G2 env2 σ' ∧ loopF f (ds.drop (i + 1)) env2 m2 = some oc,
          fun σ' H' w => ⟨ds.length - (i + 1), by omega, rfl, w⟩, fun x H3 y => ?_⟩
        obtain ⟨hh, tgo⟩ := wk.yields i H2 x H3 d hd sub2 y
        have s3 : SI n ad2 Fx G2 H3 m2 := by
          rcases hh with e | ⟨T, ob, hT, e⟩
          · rw [e]; exact s2
          · rw [e]; exact s2.junk hT
        rw [gx.eK]
        cases hbi : bindT t d env2 with
        | none => rw [← hf] at hl; simp only [hbi] at hl; cases hl
        | some env3 =>
          refine gt_go (tgo.mono g2) hbi re2 fun σ3 re3 _ => ?_
          have hfd : f d env2 m2 = execs b env3 m2 := by rw [← hf]; simp only [hbi]
          rw [hfd] at hl
          cases hex : execs b env3 m2 with
          | none => rw [hex] at hl; cases hl
          | some o2 =>
            rw [hex] at hl
            refine B X Ek gx hsc stx n ad2 Fx G2 H3 m2 env3 σ3 o2 _ hT s3 re3 hex ?_
            cases o2 with
            | nx env4 m4 => exact fun ad4 G4 H4 σ4 s4 g4 re4 => ⟨hlt, ad4, G4, m4, env4, s4, g2.trans g4, re4, hl⟩
            | rt d4 m4 =>
              cases hl
              exact fun ad4 v G4 H4 s4 g4 r4 => post ad4 v G4 H4 s4 ((g1.trans g2).trans g4) r4
            | ex x4 m4 =>
              cases hl
              exact post
      · left
        have e : i = ds.length := by omega
        subst e
        rw [List.drop_length] at hl
        cases hl
        exact ⟨wk.stops H2 (g2.trans s2.sub), post ad2 G2 H2 σ2 s2 (g1.trans g2) re2⟩
    · subst eo
      exact I X Ek gx n ad Fx G H m env σ _ _ _ hT s re e1 (fun ds e => by cases e) (err_of post)
  | .whl t b, st, h, ok => by
    unfold chkS at h
    split at h <;> first | contradiction | skip
    injections; subst_vars
    rename_i _ _ t b t' b' pos
    simp only [Bool.and_eq_true] at h
    obtain ⟨⟨h1, h2⟩, h3⟩ := h
    simp only [okS] at ok
    have Te := sE t c sc t' h1 ok.1
    have B := sSs c sc b b' h3 ok.2
    intro X Ek gx hsc stx n ad Fx G H m env σ oc De hT s re hx post
    simp only [exec] at hx
    refine toWSt (ps_while stx.own (pWT (e := t')) (pWSs (sts := b'))) ?_
    refine ⟨fun k σ H => ∃ ad2 G2 m2 env2, SI n ad2 Fx G2 H m2 ∧ Same G G2 ∧ RE ad2 G2 env2 σ ∧ whileF (fun env m => tstD (ev t env m)) (fun env m => execs b env m) k env2 m2 = some oc, ⟨100, ad, G, m, env, s, Same.refl _, re, hx⟩, ?_⟩
    rintro k σ2 H2 ⟨ad2, G2, m2, env2, s2, g2, re2, hl⟩
    cases k with
    | zero => cases hl
    | succ k =>
      simp only [whileF] at hl
      rcases ob_some hl with ⟨z, m3, e1, hl⟩ | ⟨z, m3, e1, eo⟩
      · refine Te.2.1 h2 X Ek gx n ad2 Fx G2 H2 m2 env2 σ2 _ _ _ hT s2 re2 e1 (fun z' ez G3 H3 s3 g3 => ?_) (fun x e => by cases e)
        cases ez
        cases z with
        | false =>
          rw [if_neg (by decide)] at hl
          cases hl
          exact iteF (post ad2 G3 H3 σ2 s3 (g2.trans g3) (re2.mono g3))
        | true =>
          rw [if_pos rfl] at hl
          refine iteT ⟨fun σ' H' => ∃ ad2 G2 m2 env2, SI n ad2 Fx G2 H' m2 ∧ Same G G2 ∧ RE ad2 G2 env2 σ' ∧ whileF (fun env m => tstD (ev t env m)) (fun env m => execs b env m) k env2 m2 = some oc, fun σ' H' w => ⟨k, Nat.lt_succ_self k, w⟩, ?_⟩
          cases hex : execs b env2 m3 with
          | none => rw [hex] at hl; cases hl
          | some o2 =>
            rw [hex] at hl
            refine B X Ek gx hsc stx n ad2 Fx G3 H3 m3 env2 σ2 o2 _ hT s3 (re2.mono g3) hex ?_
            cases o2 with
            | nx env4 m4 => exact fun ad4 G4 H4 σ4 s4 g4 re4 => ⟨ad4, G4, m4, env4, s4, (g2.trans g3).trans g4, re4, hl⟩
            | rt d4 m4 =>
              cases hl
              exact fun ad4 v G4 H4 s4 g4 r4 => post ad4 v G4 H4 s4 ((g2.trans g3).trans g4) r4
            | ex x4 m4 =>
              cases hl
              exact post
      · subst eo
        exact Te.2.1 h2 X Ek gx n ad2 Fx G2 H2 m2 env2 σ2 _ _ _ hT s2 re2 e1 (fun z' ez => by cases ez) (err_of post)
  | .ret e, st, h, ok => by
    unfold chkS at h
    split at h <;> first | contradiction | skip
    injections; subst_vars
    rename_i _ _ e e' pos
    simp only [okS] at ok
    have A := sE e c sc e' h ok
    intro X Ek gx hsc stx n ad Fx G H m env σ oc De hT s re hx post
    simp only [exec] at hx
    refine toWSt (ps_ret (pWE (e := e'))) ?_
    rcases ob_some hx with ⟨d, m1, e1, hx⟩ | ⟨z, m1, e1, eo⟩
    · cases hx
      exact A.1.val gx hT s re e1 fun v G1 H1 s1 g1 r1 => post ad v G1 H1 s1 g1 r1
    · subst eo
      exact A.1.err gx hT s re e1 (err_of (α := D) post)
  | .retN, st, h, ok => by
    unfold chkS at h
    split at h <;> first | contradiction | skip
    injections; subst_vars
    intro X Ek gx hsc stx n ad Fx G H m env σ oc De hT s re hx post
    simp only [exec] at hx
    cases hx
    exact toWSt ps_retN (post ad .non G H s (Same.refl G) rfl)
  | .raise x, st, h, ok => by
    unfold chkS at h
    split at h <;> first | contradiction | skip
    injections; subst_vars
    simp only [Bool.and_eq_true, decide_eq_true_eq] at h
    obtain ⟨⟨rfl, h1⟩, h2⟩ := h
    simp only [okS] at ok
    obtain ⟨C, k1, k2, k3, k4, k5, k6⟩ := ok
    intro X Ek gx hsc stx n ad Fx G H m env σ oc De hT s re hx post
    simp only [exec] at hx
    cases hx
    refine toWSt (L2N.ps_raise gx.calm gx.tk (L2N.pmk_own PySem.F.excBase_ValueError (by rw [gx.eK]; exact k3) (by rw [gx.em]; exact k2) (by rw [gx.eK]; exact k4) (raises_own (by rw [gx.eK]; exact k5) (by rw [gx.eK]; exact k6)) (gx.gl h1) (nm_d h2))) ?_
    exact post C k1 ad G H s
  | .exp e, st, h, ok => by
    unfold chkS at h
    split at h <;> first | contradiction | skip
    injections; subst_vars
    rename_i _ _ e e' pos
    simp only [Bool.and_eq_true] at h
    simp only [okS] at ok
    have A := sE e c sc e' h.1 ok
    intro X Ek gx hsc stx n ad Fx G H m env σ oc De hT s re hx post
    simp only [exec] at hx
    refine toWSt (ps_expr (pWE (e := e')) (swap_no h.2)) ?_
    rcases ob_some hx with ⟨d, m1, e1, hx⟩ | ⟨z, m1, e1, eo⟩
    · cases hx
      exact A.1.val gx hT s re e1 fun v G1 H1 s1 g1 r1 => post ad G1 H1 σ s1 g1 (re.mono g1)
    · subst eo
      exact A.1.err gx hT s re e1 (err_of (α := D) post)
theorem sSs (c : Ct) (sc : Scope) : ∀ (irs : List S) (sts : List Stmt), chkSs c.N sc irs sts = true → okSs c irs → SSs c sc irs sts
  | [], [], _, _ => by
    intro X Ek gx hsc stx n ad Fx G H m env σ oc De hT s re hx post
    simp only [execs] at hx
    cases hx
    exact toWSs pss_nil (post ad G H σ s (Same.refl G) re)
  | [], _ :: _, h, _ => by simp [chkSs] at h
  | s0 :: r, sts, h, ok => by
    simp only [okSs] at ok
    cases hf : isFrz s0 with
    | some i =>
      have e0 := isFrz_some hf
      have R := sSs c sc r sts (by rw [e0] at h; cases sts <;> simpa only [chkSs] using h) ok.2
      intro X Ek gx hsc stx n ad Fx G H m env σ oc De hT s re hx post
      rw [e0] at hx
      simp only [execs, exec] at hx
      cases ee : env[i]? with
      | none => rw [ee] at hx; cases hx
      | some o =>
        rw [ee] at hx
        cases o with
        | none => cases hx
        | some o =>
          cases o with
          | val d => cases hx
          | lab _ _ _ => cases hx
          | labF _ _ _ => cases hx
          | obj j =>
            simp only at hx
            cases em : m[j]? with
            | none => rw [em] at hx; cases hx
            | some o =>
              rw [em] at hx
              cases o with
              | none => cases hx
              | some xs =>
                by_cases hj : 1 ≤ j
                · simp only [if_pos hj] at hx
                  obtain ⟨p, vs, hp, hH, rp⟩ := s.mu.get em
                  obtain ⟨s1, g1⟩ := s.freeze hj hp em hH
                  exact R X Ek gx hsc stx n _ Fx _ H _ _ σ oc De hT s1 (thaw_re re hp g1 ⟨p, vs, rfl, upd_same, RpA.mono g1 _ _ rp⟩) hx (post.mono g1)
                · simp only [if_neg hj] at hx
                  cases hx
    | none =>
      obtain ⟨st, ss, e, h1, h2⟩ := chk_cons hf h
      rw [e]
      have A := sS c sc s0 st h1 ok.1
      have R := sSs c sc r ss h2 ok.2
      intro X Ek gx hsc stx n ad Fx G H m env σ oc De hT s re hx post
      simp only [execs] at hx
      refine toWSs (pss_cons (pWSt (st := st)) (pWSs (sts := ss))) ?_
      cases hex : exec s0 env m with
      | none => rw [hex] at hx; cases hx
      | some o2 =>
        rw [hex] at hx
        refine A X Ek gx hsc stx n ad Fx G H m env σ o2 _ hT s re hex ?_
        cases o2 with
        | nx env1 m1 => exact fun ad1 G1 H1 σ1 s1 g1 re1 => R X Ek gx hsc stx n ad1 Fx G1 H1 m1 env1 σ1 oc De hT s1 re1 hx (post.mono g1)
        | rt d m1 =>
          cases hx
          exact post
        | ex x m1 =>
          cases hx
          exact post
end
end TO

set_option Elab.async false
set_option linter.all false
set_option maxRecDepth 100000
set_option maxHeartbeats 8000000
/-! A def keeps the promise that its text makes. -/
namespace TO
open PySem PySem.Spec L2

section
variable {c : Ct}
/-- the def's code object, its table, its lambdas' name -/
def LamOf (c : Ct) (qual : Str) (cd : Value) : Prop := ∀ a P q, c.lam = some (a, P, q) → cd = .ref a ∧ qual ++ ".<locals>." ++ "<lambda>" = q
theorem gx_def {CX0 : Prop} {qual : Str} {sc : Scope} {ps : List Str} {f : Addr} {cdv : Value} {A : Around} {outer : List Env} {s : Shared} {H : Hp} {E : XK} (S : FnScope c.N ps sc) (hbf : ∀ x ∈ BN, c.mg x = none) (hr : Room c.k (A.deeper (PyProof.Rows.envOfC qual sc s.heap.objs.size f cdv))) (hlm : LamOf c qual cdv) :
    GX c sc (cxOf (L2N.CX c.P c.w) c.P c.w c.K c.mg c.base c.N qual sc f cdv A outer s H E) E where
  eP := rfl
  ew := rfl
  eK := rfl
  em := rfl
  eb := rfl
  eN := rfl
  nd := S.nd
  calm := rfl
  room := hr
  tk := L2N.takes_of rfl rfl rfl rfl
  bk := S.kind
  loc := fun x h => h
  cel := fun x h => ⟨h, rfl⟩
  fre := fun x h => .inr h
  glo := fun x h => h
  bf := hbf
  lm := hlm
theorem re_start {ad : List (Option Addr)} {G : Hp} {ds : List D} {vs : List V} {k : Nat} (r : RpA G vs ds) : RE ad G (ds.map (fun d => some (.val d)) ++ List.replicate k none) (vs.map some ++ List.replicate k none) := by
  refine ⟨by simp [r.length], fun i s v a b => ?_⟩
  by_cases hi : i < ds.length
  · rw [List.getElem?_append_left (by simpa using hi), List.getElem?_map, List.getElem?_eq_getElem hi] at a
    rw [List.getElem?_append_left (by rw [List.length_map, r.length]; exact hi), List.getElem?_map] at b
    cases a
    obtain ⟨w, h1, h2⟩ := r.get (List.getElem?_eq_getElem hi)
    rw [h1] at b
    cases b
    exact h2
  · rw [List.getElem?_append_right (by simpa using hi)] at a
    obtain ⟨_, e⟩ := List.getElem?_eq_some_iff.mp a
    rw [List.getElem_replicate] at e
    subst e
    exact trivial
/-- a def, its exceptions told in any way -/
theorem fun_okN {CX : CXT} {P : Program} {w : World} {K : PySem.W.Frag} {mg : Str → Option Value} {base : Heap} {x qual : Str} {st : Stmt} {f : Addr} {fd : FuncData} {N ps : List Str} {k : Nat} {sp : Sp} (F : Fun K x qual st f fd) (Sc : FnScope N ps (defScope st)) (len : ∀ vs H Q E, sp vs H Q E → vs.length = ps.length)
    (hb : ∀ (cdv : Value) (A : Around) (outer : List Env) (s : Shared) (H : Hp) (vs : List V) (Q : VK) (E : XK), fd.code = cdv → Room k (A.deeper (PyProof.Rows.envOfC qual (defScope st) s.heap.objs.size f cdv)) → sp vs H Q E → ∃ t, PSs (cxOf CX P w K mg base N qual (defScope st) f cdv A outer s H E) (defBody st) t ∧ t { nx := fun _ H' => Q .non H', rt := Q } (L2.start N vs) H) :
    FnOk P w K mg base CX (k + 1) f fd ps sp := by
  obtain ⟨_, _, _, _, _, _, cdv, _, _, rfl, h1, h2⟩ := F.ex
  exact fn_of h1 h2 Sc len fun A outer s H vs Q E hr h => hb cdv A outer s H vs Q E rfl hr h
theorem fnP_ok {x qual : Str} {st : Stmt} {f : Addr} {fd : FuncData} {ps : List Str} {ir : List S} (F : Fun c.K x qual st f fd) (Sc : FnScope c.N ps (defScope st)) (hbf : ∀ x ∈ BN, c.mg x = none) (hc : chkSs c.N (defScope st) ir (defBody st) = true) (ok : okSs c ir) (hlm : LamOf c qual fd.code) :
    FnOk c.P c.w c.K c.mg c.base (L2N.CX c.P c.w) (c.k + 1) f fd ps (spP c (fnP ir c.N.length ps.length)) := by
  have len : ∀ vs H Q E, spP c (fnP ir c.N.length ps.length) vs H Q E → vs.length = ps.length := fun vs H Q E h => by
    obtain ⟨G, ds, _, _, _, r, h⟩ := h
    rw [r.length]
    unfold fnP at h
    by_cases hl : ds.length = ps.length
    · exact hl
    · rw [if_neg hl] at h
      exact h.elim
  refine fun_okN F Sc len fun cdv A outer s H vs Q E ec hr h => ⟨WSs _ (defBody st), pWSs, ?_⟩
  have hlen := len vs H Q E h
  obtain ⟨G, ds, hs, hfl, ht, r, h⟩ := h
  unfold fnP at h
  rw [if_pos (by rw [← r.length]; exact hlen)] at h
  cases hex : execs ir (ds.map (fun d => some (.val d)) ++ List.replicate (c.N.length - ds.length) none) [none] with
  | none => rw [hex] at h; exact h.elim
  | some oc =>
    rw [hex] at h
    have s0 : SI ⟨c.T, G, H, fun _ => False, none, fun _ => none⟩ [none] (fun _ => none) G H [none] := {
      sub := hs
      up := Same.refl G
      bs := fun b o e => by cases e
      new := fun b o e => .inl e
      mu := trivial
      adg := fun p hp => by simp at hp
      nd := fun i j p e1 e2 => by
        have h1 : i < 1 := (List.getElem?_eq_some_iff.mp e1).1
        have h2 : i = 0 := by omega
        subst h2
        cases e1
      adm := fun p hp => by simp at hp
      adl := fun j p hj e => by
        have h1 : j < 1 := (List.getElem?_eq_some_iff.mp e).1
        omega
      hd := rfl
      fx := fun p o e => by cases e
      ext := fun b o _ e => .inl e
      live := fun b e => e
      tabs := ht
      flat := hfl }
    have re0 : RE [none] G (ds.map (fun d => some (.val d)) ++ List.replicate (c.N.length - ds.length) none) (L2.start c.N vs) := by
      unfold L2.start
      rw [r.length]
      exact re_start r
    refine sSs c (defScope st) ir (defBody st) hc ok _ E (gx_def (CX0 := True) Sc hbf hr (by rw [← ec]; exact hlm)) rfl ⟨passes_of rfl, rfl, rfl⟩ _ _ _ G H _ _ _ oc _ rfl s0 re0 hex ?_
    cases oc with
    | nx env m => exact fun ad G' H' σ' s' g' re' => h .non G' H' s'.to rfl
    | rt d m => exact fun ad v G' H' s' g' r' => h v G' H' s'.to r'
    | ex y m => exact fun C hC ad G' H' s' => h C hC G' H' s'.to
theorem fnM_ok {x qual : Str} {st : Stmt} {f : Addr} {fd : FuncData} {ps : List Str} {ir : List S} (F : Fun c.K x qual st f fd) (Sc : FnScope c.N ps (defScope st)) (hbf : ∀ x ∈ BN, c.mg x = none) (hc : chkSs c.N (defScope st) ir (defBody st) = true) (ok : okSs c ir) (hlm : LamOf c qual fd.code) :
    FnOk c.P c.w c.K c.mg c.base (L2N.CX c.P c.w) (c.k + 1) f fd ps (spM c (fnM ir c.N.length ps.length)) := by
  have len : ∀ vs H Q E, spM c (fnM ir c.N.length ps.length) vs H Q E → vs.length = ps.length := fun vs H Q E h => by
    obtain ⟨G, a, rest, ws, xs, ds, rfl, _, _, _, _, _, _, r, h⟩ := h
    unfold fnM at h
    rw [List.length_cons, r.length]
    by_cases hl : ds.length + 1 = ps.length
    · exact hl
    · rw [if_neg hl] at h
      exact h.elim
  refine fun_okN F Sc len fun cdv A outer s H vs Q E ec hr h => ⟨WSs _ (defBody st), pWSs, ?_⟩
  have hlen := len vs H Q E h
  obtain ⟨G, a, rest, ws, xs, ds, rfl, hs, hfl, ht, ga, ha, rw', r, h⟩ := h
  unfold fnM at h
  rw [if_pos (by rw [← r.length]; exact hlen)] at h
  cases hex : execs ir (some (.obj 0) :: (ds.map (fun d => some (.val d)) ++ List.replicate (c.N.length - (ds.length + 1)) none)) [some xs] with
  | none => rw [hex] at h; exact h.elim
  | some oc =>
    rw [hex] at h
    have s0 : SI ⟨c.T, G, H, (· = a), some a, fun _ => none⟩ [some a] (fun _ => none) G H [some xs] := {
      sub := hs
      up := Same.refl G
      bs := fun b o e => by cases e
      new := fun b o e => .inl e
      mu := ⟨⟨ws, ha, rw'⟩, trivial⟩
      adg := fun p hp => by
        have : p = a := by simpa using hp
        rw [this]; exact ga
      nd := fun i j p e1 e2 => by
        have h1 : i < 1 := (List.getElem?_eq_some_iff.mp e1).1
        have h2 : j < 1 := (List.getElem?_eq_some_iff.mp e2).1
        omega
      adm := fun p hp => .inl (by simpa using hp)
      adl := fun j p hj e => by
        have h1 : j < 1 := (List.getElem?_eq_some_iff.mp e).1
        omega
      hd := rfl
      fx := fun p o e => by cases e
      ext := fun b o _ e => .inl e
      live := fun b e => e
      tabs := ht
      flat := hfl }
    have re0 : RE [some a] G (some (.obj 0) :: (ds.map (fun d => some (.val d)) ++ List.replicate (c.N.length - (ds.length + 1)) none)) (L2.start c.N (.ref a :: rest)) := by
      have q := re_start (ad := [some a]) (k := c.N.length - (ds.length + 1)) r
      unfold L2.start
      rw [List.length_cons, r.length]
      refine ⟨by simpa using q.1, fun i s v e1 e2 => ?_⟩
      cases i with
      | zero =>
        cases e1
        cases e2
        exact ⟨a, rfl, rfl⟩
      | succ i => exact q.2 i s v e1 e2
    have fin : ∀ {ad : List (Option Addr)} {G' H' : Hp} {ys : List D} {m : Mu}, SI ⟨c.T, G, H, (· = a), some a, fun _ => none⟩ ad (fun _ => none) G' H' (some ys :: m) → ∃ ws', G' a = none ∧ H' a = some (.lst ws') ∧ RpA G' ws' ys := fun {ad G' H' ys m} s' => by
      obtain ⟨p, us, h1, h2, h3⟩ := s'.mu.get (j := 0) rfl
      have := s'.hd
      rw [h1] at this
      cases this
      exact ⟨us, s'.adg a (List.mem_of_getElem? h1), h2, h3⟩
    refine sSs c (defScope st) ir (defBody st) hc ok _ E (gx_def (CX0 := True) Sc hbf hr (by rw [← ec]; exact hlm)) rfl ⟨passes_of rfl, rfl, rfl⟩ _ _ _ G H _ _ _ oc _ rfl s0 re0 hex ?_
    cases oc with
    | nx env m =>
      cases m with
      | nil => exact h.elim
      | cons y m =>
        cases y with
        | none => exact h.elim
        | some ys =>
          intro ad G' H' σ' s' g' re'
          obtain ⟨us, h1, h2, h3⟩ := fin s'
          exact h .non G' H' us s'.to h1 h2 h3 rfl
    | rt d m =>
      cases m with
      | nil => exact h.elim
      | cons y m =>
        cases y with
        | none => exact h.elim
        | some ys =>
          intro ad v G' H' s' g' r'
          obtain ⟨us, h1, h2, h3⟩ := fin s'
          exact h v G' H' us s'.to h1 h2 h3 r'
    | ex y m => exact h.elim
theorem fnL_ok {x qual : Str} {st : Stmt} {f : Addr} {fd : FuncData} {ps : List Str} {C : Nat} {ir : List S} (F : Fun c.K x qual st f fd) (Sc : FnScope c.N ps (defScope st)) (hbf : ∀ x ∈ BN, c.mg x = none) (hc : chkSs c.N (defScope st) ir (defBody st) = true) (ok : okSs c ir) (hlm : LamOf c qual fd.code) :
    FnOk c.P c.w c.K c.mg c.base (L2N.CX c.P c.w) (c.k + 1) f fd ps (spL c C (fnL ir c.N.length ps.length C)) := by
  have len : ∀ vs H Q E, spL c C (fnL ir c.N.length ps.length C) vs H Q E → vs.length = ps.length := fun vs H Q E h => by
    obtain ⟨G, a, e, rest, ws, d, xs, ds, rfl, _, _, _, _, _, _, _, r, h⟩ := h
    unfold fnL at h
    rw [List.length_cons, r.length]
    by_cases hl : ds.length + 1 = ps.length
    · exact hl
    · rw [if_neg hl] at h
      exact h.elim
  refine fun_okN F Sc len fun cdv A outer s H vs Q E ec hr h => ⟨WSs _ (defBody st), pWSs, ?_⟩
  have hlen := len vs H Q E h
  obtain ⟨G, a, e, rest, ws, d, xs, ds, rfl, hs, hfl, ht, lat, ge, he, rw', r, h⟩ := h
  unfold fnL at h
  rw [if_pos (by rw [← r.length]; exact hlen)] at h
  cases hex : execs ir (some (.lab C d 0) :: (ds.map (fun d => some (.val d)) ++ List.replicate (c.N.length - (ds.length + 1)) none)) [some xs] with
  | none => rw [hex] at h; exact h.elim
  | some oc =>
    rw [hex] at h
    have s0 : SI ⟨c.T, G, H, (· = e), some e, fun _ => none⟩ [some e] (fun _ => none) G H [some xs] := {
      sub := hs
      up := Same.refl G
      bs := fun b o e => by cases e
      new := fun b o e => .inl e
      mu := ⟨⟨ws, he, rw'⟩, trivial⟩
      adg := fun p hp => by
        have : p = e := by simpa using hp
        rw [this]; exact ge
      nd := fun i j p e1 e2 => by
        have h1 : i < 1 := (List.getElem?_eq_some_iff.mp e1).1
        have h2 : j < 1 := (List.getElem?_eq_some_iff.mp e2).1
        omega
      adm := fun p hp => .inl (by simpa using hp)
      adl := fun j p hj e => by
        have h1 : j < 1 := (List.getElem?_eq_some_iff.mp e).1
        omega
      hd := rfl
      fx := fun p o e => by cases e
      ext := fun b o _ e => .inl e
      live := fun b e => e
      tabs := ht
      flat := hfl }
    have re0 : RE [some e] G (some (.lab C d 0) :: (ds.map (fun d => some (.val d)) ++ List.replicate (c.N.length - (ds.length + 1)) none)) (L2.start c.N (.ref a :: rest)) := by
      have q := re_start (ad := [some e]) (k := c.N.length - (ds.length + 1)) r
      unfold L2.start
      rw [List.length_cons, r.length]
      refine ⟨by simpa using q.1, fun i s v e1 e2 => ?_⟩
      cases i with
      | zero =>
        cases e1
        cases e2
        exact ⟨a, e, rfl, rfl, lat⟩
      | succ i => exact q.2 i s v e1 e2
    have fin : ∀ {ad : List (Option Addr)} {G' H' : Hp} {ys : List D} {m : Mu}, SI ⟨c.T, G, H, (· = e), some e, fun _ => none⟩ ad (fun _ => none) G' H' (some ys :: m) → ∃ ws', G' e = none ∧ H' e = some (.lst ws') ∧ RpA G' ws' ys := fun {ad G' H' ys m} s' => by
      obtain ⟨p, us, h1, h2, h3⟩ := s'.mu.get (j := 0) rfl
      have := s'.hd
      rw [h1] at this
      cases this
      exact ⟨us, s'.adg e (List.mem_of_getElem? h1), h2, h3⟩
    refine sSs c (defScope st) ir (defBody st) hc ok _ E (gx_def (CX0 := True) Sc hbf hr (by rw [← ec]; exact hlm)) rfl ⟨passes_of rfl, rfl, rfl⟩ _ _ _ G H _ _ _ oc _ rfl s0 re0 hex ?_
    cases oc with
    | nx env m =>
      cases m with
      | nil => exact h.elim
      | cons y m =>
        cases y with
        | none => exact h.elim
        | some ys =>
          intro ad G' H' σ' s' g' re'
          obtain ⟨us, h1, h2, h3⟩ := fin s'
          exact h .non G' H' us s'.to h1 h2 h3 rfl
    | rt d m =>
      cases m with
      | nil => exact h.elim
      | cons y m =>
        cases y with
        | none => exact h.elim
        | some ys =>
          intro ad v G' H' s' g' r'
          obtain ⟨us, h1, h2, h3⟩ := fin s'
          exact h v G' H' us s'.to h1 h2 h3 r'
    | ex y m =>
      cases m with
      | nil => exact h.elim
      | cons z m =>
        cases z with
        | none => exact h.elim
        | some ys =>
          intro Cx hC ad G' H' s'
          obtain ⟨us, h1, h2, h3⟩ := fin s'
          exact h Cx hC G' H' us s'.to h1 h2 h3
end
end TO

set_option Elab.async false
set_option linter.all false
set_option maxRecDepth 100000
set_option maxHeartbeats 8000000
/-! The texts of the defs. -/
namespace TO
open PySem L2
def N_is_integer : List Str := ["value", "low", "high"]
def ir_is_integer : List S :=
   [.ret (.andE [(.isi (.var 0) .int), (.notE (.isi (.var 0) .bool)), (.chain .le .le (.var 1) (.var 0) (.var 2))])]
def F_is_integer := fnP ir_is_integer 3 3
def N_is_row : List Str := ["n", "test", "value", "item"]
def ir_is_row : List S :=
   [.ifS (.orE [(.notE (.isi (.var 2) .tuple)), (.cmp .ne (.bi .len [(.var 2)]) (.cst (.int 2))), (.notE (.isi (.ix (.var 2) (.cst (.int 0))) .bool))]) [.ret (.cst (.bool false))] [],
    .ifS (.orE [(.notE (.isi (.ix (.var 2) (.cst (.int 1))) .tuple)), (.cmp .ne (.bi .len [(.ix (.var 2) (.cst (.int 1)))]) (.var 0)), (.notE (.bi .all [(.comp [("item", 3)] (.name 3) (.seq (.ix (.var 2) (.cst (.int 1)))) (.call "is_integer" F_is_integer [(.var 3), (.neg (.cst (.int 1))), (.cst (.int 1))]) [])]))]) [.ret (.cst (.bool false))] [],
    .ret (.cmp .eq (.ix (.ix (.var 2) (.cst (.int 1))) (.var 1)) (.cst (.int 0)))]
def F_is_row := fnP ir_is_row 4 3
def N_is_suite : List Str := ["value", "test", "row"]
def ir_is_suite : List S :=
   [.ifS (.orE [(.notE (.isi (.var 0) .tuple)), (.notE (.chain .le .le (.cst (.int 1)) (.bi .len [(.var 0)]) (.glob "MOST" (.int 7))))]) [.ret (.cst (.bool false))] [],
    .ret (.bi .all [(.comp [("test", 1), ("row", 2)] (.tup [1, 2]) (.enum (.var 0)) (.call "is_row" F_is_row [(.bi .len [(.var 0)]), (.var 1), (.var 2)]) [])])]
def F_is_suite := fnP ir_is_suite 3 1
def N_check_suite : List Str := ["suite"]
def ir_check_suite : List S :=
   [.ifS (.notE (.call "is_suite" F_is_suite [(.var 0)])) [.raise "BadSuite"] []]
def F_check_suite := fnP ir_check_suite 1 1
def N_is_order : List Str := ["n", "value", "test"]
def ir_is_order : List S :=
   [.ifS (.orE [(.notE (.isi (.var 1) .tuple)), (.notE (.bi .all [(.comp [("test", 2)] (.name 2) (.seq (.var 1)) (.call "is_integer" F_is_integer [(.var 2), (.cst (.int 0)), (.bin .sub (.var 0) (.cst (.int 1)))]) [])]))]) [.ret (.cst (.bool false))] [],
    .ret (.cmp .eq (.lenset (.var 1)) (.bi .len [(.var 1)]))]
def F_is_order := fnP ir_is_order 3 2
def N_check_order : List Str := ["n", "order"]
def ir_check_order : List S :=
   [.ifS (.notE (.call "is_order" F_is_order [(.var 0), (.var 1)])) [.raise "BadOrder"] []]
def F_check_order := fnP ir_check_order 2 2
def N_are_results : List Str := ["order", "value", "item"]
def ir_are_results : List S :=
   [.ifS (.orE [(.notE (.isi (.var 1) .tuple)), (.cmp .ne (.bi .len [(.var 1)]) (.bi .len [(.var 0)]))]) [.ret (.cst (.bool false))] [],
    .ret (.bi .all [(.comp [("item", 2)] (.name 2) (.seq (.var 1)) (.isi (.var 2) .bool) [])])]
def F_are_results := fnP ir_are_results 3 2
def N_row_text : List Str := ["row", "effect"]
def ir_row_text : List S :=
   [.ret (.bin .add (.ife (.ix (.var 0) (.cst (.int 0))) (.cst (.str "P")) (.cst (.str "F"))) (.smth .join (.cst (.str "")) (.comp [("effect", 1)] (.name 1) (.seq (.ix (.var 0) (.cst (.int 1)))) (.ix (.glob "SIGNS" (.str "-.+")) (.bin .add (.var 1) (.cst (.int 1)))) [])))]
def F_row_text := fnP ir_row_text 2 1
def N_suite_text : List Str := ["suite", "row"]
def ir_suite_text : List S :=
   [.exp (.call "check_suite" F_check_suite [(.var 0)]),
    .ret (.smth .join (.cst (.str " ")) (.comp [("row", 1)] (.name 1) (.seq (.var 0)) (.call "row_text" F_row_text [(.var 1)]) []))]
def F_suite_text := fnP ir_suite_text 2 1
def N_check_text : List Str := ["text"]
def ir_check_text : List S :=
   [.ifS (.notE (.isi (.var 0) .str)) [.raise "BadText"] []]
def F_check_text := fnP ir_check_text 1 1
def N_row_in : List Str := ["word", "sign"]
def ir_row_in : List S :=
   [.ifS (.orE [(.cmp .notin (.slc (.var 0) .no (.yes (.cst (.int 1)))) (.tup [(.cst (.str "P")), (.cst (.str "F"))])), (.notE (.bi .all [(.comp [("sign", 1)] (.name 1) (.chr (.slc (.var 0) (.yes (.cst (.int 1))) .no)) (.cmp .isin (.var 1) (.glob "SIGNS" (.str "-.+"))) [])]))]) [.raise "BadText"] [],
    .ret (.tup [(.cmp .eq (.ix (.var 0) (.cst (.int 0))) (.cst (.str "P"))), (.bi .tuple [(.comp [("sign", 1)] (.name 1) (.chr (.slc (.var 0) (.yes (.cst (.int 1))) .no)) (.bin .sub (.smth .index (.glob "SIGNS" (.str "-.+")) (.var 1)) (.cst (.int 1))) [])])])]
def F_row_in := fnP ir_row_in 2 1
def N_parse_suite : List Str := ["text", "suite", "word"]
def ir_parse_suite : List S :=
   [.exp (.call "check_text" F_check_text [(.var 0)]),
    .tcx 1 [("word", 2)] (.name 2) (.seq (.smth .split (.var 0) (.cst (.str " ")))) (.call "row_in" F_row_in [(.var 2)]),
    .ifS (.notE (.call "is_suite" F_is_suite [(.var 1)])) [.raise "BadText"] [],
    .ret (.var 1)]
def F_parse_suite := fnP ir_parse_suite 3 1
def N_written : List Str := ["order", "results", "test", "result"]
def ir_written : List S :=
   [.ret (.smth .join (.cst (.str " ")) (.comp [("test", 2), ("result", 3)] (.tup [2, 3]) (.zip (.var 0) (.var 1)) (.bin .add (.bi .str1 [(.var 2)]) (.ife (.var 3) (.cst (.str "+")) (.cst (.str "-")))) []))]
def F_written := fnP ir_written 4 2
def N_run_text : List Str := ["order", "results"]
def ir_run_text : List S :=
   [.exp (.call "check_order" F_check_order [(.glob "MOST" (.int 7)), (.var 0)]),
    .ifS (.notE (.call "are_results" F_are_results [(.var 0), (.var 1)])) [.raise "BadResults"] [],
    .ret (.call "written" F_written [(.var 0), (.var 1)])]
def F_run_text := fnP ir_run_text 2 2
def N_read : List Str := ["text", "word", "order", "results"]
def ir_read : List S :=
   [.par 2 3 (.new []) (.new []),
    .forS (.name 1) (.seq (.ife (.cmp .ne (.var 0) (.cst (.str ""))) (.smth .split (.var 0) (.cst (.str " "))) (.lst []))) [.ifS (.orE [(.cmp .ne (.bi .len [(.var 1)]) (.cst (.int 2))), (.cmp .notin (.ix (.var 1) (.cst (.int 0))) (.glob "FIGURES" (.str "0123456789"))), (.cmp .notin (.ix (.var 1) (.cst (.int 1))) (.cst (.str "+-")))]) [.raise "BadText"] [],
    .app 2 (.bi .int1 [(.ix (.var 1) (.cst (.int 0)))]),
    .app 3 (.cmp .eq (.ix (.var 1) (.cst (.int 1))) (.cst (.str "+")))],
    .frz 2,
    .ifS (.notE (.call "is_order" F_is_order [(.glob "MOST" (.int 7)), (.bi .tuple [(.var 2)])])) [.raise "BadText"] [],
    .frz 3,
    .ret (.tup [(.bi .tuple [(.var 2)]), (.bi .tuple [(.var 3)])])]
def F_read := fnP ir_read 4 1
def N_parse_run : List Str := ["text"]
def ir_parse_run : List S :=
   [.exp (.call "check_text" F_check_text [(.var 0)]),
    .ret (.call "read" F_read [(.var 0)])]
def F_parse_run := fnP ir_parse_run 1 1
def N_law_drawn : List Str := ["cell", "k", "more"]
def ir_law_drawn : List S :=
   [.asg (.name 2) (.bin .mod (.bin .add (.bin .mul (.var 0) (.cst (.int 6364136223846793005))) (.bin .mul (.bin .add (.var 1) (.cst (.int 1))) (.cst (.int 1442695040888963407)))) (.cst (.int 340282366920938463463374607431768211507))),
    .asg (.name 2) (.bin .mod (.bin .mul (.var 2) (.var 2)) (.cst (.int 340282366920938463463374607431768211297))),
    .asg (.name 2) (.bin .mul (.bin .mul (.bin .add (.bin .mod (.var 2) (.cst (.int 18446744073709551557))) (.cst (.int 1))) (.bin .add (.bin .fdiv (.var 2) (.cst (.int 18446744073709551557))) (.cst (.int 1)))) (.var 2)),
    .ret (.bin .mod (.var 2) (.cst (.int 340282366920938463463374607431768211507)))]
def F_law_drawn := fnP ir_law_drawn 3 2
def N_law_roll : List Str := ["dice", "many", "told"]
def ir_law_roll : List S :=
   [.ifS (.cmp .ge (.oix 0 (.cst (.int 0))) (.bin .pow (.cst (.int 10)) (.cst (.int 18)))) [.asg (.name 2) (.bin .mod (.oix 0 (.cst (.int 0))) (.var 1)),
    .oset 0 (.cst (.int 0)) (.bin .fdiv (.oix 0 (.cst (.int 0))) (.var 1)),
    .ret (.var 2)] [],
    .oset 0 (.cst (.int 1)) (.bin .add (.oix 0 (.cst (.int 1))) (.cst (.int 1))),
    .ret (.bin .mod (.bin .fdiv (.call "_law_drawn" F_law_drawn [(.oix 0 (.cst (.int 0))), (.oix 0 (.cst (.int 1)))]) (.cst (.int 8))) (.var 1))]
def F_law_roll := fnM ir_law_roll 3 2
def N_law_any_suite : List Str := ["dice", "n", "test", "rows", "act", "effects", "other", "effect"]
def ir_law_any_suite : List S :=
   [.par 3 4 (.new []) (.dat (.callD "_law_roll" F_law_roll 0 [(.cst (.int 4))])),
    .forS (.name 2) (.rng1 (.var 1)) [.new 5 [],
    .forS (.name 6) (.rng1 (.var 1)) [.asg (.name 7) (.ix (.lst [(.cst (.int 0)), (.neg (.cst (.int 1))), (.cst (.int 1)), (.cst (.int 0)), (.cst (.int 0)), (.neg (.cst (.int 1))), (.cst (.int 1))]) (.callD "_law_roll" F_law_roll 0 [(.ife (.cmp .gt (.var 4) (.cst (.int 0))) (.cst (.int 7)) (.cst (.int 3)))])),
    .app 5 (.ife (.cmp .ne (.var 6) (.var 2)) (.var 7) (.cst (.int 0)))],
    .frz 5,
    .app 3 (.tup [(.cmp .gt (.callD "_law_roll" F_law_roll 0 [(.cst (.int 3))]) (.cst (.int 0))), (.bi .tuple [(.var 5)])])],
    .frz 3,
    .ret (.bi .tuple [(.var 3)])]
def F_law_any_suite := fnM ir_law_any_suite 8 2
def N_law_orders : List Str := ["n", "turn", "found", "layer", "longer", "order", "test"]
def ir_law_orders : List S :=
   [.par 2 3 (.dat (.lst [(.tup [])])) (.dat (.lst [(.tup [])])),
    .forS (.name 1) (.rng1 (.var 0)) [.asg (.name 4) (.lst []),
    .forS (.name 5) (.seq (.var 3)) [.asg (.name 4) (.bin .add (.var 4) (.comp [("test", 6)] (.name 6) (.rng1 (.var 0)) (.bin .add (.var 5) (.tup [(.var 6)])) [(.cmp .notin (.var 6) (.var 5))]))],
    .asg (.name 3) (.var 4),
    .asg (.name 2) (.bin .add (.var 2) (.var 3))],
    .ret (.var 2)]
def F_law_orders := fnP ir_law_orders 7 1
def N_law_any_order : List Str := ["dice", "n", "every"]
def ir_law_any_order : List S :=
   [.asg (.name 2) (.call "_law_orders" F_law_orders [(.var 1)]),
    .ret (.ix (.var 2) (.callD "_law_roll" F_law_roll 0 [(.bi .len [(.var 2)])]))]
def F_law_any_order := fnM ir_law_any_order 3 2
def N_law_spoilt : List Str := ["dice", "text", "signs", "sign", "at", "act"]
def ir_law_spoilt : List S :=
   [.par 4 5 (.dat (.callD "_law_roll" F_law_roll 0 [(.bin .add (.bi .len [(.var 1)]) (.cst (.int 1)))])) (.dat (.callD "_law_roll" F_law_roll 0 [(.cst (.int 3))])),
    .asg (.name 3) (.ife (.cmp .lt (.var 5) (.cst (.int 2))) (.ix (.var 2) (.callD "_law_roll" F_law_roll 0 [(.bi .len [(.var 2)])])) (.cst (.str ""))),
    .ret (.bin .add (.bin .add (.slc (.var 1) .no (.yes (.var 4))) (.var 3)) (.slc (.var 1) (.yes (.bin .add (.var 4) (.bi .int1 [(.cmp .gt (.var 5) (.cst (.int 0)))]))) .no))]
def F_law_spoilt := fnM ir_law_spoilt 6 3
def N_law_far_texts : List Str := ["page", "text", "cases", "bad"]
def ir_law_far_texts : List S :=
   [.asg (.name 2) (.lst [(.cst .none), (.cst (.int 5)), (.cst (.bool true)), (.cst (.str "")), (.cst (.str " ")), (.bin .add (.var 0) (.cst (.str " "))), (.bin .add (.cst (.str " ")) (.var 0)), (.bin .add (.var 0) (.cst (.str "+"))), (.cst (.str "P")), (.cst (.str "P+")), (.cst (.str "F-")), (.cst (.str "p."))]),
    .asg (.name 2) (.bin .add (.var 2) (.lst [(.cst (.str "P.  P.")), (.lowr (.var 0)), (.lst [(.var 0)])])),
    .forS (.name 3) (.seq (.var 2)) [.ifS (.cmp .ne (.told (.call "parse_suite" F_parse_suite [(.var 3)])) (.tup [(.cst (.str "error")), (.cst (.str "BadText"))])) [.ret (.cst (.bool false))] []],
    .asg (.name 2) (.lst [(.cst .none), (.cst (.int 5)), (.cst (.bool true)), (.cst (.str " ")), (.bin .add (.var 1) (.cst (.str " "))), (.bin .add (.cst (.str " ")) (.var 1)), (.cst (.str "0")), (.cst (.str "+")), (.cst (.str "7+")), (.cst (.str "0+ 0-")), (.cst (.str "0.")), (.cst (.str "00+"))]),
    .asg (.name 2) (.bin .add (.var 2) (.lst [(.cst (.str "0+  1+")), (.lst [(.var 1)])])),
    .forS (.name 3) (.seq (.var 2)) [.ifS (.cmp .ne (.told (.call "parse_run" F_parse_run [(.var 3)])) (.tup [(.cst (.str "error")), (.cst (.str "BadText"))])) [.ret (.cst (.bool false))] []],
    .ret (.andE [(.cmp .eq (.call "parse_run" F_parse_run [(.cst (.str ""))]) (.tup [(.tup []), (.tup [])])), (.cmp .eq (.call "parse_suite" F_parse_suite [(.cst (.str "F."))]) (.tup [(.tup [(.cst (.bool false)), (.tup [(.cst (.int 0))])])]))])]
def F_law_far_texts := fnP ir_law_far_texts 4 2
def N_law : List Str := ["script", "dice", "n", "suite", "order", "results", "page", "text", "turn", "made", "bent", "more", "test", "row", "result", "effect"]
def ir_law : List S :=
   [.asg (.name 2) (.bin .add (.cst (.int 1)) (.callD "_law_roll" F_law_roll 1 [(.cst (.int 6))])),
    .asg (.name 3) (.callD "_law_any_suite" F_law_any_suite 1 [(.var 2)]),
    .asg (.name 4) (.callD "_law_any_order" F_law_any_order 1 [(.bi .min2 [(.var 2), (.cst (.int 4))])]),
    .asg (.name 5) (.bi .tuple [(.comp [("test", 12)] (.name 12) (.seq (.var 4)) (.cmp .eq (.callD "_law_roll" F_law_roll 1 [(.cst (.int 2))]) (.cst (.int 0))) [])]),
    .asg (.name 6) (.smth .join (.cst (.str " ")) (.comp [("row", 13)] (.name 13) (.seq (.var 3)) (.bin .add (.ife (.ix (.var 13) (.cst (.int 0))) (.cst (.str "P")) (.cst (.str "F"))) (.smth .join (.cst (.str "")) (.comp [("effect", 15)] (.name 15) (.seq (.ix (.var 13) (.cst (.int 1)))) (.ix (.cst (.str "-.+")) (.bin .add (.var 15) (.cst (.int 1)))) []))) [])),
    .asg (.name 7) (.smth .join (.cst (.str " ")) (.comp [("test", 12), ("result", 14)] (.tup [12, 14]) (.zip (.var 4) (.var 5)) (.bin .add (.bi .str1 [(.var 12)]) (.ife (.var 14) (.cst (.str "+")) (.cst (.str "-")))) [])),
    .ifS (.orE [(.cmp .ne (.call "suite_text" F_suite_text [(.var 3)]) (.var 6)), (.cmp .ne (.call "parse_suite" F_parse_suite [(.var 6)]) (.var 3)), (.cmp .ne (.call "run_text" F_run_text [(.var 4), (.var 5)]) (.var 7))]) [.ret (.cst (.bool false))] [],
    .ifS (.cmp .ne (.call "parse_run" F_parse_run [(.var 7)]) (.tup [(.var 4), (.var 5)])) [.ret (.cst (.bool false))] [],
    .forS (.name 8) (.rng1 (.cst (.int 8))) [.asg (.tup [10, 11]) (.tup [(.callD "_law_spoilt" F_law_spoilt 1 [(.var 6), (.cst (.str "PF+-. "))]), (.callD "_law_spoilt" F_law_spoilt 1 [(.var 7), (.cst (.str "012+- "))])]),
    .asg (.name 9) (.told (.call "parse_suite" F_parse_suite [(.var 10)])),
    .ifS (.andE [(.cmp .ne (.var 9) (.tup [(.cst (.str "error")), (.cst (.str "BadText"))])), (.orE [(.cmp .isnot (.call "is_suite" F_is_suite [(.var 9)]) (.cst (.bool true))), (.cmp .ne (.call "suite_text" F_suite_text [(.var 9)]) (.var 10))])]) [.ret (.cst (.bool false))] [],
    .asg (.name 9) (.told (.call "parse_run" F_parse_run [(.var 11)])),
    .ifS (.andE [(.cmp .ne (.var 9) (.tup [(.cst (.str "error")), (.cst (.str "BadText"))])), (.cmp .ne (.call "run_text" F_run_text [(.ix (.var 9) (.cst (.int 0))), (.ix (.var 9) (.cst (.int 1)))]) (.var 11))]) [.ret (.cst (.bool false))] []],
    .ifS (.notE (.call "_law_far_texts" F_law_far_texts [(.var 6), (.var 7)])) [.ret (.cst (.bool false))] [],
    .new 9 [(.told (.call "run_text" F_run_text [(.tup [(.cst (.int 7))]), (.cst .none)]))],
    .app 9 (.told (.call "run_text" F_run_text [(.tup [(.cst (.int 0))]), (.tup [(.cst (.int 1))])])),
    .frz 9,
    .ifS (.cmp .ne (.var 9) (.lst [(.tup [(.cst (.str "error")), (.cst (.str "BadOrder"))]), (.tup [(.cst (.str "error")), (.cst (.str "BadResults"))])])) [.ret (.cst (.bool false))] []]
end TO

set_option Elab.async false
set_option linter.all false
set_option maxRecDepth 100000
set_option maxHeartbeats 8000000
/-! The law's own loop: for dice in _law_rounds(script, k): body; return True. -/
namespace TO
open PySem PySem.Spec L2

def spLaw (K : PySem.W.Frag) : Sp := fun vs H Q _ => ∃ (a : Addr) (ns : List Int), vs = [.ref a] ∧ SqL K H a (ns.map V.int) ∧ ns.length ≤ 63 ∧ ∀ H', Q (.bl true) H'
def spCell (K : PySem.W.Frag) : Sp := fun vs H Q _ => ∃ (a : Addr) (ns : List Int) (k : Int), vs = [.ref a, .int k] ∧ SqL K H a (ns.map V.int) ∧ ns.length ≤ 63 ∧ 0 ≤ k ∧ k ≤ 100 ∧ ∀ z H', Same H H' → Q (.int z) H'
/-- a new list of new lists [c, 0], all apart -/
structure Rounds (H H' : Hp) (p : Addr) (qs : List Addr) (cs : List Int) : Prop where
  same : Same H H'
  at_ : H' p = some (.lst (qs.map V.ref))
  len : qs.length = cs.length
  nd : qs.Nodup
  pq : p ∉ qs
  ds : ∀ (i : Nat) q c, qs[i]? = some q → cs[i]? = some c → H' q = some (.lst [.int c, .int 0])
def spRounds (K : PySem.W.Frag) : Sp := fun vs H Q _ => ∃ (a : Addr) (ns : List Int) (k : Int), vs = [.ref a, .int k] ∧ SqL K H a (ns.map V.int) ∧ ns.length ≤ 63 ∧ 1 ≤ k ∧ k ≤ 100 ∧ ∀ p qs cs H', Rounds H H' p qs cs → Q (.ref p) H'
theorem setL_len : ∀ (is : List Nat) (ds : List D) (env : En), (setL is ds env).length = env.length
  | [], _, _ => by unfold setL; rfl
  | _ :: _, [], _ => by unfold setL; rfl
  | i :: is, d :: ds, env => by
    unfold setL
    rw [setL_len is ds, List.length_set]
theorem bindT_len {t : Tg} {d : D} {env env1 : En} (h : bindT t d env = some env1) : env1.length = env.length := by
  cases t with
  | name i => cases h; exact List.length_set
  | tup is =>
    cases d with
    | tuple ds =>
      simp only [bindT, Option.ite_none_right_eq_some, Option.some.injEq] at h
      obtain ⟨_, rfl⟩ := h
      exact setL_len is ds env
    | _ => cases h
def LenOk (env : En) : Option Oc → Prop
  | some (.nx env' _) => env'.length = env.length
  | _ => True
theorem ob_len {α : Type} {r : Rr α} {f : α → Mu → Option Oc} {env : En} (h : ∀ a m, LenOk env (f a m)) : LenOk env (ob r f) := by
  cases r with
  | none => exact trivial
  | some p =>
    obtain ⟨q, m⟩ := p
    cases q with
    | ok a => exact h a m
    | error x => exact trivial
theorem loopF_len {f : D → En → Mu → Option Oc} (hf : ∀ d env m, LenOk env (f d env m)) : ∀ (ds : List D) (env : En) (m : Mu), LenOk env (loopF f ds env m)
  | [], env, m => rfl
  | d :: r, env, m => by
    have h1 := hf d env m
    unfold loopF
    cases e : f d env m with
    | none => exact trivial
    | some o =>
      rw [e] at h1
      cases o with
      | nx env1 m1 =>
        have h2 := loopF_len hf r env1 m1
        have h1 : env1.length = env.length := h1
        show LenOk env (loopF f r env1 m1)
        cases e2 : loopF f r env1 m1 with
        | none => exact trivial
        | some o2 =>
          rw [e2] at h2
          cases o2 with
          | nx env2 m2 => exact Eq.trans h2 h1
          | _ => exact trivial
      | _ => exact trivial
theorem whileF_len {t : En → Mu → Rr Bool} {b : En → Mu → Option Oc} (hb : ∀ env m, LenOk env (b env m)) : ∀ (k : Nat) (env : En) (m : Mu), LenOk env (whileF t b k env m)
  | 0, env, m => trivial
  | k + 1, env, m => by
    unfold whileF
    refine ob_len fun c m => ?_
    cases c with
    | false => exact rfl
    | true =>
      rw [if_pos rfl]
      have h1 := hb env m
      cases e : b env m with
      | none => exact trivial
      | some o =>
        rw [e] at h1
        cases o with
        | nx env1 m1 =>
          have h2 := whileF_len (t := t) hb k env1 m1
          have h1 : env1.length = env.length := h1
          show LenOk env (whileF t b k env1 m1)
          cases e2 : whileF t b k env1 m1 with
          | none => exact trivial
          | some o2 =>
            rw [e2] at h2
            cases o2 with
            | nx env2 m2 => exact Eq.trans h2 h1
            | _ => exact trivial
        | _ => exact trivial
theorem putP_len (i : Nat) (p : Sum D (List D)) (env : En) (m : Mu) : (putP i p env m).1.length = env.length := by
  cases p <;> exact List.length_set
mutual
theorem exec_len : ∀ (s : S) (env : En) (m : Mu), LenOk env (exec s env m)
  | .any, env, m => by
    simp only [exec]
    exact trivial
  | .labN i C F es, env, m => by
    simp only [exec]
    refine ob_len fun ds m => ?_
    split
    · exact List.length_set
    · exact trivial
    · exact trivial
  | .lab3 i j k a C F es, env, m => by
    simp only [exec]
    refine ob_len fun d m => ?_
    refine ob_len fun ds m => ?_
    split
    · exact (List.length_set.trans List.length_set).trans List.length_set
    · exact trivial
    · exact trivial
  | .tcx i own tg it elt, env, m => by
    simp only [exec]
    exact ob_len fun ys m => List.length_set
  | .vw i C j, env, m => by
    simp only [exec]
    split
    · split
      · split
        · exact List.length_set
        · exact trivial
      · exact trivial
    · exact trivial
  | .eapp C i e, env, m => by
    simp only [exec]
    split
    · split
      · refine ob_len fun d m => ?_
        split
        · split
          · exact rfl
          · exact trivial
        · exact trivial
      · exact trivial
    · exact trivial
  | .epop C i, env, m => by
    simp only [exec]
    split
    · split
      · split
        · exact rfl
        · exact trivial
      · exact trivial
    · exact trivial
  | .asg t e, env, m => by
    simp only [exec]
    refine ob_len fun d m => ?_
    cases e : bindT t d env with
    | none => exact trivial
    | some env1 => exact bindT_len e
  | .par i j a b, env, m => by
    simp only [exec]
    refine ob_len fun x m => ob_len fun y m => ?_
    show (putP j y (putP i x env m).1 (putP i x env m).2).1.length = env.length
    rw [putP_len, putP_len]
  | .new i es, env, m => by
    simp only [exec]
    refine ob_len fun ds m => ?_
    by_cases h : ds.length ≤ lim
    · rw [if_pos h]; exact List.length_set
    · rw [if_neg h]; exact trivial
  | .frz i, env, m => by
    simp only [exec]
    split
    · split
      · split
        · show (thawE env _ _).length = env.length
          unfold thawE
          exact List.length_map _
        · exact trivial
      · exact trivial
    · exact trivial
  | .app i e, env, m => by
    simp only [exec]
    split
    · refine ob_len fun d m => ?_
      split
      · split
        · exact rfl
        · exact trivial
      · exact trivial
    · exact trivial
  | .oset i k e, env, m => by
    simp only [exec]
    split
    · refine ob_len fun d m => ob_len fun z m => ?_
      split
      · generalize ixN _ _ = o
        cases o with
        | none => exact trivial
        | some l => exact rfl
      · exact trivial
    · exact trivial
  | .ifS t a b, env, m => by
    simp only [exec]
    refine ob_len fun c m => ?_
    cases c with
    | true => exact execs_len a env m
    | false => exact execs_len b env m
  | .forS t it b, env, m => by
    simp only [exec]
    refine ob_len fun ds m => loopF_len (fun d env m => ?_) ds env m
    cases e : bindT t d env with
    | none => exact trivial
    | some env1 =>
      have h1 := bindT_len e
      have h2 := execs_len b env1 m
      show LenOk env (execs b env1 m)
      cases e2 : execs b env1 m with
      | none => exact trivial
      | some o =>
        rw [e2] at h2
        cases o with
        | nx env2 m2 => exact Eq.trans h2 h1
        | _ => exact trivial
  | .whl t b, env, m => by
    simp only [exec]
    exact whileF_len (fun env m => execs_len b env m) 100 env m
  | .ret e, env, m => by
    simp only [exec]
    exact ob_len fun d m => trivial
  | .retN, env, m => by
    simp only [exec]
    exact trivial
  | .raise c, env, m => by
    simp only [exec]
    exact trivial
  | .exp e, env, m => by
    simp only [exec]
    exact ob_len fun d m => rfl
theorem execs_len : ∀ (s : List S) (env : En) (m : Mu), LenOk env (execs s env m)
  | [], env, m => by
    simp only [execs]
    exact rfl
  | s :: r, env, m => by
    simp only [execs]
    have h1 := exec_len s env m
    cases e : exec s env m with
    | none => exact trivial
    | some o =>
      rw [e] at h1
      cases o with
      | nx env1 m1 =>
        have h1 : env1.length = env.length := h1
        have h2 := execs_len r env1 m1
        show LenOk env (execs r env1 m1)
        cases e2 : execs r env1 m1 with
        | none => exact trivial
        | some o2 =>
          rw [e2] at h2
          cases o2 with
          | nx env2 m2 => exact Eq.trans h2 h1
          | _ => exact trivial
      | _ => exact trivial
end
section
variable {c : Ct}
theorem gx_nox {qual : Str} {sc : Scope} {ps : List Str} {f : Addr} {cdv : Value} {A : Around} {outer : List Env} {s : Shared} {H : Hp} {E : XK} {CX0 : CXT} (S : FnScope c.N ps sc) (hbf : ∀ x ∈ BN, c.mg x = none) (hr : Room c.k (A.deeper (PyProof.Rows.envOfC qual sc s.heap.objs.size f cdv))) (hlm : LamOf c qual cdv) :
    GX c sc (cxOf CX0 c.P c.w c.K c.mg c.base c.N qual sc f cdv A outer s H E).nox EF where
  eP := rfl
  ew := rfl
  eK := rfl
  em := rfl
  eb := rfl
  eN := rfl
  nd := S.nd
  calm := rfl
  room := hr
  tk := takesN0
  bk := S.kind
  loc := fun x h => h
  cel := fun x h => ⟨h, rfl⟩
  fre := fun x h => .inr h
  glo := fun x h => h
  bf := hbf
  lm := hlm
/-- one round from any state -/
theorem round_go {X : Cx} {sc : Scope} {ir : List S} {sts : List Stmt} (gx : GX c sc X EF) (hsc : X.env.scope = sc) (stx : StX X) (hc : chkSs c.N sc ir sts = true) (ok : okSs c ir) {i : Nat} (hN : i < c.N.length)
    (hex : ∀ z : Int, ∃ env m, execs ir ((List.replicate c.N.length none).set i (some (.obj 0))) [some [.int z, .int 0]] = some (.nx env m)) {σ : L2.St} {H : Hp} {q : Addr} {z : Int} (hl : σ.length = c.N.length) (hσ : σ[i]? = some (some (.ref q))) (hq : H q = some (.lst [.int z, .int 0])) (ht : LamX.Tabs c.T H)
    {De : Ends} (post : ∀ σ' H', σ'.length = c.N.length → Keeps (· = q) H H' → LamX.Tabs c.T H' → De.nx σ' H') : WSs X sts De σ H := by
  obtain ⟨env, m, he⟩ := hex z
  have s0 : SI ⟨c.T, fun _ => none, H, (· = q), some q, fun _ => none⟩ [some q] (fun _ => none) (fun _ => none) H [some [.int z, .int 0]] := {
    sub := fun b o e => by cases e
    up := Same.refl _
    bs := fun b o e => by cases e
    new := fun b o e => by cases e
    mu := ⟨⟨_, hq, rfl, rfl, trivial⟩, trivial⟩
    adg := fun p hp => rfl
    nd := fun i j p e1 e2 => by
      have h1 : i < 1 := (List.getElem?_eq_some_iff.mp e1).1
      have h2 : j < 1 := (List.getElem?_eq_some_iff.mp e2).1
      omega
    adm := fun p hp => .inl (by simpa using hp)
    adl := fun j p hj e => by
      have h1 : j < 1 := (List.getElem?_eq_some_iff.mp e).1
      omega
    hd := rfl
    fx := fun p o e => by cases e
    ext := fun b o _ e => .inl e
    live := fun b e => e
    tabs := ht
    flat := fun b o e => by cases e }
  have re0 : RE [some q] (fun _ => none) ((List.replicate c.N.length none).set i (some (.obj 0))) σ := by
    refine ⟨by simp [hl], fun j s v e1 e2 => ?_⟩
    by_cases hij : i = j
    · subst hij
      rw [List.getElem?_set_self (by simpa using hN)] at e1
      cases e1
      rw [hσ] at e2
      cases e2
      exact ⟨q, rfl, rfl⟩
    · rw [List.getElem?_set_ne hij] at e1
      obtain ⟨_, e⟩ := List.getElem?_eq_some_iff.mp e1
      rw [List.getElem_replicate] at e
      subst e
      exact trivial
  refine sSs c sc ir sts hc ok X EF gx hsc stx _ _ _ _ H _ _ σ _ De rfl s0 re0 he fun ad G' H' σ' s' g' re' => ?_
  have hlen : env.length = c.N.length := by
    have h := execs_len ir ((List.replicate c.N.length none).set i (some (.obj 0))) [some [.int z, .int 0]]
    rw [he] at h
    have h : env.length = ((List.replicate c.N.length none).set i (some (.obj 0)) : En).length := h
    rw [h, List.length_set, List.length_replicate]
  exact post σ' H' (by rw [← re'.1]; exact hlen) s'.ext s'.tabs
/-- for dice in _law_rounds(script, k): body; return True -/
theorem law_read {X : Cx} {sc : Scope} {ir : List S} {sts : List Stmt} (gx : GX c sc X EF) (hsc : X.env.scope = sc) (stx : StX X) (hc : chkSs c.N sc ir sts = true) (ok : okSs c ir) {i : Nat} (hN : i < c.N.length)
    (hex : ∀ z : Int, ∃ env m, execs ir ((List.replicate c.N.length none).set i (some (.obj 0))) [some [.int z, .int 0]] = some (.nx env m))
    {H : Hp} {a : Addr} {ns : List Int} {k : Int} (hS : SqL X.K H a (ns.map V.int)) (hl : ns.length ≤ 63) (hk : 1 ≤ k ∧ k ≤ 100) (ht : ∀ H', Same H H' → LamX.Tabs c.T H') {σ : L2.St} (hσ : σ.length = c.N.length) (h0 : σ[0]? = some (some (.ref a)))
    {De : Ends} (q : ∀ H', De.rt (.bl true) H') : tSeq (tFor (iList X.K (tCall (spRounds X.K) [] (fun _ _ _ => False) (tCons (tVar 0) (tCons (tC (.int k)) tNil)))) (gName i) (WSs X sts)) (tRet (tC (.bl true))) De σ H := by
  refine ⟨.ref a, h0, a, ns, k, rfl, hS, hl, hk.1, hk.2, fun p qs cs H1 R => ?_⟩
  refine ⟨p, rfl, ⟨_, SqL.of R.at_⟩, ?_⟩
  refine ⟨fun j w σ H => w = qs.length - j ∧ j ≤ qs.length ∧ σ.length = c.N.length ∧ H p = some (.lst (qs.map V.ref)) ∧ (∀ (l : Nat) q z, j ≤ l → qs[l]? = some q → cs[l]? = some z → H q = some (.lst [.int z, .int 0])) ∧ LamX.Tabs c.T H,
    ⟨qs.length, by omega, Nat.zero_le _, hσ, R.at_, fun l q z _ h1 h2 => R.ds l q z h1 h2, ht H1 R.same⟩, ?_⟩
  rintro j w σ2 H2 ⟨rfl, hj, hs2, hp2, hd2, ht2⟩
  by_cases hlt : j < qs.length
  · right
    have hq : qs[j]? = some qs[j] := List.getElem?_eq_getElem hlt
    have hz : cs[j]? = some (cs[j]'(by rw [← R.len]; exact hlt)) := List.getElem?_eq_getElem _
    have hm : (qs.map V.ref)[j]? = some (.ref qs[j]) := by rw [List.getElem?_map, hq]; rfl
    refine ⟨⟨_, _, SqL.of hp2, hm⟩, fun σ' H' => j + 1 ≤ qs.length ∧ σ'.length = c.N.length ∧ H' p = some (.lst (qs.map V.ref)) ∧ (∀ (l : Nat) q z, j + 1 ≤ l → qs[l]? = some q → cs[l]? = some z → H' q = some (.lst [.int z, .int 0])) ∧ LamX.Tabs c.T H',
      fun σ' H' w => ⟨qs.length - (j + 1), by omega, rfl, w⟩, fun x H3 y => ?_⟩
    obtain ⟨rfl, y⟩ := y
    have := y _ (SqL.of hp2)
    rw [hm] at this
    cases this
    show WSs X sts _ (σ2.set i (some (.ref qs[j]))) H3
    refine round_go gx hsc stx hc ok hN hex (by rw [List.length_set]; exact hs2) (List.getElem?_set_self (by rw [hs2]; exact hN)) (hd2 j _ _ (Nat.le_refl _) hq hz) ht2 fun σ4 H4 h4 k4 t4 => ?_
    have keep : ∀ b vs, b ≠ qs[j] → H3 b = some (.lst vs) → H4 b = some (.lst vs) := fun b vs hb e => by
      rcases k4 b _ hb e with h | ⟨ps, qs', h1, _⟩
      · exact h
      · cases h1
    refine ⟨hlt, h4, keep p _ (fun z => R.pq (by rw [z]; exact List.getElem_mem hlt)) hp2, fun l q z hl h1 h2 => keep q _ (fun e => ?_) (hd2 l q z (by omega) h1 h2), t4⟩
    obtain ⟨hl', e'⟩ := List.getElem?_eq_some_iff.mp h1
    have : l = j := (List.getElem_inj R.nd).mp (e'.trans e)
    omega
  · left
    have e : j = qs.length := by omega
    subst e
    exact ⟨⟨_, SqL.of hp2, by rw [List.length_map]; exact Nat.le_refl _⟩, q H2⟩
end
/-! ### the two small defs that lay the draws -/
section
variable {X : Cx} {K : PySem.W.Frag}
theorem cell_read {H : Hp} {a : Addr} {ns : List Int} {k : Int} (hS : SqL K H a (ns.map V.int)) (hl : ns.length ≤ 63) (hk : 0 ≤ k ∧ k ≤ 100) {σ : L2.St} (h0 : σ[0]? = some (some (.ref a))) (h1 : σ[1]? = some (some (.int k))) {De : Ends} (q : ∀ z H', Same H H' → De.rt (.int z) H') :
    tSeq (tIfS (tTest (tOp (rEqD K) (tVar 0) (tLst tNil))) (tRet (tOp (rI CMul fun i j => .int (i * j)) (tVar 1) (tC (.int 7919)))) tNext)
      (tRet (tOp (rI0 fun i j => .int (i + j)) (tOp (rIxL K) (tVar 0) (tOp (rI (fun _ j => 0 < j) fun i j => .int (i % j)) (tVar 1) (tCB (fun xs H Q => ∃ p ys, xs = [.ref p] ∧ (SqL K H p ys ∨ SqT K H p ys) ∧ Q (.int ys.length) H) (tCons (tVar 0) tNil))))
        (tOp (rI CMul fun i j => .int (i * j)) (tOp (rI CDiv fun i j => .int (i / j)) (tVar 1) (tCB (fun xs H Q => ∃ p ys, xs = [.ref p] ∧ (SqL K H p ys ∨ SqT K H p ys) ∧ Q (.int ys.length) H) (tCons (tVar 0) tNil))) (tC (.int 104729))))) De σ H := by
  have dpi : ∀ (H : Hp) (ms : List Int), DpAll K H (ms.map V.int) (ms.map PyData.int) := fun H ms => by
    induction ms with
    | nil => exact .nil
    | cons m ms ih => exact .cons (.int m) ih
  have shp : SeqAt.shaped (.list (ns.map PyData.int)) = true := by
    have h1 : ∀ ms : List Int, PyData.canLayAll0 (ms.map PyData.int) = true := fun ms => by
      induction ms with
      | nil => rfl
      | cons m ms ih => simpa [PyData.canLayAll0, PyData.canLay0] using ih
    have h2 : ∀ ms : List Int, PyData.depthAll (ms.map PyData.int) = 0 := fun ms => by
      induction ms with
      | nil => rfl
      | cons m ms ih => simp [PyData.depthAll, PyData.depth, ih]
    simp [SeqAt.shaped, PyData.canLay0, h1, PyData.depth, h2]
  refine ⟨.ref a, h0, Nat.zero_le _, fun p hp => ?_⟩
  have s1 : Same H (upd H p (.lst [])) := same_upd hp
  refine ⟨.list (ns.map .int), .list [], .lst (s1.seq hS) (dpi _ ns), .lst (SqL.of upd_same) .nil, shp, by decide +kernel, _, rfl, ?_⟩
  cases ns with
  | nil =>
    rw [show PyData.eqv (.list (([] : List Int).map .int)) (.list []) = true from rfl]
    exact iteT ⟨.int k, h1, k, 7919, rfl, rfl, .inr ⟨by decide, by decide⟩, q _ _ s1⟩
  | cons m ms =>
    rw [show PyData.eqv (.list ((m :: ms).map .int)) (.list []) = false from rfl]
    refine iteF ?_
    have hlen : (0 : Int) < (((m :: ms).map V.int).length : Int) := by rw [List.length_map, List.length_cons]; omega
    have hmod : 0 ≤ k % (((m :: ms).map V.int).length : Int) ∧ k % (((m :: ms).map V.int).length : Int) < (((m :: ms).map V.int).length : Int) := ⟨Int.emod_nonneg _ (by omega), Int.emod_lt_of_pos _ hlen⟩
    obtain ⟨j, hj⟩ : ∃ j : Nat, k % (((m :: ms).map V.int).length : Int) = (j : Int) := ⟨_, (Int.toNat_of_nonneg hmod.1).symm⟩
    have hjl : j < (m :: ms).length := by rw [hj, List.length_map] at hmod; omega
    have hat : ((m :: ms).map V.int)[j]? = some (.int ((m :: ms)[j])) := by rw [List.getElem?_map, List.getElem?_eq_getElem hjl]; rfl
    refine ⟨.ref a, h0, .int k, h1, .ref a, h0, a, _, rfl, .inl (s1.seq hS), k, _, rfl, rfl, hlen, a, _, _, .int ((m :: ms)[j]), rfl, rfl, s1.seq hS, at_of hj hat, ?_⟩
    have hlm : (((m :: ms).map V.int).length : Int) ≤ 63 := by rw [List.length_map]; omega
    refine ⟨.int k, h1, .ref a, h0, a, _, rfl, .inl (s1.seq hS), k, _, rfl, rfl, ⟨hlen, by omega⟩, _, _, rfl, rfl, .inr ⟨by decide, by decide⟩, _, _, rfl, rfl, q _ _ s1⟩
theorem rounds_read {H : Hp} {a : Addr} {ns : List Int} {k : Int} {Ex : XK} (hS : SqL K H a (ns.map V.int)) (hl : ns.length ≤ 63) (hk : 1 ≤ k ∧ k ≤ 100) {σ : L2.St} (hσ : σ.length = 3) (h0 : σ[0]? = some (some (.ref a))) (h1 : σ[1]? = some (some (.int k))) {Q : VK} (q : ∀ p qs cs H', Rounds H H' p qs cs → Q (.ref p) H') :
    tLc (iRng1 (tCons (tCB (fun xs H Q => ∃ i j, xs = [.int i, .int j] ∧ Q (.int (if j > i then j else i)) H) (tCons (tC (.int 1)) (tCons (tCB (fun xs H Q => ∃ i j, xs = [.int i, .int j] ∧ Q (.int (if j < i then j else i)) H)
      (tCons (tVar 1) (tCons (tCB (fun xs H Q => ∃ p ys, xs = [.ref p] ∧ (SqL K H p ys ∨ SqT K H p ys) ∧ Q (.int ys.length) H) (tCons (tVar 0) tNil)) tNil))) tNil))) tNil)) (gName 2) tYes
      (tLst (tCons (tCall (spCell K) [] Ex (tCons (tVar 0) (tCons (tVar 2) tNil))) (tCons (tC (.int 0)) tNil))) [2] σ H Q := by
  refine ⟨.int k, h1, .ref a, h0, a, _, rfl, .inl hS, k, _, rfl, 1, _, rfl, _, rfl, ?_⟩
  generalize hn : (if (if (((ns.map V.int).length : Nat) : Int) < k then (((ns.map V.int).length : Nat) : Int) else k) > 1 then (if (((ns.map V.int).length : Nat) : Int) < k then (((ns.map V.int).length : Nat) : Int) else k) else 1) = n
  have hn1 : 1 ≤ n ∧ n ≤ 100 := by
    rw [List.length_map] at hn
    split at hn <;> split at hn <;> omega
  refine ⟨by omega, by omega, fun Dd hD => ?_⟩
  refine lc_range (lo := 0) (n := n.toNat) (fun i H2 => ∃ (qs : List Addr) (cs : List Int), Same H H2 ∧ H2 Dd = some (.lst (qs.map V.ref)) ∧ qs.length = i ∧ cs.length = i ∧ qs.Nodup ∧ Dd ∉ qs ∧ ∀ (i : Nat) q c, qs[i]? = some q → cs[i]? = some c → H2 q = some (.lst [.int c, .int 0]))
    ⟨[], [], same_upd hD, upd_same, rfl, rfl, List.nodup_nil, by simp, fun i q c e => by simp at e⟩ ?_ ?_
  · rintro i H2 hi ⟨qs, cs, s2, hd, l1, l2, nd, nq, at_⟩
    have w2 : L2.wipe σ [2] = σ.set 2 none := rfl
    refine ⟨by rw [w2]; show ((σ.set 2 none).set 2 _).set 2 none = _; rw [List.set_set, List.set_set], ?_⟩
    unfold tYes
    dsimp only
    rw [if_pos rfl, w2]
    have e0 : ((σ.set 2 none).set 2 (some (V.int ((0 : Int) + (i : Int)))))[0]? = some (some (.ref a)) := by
      rw [List.getElem?_set_ne (by decide), List.getElem?_set_ne (by decide)]; exact h0
    have e2 : ((σ.set 2 none).set 2 (some (V.int ((0 : Int) + (i : Int)))))[2]? = some (some (.int ((0 : Int) + (i : Int)))) := List.getElem?_set_self (by rw [List.length_set, hσ]; decide)
    refine ⟨.ref a, e0, .int ((0 : Int) + (i : Int)), e2, a, ns, (0 : Int) + (i : Int), rfl, s2.seq hS, hl, by omega, by omega, fun z H3 s3 => ⟨by show 2 ≤ sizeLine; decide, fun b hb => ?_⟩⟩
    have hd3 := s3 Dd _ hd
    have nb : b ≠ Dd := fun e => by rw [e, hd3] at hb; cases hb
    have nbq : b ∉ qs := fun hm => by
      obtain ⟨j, hj⟩ := List.getElem?_of_mem hm
      have hjl : j < cs.length := by rw [l2, ← l1]; exact (List.getElem?_eq_some_iff.mp hj).1
      have := s3 b _ (at_ j b _ hj (List.getElem?_eq_getElem hjl))
      rw [hb] at this; cases this
    refine ⟨qs.map V.ref, by rw [upd_ne (Ne.symm nb)]; exact hd3, by rw [List.length_map, l1]; exact Nat.lt_of_lt_of_le (show i < 101 by omega) (by decide), qs ++ [b], cs ++ [z], fun x o e => ?_, ?_, by simp [l1], by simp [l2], ?_, ?_, fun j q0 c0 hq hc => ?_⟩
    · have h3 := s3 x o (s2 x o e)
      rw [upd_ne (ne_of_none e hD), upd_ne (fun w => by rw [w, hb] at h3; cases h3)]
      exact h3
    · rw [upd_same, List.map_append]; rfl
    · rw [List.nodup_append]
      exact ⟨nd, by simp, fun x hx y hy => by rw [List.mem_singleton] at hy; subst hy; exact fun e => nbq (e ▸ hx)⟩
    · rw [List.mem_append, List.mem_singleton]
      exact fun h => h.elim nq fun e => nb e.symm
    · have nD : q0 ≠ Dd := fun e => by
        subst e
        have := List.mem_of_getElem? hq
        rw [List.mem_append, List.mem_singleton] at this
        exact this.elim nq fun e => nb e.symm
      rw [upd_ne nD]
      by_cases hj : j < qs.length
      · rw [List.getElem?_append_left hj] at hq
        rw [List.getElem?_append_left (by omega)] at hc
        rw [upd_ne (fun e => nbq (by rw [← e]; exact List.mem_of_getElem? hq))]
        exact s3 q0 _ (at_ j q0 c0 hq hc)
      · rw [List.getElem?_append_right (by omega)] at hq
        rw [List.getElem?_append_right (by omega)] at hc
        have hl1 : j - qs.length < 1 := (List.getElem?_eq_some_iff.mp hq).1
        have hj0 : j = qs.length := by omega
        subst hj0
        rw [Nat.sub_self] at hq
        rw [l1, ← l2, Nat.sub_self] at hc
        cases hq
        cases hc
        exact upd_same
  · rintro H2 ⟨qs, cs, s2, hd, l1, l2, nd, nq, at_⟩
    exact q Dd qs cs H2 ⟨s2, hd, by rw [l1, l2], nd, nq, at_⟩
end
end TO

set_option Elab.async false
set_option linter.all false
set_option maxRecDepth 100000
set_option maxHeartbeats 8000000
/-! Joining the defs of a program. -/
namespace TO
open PySem PySem.Spec L2

def Ct.at (c : Ct) (N : List Str) (k : Nat) (l : Option (Addr × Addr × Str)) : Ct := { c with N := N, k := k, lam := l }
theorem at_nl (c : Ct) (N : List Str) (k : Nat) (l : Option (Addr × Addr × Str)) : (c.at N k l).nl = c.at N k none := rfl
theorem at_dn (c : Ct) (N : List Str) (k : Nat) (l : Option (Addr × Addr × Str)) : (c.at N k l).dn = c.at N (k - 2) none := rfl
/-- a def stands behind the top -/
structure DF (c : Ct) (x : Str) (st : Stmt) (ps : List Str) : Prop where
  ex : ∃ f fd, Fun c.K x x st f fd ∧ Binds c.K fd ps [] ∧ c.mg x = some (.ref f)
/-- l tells the code object and the table of the def x -/
def LamD (c : Ct) (x : Str) (l : Option (Addr × Addr × Str)) : Prop := ∀ a P q, l = some (a, P, q) → x ++ ".<locals>." ++ "<lambda>" = q ∧ ∃ (f : Addr) (o : Obj) (fd : FuncData), c.mg x = some (.ref f) ∧ c.K.lookup f = some o ∧ o.data = .func fd ∧ fd.code = .ref a
theorem LamD.no {c : Ct} {x : Str} : LamD c x none := fun _ _ _ z => by cases z
theorem LamD.of {c : Ct} {x : Str} {st : Stmt} {l : Option (Addr × Addr × Str)} (h : LamD c x l) {f : Addr} {fd : FuncData} (F : Fun c.K x x st f fd) (m : c.mg x = some (.ref f)) {N : List Str} {k : Nat} : LamOf (c.at N k l) x fd.code := by
  intro a P q e
  obtain ⟨h1, f', o, fd', m', lk, hd, hc⟩ := h a P q e
  obtain ⟨oc, od, kV, doc, pmv, an, cdv, ct, osl, rfl, lk', hcd⟩ := F.ex
  rw [m] at m'
  cases m'
  rw [lk'] at lk
  cases lk
  cases hd
  exact ⟨hc, h1⟩
/-- x keeps its promise at level k, seen from anywhere above -/
def At (c : Ct) (x : Str) (sp : Ct → Sp) (k : Nat) : Prop := ∀ N' k' l', k ≤ k' → CallOk (c.at N' k' l') x (sp (c.at N' k' l'))
section
variable {c : Ct} {x : Str} {st : Stmt} {ps : List Str} {ir : List S} {N : List Str} {k : Nat} {l : Option (Addr × Addr × Str)}
theorem at_P (d : DF c x st ps) (hbf : ∀ x ∈ BN, c.mg x = none) (sc : FnScope N ps (defScope st)) (ck : chkSs N (defScope st) ir (defBody st) = true) (ok : okSs (c.at N k l) ir) (hl : LamD c x l) : At c x (fun c => spP c (fnP ir N.length ps.length)) (k + 1) := by
  intro N' k' l' hk
  obtain ⟨f, fd, F, b, m⟩ := d.ex
  exact ⟨f, fd, ps, k + 1, m, hk, fnP_ok (c := c.at N k l) F sc hbf ck ok (hl.of F m), b, F.kp⟩
theorem at_M (d : DF c x st ps) (hbf : ∀ x ∈ BN, c.mg x = none) (sc : FnScope N ps (defScope st)) (ck : chkSs N (defScope st) ir (defBody st) = true) (ok : okSs (c.at N k l) ir) (hl : LamD c x l) : At c x (fun c => spM c (fnM ir N.length ps.length)) (k + 1) := by
  intro N' k' l' hk
  obtain ⟨f, fd, F, b, m⟩ := d.ex
  exact ⟨f, fd, ps, k + 1, m, hk, fnM_ok (c := c.at N k l) F sc hbf ck ok (hl.of F m), b, F.kp⟩
/-- .. whose first argument is a lab -/
theorem at_F {C : Nat} (d : DF c x st ps) (hbf : ∀ x ∈ BN, c.mg x = none) (sc : FnScope N ps (defScope st)) (ck : chkSs N (defScope st) ir (defBody st) = true) (ok : okSs (c.at N k l) ir) (hl : LamD c x l) : At c x (fun c => spL c C (fnL ir N.length ps.length C)) (k + 1) := by
  intro N' k' l' hk
  obtain ⟨f, fd, F, b, m⟩ := d.ex
  exact ⟨f, fd, ps, k + 1, m, hk, fnL_ok (c := c.at N k l) F sc hbf ck ok (hl.of F m), b, F.kp⟩
end
section
variable {c : Ct} {x : Str} {st : Stmt} {ps : List Str} {N : List Str}
theorem at_0 (d : DF c x st ps) (k : Nat) : At c x (fun c => spP c fun _ => none) k := by
  intro N' k' l' hk
  obtain ⟨f, fd, F, b, m⟩ := d.ex
  refine ⟨f, fd, ps, 0, m, Nat.zero_le _, ⟨fun vs H Q E h => ?_, fun A outer s H args us vs Q E hr he hb hv h => ?_⟩, b, F.kp⟩
  · obtain ⟨_, _, _, _, _, _, h⟩ := h
    exact h.elim
  · obtain ⟨_, _, _, _, _, _, h⟩ := h
    exact h.elim
/-- a def that calls itself, so many levels deep -/
theorem at_rec {ir : (List D → Option (Except Str D)) → List S} {Fr : Nat → List D → Option (Except Str D)} {k0 : Nat} (d : DF c x st ps) (hbf : ∀ x ∈ BN, c.mg x = none) (sc : FnScope N ps (defScope st)) (ck : ∀ r, chkSs N (defScope st) (ir r) (defBody st) = true)
    (h0 : Fr 0 = fun _ => none) (hs : ∀ j, Fr (j + 1) = fnP (ir (Fr j)) N.length ps.length) (ok : ∀ j, At c x (fun c => spP c (Fr j)) (k0 + j) → okSs (c.at N (k0 + j) none) (ir (Fr j))) : ∀ j, At c x (fun c => spP c (Fr j)) (k0 + j) := by
  intro j
  induction j with
  | zero => rw [h0]; exact at_0 d _
  | succ j ih => rw [hs]; exact at_P (k := k0 + j) (l := none) d hbf sc (ck _) (ok j ih) .no
end
/-- the classes by their names -/
def clsOf (mg : Str → Option Value) (x : Str) : Option Addr := match mg x with
  | some (.ref C) => some C
  | _ => none
structure XF (K : PySem.W.Frag) (mg : Str → Option Value) (x : Str) : Prop where
  ex : ∃ C, mg x = some (.ref C) ∧ PySem.W.excIn K C [.type "ValueError", .type "Exception", .type "BaseException", .type "object"] "ValueError.__new__" = true ∧ PySem.W.keepIn K (.ref C) = true ∧
    PySem.W.subIn K (.ref C) (.type "BaseException") = some true ∧ PySem.W.typeIn K (.ref C) = some (.type "type")
theorem XF.ok {c : Ct} (hc : c.cls = clsOf c.mg) {x : Str} (h : XF c.K c.mg x) (N : List Str) (k : Nat) (l : Option (Addr × Addr × Str)) : RaiseOk (c.at N k l) x := by
  obtain ⟨C, h1, h2⟩ := h.ex
  refine ⟨C, ?_, h1, h2⟩
  show c.cls x = some C
  rw [hc]
  unfold clsOf
  rw [h1]
def c0 (P : Program) (w : World) (K : PySem.W.Frag) (mg : Str → Option Value) (base : Heap) (T : List (Addr × Str)) : Ct := ⟨P, w, K, mg, base, T, clsOf mg, 0, [], none⟩
theorem df_mk {c : Ct} {x : Str} {st : Stmt} {ps : List Str} {h : Heap} {f : Addr} {oc : Value} {od an : Option Addr} {osl : Array (Option Value)} {kV doc pm cdv ct : Value} (X : c.K.In h) (G : h.Ns mainGlobals c.mg)
    (a : PySem.W.nsIn c.K mainGlobals x = some (some (.ref f))) (l : c.K.lookup f = some ⟨oc, od, .func (PySem.W.fnOf x x (defArgs st) (defBody st) (defScope st) .none kV doc pm an cdv ct), osl⟩)
    (cd : PySem.W.codeIn c.K cdv x = true) (k : PySem.W.keepIn c.K (.ref f) = true)
    (hb : ∀ (kV doc pm : Value) (an : Option Addr) (cdv ct : Value) (us : List Value), us.length = ps.length → bindArgs (PySem.W.fnOf x x (defArgs st) (defBody st) (defScope st) .none kV doc pm an cdv ct) ⟨us, []⟩ = pure (ps.zip us)) : DF c x st ps := by
  have F := fun_mk (x := x) (qual := x) (st := st) l cd k
  exact ⟨f, _, F, F.binds (ps := ps) hb, PySem.W.mg_of X G a⟩
theorem bf_mk {K : PySem.W.Frag} {mg : Str → Option Value} {h : Heap} (X : K.In h) (G : h.Ns mainGlobals mg) (z : (BN.all fun x => match PySem.W.nsIn K mainGlobals x with | some none => true | _ => false) = true) : ∀ x ∈ BN, mg x = none := fun x hx => by
  have := List.all_eq_true.mp z x hx
  split at this
  · exact PySem.W.mg_none_of X G (by assumption)
  · cases this
end TO

set_option Elab.async false
set_option linter.all false
set_option maxRecDepth 100000
set_option maxHeartbeats 8000000
/-! A lab's class: __init__, methods. -/
namespace TO
open PySem PySem.Spec L2
theorem putLab (v : V) (p : Addr) : putF "entries" (.ref p) (putF "n" v []) = labFs v p := rfl
theorem Stp.wide {T : List (Addr × Str)} {G H G' H' : Hp} {Md : Addr → Prop} (t : Stp T (fun _ => False) G H G' H') : Stp T Md G H G' H' := ⟨t.up, t.sub, t.new, fun b o _ e => t.ext b o (fun z => z) e, t.live, t.tabs, t.flat⟩
theorem Stp.no {T : List (Addr × Str)} {G H G' H' : Hp} {Md : Addr → Prop} (t : Stp T Md G H G' H') {a : Addr} {o : HO} (g : G a = none) (h : H a = some o) : G' a = none := by
  cases q : G' a with
  | none => rfl
  | some o' =>
    rcases t.new a o' q with z | z
    · rw [g] at z; cases z
    · rw [h] at z; cases z
section
variable {c : Ct} {C : Addr}
theorem init_ok {Fc : List D → Option (Except Str D)} {st : Stmt} {f : Addr} {fd : FuncData} (F : Fun c.K "__init__" "Lab.__init__" st f fd) (Sc : FnScope ["self", "n"] ["self", "n"] (defScope st)) (hbf : ∀ x ∈ BN, c.mg x = none) (hN : c.N = (["self", "n"] : List Str)) (hl : c.lam = none)
    (hb : ∃ p1 p2 p3 p4 p5 p6 p7 p8 p9 q1 q2 q3 : Pos, defBody st = [.Expr (.Call (.Name "check_count" p1) [.Name "n" p2] [] p3) p4, .Assign [.Attribute (.Name "self" p5) "n" p6] (.Name "n" p7) p8, .Assign [.Attribute (.Name "self" p9) "entries" q1] (.List [] q2) q3])
    (hg : (defScope st).names.lookup ("check_count" : Str) = some .globalImplicit) (hs : visB (defScope st) "self" = true) (hn : visB (defScope st) "n" = true) (ck : CallOk c "check_count" (spP c Fc)) (cl : ClsOk c C) :
    FnOk c.P c.w c.K c.mg c.base (L2N.CX c.P c.w) (c.k + 1) f fd ["self", "n"] (spI c C (newF Fc)) := by
  have two : ∀ vs H Q E, spI c C (newF Fc) vs H Q E → ∃ (G : Hp) (a dx : Addr) (v : V) (d : D), vs = [.ref a, v] ∧ Same G H ∧ (∀ b o, G b = some o → IsDat o) ∧ LamX.Tabs c.T H ∧ G a = none ∧ H a = some (.ins C dx []) ∧ Rp G v d ∧ (match newF Fc [d] with
      | none => False
      | some (.ok d) => ∀ vn e G' H', Stp c.T (· = a) G H G' H' → G' a = none → H e = none → G' e = none → H' a = some (.ins C dx (labFs vn e)) → H' e = some (.lst []) → Rp G' vn d → Q .non H'
      | some (.error x) => ∀ Cx, c.cls x = some Cx → ∀ G' H', Stp c.T (· = a) G H G' H' → G' a = none → E (.ref Cx) none H') := fun vs H Q E h => by
    obtain ⟨G, a, dx, rest, ds, rfl, h1, h2, h3, h4, h5, r, h⟩ := h
    match ds, rest, r, h with
    | [d], [v], r, h => exact ⟨G, a, dx, v, d, rfl, h1, h2, h3, h4, h5, r.1, h⟩
    | [], _, _, h => exact h.elim
    | _ :: _ :: _, _, _, h => exact h.elim
    | [_], [], r, _ => exact r.elim
    | [_], _ :: _ :: _, r, _ => exact r.2.elim
  refine fun_okN F (N := c.N) (by rw [hN]; exact Sc) (fun vs H Q E h => by obtain ⟨_, _, _, _, _, rfl, _⟩ := two vs H Q E h; rfl) fun cdv A outer s H vs Q E ec hr h => ?_
  obtain ⟨G, a, dx, v, d, rfl, h1, h2, h3, h4, h5, r, h⟩ := two vs H Q E h
  obtain ⟨p1, p2, p3, p4, p5, p6, p7, p8, p9, q1, q2, q3, eb⟩ := hb
  have gx := gx_def (c := c) (CX0 := True) (E := E) (outer := outer) (s := s) (H := H) (qual := "Lab.__init__") (f := f) (cdv := cdv) (A := A) (by rw [hN]; exact Sc) hbf hr (fun a P q e => by rw [hl] at e; cases e)
  obtain ⟨fa, fc, ps, kk, hm, hk, hF, hbi, kp⟩ := ck
  have hx : Passes (L2N.CX c.P c.w) _ E := L2N.passes_call gx.tk fun _ _ _ _ z => z
  have s0 : c.N[0]? = some ("self" : Str) := by rw [hN]; rfl
  have s1 : c.N[1]? = some ("n" : Str) := by rw [hN]; rfl
  have pv0 := fun p => pe_var (i := 0) (pos := p) (x := "self") s0 (gx.vis hs) (by decide) (by decide)
  have pv1 := fun p => pe_var (i := 1) (pos := p) (x := "n") s1 (gx.vis hn) (by decide) (by decide)
  rw [eb]
  refine ⟨_, pss_cons (ps_expr (pe_call hF (gx.room.mono hk) (gx.glo _ hg) hm kp hbi .nil hx (pa_cons (pv1 _) pa_nil)) rfl) (pss_cons (ps_fld (pv0 _) (pv1 _) rfl) (pss_one (ps_fld (pv0 _) (pe_lst pa_nil) rfl))), ?_⟩
  have st0 : L2.start c.N [V.ref a, v] = [some (.ref a), some v] := by rw [hN]; rfl
  rw [st0]
  refine ⟨v, rfl, G, [d], h1, h2, h3, ⟨r, trivial⟩, ?_⟩
  have e0 : newF Fc [d] = match Fc [d] with
    | some (.ok _) => some (.ok d)
    | some (.error x) => some (.error x)
    | none => none := rfl
  rw [e0] at h
  cases hc : Fc [d] with
  | none => rw [hc] at h; exact h.elim
  | some z =>
    rw [hc] at h
    cases z with
    | error x => exact fun Cx hC G' H' t => h Cx hC G' H' t.wide (t.no h4 h5)
    | ok y =>
      intro w G1 H1 t1 _
      have g1 : G1 a = none := t1.no h4 h5
      have ha1 : H1 a = some (.ins C dx []) := by
        rcases t1.ext a _ (fun z => z) h5 with z | ⟨ps, qs, z, _⟩
        · exact z
        · cases z
      refine ⟨v, rfl, .ref a, rfl, a, C, dx, [], rfl, ha1, cl.cl, cl.nN, by decide, ?_⟩
      refine ⟨Nat.zero_le _, fun p hp => ?_⟩
      have npa : p ≠ a := fun z => by subst z; rw [upd_same] at hp; cases hp
      have hp1 : H1 p = none := by rw [upd_ne npa] at hp; exact hp
      refine ⟨.ref a, rfl, a, C, dx, _, rfl, by rw [upd_ne (Ne.symm npa)]; exact upd_same, cl.cl, cl.nE, (by show 1 < 1000; decide), ?_⟩
      have gp : G1 p = none := by
        cases q : G1 p with
        | none => rfl
        | some o => have := t1.sub p o q; rw [hp1] at this; cases this
      have at_ : ∀ b, b ≠ a → b ≠ p → upd (upd (upd H1 a (.ins C dx (putF "n" v []))) p (.lst [])) a (.ins C dx (putF "entries" (.ref p) (putF "n" v []))) b = H1 b := fun b hb hbp => by rw [upd_ne hb, upd_ne hbp, upd_ne hb]
      refine h v p G1 _ ⟨t1.up, fun b o e => ?_, t1.new, fun b o hb e => ?_, fun b e => ?_, fun tt ht => ?_, t1.flat⟩ g1 (t1.live p hp1) gp (by rw [upd_same]; rfl) (by rw [upd_ne npa]; exact upd_same) (Rp.mono t1.up _ _ r)
      · rw [at_ b (fun z => by subst z; rw [g1] at e; cases e) (fun z => by subst z; rw [gp] at e; cases e)]
        exact t1.sub b o e
      · have hbp : b ≠ p := fun z => by
          subst z
          have := t1.live b hp1
          rw [e] at this; cases this
        rw [at_ b hb hbp]
        exact t1.ext b o (fun z => z) e
      · by_cases hb : b = a
        · subst hb; rw [upd_same] at e; cases e
        · by_cases hbp : b = p
          · subst hbp; exact t1.live b hp1
          · rw [at_ b hb hbp] at e; exact t1.live b e
      · obtain ⟨ps, k1, k2, k3⟩ := t1.tabs tt ht
        have nea : ∀ b o, H1 b = some o → (∀ C dx fs, o ≠ .ins C dx fs) → b ≠ a := fun b o e q z => by subst z; rw [ha1] at e; cases e; exact q _ _ _ rfl
        refine ⟨ps, by rw [at_ _ (nea _ _ k1 (fun _ _ _ z => by cases z)) (fun z => by rw [z, hp1] at k1; cases k1)]; exact k1, k2, fun pos cv hc => ?_⟩
        obtain ⟨cc, e1, e2⟩ := k3 pos cv hc
        exact ⟨cc, e1, by rw [at_ _ (nea _ _ e2 (fun _ _ _ z => by unfold LamX.CodeO at z; cases z)) (fun z => by rw [z, hp1] at e2; cases e2)]; exact e2⟩
end
section
variable {c : Ct} {C : Addr}
theorem log_ok {st : Stmt} {f : Addr} {fd : FuncData} (F : Fun c.K "log" "Lab.log" st f fd) (Sc : FnScope ["self"] ["self"] (defScope st)) (hbf : ∀ x ∈ BN, c.mg x = none) (hN : c.N = (["self"] : List Str)) (hl : c.lam = none)
    (hb : ∃ p1 p2 p3 p4 p5 : Pos, defBody st = [.Return (some (.Call (.Name "list" p1) [.Attribute (.Name "self" p2) "entries" p3] [] p4)) p5]) (hg : gloB (defScope st) "list" = true) (hs : visB (defScope st) "self" = true) (cl : ClsOk c C) :
    FnOk c.P c.w c.K c.mg c.base (L2N.CX c.P c.w) (c.k + 1) f fd ["self"] (spV C) := by
  refine fun_okN F (N := c.N) (by rw [hN]; exact Sc) (fun vs H Q E h => by obtain ⟨_, _, _, _, _, rfl, _⟩ := h; rfl) fun cdv A outer s H vs Q E ec hr h => ?_
  obtain ⟨a, dx, e, vn, us, rfl, ha, he, q⟩ := h
  obtain ⟨p1, p2, p3, p4, p5, eb⟩ := hb
  have gx := gx_def (c := c) (CX0 := True) (E := E) (outer := outer) (s := s) (H := H) (qual := "Lab.log") (f := f) (cdv := cdv) (A := A) (by rw [hN]; exact Sc) hbf hr (fun a P q e => by rw [hl] at e; cases e)
  have s0 : c.N[0]? = some ("self" : Str) := by rw [hN]; rfl
  rw [eb]
  refine ⟨_, pss_one (ps_ret (pe_callTy call_list_of (gx.gl hg) (gx.none (by decide +kernel)) (by decide +kernel) (pa_cons (pe_fld (pe_var (i := 0) (x := "self") s0 (gx.vis hs) (by decide) (by decide)) rfl) pa_nil rfl))), ?_⟩
  have st0 : L2.start c.N [V.ref a] = [some (.ref a)] := by rw [hN]; rfl
  rw [st0]
  exact ⟨.ref a, rfl, a, C, dx, _, .ref e, rfl, ha, cl.cl, cl.nE, labFs_e _ _, e, us, rfl, .inl (SqL.of he), fun l hl => q l hl⟩
end
/-- a lab's class, seen from anywhere above -/
def AtN (c : Ct) (C : Addr) (F : List D → Option (Except Str D)) (k : Nat) : Prop := ∀ N' k' l', k ≤ k' → NewOk (c.at N' k' l') C (spI (c.at N' k' l') C F)
def AtL (c : Ct) (C : Addr) (m : Str) (F : D → List D → List D → Option (Except Str D × List D)) (k : Nat) : Prop := ∀ N' k' l', k ≤ k' → MethOk (c.at N' k' l') C m (spL (c.at N' k' l') C F)
section
variable {c : Ct} {C : Addr}
theorem at_N {Fc : List D → Option (Except Str D)} {st : Stmt} {f : Addr} {fd : FuncData} {k : Nat} (F : Fun c.K "__init__" "Lab.__init__" st f fd) (b : Binds c.K fd ["self", "n"] []) (M : Mk c.K C f) (hm : c.mg "Lab" = some (.ref C)) (Sc : FnScope ["self", "n"] ["self", "n"] (defScope st)) (hbf : ∀ x ∈ BN, c.mg x = none)
    (hb : ∃ p1 p2 p3 p4 p5 p6 p7 p8 p9 q1 q2 q3 : Pos, defBody st = [.Expr (.Call (.Name "check_count" p1) [.Name "n" p2] [] p3) p4, .Assign [.Attribute (.Name "self" p5) "n" p6] (.Name "n" p7) p8, .Assign [.Attribute (.Name "self" p9) "entries" q1] (.List [] q2) q3])
    (hg : (defScope st).names.lookup ("check_count" : Str) = some .globalImplicit) (hs : visB (defScope st) "self" = true) (hn : visB (defScope st) "n" = true) (ck : At c "check_count" (fun c => spP c Fc) k) (cl : ∀ N k l, ClsOk (c.at N k l) C) : AtN c C (newF Fc) (k + 2) := by
  intro N' k' l' hk
  exact ⟨f, fd, ["self", "n"], k + 1, hm, M, hk, init_ok (c := c.at ["self", "n"] k none) F Sc hbf rfl rfl hb hg hs hn (ck _ _ _ (Nat.le_refl _)) (cl _ _ _), b⟩
theorem at_V {st : Stmt} {f : Addr} {fd : FuncData} (F : Fun c.K "log" "Lab.log" st f fd) (b : Binds c.K fd ["self"] []) (me : Meth c.K C "log" f) (Sc : FnScope ["self"] ["self"] (defScope st)) (hbf : ∀ x ∈ BN, c.mg x = none)
    (hb : ∃ p1 p2 p3 p4 p5 : Pos, defBody st = [.Return (some (.Call (.Name "list" p1) [.Attribute (.Name "self" p2) "entries" p3] [] p4)) p5]) (hg : gloB (defScope st) "list" = true) (hs : visB (defScope st) "self" = true) (cl : ∀ N k l, ClsOk (c.at N k l) C) :
    ∀ N' k' l', 1 ≤ k' → MethOk (c.at N' k' l') C "log" (spV C) := fun N' k' l' hk => ⟨f, fd, ["self"], 1, me, hk, log_ok (c := c.at ["self"] 0 none) F Sc hbf rfl rfl hb hg hs (cl _ _ _), b⟩
theorem at_L1 {m : Str} {F : D → List D → List D → Option (Except Str D × List D)} {k : Nat} (h : AtL c C m F k) : ∀ N' k' l', k + 1 ≤ k' → MethOk1 (c.at N' k' l') C m (spL (c.at N' k' l') C F) := fun N' k' l' hk => by
  obtain ⟨fa, fd, ps, kk, h1, h2, h3, h4⟩ := h N' k l' (Nat.le_refl _)
  exact ⟨fa, fd, ps, kk, h1, Nat.le_trans (Nat.succ_le_succ h2) hk, h3, h4⟩
theorem at_L {x qual : Str} {st : Stmt} {f : Addr} {fd : FuncData} {ps N : List Str} {k : Nat} {ir : List S} (F : Fun c.K x qual st f fd) (b : Binds c.K fd ps []) (me : Meth c.K C x f) (Sc : FnScope N ps (defScope st)) (hbf : ∀ x ∈ BN, c.mg x = none) (ck : chkSs N (defScope st) ir (defBody st) = true) (ok : okSs (c.at N k none) ir) : AtL c C x (fnL ir N.length ps.length C) (k + 1) := by
  intro N' k' l' hk
  exact ⟨f, fd, ps, k + 1, me, hk, fnL_ok (c := c.at N k none) F Sc hbf ck ok (fun a P q e => by cases e), b⟩
end
end TO

set_option Elab.async false
set_option linter.all false
set_option maxRecDepth 100000
set_option maxHeartbeats 8000000
/-! What the head of a row says of exceptions, code objects and their tables; the end of a row. -/
namespace TO
open PySem PySem.Spec L2

/-! ### the exceptions -/
def excB (K : PySem.W.Frag) (D : Addr) : Bool :=
  (PySem.W.findIn K (.ref D) "__getattribute__" == some (some (.builtin "BaseException.__getattribute__"))) && (PySem.W.findIn K (.ref D) "__getattr__" == some none)
  && (PySem.W.subIn K (.ref D) (.type "BaseException") == some true) && PySem.W.hasDictIn K D && (PySem.W.findIn K (.ref D) "__class__" == some (some (.builtin "object.__class__")))
  && (PySem.W.specialIn K (.builtin "object.__class__") "__get__" == some (some (.builtin "getset_descriptor.__get__"))) && (PySem.W.takesIn K (.builtin "object.__class__") == some true) && (PySem.W.mroIn K D (.type "object") == some true)
theorem excB_ok {K : PySem.W.Frag} {D : Addr} (h : excB K D = true) : ExcC K D := by
  unfold excB at h
  simp only [Bool.and_eq_true, beq_iff_eq] at h
  obtain ⟨⟨⟨⟨⟨⟨⟨h1, h2⟩, h3⟩, h4⟩, h5⟩, h6⟩, h7⟩, h8⟩ := h
  exact ⟨h1, h2, h3, h4, h5, h6, h7, h8⟩
def clsK (K : PySem.W.Frag) (y : Str) : Option Addr := match PySem.W.nsIn K mainGlobals y with
  | some (some (.ref C)) => some C
  | _ => none
theorem clsK_ns {K : PySem.W.Frag} {y : Str} {C : Addr} (h : clsK K y = some C) : PySem.W.nsIn K mainGlobals y = some (some (.ref C)) := by
  unfold clsK at h
  split at h
  · cases h; assumption
  · cases h
def told13B (K : PySem.W.Frag) : Bool := match clsK K "OrderError" with
  | none => false
  | some CS => TU.all13.all fun y => match clsK K y with
    | none => false
    | some D => excB K D && (PySem.W.kitOne K (.ref D) (.type "ValueError") == some true) && (PySem.W.exmOne K (.ref D) (.ref CS) == some true) &&
      TU.all13.all fun x => match clsK K x with
        | none => false
        | some C => PySem.W.kitOne K (.ref D) (.ref C) == some (decide (x = y))
theorem told13 {K : PySem.W.Frag} {mg : Str → Option Value} {hp : Heap} (h : told13B K = true) (X : K.In hp) (G : hp.Ns mainGlobals mg) :
    ∃ CS, mg "OrderError" = some (.ref CS) ∧ ∀ y ∈ TU.all13, ∃ Dc, mg y = some (.ref Dc) ∧ TU.TCls K mg Dc y ∧ PySem.W.exmOne K (.ref Dc) (.ref CS) = some true := by
  unfold told13B at h
  split at h
  · cases h
  · rename_i CS hCS
    refine ⟨CS, PySem.W.mg_of X G (clsK_ns hCS), fun y hy => ?_⟩
    have hy' := List.all_eq_true.mp h y hy
    split at hy'
    · cases hy'
    · rename_i D hD
      simp only [Bool.and_eq_true, beq_iff_eq] at hy'
      obtain ⟨⟨⟨h1, h2⟩, h3⟩, h4⟩ := hy'
      refine ⟨D, PySem.W.mg_of X G (clsK_ns hD), ⟨excB_ok h1, fun x hx => ?_, h2, hy⟩, h3⟩
      have hx' := List.all_eq_true.mp h4 x hx
      split at hx'
      · cases hx'
      · rename_i C hC
        exact ⟨C, PySem.W.mg_of X G (clsK_ns hC), beq_iff_eq.mp hx'⟩
theorem toldD_mk {c : Ct} {st : Stmt} {hp : Heap} {p1 p2 p3 p4 p5 p6 p7 p8 p9 p10 : Pos} (d : DF c "_law_told" st ["deed"]) (X : c.K.In hp) (G : hp.Ns mainGlobals c.mg) (h13 : told13B c.K = true) (S : FnScope TU.NG ["deed"] (defScope st))
    (eb : defBody st = [.Try [.Return (some (.Call (.Name "deed" p1) [] [] p2)) p3] [.ExceptHandler (some (.Name "OrderError" p4)) (some "e") [.Return (some (.Call (.Name "_law_term" p5) [.Name "e" p6] [] p7)) p8] p9] [] [] p10])
    (lo : ((["deed", "e"] : List Str).all fun x => decide ((defScope st).names.lookup x = some .local)) = true) (gl : ((["OrderError", "_law_term"] : List Str).all fun x => decide ((defScope st).names.lookup x = some .globalImplicit)) = true) : TU.ToldD c.K c.mg := by
  obtain ⟨f, fd, F, b, m⟩ := d.ex
  obtain ⟨CS, h1, h2⟩ := told13 h13 X G
  exact ⟨st, f, fd, CS, p1, p2, p3, p4, p5, p6, p7, p8, p9, p10, F, b, m, S, eb, fun x hx => of_decide_eq_true (List.all_eq_true.mp lo x hx), fun x hx => of_decide_eq_true (List.all_eq_true.mp gl x hx), h1, h2⟩
def tscB (sc scope : Scope) : Bool := ((["e", "flags", "kinds"] : List Str).all fun x => decide (sc.names.lookup x = some .local)) && (TU.gloL.all fun x => decide (sc.names.lookup x = some .globalImplicit)) && blkC TU.NT sc scope [("flag", 3)]
  && decide (scope.names.lookup ("flag" : Str) = some .local) && decide (scope.names.lookup ("int" : Str) = some .globalImplicit)
theorem termD_mk {c : Ct} {st : Stmt} {scope : Scope} (d : DF c "_law_term" st ["e"]) (S : FnScope TU.NT ["e"] (defScope st)) (hs : tscB (defScope st) scope = true)
    (body : ∀ (X : Cx) (p : Addr × Obj) (Dc : Addr) (y : Str), TU.TX X p Dc y (defScope st) scope → ∃ ts, PSs X (defBody st) ts ∧
      ∀ (De : Ends) (H : Hp), (∀ q us H', TU.Grow H H' → H q = none → H' q = some (tupH us [.str "error", .str y]) → De.rt (.ref q) H') → ts De (L2.start TU.NT [.ref p.1]) H) : TU.TermD c.K c.mg := by
  obtain ⟨f, fd, F, b, m⟩ := d.ex
  unfold tscB at hs
  simp only [Bool.and_eq_true, decide_eq_true_eq] at hs
  obtain ⟨⟨⟨⟨h1, h2⟩, h3⟩, h4⟩, h5⟩ := hs
  exact ⟨st, scope, f, fd, F, b, m, S, ⟨fun x hx => of_decide_eq_true (List.all_eq_true.mp h1 x hx), fun x hx => of_decide_eq_true (List.all_eq_true.mp h2 x hx), h3, h4, h5⟩, body⟩

/-! ### tables of code objects -/
def lamN (x : Str) : Str := x ++ ".<locals>." ++ "<lambda>"
def tabT (K : PySem.W.Frag) (names : List Str) : List (Addr × Str) := names.filterMap fun x => (PySem.W.tabIn K x).map fun cp => (cp.2, lamN x)
def tabB (K : PySem.W.Frag) (names : List Str) : Bool := (names.all fun x => (PySem.W.tabIn K x).isSome) && decide ((tabT K names).map (·.1)).Nodup && ((names.filterMap (PySem.W.tabIn K)).all fun p => (K.lookup p.2).isNone)
theorem tabIn_code {K : PySem.W.Frag} {x : Str} {a P : Addr} (h : PySem.W.tabIn K x = some (a, P)) : ∃ (f : Addr) (o : Obj) (fd : FuncData), PySem.W.nsIn K mainGlobals x = some (some (.ref f)) ∧ K.lookup f = some o ∧ o.data = .func fd ∧ fd.code = .ref a := by
  unfold PySem.W.tabIn at h
  split at h
  · rename_i f hf
    split at h
    · rename_i hfo
      split at h
      · rename_i c2 hc
        split at h
        · split at h
          · cases h
            exact ⟨f, _, _, hf, hfo, rfl, hc⟩
          · cases h
        · cases h
      · cases h
    · cases h
  · cases h
theorem lamD_mk {c : Ct} {hp : Heap} {x : Str} {a P : Addr} (X : c.K.In hp) (G : hp.Ns mainGlobals c.mg) (h : PySem.W.tabIn c.K x = some (a, P)) : LamD c x (some (a, P, lamN x)) := by
  intro a' P' q e
  cases e
  obtain ⟨f, o, fd, h1, h2, h3, h4⟩ := tabIn_code h
  exact ⟨rfl, f, o, fd, PySem.W.mg_of X G h1, h2, h3, h4⟩
theorem tab_some {K : PySem.W.Frag} {names : List Str} (h : tabB K names = true) {x : Str} (hx : x ∈ names) : ∃ a P, PySem.W.tabIn K x = some (a, P) := by
  unfold tabB at h
  simp only [Bool.and_eq_true] at h
  obtain ⟨⟨a, P⟩, e⟩ := Option.isSome_iff_exists.mp (List.all_eq_true.mp h.1.1 x hx)
  exact ⟨a, P, e⟩
theorem tolC_mk {c : Ct} {names : List Str} {x : Str} {a P : Addr} {N : List Str} {k : Nat} (et : PySem.W.tabIn c.K x = some (a, P)) (hT : c.T = tabT c.K names) (tb : tabB c.K names = true) (mx : x ∈ names) (TB : ∀ p ∈ names.filterMap (PySem.W.tabIn c.K), LamX.TabB c.base c.mg p.1 p.2)
    (D : TU.ToldD c.K c.mg) (DT : TU.TermD c.K c.mg) (hc : c.cls = clsOf c.mg) (hk : 2 ≤ k) : TolC (c.at N k (some (a, P, lamN x))) := by
  have mem : (P, lamN x) ∈ tabT c.K names := List.mem_filterMap.mpr ⟨x, mx, by rw [et]; rfl⟩
  refine ⟨⟨a, P, lamN x, rfl, TB (a, P) (List.mem_filterMap.mpr ⟨x, mx, et⟩), (show (P, lamN x) ∈ c.T by rw [hT]; exact mem), fun p hp hP => ?_⟩, D, DT, hk, fun y C hy => ?_⟩
  · have hp' : p ∈ tabT c.K names := by rw [← hT]; exact hp
    unfold tabB at tb
    simp only [Bool.and_eq_true, decide_eq_true_eq] at tb
    have nd := tb.1.2
    obtain ⟨i, hi⟩ := List.getElem?_of_mem hp'
    obtain ⟨j, hj⟩ := List.getElem?_of_mem mem
    have e1 : ((tabT c.K names).map (·.1))[i]? = some P := by rw [List.getElem?_map, hi]; exact congrArg some hP
    have e2 : ((tabT c.K names).map (·.1))[j]? = some P := by rw [List.getElem?_map, hj]; rfl
    obtain ⟨l1, g1⟩ := List.getElem?_eq_some_iff.mp e1
    obtain ⟨l2, g2⟩ := List.getElem?_eq_some_iff.mp e2
    have : i = j := (List.getElem_inj nd).mp (g1.trans g2.symm)
    subst this
    rw [hi] at hj
    cases hj
    rfl
  · have hy' : c.cls y = some C := hy
    rw [hc] at hy'
    unfold clsOf at hy'
    split at hy'
    · cases hy'; assumption
    · cases hy'
def spLawT (T : List (Addr × Str)) (K : PySem.W.Frag) : Sp := fun vs H Q _ => ∃ (a : Addr) (ns : List Int), vs = [.ref a] ∧ SqL K H a (ns.map V.int) ∧ ns.length ≤ 63 ∧ LamX.Tabs T H ∧ ∀ H', Q (.bl true) H'
/-- the end of a row -/
theorem walkT {l : PySem.W.OpenLaw} {k : Nat} {q : Program} {loose : List Str} {XP : (Str → Option Value) → Heap → Prop} {YP : World → Heap → Prop} {d : DefRec} {K : Params → PySem.W.Frag} (names : List Str) (hn : l.most = some 63) (hdf : d.params.defaults = []) (hr : Room k callerA)
    (hrec : (names.all fun x => ((PyProof.Rows.recsOf q).find? fun e => e.name == x).isSome) = true) (hB : ∀ w : World, tabB (K w.params) names = true)
    (hY : ∀ (w : World) (h : Heap), YP w h → (K w.params).In h)
    (F : ∀ (w : World) (mg : Str → Option Value) (fa : Addr) (h : Heap), (K w.params).In h → h.Ns mainGlobals mg → mg d.name = some (.ref fa) →
      ∃ fd : FuncData, (∀ (s : Shared) (u : Value), BindsTo s fd ⟨[u], []⟩ [("script", u)]) ∧ ∀ base : Heap, (K w.params).In base → base.Ns mainGlobals mg → (∀ p ∈ names.filterMap (PySem.W.tabIn (K w.params)), LamX.TabB base mg p.1 p.2) →
        FnOk l.prog w (K w.params) mg base CX0 k fa fd ["script"] (spLawT (tabT (K w.params) names) (K w.params))) :
    PySem.W.WalkO q loose XP YP l.row.toRowW d [] (fun f vs => PySem.call f vs) := by
  refine Att.attach_callB hn hdf fun w s₀ s₁ mg mb fa o pm cd doc a vs ns G Y ho hd hcd hmg hobj hints hlen hbits hg => ?_
  have KX := hY w _ Y
  obtain ⟨fd, hb, hF⟩ := F w mg fa _ KX G.T.g hmg
  have tb := hB w
  have at_ : ∀ p ∈ names.filterMap (PySem.W.tabIn (K w.params)), PySem.W.CodeHd s₁.heap p.1 p.2 ∧ s₁.heap.get? p.2 = some (PySem.W.tabObj #[]) := fun p hp => by
    obtain ⟨x, hx, e⟩ := List.mem_filterMap.mp hp
    obtain ⟨dr, hdr⟩ := Option.isSome_iff_exists.mp (List.all_eq_true.mp hrec x hx)
    exact PySem.W.tab_of G.T KX hdr e
  refine LamX.law_callTs (cs := names.filterMap (PySem.W.tabIn (K w.params))) KX G.T.g G.T.b G.T.builtins G.T.nolimit hg (fun p hp => (at_ p hp).2) (fun p hp => ?_) (fun p hp => (at_ p hp).1) G.T.bmain hobj hints (Nat.le_trans hlen (by decide)) hr hF hb (fun H hH hS => ?_) fun H e s' z => z
  · unfold tabB at tb
    simp only [Bool.and_eq_true] at tb
    exact Option.isNone_iff_eq_none.mp (List.all_eq_true.mp tb.2 p hp)
  · refine ⟨a, ns, rfl, hS, hlen, fun p hp => ?_, fun _ => rfl⟩
    obtain ⟨x, hx, e⟩ := List.mem_filterMap.mp hp
    obtain ⟨⟨a', P⟩, e1, e2⟩ := Option.map_eq_some_iff.mp e
    subst e2
    exact LamX.TabS.nil (hH (a', P) (List.mem_filterMap.mpr ⟨x, hx, e1⟩))
end TO

set_option Elab.async false
set_option linter.all false
set_option maxRecDepth 100000
set_option maxHeartbeats 8000000
/-! Plain laws of the small language's parts. -/
namespace TO
open PySem L2

section
variable (env : En) (m : Mu)
theorem v_cst (d) : ev (.cst d) env m = some (.ok d, m) := by first | (simp only [ev]; done) | (simp only [ev]; rfl)
theorem v_glob (x d) : ev (.glob x d) env m = some (.ok d, m) := by first | (simp only [ev]; done) | (simp only [ev]; rfl)
theorem v_var (i) : ev (.var i) env m = match env[i]? with | some (some (.val d)) => some (.ok d, m) | _ => none := by first | (simp only [ev]; done) | (simp only [ev]; rfl)
theorem v_neg (a) : ev (.neg a) env m = bnd (ev a env m) fun d m => match d with | .int i => some (.ok (.int (-i)), m) | _ => none := by first | (simp only [ev]; done) | (simp only [ev]; rfl)
theorem v_bin (o a b) : ev (.bin o a b) env m = bnd (ev a env m) fun d m => bnd (ev b env m) fun e m => opt (binD o d e) m := by first | (simp only [ev]; done) | (simp only [ev]; rfl)
theorem v_cmp (o a b) : ev (.cmp o a b) env m = bnd (ev a env m) fun d m => bnd (ev b env m) fun e m => opt ((cmpD o d e).map .bool) m := by first | (simp only [ev]; done) | (simp only [ev]; rfl)
theorem v_chain (o p a b c) : ev (.chain o p a b c) env m = bnd (ev a env m) fun d m => bnd (ev b env m) fun e m => match cmpD o d e with
    | some true => bnd (ev c env m) fun g m => opt ((cmpD p e g).map .bool) m
    | some false => some (.ok (.bool false), m)
    | none => none := by first | (simp only [ev]; done) | (simp only [ev]; rfl)
theorem v_and (es) : ev (.andE es) env m = evAnd es env m := by first | (simp only [ev]; done) | (simp only [ev]; rfl)
theorem v_or (es) : ev (.orE es) env m = evOr es env m := by first | (simp only [ev]; done) | (simp only [ev]; rfl)
theorem v_not (a) : ev (.notE a) env m = bnd (ev a env m) fun d m => match d with | .bool b => some (.ok (.bool (!b)), m) | _ => none := by first | (simp only [ev]; done) | (simp only [ev]; rfl)
theorem v_ife (t a b) : ev (.ife t a b) env m = bnd (ev t env m) fun d m => match d with
    | .bool true => ev a env m
    | .bool false => ev b env m
    | _ => none := by first | (simp only [ev]; done) | (simp only [ev]; rfl)
theorem v_ix (a b) : ev (.ix a b) env m = bnd (ev a env m) fun d m => bnd (ev b env m) fun e m => opt (ixD d e) m := by first | (simp only [ev]; done) | (simp only [ev]; rfl)
theorem v_oix (i b) : ev (.oix i b) env m = match env[i]? with
    | some (some (.obj j)) => bnd (ev b env m) fun e m => match m[j]? with
      | some (some xs) => opt (ixD (.list xs) e) m
      | _ => none
    | _ => none := by first | (simp only [ev]; done) | (simp only [ev]; rfl)
theorem v_slc (a lo hi) : ev (.slc a lo hi) env m = bnd (ev a env m) fun d m => bnd (evo lo env m) fun l m => bnd (evo hi env m) fun h m => opt (slcD d l h) m := by first | (simp only [ev]; done) | (simp only [ev]; rfl)
theorem v_tup (es) : ev (.tup es) env m = bnd (evs es env m) fun ds m => if ds.length ≤ lim then some (.ok (.tuple ds), m) else none := by first | (simp only [ev]; done) | (simp only [ev]; rfl)
theorem v_lst (es) : ev (.lst es) env m = bnd (evs es env m) fun ds m => if ds.length ≤ lim then some (.ok (.list ds), m) else none := by first | (simp only [ev]; done) | (simp only [ev]; rfl)
theorem v_call (f F es) : ev (.call f F es) env m = bnd (evs es env m) fun ds m => (F ds).map fun r => (r, m) := by first | (simp only [ev]; done) | (simp only [ev]; rfl)
theorem v_callD (f F i es) : ev (.callD f F i es) env m = match env[i]? with
    | some (some (.obj j)) => bnd (evs es env m) fun ds m => match m[j]? with
      | some (some xs) => (F xs ds).map fun r => (.ok r.1, m.set j (some r.2))
      | _ => none
    | _ => none := by first | (simp only [ev]; done) | (simp only [ev]; rfl)
theorem v_bi (b es) : ev (.bi b es) env m = bnd (evs es env m) fun ds m => opt (biD b ds) m := by first | (simp only [ev]; done) | (simp only [ev]; rfl)
theorem v_isi (a c) : ev (.isi a c) env m = bnd (ev a env m) fun d m => some (.ok (.bool (isiD c d)), m) := by first | (simp only [ev]; done) | (simp only [ev]; rfl)
theorem v_lenset (a) : ev (.lenset a) env m = bnd (ev a env m) fun d m => opt (lensetD d) m := by first | (simp only [ev]; done) | (simp only [ev]; rfl)
theorem v_sset (a) : ev (.sset a) env m = bnd (ev a env m) fun d m => opt (ssetD d) m := by first | (simp only [ev]; done) | (simp only [ev]; rfl)
theorem v_mth (k a es) : ev (.mth k a es) env m = bnd (ev a env m) fun d m => match d with
    | .tuple xs => bnd (evs es env m) fun ds m => opt (mthD k (.tuple xs) ds) m
    | .list xs => bnd (evs es env m) fun ds m => opt (mthD k (.list xs) ds) m
    | _ => none := by first | (simp only [ev]; done) | (simp only [ev]; rfl)
theorem x_asg (t e) : exec (.asg t e) env m = ob (ev e env m) fun d m => (bindT t d env).map fun env1 => .nx env1 m := by first | (simp only [exec]; done) | (simp only [exec]; rfl)
theorem x_new (i es) : exec (.new i es) env m = ob (evs es env m) fun ds m => if ds.length ≤ lim then some (.nx (env.set i (some (.obj m.length))) (m ++ [some ds])) else none := by first | (simp only [exec]; done) | (simp only [exec]; rfl)
theorem x_frz (i) : exec (.frz i) env m = match env[i]? with
    | some (some (.obj j)) => match m[j]? with
      | some (some xs) => if 1 ≤ j then some (.nx (thawE env j xs) (m.set j none)) else none
      | _ => none
    | _ => none := by first | (simp only [exec]; done) | (simp only [exec]; rfl)
theorem x_app (i e) : exec (.app i e) env m = match env[i]? with
    | some (some (.obj j)) => ob (ev e env m) fun d m => match m[j]? with
      | some (some xs) => if xs.length < lim then some (.nx env (m.set j (some (xs ++ [d])))) else none
      | _ => none
    | _ => none := by first | (simp only [exec]; done) | (simp only [exec]; rfl)
theorem x_oset (i k e) : exec (.oset i k e) env m = match env[i]? with
    | some (some (.obj j)) => ob (ev e env m) fun d m => ob (ev k env m) fun z m => match z, m[j]? with
      | .int z, some (some xs) => (ixN xs.length z).map fun l => .nx env (m.set j (some (xs.set l d)))
      | _, _ => none
    | _ => none := by first | (simp only [exec]; done) | (simp only [exec]; rfl)
theorem x_if (t a b) : exec (.ifS t a b) env m = ob (tstD (ev t env m)) fun c m => if c then execs a env m else execs b env m := by first | (simp only [exec]; done) | (simp only [exec]; rfl)
theorem x_ret (e) : exec (.ret e) env m = ob (ev e env m) fun d m => some (.rt d m) := by first | (simp only [exec]; done) | (simp only [exec]; rfl)
theorem x_raise (c) : exec (.raise c) env m = some (.ex c m) := by first | (simp only [exec]; done) | (simp only [exec]; rfl)
theorem x_exp (e) : exec (.exp e) env m = ob (ev e env m) fun _ m => some (.nx env m) := by first | (simp only [exec]; done) | (simp only [exec]; rfl)
theorem x_par (i j a b) : exec (.par i j a b) env m = ob (pnv a env m) fun x m => ob (pnv b env m) fun y m =>
      some (.nx (putP j y (putP i x env m).1 (putP i x env m).2).1 (putP j y (putP i x env m).1 (putP i x env m).2).2) := by first | (simp only [exec]; done) | (simp only [exec]; rfl)
theorem xs_nil : execs [] env m = some (.nx env m) := by first | (simp only [execs]; done) | (simp only [execs]; rfl)
theorem xs_cons (s r) : execs (s :: r) env m = match exec s env m with | some (.nx env1 m1) => execs r env1 m1 | o => o := by first | (simp only [execs]; done) | (simp only [execs]; rfl)
end
theorem xs_step {s r env m env1 m1} (h : exec s env m = some (.nx env1 m1)) : execs (s :: r) env m = execs r env1 m1 := by rw [xs_cons, h]
theorem bnd_ok {α β : Type} (a : α) (m : Mu) (f : α → Mu → Rr β) : bnd (some (.ok a, m)) f = f a m := rfl
theorem bnd_er {α β : Type} (a : Str) (m : Mu) (f : α → Mu → Rr β) : bnd (some (.error a, m)) f = some (.error a, m) := rfl
theorem ob_ok {α : Type} (a : α) (m : Mu) (f : α → Mu → Option Oc) : ob (some (.ok a, m)) f = f a m := rfl
theorem ob_er {α : Type} (a : Str) (m : Mu) (f : α → Mu → Option Oc) : ob (some (.error a, m)) f = some (.ex a m) := rfl
theorem tst_er (a : Str) (m : Mu) : tstD (some (.error a, m)) = some (.error a, m) := rfl
theorem opt_so {α : Type} (a : α) (m : Mu) : opt (some a) m = some (.ok a, m) := rfl
theorem tst_b (b : Bool) (m : Mu) : tstD (some (.ok (.bool b), m)) = some (.ok b, m) := rfl

theorem isi_ii (i) : isiD .int (.int i) = true := rfl
theorem isi_bi (i) : isiD .bool (.int i) = false := rfl
theorem isi_bb (i) : isiD .bool (.bool i) = true := rfl
theorem isi_tt (i) : isiD .tuple (.tuple i) = true := rfl
theorem bi_tl (xs) : biD .tuple [.list xs] = some (.tuple xs) := rfl
theorem bi_ll (xs) : biD .len [.list xs] = some (.int xs.length) := rfl
theorem bi_lt (xs) : biD .len [.tuple xs] = some (.int xs.length) := rfl
theorem compF_pure {α : Type} {f : D → Mu → Rr (Option D)} {g : α → Option D} {e : α → D} {m : Mu} : ∀ xs : List α, (∀ x ∈ xs, f (e x) m = some (.ok (g x), m)) → compF f (xs.map e) m = some (.ok (xs.filterMap g), m)
  | [], _ => rfl
  | x :: xs, h => by
    have ih := compF_pure (f := f) (g := g) (e := e) (m := m) xs fun y hy => h y (List.mem_cons_of_mem _ hy)
    have h0 := h x (List.mem_cons_self ..)
    rw [List.map_cons, compF, h0, bnd_ok, ih, bnd_ok]
    cases hg : g x <;> simp [List.filterMap_cons, hg]
theorem v_comp {α : Type} {own tg it elt ifs env m} (xs : List α) (e : α → D) (p : α → Bool) (g : α → D) (hit : itv it env m = some (.ok (xs.map e), m)) (hl : xs.length ≤ lim)
    (hf : ∀ x ∈ xs, ∃ env1, bindT tg (e x) (wipeE env (own.map (·.2))) = some env1 ∧ evIf ifs env1 m = some (.ok (p x), m) ∧ (p x = true → ev elt env1 m = some (.ok (g x), m))) :
    ev (.comp own tg it elt ifs) env m = some (.ok (.list ((xs.filter p).map g)), m) := by
  have h : ∀ x ∈ xs, (fun (d : D) (m : Mu) => match bindT tg d (wipeE env (own.map (·.2))) with
      | some env1 => bnd (evIf ifs env1 m) fun b m => if b then bnd (ev elt env1 m) fun y m => some (.ok (some y), m) else some (.ok none, m)
      | none => none) (e x) m = some (.ok ((fun x => if p x then some (g x) else none) x), m) := by
    intro x hx
    obtain ⟨env1, h1, h2, h3⟩ := hf x hx
    simp only [h1, h2, bnd_ok]
    cases hp : p x
    · rfl
    · simp only [h3 hp, bnd_ok, if_true]
  have hc := compF_pure (f := (fun (d : D) (m : Mu) => match bindT tg d (wipeE env (own.map (·.2))) with
      | some env1 => bnd (evIf ifs env1 m) fun b m => if b then bnd (ev elt env1 m) fun y m => some (.ok (some y), m) else some (.ok none, m)
      | none => none)) (g := fun x => if p x then some (g x) else none) (e := e) (m := m) xs h
  have hm : xs.filterMap (fun x => if p x then some (g x) else none) = (xs.filter p).map g := by
    clear hc h hf hl hit
    induction xs with
    | nil => rfl
    | cons x xs ih => cases hp : p x <;> simp [List.filterMap_cons, List.filter_cons, hp, ih]
  rw [hm] at hc
  simp only [ev, hit, bnd_ok]
  refine (congrArg (fun z => noEx (bnd z _)) hc).trans ?_
  simp only [bnd_ok, List.length_map, hl, if_true, noEx]
theorem v_compA {α : Type} {own tg it elt env m} (xs : List α) (e : α → D) (g : α → D) (hit : itv it env m = some (.ok (xs.map e), m)) (hl : xs.length ≤ lim)
    (hf : ∀ x ∈ xs, ∃ env1, bindT tg (e x) (wipeE env (own.map (·.2))) = some env1 ∧ ev elt env1 m = some (.ok (g x), m)) :
    ev (.comp own tg it elt []) env m = some (.ok (.list (xs.map g)), m) := by
  have := v_comp (ifs := []) (own := own) xs e (fun _ => true) g hit hl fun x hx => by
    obtain ⟨env1, h1, h2⟩ := hf x hx
    exact ⟨env1, h1, by simp only [evIf], fun _ => h2⟩
  rw [List.filter_eq_self.2 (fun _ _ => rfl)] at this
  exact this
theorem x_for {α : Type} {tg it b} (xs : List α) (e : α → D) (I : Nat → En → Mu → Prop) {env : En} {m : Mu} (hit : itv it env m = some (.ok (xs.map e), m)) (h0 : I 0 env m)
    (hs : ∀ i x env m, xs[i]? = some x → I i env m → ∃ env1, bindT tg (e x) env = some env1 ∧ ∃ env2 m2, execs b env1 m = some (.nx env2 m2) ∧ I (i + 1) env2 m2) :
    ∃ env' m', exec (.forS tg it b) env m = some (.nx env' m') ∧ I xs.length env' m' := by
  have go : ∀ (l r : List α) (env : En) (m : Mu), xs = l ++ r → I l.length env m → ∃ env' m', loopF (fun d env m => match bindT tg d env with | some env1 => execs b env1 m | none => none) (r.map e) env m = some (.nx env' m') ∧ I xs.length env' m' := by
    intro l r
    induction r generalizing l with
    | nil => intro env m hx hi; exact ⟨env, m, rfl, by rw [hx, List.append_nil]; exact hi⟩
    | cons x r ih =>
      intro env m hx hi
      obtain ⟨env1, h1, env2, m2, h2, h3⟩ := hs l.length x env m (by rw [hx]; simp) hi
      obtain ⟨env', m', h4, h5⟩ := ih (l ++ [x]) env2 m2 (by rw [hx]; simp) (by simpa using h3)
      refine ⟨env', m', ?_, h5⟩
      rw [List.map_cons, loopF]
      simp only [h1, h2]
      exact h4
  obtain ⟨env', m', h1, h2⟩ := go [] xs env m rfl h0
  refine ⟨env', m', ?_, h2⟩
  simp only [exec, hit, ob_ok]
  exact h1
theorem enum_map {α : Type} (e : α → D) : ∀ (xs : List α) (k : Nat), enumD k (xs.map e) = (xs.zipIdx k).map fun p => .tuple [.int (p.2 : Int), e p.1]
  | [], _ => rfl
  | x :: xs, k => by rw [List.map_cons, enumD, List.zipIdx_cons, List.map_cons, enum_map e xs (k + 1)]
theorem atI_nat {α : Type} {xs : List α} {n : Nat} {x : α} (h : xs[n]? = some x) : atI xs (n : Int) = some x := by
  have hn : n < xs.length := by
    rcases Nat.lt_or_ge n xs.length with h1 | h1
    · exact h1
    · rw [List.getElem?_eq_none h1] at h; cases h
  unfold atI ixN
  rw [if_pos (by omega), if_pos (by omega), Option.bind_some, Int.toNat_natCast, h]
theorem atI_map {α β : Type} (e : α → β) {xs : List α} {n : Nat} {x : α} (h : xs[n]? = some x) : atI (xs.map e) (n : Int) = some (e x) := atI_nat (by rw [List.getElem?_map, h]; rfl)

/-! the data -/
abbrev Row := Bool × List Int
def eZ (xs : List Int) : D := .tuple (xs.map .int)
def eN (xs : List Nat) : D := .tuple (xs.map fun (n : Nat) => .int (n : Int))
def eR (r : Row) : D := .tuple [.bool r.1, eZ r.2]
def eS (s : List Row) : D := .tuple (s.map eR)
structure VR (n i : Nat) (r : Row) : Prop where
  len : r.2.length = n
  ok : ∀ e ∈ r.2, -1 ≤ e ∧ e ≤ 1
  z : r.2[i]? = some 0
structure VS (s : List Row) : Prop where
  n1 : 1 ≤ s.length
  n7 : s.length ≤ 7
  ok : ∀ i r, s[i]? = some r → VR s.length i r
structure VO (n : Nat) (o : List Nat) : Prop where
  lt : ∀ t ∈ o, t < n
  nd : o.Nodup
  len : o.length ≤ n

theorem boolsD_map {α : Type} (g : α → Bool) : ∀ xs : List α, boolsD (xs.map fun x => .bool (g x)) = some (xs.map g)
  | [] => rfl
  | x :: xs => by rw [List.map_cons, boolsD, boolsD_map g xs]; rfl
theorem intsD_map {α : Type} (g : α → Int) : ∀ xs : List α, intsD (xs.map fun x => .int (g x)) = some (xs.map g)
  | [] => rfl
  | x :: xs => by rw [List.map_cons, intsD, intsD_map g xs]; rfl
theorem all_list {α : Type} (g : α → Bool) (xs : List α) : biD .all [.list (xs.map fun x => .bool (g x))] = some (.bool (xs.all g)) := by
  simp only [biD, boolsD_map, Option.map_some]
  congr 2
  induction xs with
  | nil => rfl
  | cons x xs ih => simp [ih]
theorem ix_R0 (r : Row) : ixD (eR r) (.int 0) = some (.bool r.1) := rfl
theorem ix_R1 (r : Row) : ixD (eR r) (.int 1) = some (eZ r.2) := rfl
theorem ix_Z {xs : List Int} {i : Nat} {x : Int} (h : xs[i]? = some x) : ixD (eZ xs) (.int i) = some (.int x) := atI_map _ h
theorem ix_N {xs : List Nat} {i : Nat} {x : Nat} (h : xs[i]? = some x) : ixD (eN xs) (.int i) = some (.int x) := atI_map (fun n : Nat => PyData.int n) h
theorem ix_S {xs : List Row} {i : Nat} {x : Row} (h : xs[i]? = some x) : ixD (eS xs) (.int i) = some (eR x) := atI_map _ h
theorem len_R (r : Row) : biD .len [eR r] = some (.int 2) := rfl
theorem len_Z (xs : List Int) : biD .len [eZ xs] = some (.int xs.length) := by simp [eZ, biD]
theorem len_N (xs : List Nat) : biD .len [eN xs] = some (.int xs.length) := by simp [eN, biD]
theorem len_S (xs : List Row) : biD .len [eS xs] = some (.int xs.length) := by simp [eS, biD]
theorem isi_R (r : Row) : isiD .tuple (eR r) = true := rfl
theorem isi_Z (r) : isiD .tuple (eZ r) = true := rfl
theorem isi_N (r) : isiD .tuple (eN r) = true := rfl
theorem isi_S (r) : isiD .tuple (eS r) = true := rfl
theorem sq_Z (xs) : seqD (eZ xs) = some (xs.map .int) := rfl
theorem sq_N (xs) : seqD (eN xs) = some (xs.map fun n : Nat => .int n) := rfl
theorem sq_S (xs) : seqD (eS xs) = some (xs.map eR) := rfl
theorem eq_ii (i j : Int) : eqD (.int i) (.int j) = some (decide (i = j)) := by
  simp [eqD, SeqAt.shaped, PyData.canLay0, PyData.depth, PyData.eqv]; rfl
theorem eq_bb (i j : Bool) : eqD (.bool i) (.bool j) = some (i == j) := by
  simp [eqD, SeqAt.shaped, PyData.canLay0, PyData.depth, PyData.eqv]
theorem v_trng (t a env m) : ev (.trng t a) env m = bnd (ev a env m) fun d m => match d with
    | .int n => if 0 ≤ n ∧ n ≤ 1000 then some (.ok (if t then .tuple (rngD n) else .list (rngD n)), m) else none
    | _ => none := by first | (simp only [ev]; done) | (simp only [ev]; rfl)
theorem v_lend (i a env m) : ev (.lend i a) env m = match lentJ env[i]? with
    | some j => match m[j]? with
      | some (some xs) => lendR xs m (ev a (lendE env j xs) [none])
      | _ => none
    | none => none := by first | (simp only [ev]; done) | (simp only [ev]; rfl)
theorem v_fldN (C i env m) : ev (.fldN C i) env m = match env[i]? with
    | some (some (.lab C' d _)) => if C' = C then some (.ok d, m) else none
    | some (some (.labF C' d _)) => if C' = C then some (.ok d, m) else none
    | _ => none := by first | (simp only [ev]; done) | (simp only [ev]; rfl)
theorem v_fldE (C i env m) : ev (.fldE C i) env m = match env[i]? with
    | some (some (.labF C' _ xs)) => if C' = C then some (.ok (.list xs), m) else none
    | _ => none := by first | (simp only [ev]; done) | (simp only [ev]; rfl)
theorem v_mkE (C F es env m) : ev (.mkE C F es) env m = bnd (evs es env m) fun ds m => match F ds with
    | some (.error x) => some (.error x, m)
    | _ => none := by first | (simp only [ev]; done) | (simp only [ev]; rfl)
theorem v_mkM (C F es f F1 es1 env m) : ev (.mkM C F es f F1 es1) env m = bnd (evs es env m) fun ds m => match F ds with
    | some (.error x) => some (.error x, m)
    | some (.ok d) => bnd (evs es1 env m) fun es m => (F1 d [] es).map fun r => (r.1, m)
    | none => none := by first | (simp only [ev]; done) | (simp only [ev]; rfl)
theorem v_meth (C f F i es env m) : ev (.meth C f F i es) env m = match env[i]? with
    | some (some (.lab C' d j)) => if C' = C then bnd (evs es env m) fun ds m => match m[j]? with
      | some (some xs) => (F d xs ds).map fun r => (r.1, m.set j (some r.2))
      | _ => none else none
    | _ => none := by first | (simp only [ev]; done) | (simp only [ev]; rfl)
theorem v_smth (k a b env m) : ev (.smth k a b) env m = bnd (ev a env m) fun d m => match d with
    | .str z => bnd (ev b env m) fun e m => opt (smtD k z e) m
    | _ => none := by first | (simp only [ev]; done) | (simp only [ev]; rfl)
theorem v_lowr (a env m) : ev (.lowr a) env m = bnd (ev a env m) fun d m => match d with
    | .str z => if z.length ≤ lim then some (.ok (.str (Txt.lower z)), m) else none
    | _ => none := by first | (simp only [ev]; done) | (simp only [ev]; rfl)
theorem v_told (a env m) : ev (.told a) env m = toldR (ev a env m) := by first | (simp only [ev]; done) | (simp only [ev]; rfl)
theorem toldR_ok (d : D) (m : Mu) : toldR (some (.ok d, m)) = some (.ok d, m) := rfl
theorem toldR_er {x : Str} (m : Mu) (h : x ∈ err13) : toldR (some (.error x, m)) = some (.ok (.tuple [.str "error", .str x]), m) := if_pos h
/-! a text is run to an end -/
def W (b : List S) (env : En) (m : Mu) (Q : Oc → Prop) : Prop := ∃ oc, execs b env m = some oc ∧ Q oc
abbrev Nx (J : En → Mu → Prop) : Oc → Prop
  | .nx env m => J env m
  | _ => False
section
variable {env env1 : En} {m m1 m2 : Mu} {Q : Oc → Prop} {r a b : List S} {e t : E} {d : D} {i j : Nat}
theorem W.nil (k : Q (.nx env m)) : W [] env m Q := ⟨_, xs_nil .., k⟩
theorem W.nx {s : S} (h : exec s env m = some (.nx env1 m1)) (k : W r env1 m1 Q) : W (s :: r) env m Q := by
  obtain ⟨oc, h1, h2⟩ := k
  exact ⟨oc, (xs_step h).trans h1, h2⟩
theorem W.rt {s : S} (h : exec s env m = some (.rt d m1)) (k : Q (.rt d m1)) : W (s :: r) env m Q := ⟨_, by rw [xs_cons, h], k⟩
theorem W.asg (h : ev e env m = some (.ok d, m1)) (k : W r (env.set i (some (.val d))) m1 Q) : W (.asg (.name i) e :: r) env m Q :=
  W.nx (by rw [x_asg, h]; rfl) k
theorem W.asgT {is : List Nat} {ds : List D} (h : ev e env m = some (.ok (.tuple ds), m1)) (hl : is.length = ds.length) (k : W r (setL is ds env) m1 Q) : W (.asg (.tup is) e :: r) env m Q :=
  W.nx (by rw [x_asg, h, ob_ok]; simp only [bindT, hl, if_true, Option.map_some]) k
theorem W.exp (h : ev e env m = some (.ok d, m1)) (k : W r env m1 Q) : W (.exp e :: r) env m Q := W.nx (by rw [x_exp, h]; rfl) k
theorem W.ret (h : ev e env m = some (.ok d, m1)) (k : Q (.rt d m1)) : W (.ret e :: r) env m Q := W.rt (by rw [x_ret, h]; rfl) k
theorem W.new {es : List E} {ds : List D} (h : evs es env m = some (.ok ds, m1)) (hl : ds.length ≤ lim) (k : W r (env.set i (some (.obj m1.length))) (m1 ++ [some ds]) Q) : W (.new i es :: r) env m Q :=
  W.nx (by rw [x_new, h, ob_ok, if_pos hl]) k
theorem W.app {xs : List D} (hi : env[i]? = some (some (.obj j))) (h : ev e env m = some (.ok d, m1)) (hm : m1[j]? = some (some xs)) (hl : xs.length < lim) (k : W r env (m1.set j (some (xs ++ [d]))) Q) : W (.app i e :: r) env m Q :=
  W.nx (by rw [x_app]; simp only [hi, h, ob_ok, hm, if_pos hl]) k
theorem W.frz {xs : List D} (hi : env[i]? = some (some (.obj j))) (hm : m[j]? = some (some xs)) (hj : 1 ≤ j) (k : W r (thawE env j xs) (m.set j none) Q) : W (.frz i :: r) env m Q :=
  W.nx (by rw [x_frz]; simp only [hi, hm, if_pos hj]) k
theorem execs_app : ∀ (a b : List S) (env : En) (m : Mu), execs (a ++ b) env m = match execs a env m with | some (.nx env1 m1) => execs b env1 m1 | o => o
  | [], b, env, m => by rw [List.nil_append, xs_nil]
  | s :: a, b, env, m => by
    rw [List.cons_append, xs_cons, xs_cons]
    cases h : exec s env m with
    | none => rfl
    | some oc =>
      cases oc with
      | nx env1 m1 => exact execs_app a b env1 m1
      | rt d m1 => rfl
      | ex x m1 => rfl
theorem W.ifS {c : Bool} (h : ev t env m = some (.ok (.bool c), m1)) (k : W ((if c = true then a else b) ++ r) env m1 Q) : W (.ifS t a b :: r) env m Q := by
  obtain ⟨oc, h1, h2⟩ := k
  refine ⟨oc, ?_, h2⟩
  rw [xs_cons, x_if, h, tst_b, ob_ok, ← h1, execs_app]
  cases c <;> rfl
theorem W.no (h : ev t env m = some (.ok (.bool false), m1)) (k : W (b ++ r) env m1 Q) : W (.ifS t a b :: r) env m Q := W.ifS h k
theorem W.yes (h : ev t env m = some (.ok (.bool true), m1)) (k : W (a ++ r) env m1 Q) : W (.ifS t a b :: r) env m Q := W.ifS h k
theorem W.par {p q : PN} {x y : Sum D (List D)} (h1 : pnv p env m = some (.ok x, m1)) (h2 : pnv q env m1 = some (.ok y, m2)) (k : W r (putP j y (putP i x env m2).1 (putP i x env m2).2).1 (putP j y (putP i x env m2).1 (putP i x env m2).2).2 Q) : W (.par i j p q :: r) env m Q :=
  W.nx (by rw [x_par, h1, ob_ok, h2, ob_ok]) k
theorem W.mono {Q' : Oc → Prop} (h : W a env m Q) (k : ∀ oc, Q oc → Q' oc) : W a env m Q' := by
  obtain ⟨oc, h1, h2⟩ := h
  exact ⟨oc, h1, k oc h2⟩
theorem W.seq (h : W a env m (Nx fun env1 m1 => W b env1 m1 Q)) : W (a ++ b) env m Q := by
  obtain ⟨oc, h1, h2⟩ := h
  cases oc with
  | nx env1 m1 =>
    obtain ⟨oc, h3, h4⟩ := h2
    exact ⟨oc, by rw [execs_app, h1]; exact h3, h4⟩
  | rt d m1 => exact h2.elim
  | ex x m1 => exact h2.elim
/-- a loop that runs to its end: what it folds -/
theorem W.forF {α β : Type} {tg : Tg} {it : It} {bd : List S} (xs : List α) (en : α → D) (f : β → α → β) (b0 : β) (R : β → En → Mu → Prop) (hit : itv it env m = some (.ok (xs.map en), m1)) (h0 : R b0 env m1)
    (hs : ∀ b x env m, x ∈ xs → R b env m → ∃ env1, bindT tg (en x) env = some env1 ∧ W bd env1 m (Nx (R (f b x)))) (k : ∀ env m, R (xs.foldl f b0) env m → W r env m Q) : W (.forS tg it bd :: r) env m Q := by
  have go : ∀ (l : List α) (b0 : β) (env : En) (m : Mu), (∀ x ∈ l, x ∈ xs) → R b0 env m → ∃ env' m', loopF (fun d env m => match bindT tg d env with | some env1 => execs bd env1 m | none => none) (l.map en) env m = some (.nx env' m') ∧ R (l.foldl f b0) env' m' := by
    intro l
    induction l with
    | nil => intro b0 env m _ h; exact ⟨env, m, rfl, h⟩
    | cons x l ih =>
      intro b0 env m hl h
      obtain ⟨env1, h1, oc, h2, h3⟩ := hs b0 x env m (hl x List.mem_cons_self) h
      cases oc with
      | nx env2 m2 =>
        obtain ⟨env', m', h4, h5⟩ := ih (f b0 x) env2 m2 (fun y hy => hl y (List.mem_cons_of_mem _ hy)) h3
        refine ⟨env', m', ?_, h5⟩
        rw [List.map_cons, loopF]
        simp only [h1, h2]
        exact h4
      | rt d m2 => exact h3.elim
      | ex x m2 => exact h3.elim
  obtain ⟨env', m', h1, h2⟩ := go xs b0 env m1 (fun _ h => h) h0
  exact W.nx (by simp only [exec, hit, ob_ok]; exact h1) (k env' m' h2)
/-- a loop by what holds at each turn -/
theorem W.forI {α : Type} {tg : Tg} {it : It} {bd : List S} (xs : List α) (en : α → D) (I : Nat → En → Mu → Prop) (hit : itv it env m = some (.ok (xs.map en), m1)) (h0 : I 0 env m1)
    (hs : ∀ i x env m, xs[i]? = some x → I i env m → ∃ env1, bindT tg (en x) env = some env1 ∧ W bd env1 m (Nx (I (i + 1)))) (k : ∀ env m, I xs.length env m → W r env m Q) : W (.forS tg it bd :: r) env m Q := by
  obtain ⟨env', m', h1, h2⟩ := x_for (b := bd) xs en I (m := m1) (env := env) (tg := tg) (it := .seq (.cst (.list (xs.map en)))) (by simp [itv, v_cst, bnd_ok, seqD, opt_so]) h0 (fun i x env m hx hi => by
    obtain ⟨env1, e1, oc, e2, e3⟩ := hs i x env m hx hi
    cases oc with
    | nx env2 m2 => exact ⟨env1, e1, env2, m2, e2, e3⟩
    | rt d m2 => exact e3.elim
    | ex x m2 => exact e3.elim)
  refine W.nx (env1 := env') (m1 := m') ?_ (k env' m' h2)
  rw [← h1]
  simp [exec, hit, ob_ok, itv, v_cst, bnd_ok, seqD, opt_so]
theorem fnP_W {n ar : Nat} {ds : List D} {o : Except Str D} (hl : ds.length = ar) (h : W b (ds.map (fun d => some (.val d)) ++ List.replicate (n - ds.length) none) [none] (fun oc => endP (some oc) = some o)) : fnP b n ar ds = some o := by
  obtain ⟨oc, h1, h2⟩ := h
  unfold fnP
  rw [if_pos hl, h1, h2]
theorem fnM_W {n ar : Nat} {xs ds : List D} {o : D × List D} (hl : ds.length + 1 = ar) (h : W b (some (.obj 0) :: (ds.map (fun d => some (.val d)) ++ List.replicate (n - (ds.length + 1)) none)) [some xs] (fun oc => endM (some oc) = some o)) : fnM b n ar xs ds = some o := by
  obtain ⟨oc, h1, h2⟩ := h
  unfold fnM
  rw [if_pos hl, h1, h2]
end
end TO

set_option Elab.async false
set_option linter.all false
set_option maxRecDepth 100000
set_option maxHeartbeats 8000000
/-! What the program's defs hand back. -/
namespace TO
open PySem L2
theorem F_is_integer_ok (v lo hi : Int) : F_is_integer [.int v, .int lo, .int hi] = some (.ok (.bool (decide (lo ≤ v) && decide (v ≤ hi)))) := by
  simp only [F_is_integer, fnP, ir_is_integer]
  by_cases h : lo ≤ v <;> simp [v_cst, v_glob, v_var, v_neg, v_bin, v_cmp, v_chain, v_and, v_or, v_not, v_ife, v_ix, v_oix, v_slc, v_tup, v_lst, v_call, v_callD, v_bi, v_isi, v_lenset, v_sset, v_mth, v_trng, v_told, v_smth, v_lowr, toldR_ok, x_asg, x_new, x_frz, x_app, x_oset, x_if, x_ret, x_raise, x_exp, x_par, xs_nil, xs_cons, bnd_ok, bnd_er, ob_ok, ob_er, opt_so, tst_b, tst_er, evs, evAnd, evOr, evIf, evo, itv, bindT, setL, wipeE, pnv, putP, endP, endM, isi_ii, isi_bi, isi_bb, isi_tt, bi_tl, bi_ll, bi_lt, cmpD, h]
theorem F_is_integer_no {d lo hi : D} (h : isiD .int d = false ∨ isiD .bool d = true) : F_is_integer [d, lo, hi] = some (.ok (.bool false)) := by
  simp only [F_is_integer, fnP, ir_is_integer]
  rcases h with h | h
  · simp [v_cst, v_glob, v_var, v_neg, v_bin, v_cmp, v_chain, v_and, v_or, v_not, v_ife, v_ix, v_oix, v_slc, v_tup, v_lst, v_call, v_callD, v_bi, v_isi, v_lenset, v_sset, v_mth, v_trng, v_told, v_smth, v_lowr, toldR_ok, x_asg, x_new, x_frz, x_app, x_oset, x_if, x_ret, x_raise, x_exp, x_par, xs_nil, xs_cons, bnd_ok, bnd_er, ob_ok, ob_er, opt_so, tst_b, tst_er, evs, evAnd, evOr, evIf, evo, itv, bindT, setL, wipeE, pnv, putP, endP, endM, isi_ii, isi_bi, isi_bb, isi_tt, bi_tl, bi_ll, bi_lt, h]
  · cases h1 : isiD .int d
    · simp [v_cst, v_glob, v_var, v_neg, v_bin, v_cmp, v_chain, v_and, v_or, v_not, v_ife, v_ix, v_oix, v_slc, v_tup, v_lst, v_call, v_callD, v_bi, v_isi, v_lenset, v_sset, v_mth, v_trng, v_told, v_smth, v_lowr, toldR_ok, x_asg, x_new, x_frz, x_app, x_oset, x_if, x_ret, x_raise, x_exp, x_par, xs_nil, xs_cons, bnd_ok, bnd_er, ob_ok, ob_er, opt_so, tst_b, tst_er, evs, evAnd, evOr, evIf, evo, itv, bindT, setL, wipeE, pnv, putP, endP, endM, isi_ii, isi_bi, isi_bb, isi_tt, bi_tl, bi_ll, bi_lt, h1]
    · simp [v_cst, v_glob, v_var, v_neg, v_bin, v_cmp, v_chain, v_and, v_or, v_not, v_ife, v_ix, v_oix, v_slc, v_tup, v_lst, v_call, v_callD, v_bi, v_isi, v_lenset, v_sset, v_mth, v_trng, v_told, v_smth, v_lowr, toldR_ok, x_asg, x_new, x_frz, x_app, x_oset, x_if, x_ret, x_raise, x_exp, x_par, xs_nil, xs_cons, bnd_ok, bnd_er, ob_ok, ob_er, opt_so, tst_b, tst_er, evs, evAnd, evOr, evIf, evo, itv, bindT, setL, wipeE, pnv, putP, endP, endM, isi_ii, isi_bi, isi_bb, isi_tt, bi_tl, bi_ll, bi_lt, h, h1]
theorem F_is_row_ok {n i : Nat} {r : Row} (h : VR n i r) (hn : n ≤ lim) : F_is_row [.int n, .int i, eR r] = some (.ok (.bool true)) := by
  simp only [F_is_row, fnP, ir_is_row]
  have hc : ∀ m, ev (.comp [("item", 3)] (.name 3) (.seq (.ix (.var 2) (.cst (.int 1)))) (.call "is_integer" F_is_integer [(.var 3), (.neg (.cst (.int 1))), (.cst (.int 1))]) []) [some (Sl.val (.int n)), some (.val (.int i)), some (.val (eR r)), none] m = some (.ok (.list (r.2.map fun e => .bool (decide (-1 ≤ e) && decide (e ≤ 1)))), m) := by
    intro m
    refine v_compA r.2 .int _ ?_ (by rw [h.len]; exact hn) fun x hx => ⟨_, rfl, ?_⟩
    · simp [v_cst, v_glob, v_var, v_neg, v_bin, v_cmp, v_chain, v_and, v_or, v_not, v_ife, v_ix, v_oix, v_slc, v_tup, v_lst, v_call, v_callD, v_bi, v_isi, v_lenset, v_sset, v_mth, v_trng, v_told, v_smth, v_lowr, toldR_ok, x_asg, x_new, x_frz, x_app, x_oset, x_if, x_ret, x_raise, x_exp, x_par, xs_nil, xs_cons, bnd_ok, bnd_er, ob_ok, ob_er, opt_so, tst_b, tst_er, evs, evAnd, evOr, evIf, evo, itv, bindT, setL, wipeE, pnv, putP, endP, endM, isi_ii, isi_bi, isi_bb, isi_tt, bi_tl, bi_ll, bi_lt, ix_R1, sq_Z]
    · simp [v_cst, v_glob, v_var, v_neg, v_bin, v_cmp, v_chain, v_and, v_or, v_not, v_ife, v_ix, v_oix, v_slc, v_tup, v_lst, v_call, v_callD, v_bi, v_isi, v_lenset, v_sset, v_mth, v_trng, v_told, v_smth, v_lowr, toldR_ok, x_asg, x_new, x_frz, x_app, x_oset, x_if, x_ret, x_raise, x_exp, x_par, xs_nil, xs_cons, bnd_ok, bnd_er, ob_ok, ob_er, opt_so, tst_b, tst_er, evs, evAnd, evOr, evIf, evo, itv, bindT, setL, wipeE, pnv, putP, endP, endM, isi_ii, isi_bi, isi_bb, isi_tt, bi_tl, bi_ll, bi_lt, F_is_integer_ok]
  have hall : r.2.all (fun e => decide (-1 ≤ e) && decide (e ≤ 1)) = true := by
    simp only [List.all_eq_true]
    intro e he
    have := h.ok e he
    simp [this.1, this.2]
  simp [v_cst, v_glob, v_var, v_neg, v_bin, v_cmp, v_chain, v_and, v_or, v_not, v_ife, v_ix, v_oix, v_slc, v_tup, v_lst, v_call, v_callD, v_bi, v_isi, v_lenset, v_sset, v_mth, v_trng, v_told, v_smth, v_lowr, toldR_ok, x_asg, x_new, x_frz, x_app, x_oset, x_if, x_ret, x_raise, x_exp, x_par, xs_nil, xs_cons, bnd_ok, bnd_er, ob_ok, ob_er, opt_so, tst_b, tst_er, evs, evAnd, evOr, evIf, evo, itv, bindT, setL, wipeE, pnv, putP, endP, endM, isi_ii, isi_bi, isi_bb, isi_tt, bi_tl, bi_ll, bi_lt, ix_R0, ix_R1, len_R, isi_R, isi_Z, len_Z, h.len, cmpD, eq_ii, hc, all_list, hall, ix_Z h.z]
theorem F_is_suite_ok {s : List Row} (h : VS s) : F_is_suite [eS s] = some (.ok (.bool true)) := by
  have h1 := h.n1
  have h7 := h.n7
  simp only [F_is_suite, fnP, ir_is_suite]
  have hc : ∀ m, ev (.comp [("test", 1), ("row", 2)] (.tup [1, 2]) (.enum (.var 0)) (.call "is_row" F_is_row [(.bi .len [(.var 0)]), (.var 1), (.var 2)]) []) [some (Sl.val (eS s)), none, none] m = some (.ok (.list (s.zipIdx.map fun _ => .bool true)), m) := by
    intro m
    refine v_compA s.zipIdx (fun p => .tuple [.int (p.2 : Int), eR p.1]) _ ?_ (by rw [List.length_zipIdx]; unfold lim; omega) fun x hx => ⟨_, by simp [v_cst, v_glob, v_var, v_neg, v_bin, v_cmp, v_chain, v_and, v_or, v_not, v_ife, v_ix, v_oix, v_slc, v_tup, v_lst, v_call, v_callD, v_bi, v_isi, v_lenset, v_sset, v_mth, v_trng, v_told, v_smth, v_lowr, toldR_ok, x_asg, x_new, x_frz, x_app, x_oset, x_if, x_ret, x_raise, x_exp, x_par, xs_nil, xs_cons, bnd_ok, bnd_er, ob_ok, ob_er, opt_so, tst_b, tst_er, evs, evAnd, evOr, evIf, evo, itv, bindT, setL, wipeE, pnv, putP, endP, endM, isi_ii, isi_bi, isi_bb, isi_tt, bi_tl, bi_ll, bi_lt]; rfl, ?_⟩
    · simp [v_cst, v_glob, v_var, v_neg, v_bin, v_cmp, v_chain, v_and, v_or, v_not, v_ife, v_ix, v_oix, v_slc, v_tup, v_lst, v_call, v_callD, v_bi, v_isi, v_lenset, v_sset, v_mth, v_trng, v_told, v_smth, v_lowr, toldR_ok, x_asg, x_new, x_frz, x_app, x_oset, x_if, x_ret, x_raise, x_exp, x_par, xs_nil, xs_cons, bnd_ok, bnd_er, ob_ok, ob_er, opt_so, tst_b, tst_er, evs, evAnd, evOr, evIf, evo, itv, bindT, setL, wipeE, pnv, putP, endP, endM, isi_ii, isi_bi, isi_bb, isi_tt, bi_tl, bi_ll, bi_lt, sq_S, enum_map]
    · have hx := List.mem_zipIdx_iff_getElem?.1 hx
      simp [v_cst, v_glob, v_var, v_neg, v_bin, v_cmp, v_chain, v_and, v_or, v_not, v_ife, v_ix, v_oix, v_slc, v_tup, v_lst, v_call, v_callD, v_bi, v_isi, v_lenset, v_sset, v_mth, v_trng, v_told, v_smth, v_lowr, toldR_ok, x_asg, x_new, x_frz, x_app, x_oset, x_if, x_ret, x_raise, x_exp, x_par, xs_nil, xs_cons, bnd_ok, bnd_er, ob_ok, ob_er, opt_so, tst_b, tst_er, evs, evAnd, evOr, evIf, evo, itv, bindT, setL, wipeE, pnv, putP, endP, endM, isi_ii, isi_bi, isi_bb, isi_tt, bi_tl, bi_ll, bi_lt, len_S, F_is_row_ok (h.ok _ _ hx) (show s.length ≤ lim by unfold lim; omega)]
  have e1 : decide ((1 : Int) ≤ s.length) = true := by simp; omega
  have e2 : decide ((s.length : Int) ≤ 7) = true := by simp; omega
  simp [v_cst, v_glob, v_var, v_neg, v_bin, v_cmp, v_chain, v_and, v_or, v_not, v_ife, v_ix, v_oix, v_slc, v_tup, v_lst, v_call, v_callD, v_bi, v_isi, v_lenset, v_sset, v_mth, v_trng, v_told, v_smth, v_lowr, toldR_ok, x_asg, x_new, x_frz, x_app, x_oset, x_if, x_ret, x_raise, x_exp, x_par, xs_nil, xs_cons, bnd_ok, bnd_er, ob_ok, ob_er, opt_so, tst_b, tst_er, evs, evAnd, evOr, evIf, evo, itv, bindT, setL, wipeE, pnv, putP, endP, endM, isi_ii, isi_bi, isi_bb, isi_tt, bi_tl, bi_ll, bi_lt, len_S, isi_S, cmpD, e1, e2, hc, all_list (fun _ => true)]
theorem F_check_suite_ok {s : List Row} (h : VS s) : F_check_suite [eS s] = some (.ok .none) := by
  simp only [F_check_suite, fnP, ir_check_suite]
  simp [v_cst, v_glob, v_var, v_neg, v_bin, v_cmp, v_chain, v_and, v_or, v_not, v_ife, v_ix, v_oix, v_slc, v_tup, v_lst, v_call, v_callD, v_bi, v_isi, v_lenset, v_sset, v_mth, v_trng, v_told, v_smth, v_lowr, toldR_ok, x_asg, x_new, x_frz, x_app, x_oset, x_if, x_ret, x_raise, x_exp, x_par, xs_nil, xs_cons, bnd_ok, bnd_er, ob_ok, ob_er, opt_so, tst_b, tst_er, evs, evAnd, evOr, evIf, evo, itv, bindT, setL, wipeE, pnv, putP, endP, endM, isi_ii, isi_bi, isi_bb, isi_tt, bi_tl, bi_ll, bi_lt, F_is_suite_ok h]
theorem dd_nd : ∀ ns : List Int, ns.Nodup → dd ns = ns
  | [], _ => rfl
  | x :: r, h => by
    rw [List.nodup_cons] at h
    rw [dd, if_neg h.1, dd_nd r h.2]
theorem nd_cast {o : List Nat} (h : o.Nodup) : (o.map fun n : Nat => (n : Int)).Nodup := by
  rw [List.Nodup, List.pairwise_map]
  exact h.imp fun h1 h2 => h1 (by omega)
theorem F_is_order_ok {n : Nat} {o : List Nat} (h : VO n o) (hn : n ≤ 7) : F_is_order [.int n, eN o] = some (.ok (.bool true)) := by
  have hl := h.len
  simp only [F_is_order, fnP, ir_is_order]
  have hc : ∀ m, ev (.comp [("test", 2)] (.name 2) (.seq (.var 1)) (.call "is_integer" F_is_integer [(.var 2), (.cst (.int 0)), (.bin .sub (.var 0) (.cst (.int 1)))]) []) [some (Sl.val (.int n)), some (.val (eN o)), none] m = some (.ok (.list (o.map fun _ => .bool true)), m) := by
    intro m
    refine v_compA o (fun n : Nat => .int n) _ ?_ (by unfold lim; omega) fun x hx => ⟨_, rfl, ?_⟩
    · simp [v_cst, v_glob, v_var, v_neg, v_bin, v_cmp, v_chain, v_and, v_or, v_not, v_ife, v_ix, v_oix, v_slc, v_tup, v_lst, v_call, v_callD, v_bi, v_isi, v_lenset, v_sset, v_mth, v_trng, v_told, v_smth, v_lowr, toldR_ok, x_asg, x_new, x_frz, x_app, x_oset, x_if, x_ret, x_raise, x_exp, x_par, xs_nil, xs_cons, bnd_ok, bnd_er, ob_ok, ob_er, opt_so, tst_b, tst_er, evs, evAnd, evOr, evIf, evo, itv, bindT, setL, wipeE, pnv, putP, endP, endM, isi_ii, isi_bi, isi_bb, isi_tt, bi_tl, bi_ll, bi_lt, sq_N]
    · have := h.lt x hx
      have e : decide ((x : Int) ≤ (n : Int) - 1) = true := by simp; omega
      simp [v_cst, v_glob, v_var, v_neg, v_bin, v_cmp, v_chain, v_and, v_or, v_not, v_ife, v_ix, v_oix, v_slc, v_tup, v_lst, v_call, v_callD, v_bi, v_isi, v_lenset, v_sset, v_mth, v_trng, v_told, v_smth, v_lowr, toldR_ok, x_asg, x_new, x_frz, x_app, x_oset, x_if, x_ret, x_raise, x_exp, x_par, xs_nil, xs_cons, bnd_ok, bnd_er, ob_ok, ob_er, opt_so, tst_b, tst_er, evs, evAnd, evOr, evIf, evo, itv, bindT, setL, wipeE, pnv, putP, endP, endM, isi_ii, isi_bi, isi_bb, isi_tt, bi_tl, bi_ll, bi_lt, F_is_integer_ok, binD, e]
  have hls : lensetD (eN o) = some (.int o.length) := by
    simp only [lensetD, eN, intsD_map (fun n : Nat => (n : Int)), Option.bind_some, List.length_map]
    rw [if_pos (by omega), dd_nd _ (nd_cast h.nd), List.length_map]
  simp [v_cst, v_glob, v_var, v_neg, v_bin, v_cmp, v_chain, v_and, v_or, v_not, v_ife, v_ix, v_oix, v_slc, v_tup, v_lst, v_call, v_callD, v_bi, v_isi, v_lenset, v_sset, v_mth, v_trng, v_told, v_smth, v_lowr, toldR_ok, x_asg, x_new, x_frz, x_app, x_oset, x_if, x_ret, x_raise, x_exp, x_par, xs_nil, xs_cons, bnd_ok, bnd_er, ob_ok, ob_er, opt_so, tst_b, tst_er, evs, evAnd, evOr, evIf, evo, itv, bindT, setL, wipeE, pnv, putP, endP, endM, isi_ii, isi_bi, isi_bb, isi_tt, bi_tl, bi_ll, bi_lt, len_N, isi_N, cmpD, hc, all_list (fun _ => true), hls, eq_ii]
theorem F_is_order_no {n d : D} (h : isiD .tuple d = false) : F_is_order [n, d] = some (.ok (.bool false)) := by
  simp only [F_is_order, fnP, ir_is_order]
  simp [v_cst, v_glob, v_var, v_neg, v_bin, v_cmp, v_chain, v_and, v_or, v_not, v_ife, v_ix, v_oix, v_slc, v_tup, v_lst, v_call, v_callD, v_bi, v_isi, v_lenset, v_sset, v_mth, v_trng, v_told, v_smth, v_lowr, toldR_ok, x_asg, x_new, x_frz, x_app, x_oset, x_if, x_ret, x_raise, x_exp, x_par, xs_nil, xs_cons, bnd_ok, bnd_er, ob_ok, ob_er, opt_so, tst_b, tst_er, evs, evAnd, evOr, evIf, evo, itv, bindT, setL, wipeE, pnv, putP, endP, endM, isi_ii, isi_bi, isi_bb, isi_tt, bi_tl, bi_ll, bi_lt, h]
theorem F_check_order_no {n d : D} (h : F_is_order [n, d] = some (.ok (.bool false))) : F_check_order [n, d] = some (.error "BadOrder") := by
  simp only [F_check_order, fnP, ir_check_order]
  simp [v_cst, v_glob, v_var, v_neg, v_bin, v_cmp, v_chain, v_and, v_or, v_not, v_ife, v_ix, v_oix, v_slc, v_tup, v_lst, v_call, v_callD, v_bi, v_isi, v_lenset, v_sset, v_mth, v_trng, v_told, v_smth, v_lowr, toldR_ok, x_asg, x_new, x_frz, x_app, x_oset, x_if, x_ret, x_raise, x_exp, x_par, xs_nil, xs_cons, bnd_ok, bnd_er, ob_ok, ob_er, opt_so, tst_b, tst_er, evs, evAnd, evOr, evIf, evo, itv, bindT, setL, wipeE, pnv, putP, endP, endM, isi_ii, isi_bi, isi_bb, isi_tt, bi_tl, bi_ll, bi_lt, h]
theorem F_check_order_ok {n : Nat} {o : List Nat} (h : VO n o) (hn : n ≤ 7) : F_check_order [.int n, eN o] = some (.ok .none) := by
  simp only [F_check_order, fnP, ir_check_order]
  simp [v_cst, v_glob, v_var, v_neg, v_bin, v_cmp, v_chain, v_and, v_or, v_not, v_ife, v_ix, v_oix, v_slc, v_tup, v_lst, v_call, v_callD, v_bi, v_isi, v_lenset, v_sset, v_mth, v_trng, v_told, v_smth, v_lowr, toldR_ok, x_asg, x_new, x_frz, x_app, x_oset, x_if, x_ret, x_raise, x_exp, x_par, xs_nil, xs_cons, bnd_ok, bnd_er, ob_ok, ob_er, opt_so, tst_b, tst_er, evs, evAnd, evOr, evIf, evo, itv, bindT, setL, wipeE, pnv, putP, endP, endM, isi_ii, isi_bi, isi_bb, isi_tt, bi_tl, bi_ll, bi_lt, F_is_order_ok h hn]
/-- how a test ends after others -/
def upd (r : Row) (fr : Bool) (t : Nat) : Bool := if r.2.getD t 0 ≠ 0 then r.2.getD t 0 == 1 else fr
def pass (r : Row) (b : List Nat) : Bool := b.foldl (upd r) r.1
theorem get_of_lt {α : Type} {xs : List α} {i : Nat} (h : i < xs.length) : ∃ x, xs[i]? = some x := ⟨_, List.getElem?_eq_getElem h⟩
theorem slc_N (xs : List Nat) (k : Nat) : slcD (eN xs) none (some (k : Int)) = some (eN (xs.take k)) := by
  simp only [slcD, eN, cutD, HT.sIx_none, HT.sIx_nat, List.drop_zero, List.length_map, Nat.sub_zero, List.map_take]
  congr 2
  refine Eq.trans ?_ (List.take_eq_take_min ..).symm
  rw [List.length_map]
/-- how each test of an order ends -/
def ends (s : List Row) (o : List Nat) : List Bool := o.zipIdx.map fun p => pass (s.getD p.1 (false, [])) (o.take p.2)
def eB (bs : List Bool) : D := .tuple (bs.map .bool)
def kw (r : Row) : Str := if r.1 then (if -1 ∈ r.2 then "victim" else "stable") else (if 1 ∈ r.2 then "brittle" else "broken")
theorem in_Z (x : Int) (xs : List Int) : inD (.int x) (eZ xs) = some (decide (x ∈ xs)) := by
  have h1 : (xs.map PyData.int).all flatD = true := by simp [flatD]
  simp only [inD, eZ, flatD, h1, Bool.and_self, if_true]
  congr 1
  rw [List.any_map, Bool.eq_iff_iff]
  simp [PyData.eqv]
/-- the tests with an effect on a row -/
def we (r : Row) (e : Int) : List Nat := (r.2.zipIdx.filter fun p => decide (p.1 = e)).map (·.2)
theorem mem_we {r : Row} {e : Int} {i : Nat} : i ∈ we r e ↔ r.2[i]? = some e := by
  simp only [we, List.mem_map, List.mem_filter, decide_eq_true_eq]
  constructor
  · rintro ⟨⟨x, j⟩, ⟨hx, rfl⟩, rfl⟩
    exact List.mem_zipIdx_iff_getElem?.1 hx
  · intro h
    exact ⟨(e, i), ⟨List.mem_zipIdx_iff_getElem?.2 h, rfl⟩, rfl⟩
def eL (xs : List Nat) : D := .list (xs.map fun (n : Nat) => .int (n : Int))
theorem shap_I : ∀ xs : List Int, PyData.canLayAll0 (xs.map .int) = true ∧ PyData.depthAll (xs.map .int) = 0
  | [] => ⟨rfl, rfl⟩
  | x :: xs => by
    have h := shap_I xs
    simp [PyData.canLayAll0, PyData.canLay0, PyData.depthAll, PyData.depth, h.1, h.2]
theorem eL_eq (xs : List Nat) : eL xs = .list ((xs.map fun n : Nat => (n : Int)).map .int) := by simp [eL, List.map_map]
theorem shap_L (xs : List Nat) : SeqAt.shaped (eL xs) = true := by
  have h := shap_I (xs.map fun n : Nat => (n : Int))
  rw [eL_eq]
  simp only [SeqAt.shaped, PyData.canLay0, PyData.depth, h.1, h.2]; rfl
theorem in_L (x : Nat) (xs : List Nat) : inD (.int x) (eL xs) = some (decide (x ∈ xs)) := by
  have h := shap_L xs
  rw [show inD (.int x) (eL xs) = (if SeqAt.shaped (.int x) && SeqAt.shaped (eL xs) then some ((xs.map fun (n : Nat) => PyData.int (n : Int)).any fun z => PyData.eqv z (.int x)) else none) from rfl, h, show SeqAt.shaped (.int x) = true from rfl]
  simp only [Bool.and_self, if_true]
  congr 1
  rw [List.any_map, Bool.eq_iff_iff]
  simp [PyData.eqv]
  exact ⟨fun ⟨y, hy, e⟩ => (show y = x by omega) ▸ hy, fun hx => ⟨x, hx, rfl⟩⟩
theorem eq_Ln (xs : List Nat) : eqD (eL xs) (.list []) = some (decide (xs = [])) := by
  have h := shap_L xs
  rw [eqD, h, show SeqAt.shaped (.list []) = true from rfl]
  simp only [Bool.and_self, if_true]
  cases xs <;> simp [eL, PyData.eqv, PyData.eqvAll]
theorem ix_last (xs : List Nat) (h : xs ≠ []) : ixD (eL xs) (.int (-1)) = some (.int (xs.getLast h : Nat)) := by
  have hl : 0 < xs.length := List.length_pos_iff.2 h
  show atI (xs.map fun (n : Nat) => PyData.int (n : Int)) (-1) = _
  unfold atI ixN
  rw [if_neg (by omega), if_pos (by simp; omega), Option.bind_some, List.getLast_eq_getElem, List.getElem?_map, List.getElem?_eq_getElem (by simp; omega)]
  have e : (-1 + ((xs.map fun (n : Nat) => PyData.int (n : Int)).length : Int)).toNat = xs.length - 1 := by simp; omega
  simp only [e]; rfl
theorem ix_L {xs : List Nat} {i : Nat} {x : Nat} (h : xs[i]? = some x) : ixD (eL xs) (.int i) = some (.int x) := atI_map (fun n : Nat => PyData.int n) h
theorem ix_B {xs : List Bool} {i : Nat} {x : Bool} (h : xs[i]? = some x) : ixD (eB xs) (.int i) = some (.bool x) := atI_map _ h
theorem add_N (a b : List Nat) (h : a.length + b.length ≤ lim) : binD .add (eN a) (eN b) = some (eN (a ++ b)) := by
  simp [binD, eN, h]
theorem ends_at {s : List Row} {o : List Nat} {i t : Nat} {r : Row} (h : o[i]? = some t) (hr : s[t]? = some r) : (ends s o)[i]? = some (pass r (o.take i)) := by
  simp [ends, List.getElem?_map, List.getElem?_zipIdx, h, List.getD, hr]
theorem idx_N {xs : List Nat} {t : Nat} (h : t ∈ xs) : ∃ j : Nat, xs[j]? = some t ∧ mthD .index (eN xs) [.int t] = some (.int j) := by
  have hm : (t : Int) ∈ xs.map fun n : Nat => (n : Int) := List.mem_map.2 ⟨t, h, rfl⟩
  refine ⟨(xs.map fun n : Nat => (n : Int)).idxOf (t : Int), ?_, ?_⟩
  · have hlt := List.idxOf_lt_length_of_mem hm
    have hg := List.getElem_idxOf hlt
    have hg2 := List.getElem?_eq_getElem hlt
    rw [hg, List.getElem?_map] at hg2
    cases hx : xs[(xs.map fun n : Nat => (n : Int)).idxOf (t : Int)]? with
    | none => rw [hx] at hg2; cases hg2
    | some y =>
      rw [hx] at hg2
      have : (y : Int) = t := by simpa using hg2
      rw [show y = t by omega]
  · simp only [mthD, eN, intsD_map (fun n : Nat => (n : Int)), Option.bind_some, if_pos hm]
theorem v_index {env m a b} {xs : List Nat} {t j : Nat} (ha : ev a env m = some (.ok (eN xs), m)) (hb : ev b env m = some (.ok (.int t), m)) (h : mthD .index (eN xs) [.int t] = some (.int j)) : ev (.mth .index a [b]) env m = some (.ok (.int j), m) := by
  rw [v_mth, ha, bnd_ok]
  show bnd (evs [b] env m) (fun ds m => opt (mthD .index (eN xs) ds) m) = _
  simp only [evs, hb, bnd_ok, h, opt_so]
theorem getD_of {xs : List Int} {t : Nat} {e : Int} (h : xs[t]? = some e) : xs.getD t 0 = e := by simp [List.getD, h]
theorem fold_last (r : Row) : ∀ (b : List Nat) (fr : Bool), b.foldl (upd r) fr = match (b.filter fun t => decide (r.2.getD t 0 ≠ 0)).getLast? with
    | none => fr
    | some t => r.2.getD t 0 == 1
  | [], _ => rfl
  | t :: b, fr => by
    rw [List.foldl_cons, fold_last r b, List.filter_cons]
    by_cases h : r.2.getD t 0 ≠ 0
    · rw [if_pos (by simpa using h), List.getLast?_cons]
      cases (b.filter fun t => decide (r.2.getD t 0 ≠ 0)).getLast? with
      | none => simp only [upd, if_pos h, Option.getD_none]
      | some _ => rfl
    · rw [if_neg (by simpa using h)]
      simp only [upd, if_neg h]
theorem pass_true {n i : Nat} {r : Row} (hv : VR n i r) (h : r.1 = true) : ∀ {b : List Nat}, (∀ t ∈ b, r.2[t]? ≠ some (-1)) → pass r b = true := by
  intro b hb
  rw [pass, fold_last]
  cases hx : (b.filter fun t => decide (r.2.getD t 0 ≠ 0)).getLast? with
  | none => exact h
  | some t =>
    have hm := List.mem_of_getLast? hx
    rw [List.mem_filter, decide_eq_true_eq] at hm
    cases ht : r.2[t]? with
    | none => exact absurd (by simp [List.getD, ht]) hm.2
    | some e =>
      have h1 := hv.ok e (List.mem_of_getElem? ht)
      have h2 := hb t hm.1
      have h3 := hm.2
      rw [getD_of ht] at h3
      rw [ht] at h2
      have : e ≠ -1 := fun q => h2 (by rw [q])
      show (r.2.getD t 0 == 1) = true
      rw [getD_of ht]
      have : e = 1 := by omega
      rw [this]; rfl
theorem pass_false {r : Row} (h : r.1 = false) : ∀ {b : List Nat}, (∀ t ∈ b, r.2[t]? ≠ some 1) → pass r b = false := by
  intro b hb
  rw [pass, fold_last]
  cases hx : (b.filter fun t => decide (r.2.getD t 0 ≠ 0)).getLast? with
  | none => exact h
  | some t =>
    have hm := List.mem_of_getLast? hx
    rw [List.mem_filter, decide_eq_true_eq] at hm
    cases ht : r.2[t]? with
    | none => exact absurd (by simp [List.getD, ht]) hm.2
    | some e =>
      have h2 := hb t hm.1
      rw [ht] at h2
      show (r.2.getD t 0 == 1) = false
      rw [getD_of ht]
      have : e ≠ 1 := fun q => h2 (by rw [q])
      simpa using this
/-- the order anew, some tests last -/
def lastly (p : Nat → Bool) (o : List Nat) : List Nat := o.filter (fun t => !p t) ++ o.filter p
theorem lastly_perm (p : Nat → Bool) : ∀ o : List Nat, (lastly p o).Perm o
  | [] => .refl _
  | t :: o => by
    have ih := lastly_perm p o
    unfold lastly at ih ⊢
    cases h : p t
    · simp only [List.filter_cons, h]
      exact List.Perm.cons t ih
    · simp only [List.filter_cons, h]
      exact (List.perm_middle).trans (List.Perm.cons t ih)
theorem VO.perm {n : Nat} {o q : List Nat} (h : VO n o) (hp : q.Perm o) : VO n q := ⟨fun t ht => h.lt t (hp.mem_iff.1 ht), hp.nodup_iff.2 h.nd, by rw [hp.length_eq]; exact h.len⟩
theorem lastly_before {p : Nat → Bool} {o : List Nat} {j t : Nat} (h : (lastly p o)[j]? = some t) (ht : p t = false) : ∀ u ∈ (lastly p o).take j, p u = false := by
  unfold lastly at h ⊢
  have hj : j < (o.filter fun t => !p t).length := by
    rcases Nat.lt_or_ge j (o.filter fun t => !p t).length with h1 | h1
    · exact h1
    · rw [List.getElem?_append_right h1] at h
      have := (List.mem_filter.1 (List.mem_of_getElem? h)).2
      rw [ht] at this; cases this
  rw [List.take_append_of_le_length (by omega)]
  intro u hu
  have := (List.mem_filter.1 (List.mem_of_mem_take hu)).2
  simpa using this
end TO

set_option Elab.async false
set_option linter.all false
set_option maxRecDepth 100000
set_option maxHeartbeats 8000000
/-! Data that may be compared. -/
namespace TO
open PySem L2
structure Sh (k : Nat) (d : D) : Prop where
  lay : PyData.canLay0 d = true
  dep : PyData.depth d ≤ k
theorem sh_all {k : Nat} : ∀ {ds : List D}, (∀ d ∈ ds, Sh k d) → PyData.canLayAll0 ds = true ∧ PyData.depthAll ds ≤ k
  | [], _ => ⟨rfl, by simp [PyData.depthAll]⟩
  | d :: ds, h => by
    have h1 := h d List.mem_cons_self
    have h2 := sh_all fun x hx => h x (List.mem_cons_of_mem _ hx)
    have h3 := h1.dep
    exact ⟨by simp [PyData.canLayAll0, h1.lay, h2.1], by simp only [PyData.depthAll]; omega⟩
theorem Sh.list {k : Nat} {ds : List D} (h : ∀ d ∈ ds, Sh k d) : Sh (k + 1) (.list ds) := by
  have := sh_all h
  exact ⟨by simp only [PyData.canLay0]; exact this.1, by simp only [PyData.depth]; omega⟩
theorem Sh.tup {k : Nat} {ds : List D} (h : ∀ d ∈ ds, Sh k d) : Sh (k + 1) (.tuple ds) := by
  have := sh_all h
  exact ⟨by simp only [PyData.canLay0]; exact this.1, by simp only [PyData.depth]; omega⟩
theorem Sh.up {k l : Nat} {d : D} (h : Sh k d) (hl : k ≤ l) : Sh l d := ⟨h.lay, Nat.le_trans h.dep hl⟩
theorem sh_int {k : Nat} (i : Int) : Sh k (.int i) := ⟨rfl, by simp [PyData.depth]⟩
theorem sh_bool {k : Nat} (i : Bool) : Sh k (.bool i) := ⟨rfl, by simp [PyData.depth]⟩
theorem sh_none {k : Nat} : Sh k .none := ⟨rfl, by simp [PyData.depth]⟩
theorem Sh.ok {k : Nat} {d : D} (h : Sh k d) (hk : k ≤ 64) : SeqAt.shaped d = true := by
  have := h.dep
  simp only [SeqAt.shaped, h.lay, Bool.true_and, decide_eq_true_eq]
  omega
theorem Sh.tupM {α : Type} {k : Nat} {f : α → D} {xs : List α} (h : ∀ x ∈ xs, Sh k (f x)) : Sh (k + 1) (.tuple (xs.map f)) := Sh.tup fun d hd => by
  obtain ⟨x, hx, rfl⟩ := List.mem_map.1 hd
  exact h x hx
theorem Sh.listM {α : Type} {k : Nat} {f : α → D} {xs : List α} (h : ∀ x ∈ xs, Sh k (f x)) : Sh (k + 1) (.list (xs.map f)) := Sh.list fun d hd => by
  obtain ⟨x, hx, rfl⟩ := List.mem_map.1 hd
  exact h x hx
theorem sh_eN (o : List Nat) : Sh 1 (eN o) := Sh.tupM fun _ _ => sh_int _
theorem sh_eZ (o : List Int) : Sh 1 (eZ o) := Sh.tupM fun _ _ => sh_int _
theorem sh_eB (o : List Bool) : Sh 1 (eB o) := Sh.tupM fun _ _ => sh_bool _
theorem sh_eR (r : Row) : Sh 2 (eR r) := Sh.tup fun d hd => by
  rcases List.mem_cons.1 hd with rfl | hd
  · exact sh_bool _
  · rcases List.mem_cons.1 hd with rfl | hd
    · exact sh_eZ _
    · cases hd
theorem sh_eS (s : List Row) : Sh 3 (eS s) := Sh.tupM fun r _ => sh_eR r
theorem sh_pair {k : Nat} {a b : D} (ha : Sh k a) (hb : Sh k b) : Sh (k + 1) (.tuple [a, b]) := Sh.tup fun d hd => by
  rcases List.mem_cons.1 hd with rfl | hd
  · exact ha
  · rcases List.mem_cons.1 hd with rfl | hd
    · exact hb
    · cases hd
theorem eqD_of {k l : Nat} {d e : D} (hd : Sh k d) (he : Sh l e) (hk : k ≤ 64) (hl : l ≤ 64) : eqD d e = some (PyData.eqv d e) := by
  rw [eqD, hd.ok hk, he.ok hl]; rfl
theorem eqD_same {k : Nat} {d : D} (hd : Sh k d) (hk : k ≤ 64) : eqD d d = some true := by
  rw [eqD_of hd hd hk hk]
  rw [show PyData.eqv d d = true from by first | exact PySem.SeqAt.eqv_refl d hd.lay | exact PySem.eqv_refl d hd.lay | exact eqv_refl d hd.lay | exact PySem.P.eqv_refl d hd.lay | exact PyProof.Rows.eqv_refl d hd.lay]
theorem eqv_map {α : Type} [DecidableEq α] {f : α → D} (hf : ∀ x y, PyData.eqv (f x) (f y) = decide (x = y)) : ∀ xs ys : List α, PyData.eqvAll (xs.map f) (ys.map f) = decide (xs = ys)
  | [], [] => by simp [PyData.eqvAll]
  | [], _ :: _ => by simp [PyData.eqvAll]
  | _ :: _, [] => by simp [PyData.eqvAll]
  | x :: xs, y :: ys => by
    simp only [List.map_cons, PyData.eqvAll, hf, eqv_map hf xs ys]
    rw [Bool.eq_iff_iff]
    simp
theorem eqv_N (a b : Nat) : PyData.eqv (.int a) (.int b) = decide (a = b) := by
  rw [Bool.eq_iff_iff]
  simp [PyData.eqv]
  omega
theorem eqv_eN (a b : List Nat) : PyData.eqv (eN a) (eN b) = decide (a = b) := by
  simp only [eN, PyData.eqv]
  exact eqv_map eqv_N a b
theorem eqv_eB (a b : List Bool) : PyData.eqv (eB a) (eB b) = decide (a = b) := by
  simp only [eB, PyData.eqv]
  exact eqv_map (fun x y => by rw [Bool.eq_iff_iff]; simp [PyData.eqv]) a b
theorem eqv_eZ (a b : List Int) : PyData.eqv (eZ a) (eZ b) = decide (a = b) := by
  simp only [eZ, PyData.eqv]
  exact eqv_map (fun x y => by rw [Bool.eq_iff_iff]; simp [PyData.eqv]) a b
theorem eqv_eR (a b : Row) : PyData.eqv (eR a) (eR b) = decide (a = b) := by
  have h := eqv_eZ a.2 b.2
  obtain ⟨a1, a2⟩ := a
  obtain ⟨b1, b2⟩ := b
  simp only [eR, PyData.eqv, PyData.eqvAll, h]
  rw [Bool.eq_iff_iff]
  simp
theorem eqv_eS (a b : List Row) : PyData.eqv (eS a) (eS b) = decide (a = b) := by
  simp only [eS, PyData.eqv]
  exact eqv_map eqv_eR a b
theorem eq_eN (a b : List Nat) : eqD (eN a) (eN b) = some (decide (a = b)) := by rw [eqD_of (sh_eN a) (sh_eN b) (by decide) (by decide), eqv_eN]
theorem eq_eB (a b : List Bool) : eqD (eB a) (eB b) = some (decide (a = b)) := by rw [eqD_of (sh_eB a) (sh_eB b) (by decide) (by decide), eqv_eB]
theorem eq_eR (a b : Row) : eqD (eR a) (eR b) = some (decide (a = b)) := by rw [eqD_of (sh_eR a) (sh_eR b) (by decide) (by decide), eqv_eR]
theorem eq_eS (a b : List Row) : eqD (eS a) (eS b) = some (decide (a = b)) := by rw [eqD_of (sh_eS a) (sh_eS b) (by decide) (by decide), eqv_eS]
theorem in_N (t : Nat) (o : List Nat) : inD (.int t) (eN o) = some (decide (t ∈ o)) := by
  have h1 : (o.map fun n : Nat => PyData.int n).all flatD = true := by simp [flatD]
  simp only [inD, eN, flatD, h1, Bool.and_self, if_true]
  congr 1
  rw [List.any_map, Bool.eq_iff_iff]
  simp only [List.any_eq_true, Function.comp, eqv_N, decide_eq_true_eq]
  exact ⟨fun ⟨y, hy, e⟩ => e ▸ hy, fun h => ⟨t, h, rfl⟩⟩
/-- a told exception -/
theorem sh_str {k : Nat} {x : Str} (h : PyData.canLay0 (.str x) = true) : Sh k (.str x) := ⟨h, by simp [PyData.depth]⟩
theorem err_lay {x : Str} (h : x ∈ err13) : PyData.canLay0 (.str x) = true := by
  have : (err13.all fun x => PyData.canLay0 (.str x)) = true := by decide +kernel
  exact List.all_eq_true.1 this x h
theorem sh_err {x : Str} (h : x ∈ err13) : Sh 1 (.tuple [.str "error", .str x]) := sh_pair (k := 0) (sh_str (by decide +kernel)) (sh_str (err_lay h))
theorem eq_err {x : Str} (h : x ∈ err13) : eqD (.tuple [.str "error", .str x]) (.tuple [.str "error", .str x]) = some true := eqD_same (sh_err h) (by decide)
theorem sh_eL (xs : List Nat) : Sh 1 (eL xs) := Sh.listM fun _ _ => sh_int _
theorem eq_eL (a b : List Nat) : eqD (eL a) (eL b) = some (decide (a = b)) := by
  rw [eqD_of (sh_eL a) (sh_eL b) (by decide) (by decide)]
  simp only [eL, PyData.eqv]
  rw [eqv_map eqv_N a b]
theorem rep_one (d : D) (k : Nat) : (List.replicate k [d]).flatten = List.replicate k d := by
  induction k with
  | zero => rfl
  | succ k ih => rw [List.replicate_succ, List.flatten_cons, ih, List.replicate_succ]; rfl
theorem eq_rep {x : Str} (h : x ∈ err13) (k : Nat) : eqD (.list (List.replicate k (.tuple [.str "error", .str x]))) (.list (List.replicate k (.tuple [.str "error", .str x]))) = some true :=
  eqD_same (k := 2) (Sh.list fun d hd => by rw [List.eq_of_mem_replicate hd]; exact sh_err h) (by decide)
abbrev errD (x : Str) : D := .tuple [.str "error", .str x]
section
variable {env : En} {m J : Mu} {Q : Oc → Prop} {r a b : List S} {e : E} {x : Str} {i k : Nat}
theorem W.newE (h : ev e env J = some (.ok (errD x), J)) (next : W r (env.set i (some (.obj J.length))) (J ++ [some (List.replicate 1 (errD x))]) Q) : W (.new i [e] :: r) env J Q :=
  W.new (ds := [errD x]) (m1 := J) (by simp only [evs, h, bnd_ok]) (show 1 ≤ lim by decide) next
theorem W.appE (hi : env[i]? = some (some (.obj J.length))) (h : ∀ m', ev e env m' = some (.ok (errD x), m')) (hk : k < 1000) (next : W r env (J ++ [some (List.replicate (k + 1) (errD x))]) Q) : W (.app i e :: r) env (J ++ [some (List.replicate k (errD x))]) Q := by
  refine W.app (j := J.length) (xs := List.replicate k (errD x)) (d := errD x) (m1 := J ++ [some (List.replicate k (errD x))]) hi (h _) (by simp) (by rw [List.length_replicate]; unfold lim; omega) ?_
  rw [show (J ++ [some (List.replicate k (errD x))]).set J.length (some (List.replicate k (errD x) ++ [errD x])) = J ++ [some (List.replicate (k + 1) (errD x))] from by rw [List.replicate_succ']; simp]
  exact next
theorem W.frzE (hi : env[i]? = some (some (.obj J.length))) (hJ : 1 ≤ J.length) (next : W r (thawE env J.length (List.replicate k (errD x))) (J ++ [none]) Q) : W (.frz i :: r) env (J ++ [some (List.replicate k (errD x))]) Q := by
  refine W.frz (j := J.length) (xs := List.replicate k (errD x)) hi (by simp) hJ ?_
  rw [show (J ++ [some (List.replicate k (errD x))]).set J.length none = J ++ [none] from by simp]
  exact next
theorem W.cmpE (hx : x ∈ err13) (hi : env[i]? = some (some (.val (.list (List.replicate k (errD x)))))) (hk : k ≤ 1000) (next : W (b ++ r) env m Q) : W (.ifS (.cmp .ne (.var i) (.bin .mul (.lst [.tup [.cst (.str "error"), .cst (.str x)]]) (.cst (.int k)))) a b :: r) env m Q := by
  refine W.no (m1 := m) ?_ next
  have h1 : (1 * ((k : Nat) : Int).toNat ≤ lim ∧ (-1000000 : Int) ≤ (k : Int) ∧ (k : Int) ≤ 1000000) := by
    simp only [Int.toNat_natCast]; unfold lim; omega
  have h2 : (1 : Nat) ≤ lim := by decide
  have h3 : (2 : Nat) ≤ lim := by decide
  simp only [v_cmp, v_var, hi, bnd_ok, v_bin, v_lst, v_tup, v_cst, evs, List.length_cons, List.length_nil, Nat.zero_add, if_pos h2, if_pos h3, binD]
  rw [if_pos h1]
  simp only [opt_so, bnd_ok, Int.toNat_natCast, rep_one, cmpD, eq_rep hx, Option.map_some, Bool.not_true]
end
theorem eq_nn : eqD (.list []) (.list []) = some true := by decide +kernel
theorem eq_NN : eqD .none .none = some true := by decide +kernel
theorem in_B (b : Bool) (xs : List Bool) : inD (.bool b) (.list (xs.map .bool)) = some (decide (b ∈ xs)) := by
  have h1 := (Sh.listM (f := PyData.bool) (xs := xs) (k := 0) fun o _ => sh_bool o).ok (by decide)
  simp only [inD, h1, (sh_bool (k := 0) b).ok (by decide), Bool.and_self, if_true]
  congr 1
  rw [List.any_map, Bool.eq_iff_iff]
  simp only [List.any_eq_true, Function.comp, PyData.eqv, beq_iff_eq, decide_eq_true_eq]
  exact ⟨fun ⟨y, hy, e⟩ => e ▸ hy, fun h => ⟨b, h, rfl⟩⟩
theorem rng_it {env m} {e : E} {n : Nat} (h : ev e env m = some (.ok (.int n), m)) (hn : n ≤ 100000) : itv (.rng1 e) env m = some (.ok ((List.range n).map fun i : Nat => .int i), m) := by
  simp only [itv, h, bnd_ok]
  rw [if_pos (by omega)]
  rfl
theorem seq_it {α : Type} {f : α → D} {xs : List α} {env m} {e : E} (h : ev e env m = some (.ok (.list (xs.map f)), m)) : itv (.seq e) env m = some (.ok (xs.map f), m) := by
  simp only [itv, h, bnd_ok, seqD, opt_so]
theorem seq_itN {o : List Nat} {env m} {e : E} (h : ev e env m = some (.ok (eN o), m)) : itv (.seq e) env m = some (.ok (o.map fun n : Nat => .int n), m) := by
  simp only [itv, h, bnd_ok, sq_N, opt_so]
theorem enum_itN {o : List Nat} {env m} {e : E} (h : ev e env m = some (.ok (eN o), m)) : itv (.enum e) env m = some (.ok (o.zipIdx.map fun p => .tuple [.int (p.2 : Int), .int (p.1 : Int)]), m) := by
  simp only [itv, h, bnd_ok, sq_N, Option.map_some, opt_so, enum_map (fun n : Nat => PyData.int n)]
theorem foldl_app {α β : Type} (g : α → List β) : ∀ (l : List α) (b : List β), l.foldl (fun a t => a ++ g t) b = b ++ l.flatMap g
  | [], b => by simp
  | x :: l, b => by rw [List.foldl_cons, foldl_app g l, List.flatMap_cons, List.append_assoc]
theorem flat_len {α β : Type} (g : α → List β) (k : Nat) : ∀ l : List α, (∀ x ∈ l, (g x).length ≤ k) → (l.flatMap g).length ≤ l.length * k
  | [], _ => by simp
  | x :: l, h => by
    have h1 := h x List.mem_cons_self
    have h2 := flat_len g k l fun y hy => h y (List.mem_cons_of_mem _ hy)
    rw [List.flatMap_cons, List.length_append, List.length_cons, Nat.add_mul]
    omega
theorem cnt_eB (bs : List Bool) : mthD .count (eB bs) [.bool true] = some (.int (bs.count true : Nat)) := by
  have : boolsD (bs.map .bool) = some bs := by
    have := boolsD_map (fun b : Bool => b) bs
    simpa using this
  simp only [mthD, eB, this, Option.map_some]
theorem v_cntB {env m a} {bs : List Bool} (ha : ev a env m = some (.ok (eB bs), m)) : ev (.mth .count a [.cst (.bool true)]) env m = some (.ok (.int (bs.count true : Nat)), m) := by
  rw [v_mth, ha, bnd_ok]
  show bnd (evs [.cst (.bool true)] env m) (fun ds m => opt (mthD .count (eB bs) ds) m) = _
  simp only [evs, v_cst, bnd_ok, cnt_eB, opt_so]
end TO

set_option Elab.async false
set_option linter.all false
set_option maxRecDepth 100000
set_option maxHeartbeats 8000000
set_option exponentiation.threshold 3000
/-! What the law draws. -/
namespace TO
open PySem L2
theorem F_law_drawn_ok (c k : Int) : ∃ r : Int, F_law_drawn [.int c, .int k] = some (.ok (.int r)) := by
  simp only [F_law_drawn, fnP, ir_law_drawn]
  have m1 : mulOk c 6364136223846793005 := Or.inl (Or.inr (by omega))
  have m2 : mulOk (k + 1) 1442695040888963407 := Or.inl (Or.inr (by omega))
  obtain ⟨a, ha⟩ : ∃ a, a = (c * 6364136223846793005 + (k + 1) * 1442695040888963407) % 340282366920938463463374607431768211507 := ⟨_, rfl⟩
  have a1 : a.natAbs < 2 ^ 1000 := by omega
  have m3 : mulOk a a := Or.inr ⟨a1, a1⟩
  obtain ⟨b, hb⟩ : ∃ b, b = a * a % 340282366920938463463374607431768211297 := ⟨_, rfl⟩
  have b1 : b.natAbs < 2 ^ 500 := by omega
  have b2 : (b % 18446744073709551557 + 1).natAbs < 2 ^ 300 := by omega
  have b3 : (b / 18446744073709551557 + 1).natAbs < 2 ^ 300 := by omega
  have m4 : mulOk (b % 18446744073709551557 + 1) (b / 18446744073709551557 + 1) := Or.inr ⟨by omega, by omega⟩
  have b4 : ((b % 18446744073709551557 + 1) * (b / 18446744073709551557 + 1)).natAbs < 2 ^ 1000 := by
    rw [Int.natAbs_mul]
    exact Nat.lt_of_lt_of_le (Nat.mul_lt_mul'' b2 b3) (by decide +kernel)
  have m5 : mulOk ((b % 18446744073709551557 + 1) * (b / 18446744073709551557 + 1)) b := Or.inr ⟨b4, by omega⟩
  refine ⟨(b % 18446744073709551557 + 1) * (b / 18446744073709551557 + 1) * b % 340282366920938463463374607431768211507, ?_⟩
  simp [v_cst, v_glob, v_var, v_neg, v_bin, v_cmp, v_chain, v_and, v_or, v_not, v_ife, v_ix, v_oix, v_slc, v_tup, v_lst, v_call, v_callD, v_bi, v_isi, v_lenset, v_sset, v_mth, v_trng, v_told, v_smth, v_lowr, toldR_ok, x_asg, x_new, x_frz, x_app, x_oset, x_if, x_ret, x_raise, x_exp, x_par, xs_nil, xs_cons, bnd_ok, bnd_er, ob_ok, ob_er, opt_so, tst_b, tst_er, evs, evAnd, evOr, evIf, evo, itv, bindT, setL, wipeE, pnv, putP, endP, endM, isi_ii, isi_bi, isi_bb, isi_tt, bi_tl, bi_ll, bi_lt, binD, m1, m2, ← ha, m3, ← hb, m4, m5]
theorem F_law_roll_ok (c k : Int) {many : Int} (h : 0 < many) (h2 : many < 2 ^ 100) : ∃ r c' k' : Int, F_law_roll [.int c, .int k] [.int many] = some (.int r, [.int c', .int k']) ∧ 0 ≤ r ∧ r < many := by
  have hm : many.natAbs < 2 ^ 1000 := by omega
  have hp : CPow 10 18 := by decide
  obtain ⟨d, hd⟩ := F_law_drawn_ok c (k + 1)
  simp only [F_law_roll, fnM, ir_law_roll]
  by_cases hc : (1000000000000000000 : Int) ≤ c
  · refine ⟨c % many, c / many, k, ?_, Int.emod_nonneg _ (by omega), Int.emod_lt_of_pos _ h⟩
    simp [v_cst, v_glob, v_var, v_neg, v_bin, v_cmp, v_chain, v_and, v_or, v_not, v_ife, v_ix, v_oix, v_slc, v_tup, v_lst, v_call, v_callD, v_bi, v_isi, v_lenset, v_sset, v_mth, v_trng, v_told, v_smth, v_lowr, toldR_ok, x_asg, x_new, x_frz, x_app, x_oset, x_if, x_ret, x_raise, x_exp, x_par, xs_nil, xs_cons, bnd_ok, bnd_er, ob_ok, ob_er, opt_so, tst_b, tst_er, evs, evAnd, evOr, evIf, evo, itv, bindT, setL, wipeE, pnv, putP, endP, endM, isi_ii, isi_bi, isi_bb, isi_tt, bi_tl, bi_ll, bi_lt, binD, cmpD, ixD, atI, ixN, hp, hc, h, hm]
  · refine ⟨d / 8 % many, c, k + 1, ?_, Int.emod_nonneg _ (by omega), Int.emod_lt_of_pos _ h⟩
    simp [v_cst, v_glob, v_var, v_neg, v_bin, v_cmp, v_chain, v_and, v_or, v_not, v_ife, v_ix, v_oix, v_slc, v_tup, v_lst, v_call, v_callD, v_bi, v_isi, v_lenset, v_sset, v_mth, v_trng, v_told, v_smth, v_lowr, toldR_ok, x_asg, x_new, x_frz, x_app, x_oset, x_if, x_ret, x_raise, x_exp, x_par, xs_nil, xs_cons, bnd_ok, bnd_er, ob_ok, ob_er, opt_so, tst_b, tst_er, evs, evAnd, evOr, evIf, evo, itv, bindT, setL, wipeE, pnv, putP, endP, endM, isi_ii, isi_bi, isi_bb, isi_tt, bi_tl, bi_ll, bi_lt, binD, cmpD, ixD, atI, ixN, hp, hc, h, hm, hd]
theorem effs {r : Int} (h0 : 0 ≤ r) (h : r < 7) : ∃ e : Int, ixD (.list [.int 0, .int (-1), .int 1, .int 0, .int 0, .int (-1), .int 1]) (.int r) = some (.int e) ∧ -1 ≤ e ∧ e ≤ 1 := by
  have : r = 0 ∨ r = 1 ∨ r = 2 ∨ r = 3 ∨ r = 4 ∨ r = 5 ∨ r = 6 := by omega
  rcases this with rfl | rfl | rfl | rfl | rfl | rfl | rfl
  all_goals exact ⟨_, rfl, by decide, by decide⟩
def thawO (j : Nat) (xs : List D) : Option Sl → Option Sl
  | some (.obj k) => if k = j then some (.val (.list xs)) else some (.obj k)
  | some (.lab C d k) => if k = j then some (.labF C d xs) else some (.lab C d k)
  | o => o
theorem thaw_eq (env : En) (j : Nat) (xs : List D) : thawE env j xs = env.map (thawO j xs) := rfl
theorem thaw_o (j k : Nat) (xs : List D) : thawO j xs (some (.obj k)) = if k = j then some (.val (.list xs)) else some (.obj k) := rfl
theorem thaw_v (j : Nat) (d : D) (xs : List D) : thawO j xs (some (.val d)) = some (.val d) := rfl
theorem rng_map (n : Nat) : rngD (n : Int) = (List.range n).map fun i : Nat => .int i := rfl
theorem F_law_any_suite_ok (c k : Int) {n : Nat} (h1 : 1 ≤ n) (h7 : n ≤ 7) : ∃ (s : List Row) (c' k' : Int), F_law_any_suite [.int c, .int k] [.int n] = some (eS s, [.int c', .int k']) ∧ VS s ∧ s.length = n := by
  simp only [F_law_any_suite, fnM, ir_law_any_suite]
  obtain ⟨act, c1, k1, e1, ha0, ha1⟩ := F_law_roll_ok c k (many := 4) (by decide) (by decide)
  have hstep1 : exec (.par 3 4 (.new []) (.dat (.callD "_law_roll" F_law_roll 0 [(.cst (.int 4))]))) [some (.obj 0), some (.val (.int n)), none, none, none, none, none, none] [some [.int c, .int k]] = some (.nx [some (.obj 0), some (.val (.int n)), none, some (.obj 1), some (.val (.int act)), none, none, none] [some [.int c1, .int k1], some []]) := by
    simp [v_cst, v_glob, v_var, v_neg, v_bin, v_cmp, v_chain, v_and, v_or, v_not, v_ife, v_ix, v_oix, v_slc, v_tup, v_lst, v_call, v_callD, v_bi, v_isi, v_lenset, v_sset, v_mth, v_trng, v_told, v_smth, v_lowr, toldR_ok, x_asg, x_new, x_frz, x_app, x_oset, x_if, x_ret, x_raise, x_exp, x_par, xs_nil, xs_cons, bnd_ok, bnd_er, ob_ok, ob_er, opt_so, tst_b, tst_er, evs, evAnd, evOr, evIf, evo, itv, bindT, setL, wipeE, pnv, putP, endP, endM, isi_ii, isi_bi, isi_bb, isi_tt, bi_tl, bi_ll, bi_lt, e1, lim]
  have hrng : (n : Int) ≤ 100000 ∧ (-100000 : Int) ≤ n := by omega
  obtain ⟨env', m', h2, s, cc, kk, x2, x5, x6, x7, J, hl, hv, rfl, rfl⟩ := x_for (tg := .name 2) (it := .rng1 (.var 1)) (b := [.new 5 [],
    .forS (.name 6) (.rng1 (.var 1)) [.asg (.name 7) (.ix (.lst [(.cst (.int 0)), (.neg (.cst (.int 1))), (.cst (.int 1)), (.cst (.int 0)), (.cst (.int 0)), (.neg (.cst (.int 1))), (.cst (.int 1))]) (.callD "_law_roll" F_law_roll 0 [(.ife (.cmp .gt (.var 4) (.cst (.int 0))) (.cst (.int 7)) (.cst (.int 3)))])),
    .app 5 (.ife (.cmp .ne (.var 6) (.var 2)) (.var 7) (.cst (.int 0)))],
    .frz 5,
    .app 3 (.tup [(.cmp .gt (.callD "_law_roll" F_law_roll 0 [(.cst (.int 3))]) (.cst (.int 0))), (.bi .tuple [(.var 5)])])]) (List.range n) (fun i : Nat => .int i)
    (fun i env m => ∃ (s : List Row) (cc kk : Int) (x2 x5 x6 x7 : Option Sl) (J : Mu), s.length = i ∧ (∀ j r, s[j]? = some r → VR n j r) ∧ env = [some (.obj 0), some (.val (.int n)), x2, some (.obj 1), some (.val (.int act)), x5, x6, x7] ∧ m = some [.int cc, .int kk] :: some (s.map eR) :: J)
    (env := [some (.obj 0), some (.val (.int n)), none, some (.obj 1), some (.val (.int act)), none, none, none]) (m := [some [.int c1, .int k1], some []])
    (by simp [v_cst, v_glob, v_var, v_neg, v_bin, v_cmp, v_chain, v_and, v_or, v_not, v_ife, v_ix, v_oix, v_slc, v_tup, v_lst, v_call, v_callD, v_bi, v_isi, v_lenset, v_sset, v_mth, v_trng, v_told, v_smth, v_lowr, toldR_ok, x_asg, x_new, x_frz, x_app, x_oset, x_if, x_ret, x_raise, x_exp, x_par, xs_nil, xs_cons, bnd_ok, bnd_er, ob_ok, ob_er, opt_so, tst_b, tst_er, evs, evAnd, evOr, evIf, evo, itv, bindT, setL, wipeE, pnv, putP, endP, endM, isi_ii, isi_bi, isi_bb, isi_tt, bi_tl, bi_ll, bi_lt, hrng, rng_map]) ⟨[], c1, k1, none, none, none, none, [], rfl, by simp, rfl, rfl⟩ (by
      rintro t t' env m ht ⟨s, cc, kk, x2, x5, x6, x7, J, hl, hv, rfl, rfl⟩
      have ht' : t < n := by have := (List.getElem?_eq_some_iff.1 ht).1; simpa using this
      obtain rfl : t = t' := by rw [List.getElem?_range ht'] at ht; simpa using ht
      refine ⟨_, rfl, ?_⟩
      obtain ⟨env2, m2, g2, es, ce, ke, y6, y7, gl, gv, gz, rfl, rfl⟩ := x_for (tg := .name 6) (it := .rng1 (.var 1)) (b := [.asg (.name 7) (.ix (.lst [(.cst (.int 0)), (.neg (.cst (.int 1))), (.cst (.int 1)), (.cst (.int 0)), (.cst (.int 0)), (.neg (.cst (.int 1))), (.cst (.int 1))]) (.callD "_law_roll" F_law_roll 0 [(.ife (.cmp .gt (.var 4) (.cst (.int 0))) (.cst (.int 7)) (.cst (.int 3)))])),
    .app 5 (.ife (.cmp .ne (.var 6) (.var 2)) (.var 7) (.cst (.int 0)))]) (List.range n) (fun i : Nat => .int i)
        (fun j env m => ∃ (es : List Int) (ce ke : Int) (y6 y7 : Option Sl), es.length = j ∧ (∀ e ∈ es, -1 ≤ e ∧ e ≤ 1) ∧ (t < j → es[t]? = some 0) ∧ env = [some (.obj 0), some (.val (.int n)), some (.val (.int t)), some (.obj 1), some (.val (.int act)), some (.obj (J.length + 1 + 1)), y6, y7] ∧ m = some [.int ce, .int ke] :: some (s.map eR) :: (J ++ [some (es.map .int)]))
        (env := [some (.obj 0), some (.val (.int n)), some (.val (.int t)), some (.obj 1), some (.val (.int act)), some (.obj (J.length + 1 + 1)), x6, x7]) (m := some [.int cc, .int kk] :: some (s.map eR) :: (J ++ [some []]))
        (by simp [v_cst, v_glob, v_var, v_neg, v_bin, v_cmp, v_chain, v_and, v_or, v_not, v_ife, v_ix, v_oix, v_slc, v_tup, v_lst, v_call, v_callD, v_bi, v_isi, v_lenset, v_sset, v_mth, v_trng, v_told, v_smth, v_lowr, toldR_ok, x_asg, x_new, x_frz, x_app, x_oset, x_if, x_ret, x_raise, x_exp, x_par, xs_nil, xs_cons, bnd_ok, bnd_er, ob_ok, ob_er, opt_so, tst_b, tst_er, evs, evAnd, evOr, evIf, evo, itv, bindT, setL, wipeE, pnv, putP, endP, endM, isi_ii, isi_bi, isi_bb, isi_tt, bi_tl, bi_ll, bi_lt, hrng, rng_map]) ⟨[], cc, kk, x6, x7, rfl, by simp, by omega, rfl, rfl⟩ (by
          rintro j j' env m hj ⟨es, ce, ke, y6, y7, gl, gv, gz, rfl, rfl⟩
          have hj' : j < n := by have := (List.getElem?_eq_some_iff.1 hj).1; simpa using this
          obtain rfl : j = j' := by rw [List.getElem?_range hj'] at hj; simpa using hj
          refine ⟨_, rfl, ?_⟩
          have hroll : ∃ (r c2 k2 e : Int), ev (.callD "_law_roll" F_law_roll 0 [(.ife (.cmp .gt (.var 4) (.cst (.int 0))) (.cst (.int 7)) (.cst (.int 3)))]) [some (.obj 0), some (.val (.int n)), some (.val (.int t)), some (.obj 1), some (.val (.int act)), some (.obj (J.length + 1 + 1)), some (.val (.int j)), y7] (some [.int ce, .int ke] :: some (s.map eR) :: (J ++ [some (es.map .int)])) = some (.ok (.int r), some [.int c2, .int k2] :: some (s.map eR) :: (J ++ [some (es.map .int)])) ∧
              ixD (.list [.int 0, .int (-1), .int 1, .int 0, .int 0, .int (-1), .int 1]) (.int r) = some (.int e) ∧ -1 ≤ e ∧ e ≤ 1 := by
            by_cases hact : 0 < act
            · obtain ⟨r, c2, k2, e2, r0, r1⟩ := F_law_roll_ok ce ke (many := 7) (by decide) (by decide)
              obtain ⟨e, q⟩ := effs r0 r1
              exact ⟨r, c2, k2, e, by simp [v_cst, v_glob, v_var, v_neg, v_bin, v_cmp, v_chain, v_and, v_or, v_not, v_ife, v_ix, v_oix, v_slc, v_tup, v_lst, v_call, v_callD, v_bi, v_isi, v_lenset, v_sset, v_mth, v_trng, v_told, v_smth, v_lowr, toldR_ok, x_asg, x_new, x_frz, x_app, x_oset, x_if, x_ret, x_raise, x_exp, x_par, xs_nil, xs_cons, bnd_ok, bnd_er, ob_ok, ob_er, opt_so, tst_b, tst_er, evs, evAnd, evOr, evIf, evo, itv, bindT, setL, wipeE, pnv, putP, endP, endM, isi_ii, isi_bi, isi_bb, isi_tt, bi_tl, bi_ll, bi_lt, cmpD, hact, e2], q⟩
            · obtain ⟨r, c2, k2, e2, r0, r1⟩ := F_law_roll_ok ce ke (many := 3) (by decide) (by decide)
              obtain ⟨e, q⟩ := effs r0 (by omega)
              exact ⟨r, c2, k2, e, by simp [v_cst, v_glob, v_var, v_neg, v_bin, v_cmp, v_chain, v_and, v_or, v_not, v_ife, v_ix, v_oix, v_slc, v_tup, v_lst, v_call, v_callD, v_bi, v_isi, v_lenset, v_sset, v_mth, v_trng, v_told, v_smth, v_lowr, toldR_ok, x_asg, x_new, x_frz, x_app, x_oset, x_if, x_ret, x_raise, x_exp, x_par, xs_nil, xs_cons, bnd_ok, bnd_er, ob_ok, ob_er, opt_so, tst_b, tst_er, evs, evAnd, evOr, evIf, evo, itv, bindT, setL, wipeE, pnv, putP, endP, endM, isi_ii, isi_bi, isi_bb, isi_tt, bi_tl, bi_ll, bi_lt, cmpD, hact, e2], q⟩
          obtain ⟨r, c2, k2, e, hr, he, he0, he1⟩ := hroll
          have hel : es.length < lim := by unfold lim; omega
          have hst1 : exec (.asg (.name 7) (.ix (.lst [(.cst (.int 0)), (.neg (.cst (.int 1))), (.cst (.int 1)), (.cst (.int 0)), (.cst (.int 0)), (.neg (.cst (.int 1))), (.cst (.int 1))]) (.callD "_law_roll" F_law_roll 0 [(.ife (.cmp .gt (.var 4) (.cst (.int 0))) (.cst (.int 7)) (.cst (.int 3)))]))) [some (.obj 0), some (.val (.int n)), some (.val (.int t)), some (.obj 1), some (.val (.int act)), some (.obj (J.length + 1 + 1)), some (.val (.int j)), y7] (some [.int ce, .int ke] :: some (s.map eR) :: (J ++ [some (es.map .int)]))
              = some (.nx [some (.obj 0), some (.val (.int n)), some (.val (.int t)), some (.obj 1), some (.val (.int act)), some (.obj (J.length + 1 + 1)), some (.val (.int j)), some (.val (.int e))] (some [.int c2, .int k2] :: some (s.map eR) :: (J ++ [some (es.map .int)]))) := by
            have hlist : ∀ env m, ev (.lst [(.cst (.int 0)), (.neg (.cst (.int 1))), (.cst (.int 1)), (.cst (.int 0)), (.cst (.int 0)), (.neg (.cst (.int 1))), (.cst (.int 1))]) env m = some (.ok (.list [.int 0, .int (-1), .int 1, .int 0, .int 0, .int (-1), .int 1]), m) := by
              intro env m
              simp [v_cst, v_glob, v_var, v_neg, v_bin, v_cmp, v_chain, v_and, v_or, v_not, v_ife, v_ix, v_oix, v_slc, v_tup, v_lst, v_call, v_callD, v_bi, v_isi, v_lenset, v_sset, v_mth, v_trng, v_told, v_smth, v_lowr, toldR_ok, x_asg, x_new, x_frz, x_app, x_oset, x_if, x_ret, x_raise, x_exp, x_par, xs_nil, xs_cons, bnd_ok, bnd_er, ob_ok, ob_er, opt_so, tst_b, tst_er, evs, evAnd, evOr, evIf, evo, itv, bindT, setL, wipeE, pnv, putP, endP, endM, isi_ii, isi_bi, isi_bb, isi_tt, bi_tl, bi_ll, bi_lt, lim]
            rw [x_asg, v_ix, hlist, bnd_ok, hr, bnd_ok, he, opt_so, ob_ok]
            simp [v_cst, v_glob, v_var, v_neg, v_bin, v_cmp, v_chain, v_and, v_or, v_not, v_ife, v_ix, v_oix, v_slc, v_tup, v_lst, v_call, v_callD, v_bi, v_isi, v_lenset, v_sset, v_mth, v_trng, v_told, v_smth, v_lowr, toldR_ok, x_asg, x_new, x_frz, x_app, x_oset, x_if, x_ret, x_raise, x_exp, x_par, xs_nil, xs_cons, bnd_ok, bnd_er, ob_ok, ob_er, opt_so, tst_b, tst_er, evs, evAnd, evOr, evIf, evo, itv, bindT, setL, wipeE, pnv, putP, endP, endM, isi_ii, isi_bi, isi_bb, isi_tt, bi_tl, bi_ll, bi_lt]
          by_cases hjt : j = t
          · have hst2 : exec (.app 5 (.ife (.cmp .ne (.var 6) (.var 2)) (.var 7) (.cst (.int 0)))) [some (.obj 0), some (.val (.int n)), some (.val (.int t)), some (.obj 1), some (.val (.int act)), some (.obj (J.length + 1 + 1)), some (.val (.int j)), some (.val (.int e))] (some [.int c2, .int k2] :: some (s.map eR) :: (J ++ [some (es.map .int)]))
              = some (.nx [some (.obj 0), some (.val (.int n)), some (.val (.int t)), some (.obj 1), some (.val (.int act)), some (.obj (J.length + 1 + 1)), some (.val (.int j)), some (.val (.int e))] (some [.int c2, .int k2] :: some (s.map eR) :: (J ++ [some ((es ++ [0]).map .int)]))) := by
              simp [v_cst, v_glob, v_var, v_neg, v_bin, v_cmp, v_chain, v_and, v_or, v_not, v_ife, v_ix, v_oix, v_slc, v_tup, v_lst, v_call, v_callD, v_bi, v_isi, v_lenset, v_sset, v_mth, v_trng, v_told, v_smth, v_lowr, toldR_ok, x_asg, x_new, x_frz, x_app, x_oset, x_if, x_ret, x_raise, x_exp, x_par, xs_nil, xs_cons, bnd_ok, bnd_er, ob_ok, ob_er, opt_so, tst_b, tst_er, evs, evAnd, evOr, evIf, evo, itv, bindT, setL, wipeE, pnv, putP, endP, endM, isi_ii, isi_bi, isi_bb, isi_tt, bi_tl, bi_ll, bi_lt, cmpD, eq_ii, hel, hjt]
            refine ⟨_, _, (xs_step hst1).trans ((xs_step hst2).trans (xs_nil ..)), es ++ [0], c2, k2, _, _, by simp [gl], ?_, ?_, rfl, rfl⟩
            · intro x hx
              rcases List.mem_append.1 hx with hx | hx
              · exact gv x hx
              · have : x = 0 := by simpa using hx
                subst this; decide
            · intro _
              rw [← hjt, ← gl]; simp
          · have hst2 : exec (.app 5 (.ife (.cmp .ne (.var 6) (.var 2)) (.var 7) (.cst (.int 0)))) [some (.obj 0), some (.val (.int n)), some (.val (.int t)), some (.obj 1), some (.val (.int act)), some (.obj (J.length + 1 + 1)), some (.val (.int j)), some (.val (.int e))] (some [.int c2, .int k2] :: some (s.map eR) :: (J ++ [some (es.map .int)]))
              = some (.nx [some (.obj 0), some (.val (.int n)), some (.val (.int t)), some (.obj 1), some (.val (.int act)), some (.obj (J.length + 1 + 1)), some (.val (.int j)), some (.val (.int e))] (some [.int c2, .int k2] :: some (s.map eR) :: (J ++ [some ((es ++ [e]).map .int)]))) := by
              have hjt' : ¬ ((j : Int) = (t : Int)) := by omega
              simp [v_cst, v_glob, v_var, v_neg, v_bin, v_cmp, v_chain, v_and, v_or, v_not, v_ife, v_ix, v_oix, v_slc, v_tup, v_lst, v_call, v_callD, v_bi, v_isi, v_lenset, v_sset, v_mth, v_trng, v_told, v_smth, v_lowr, toldR_ok, x_asg, x_new, x_frz, x_app, x_oset, x_if, x_ret, x_raise, x_exp, x_par, xs_nil, xs_cons, bnd_ok, bnd_er, ob_ok, ob_er, opt_so, tst_b, tst_er, evs, evAnd, evOr, evIf, evo, itv, bindT, setL, wipeE, pnv, putP, endP, endM, isi_ii, isi_bi, isi_bb, isi_tt, bi_tl, bi_ll, bi_lt, cmpD, eq_ii, hel, hjt, hjt']
            refine ⟨_, _, (xs_step hst1).trans ((xs_step hst2).trans (xs_nil ..)), es ++ [e], c2, k2, _, _, by simp [gl], ?_, ?_, rfl, rfl⟩
            · intro x hx
              rcases List.mem_append.1 hx with hx | hx
              · exact gv x hx
              · have : x = e := by simpa using hx
                subst this; exact ⟨he0, he1⟩
            · intro htj
              rw [List.getElem?_append_left (by omega)]
              exact gz (by omega))
      rw [List.length_range] at gl gz
      obtain ⟨r, c3, k3, e3, r0, r1⟩ := F_law_roll_ok ce ke (many := 3) (by decide) (by decide)
      have hs1 : exec (.new 5 []) [some (.obj 0), some (.val (.int n)), some (.val (.int t)), some (.obj 1), some (.val (.int act)), x5, x6, x7] (some [.int cc, .int kk] :: some (s.map eR) :: J) = some (.nx [some (.obj 0), some (.val (.int n)), some (.val (.int t)), some (.obj 1), some (.val (.int act)), some (.obj (J.length + 1 + 1)), x6, x7] (some [.int cc, .int kk] :: some (s.map eR) :: (J ++ [some []]))) := by
        simp [v_cst, v_glob, v_var, v_neg, v_bin, v_cmp, v_chain, v_and, v_or, v_not, v_ife, v_ix, v_oix, v_slc, v_tup, v_lst, v_call, v_callD, v_bi, v_isi, v_lenset, v_sset, v_mth, v_trng, v_told, v_smth, v_lowr, toldR_ok, x_asg, x_new, x_frz, x_app, x_oset, x_if, x_ret, x_raise, x_exp, x_par, xs_nil, xs_cons, bnd_ok, bnd_er, ob_ok, ob_er, opt_so, tst_b, tst_er, evs, evAnd, evOr, evIf, evo, itv, bindT, setL, wipeE, pnv, putP, endP, endM, isi_ii, isi_bi, isi_bb, isi_tt, bi_tl, bi_ll, bi_lt, lim]
      obtain ⟨z6, z7, hs2⟩ : ∃ z6 z7, exec (.frz 5) [some (.obj 0), some (.val (.int n)), some (.val (.int t)), some (.obj 1), some (.val (.int act)), some (.obj (J.length + 1 + 1)), y6, y7] (some [.int ce, .int ke] :: some (s.map eR) :: (J ++ [some (es.map .int)])) = some (.nx [some (.obj 0), some (.val (.int n)), some (.val (.int t)), some (.obj 1), some (.val (.int act)), some (.val (.list (es.map .int))), z6, z7] (some [.int ce, .int ke] :: some (s.map eR) :: (J ++ [none]))) := by
        refine ⟨thawO (J.length + 1 + 1) (es.map .int) y6, thawO (J.length + 1 + 1) (es.map .int) y7, ?_⟩
        simp [v_cst, v_glob, v_var, v_neg, v_bin, v_cmp, v_chain, v_and, v_or, v_not, v_ife, v_ix, v_oix, v_slc, v_tup, v_lst, v_call, v_callD, v_bi, v_isi, v_lenset, v_sset, v_mth, v_trng, v_told, v_smth, v_lowr, toldR_ok, x_asg, x_new, x_frz, x_app, x_oset, x_if, x_ret, x_raise, x_exp, x_par, xs_nil, xs_cons, bnd_ok, bnd_er, ob_ok, ob_er, opt_so, tst_b, tst_er, evs, evAnd, evOr, evIf, evo, itv, bindT, setL, wipeE, pnv, putP, endP, endM, isi_ii, isi_bi, isi_bb, isi_tt, bi_tl, bi_ll, bi_lt, thaw_eq, thaw_o, thaw_v]
      have hsl : s.length < lim := by unfold lim; omega
      have hs3 : exec (.app 3 (.tup [(.cmp .gt (.callD "_law_roll" F_law_roll 0 [(.cst (.int 3))]) (.cst (.int 0))), (.bi .tuple [(.var 5)])])) [some (.obj 0), some (.val (.int n)), some (.val (.int t)), some (.obj 1), some (.val (.int act)), some (.val (.list (es.map .int))), z6, z7] (some [.int ce, .int ke] :: some (s.map eR) :: (J ++ [none])) = some (.nx [some (.obj 0), some (.val (.int n)), some (.val (.int t)), some (.obj 1), some (.val (.int act)), some (.val (.list (es.map .int))), z6, z7] (some [.int c3, .int k3] :: some ((s ++ [(decide (0 < r), es)]).map eR) :: (J ++ [none]))) := by
        have h2 : 2 ≤ lim := by decide
        simp [v_cst, v_glob, v_var, v_neg, v_bin, v_cmp, v_chain, v_and, v_or, v_not, v_ife, v_ix, v_oix, v_slc, v_tup, v_lst, v_call, v_callD, v_bi, v_isi, v_lenset, v_sset, v_mth, v_trng, v_told, v_smth, v_lowr, toldR_ok, x_asg, x_new, x_frz, x_app, x_oset, x_if, x_ret, x_raise, x_exp, x_par, xs_nil, xs_cons, bnd_ok, bnd_er, ob_ok, ob_er, opt_so, tst_b, tst_er, evs, evAnd, evOr, evIf, evo, itv, bindT, setL, wipeE, pnv, putP, endP, endM, isi_ii, isi_bi, isi_bb, isi_tt, bi_tl, bi_ll, bi_lt, e3, cmpD, hsl, h2, eR, eZ]
      refine ⟨_, _, (xs_step hs1).trans ((xs_step g2).trans ((xs_step hs2).trans ((xs_step hs3).trans (xs_nil ..)))), s ++ [(decide (0 < r), es)], c3, k3, _, _, _, _, _, by simp [hl], ?_, rfl, rfl⟩
      intro j r' hj
      rcases Nat.lt_trichotomy j s.length with hlt | heq | hgt
      · rw [List.getElem?_append_left hlt] at hj
        exact hv j r' hj
      · have hjt : j = t := heq.trans hl
        subst heq
        have e : (decide (0 < r), es) = r' := by simpa using hj
        subst e
        exact ⟨gl, gv, by rw [hjt]; exact gz ht'⟩
      · rw [List.getElem?_eq_none (by simp; omega)] at hj; cases hj)
  rw [List.length_range] at hl
  obtain ⟨z2, z5, z6, z7, hs4⟩ : ∃ z2 z5 z6 z7, exec (.frz 3) [some (.obj 0), some (.val (.int n)), x2, some (.obj 1), some (.val (.int act)), x5, x6, x7] (some [.int cc, .int kk] :: some (s.map eR) :: J) = some (.nx [some (.obj 0), some (.val (.int n)), z2, some (.val (.list (s.map eR))), some (.val (.int act)), z5, z6, z7] (some [.int cc, .int kk] :: none :: J)) := by
    refine ⟨thawO 1 (s.map eR) x2, thawO 1 (s.map eR) x5, thawO 1 (s.map eR) x6, thawO 1 (s.map eR) x7, ?_⟩
    simp [v_cst, v_glob, v_var, v_neg, v_bin, v_cmp, v_chain, v_and, v_or, v_not, v_ife, v_ix, v_oix, v_slc, v_tup, v_lst, v_call, v_callD, v_bi, v_isi, v_lenset, v_sset, v_mth, v_trng, v_told, v_smth, v_lowr, toldR_ok, x_asg, x_new, x_frz, x_app, x_oset, x_if, x_ret, x_raise, x_exp, x_par, xs_nil, xs_cons, bnd_ok, bnd_er, ob_ok, ob_er, opt_so, tst_b, tst_er, evs, evAnd, evOr, evIf, evo, itv, bindT, setL, wipeE, pnv, putP, endP, endM, isi_ii, isi_bi, isi_bb, isi_tt, bi_tl, bi_ll, bi_lt, thaw_eq, thaw_o, thaw_v]
  refine ⟨s, cc, kk, ?_, ⟨by omega, by omega, by rw [hl]; exact hv⟩, hl⟩
  rw [if_pos (show [PyData.int (n : Int)].length + 1 = 2 from rfl)]
  refine (congrArg endM ((xs_step hstep1).trans ((xs_step h2).trans ((xs_step hs4).trans (xs_cons ..))))).trans ?_
  simp [v_cst, v_glob, v_var, v_neg, v_bin, v_cmp, v_chain, v_and, v_or, v_not, v_ife, v_ix, v_oix, v_slc, v_tup, v_lst, v_call, v_callD, v_bi, v_isi, v_lenset, v_sset, v_mth, v_trng, v_told, v_smth, v_lowr, toldR_ok, x_asg, x_new, x_frz, x_app, x_oset, x_if, x_ret, x_raise, x_exp, x_par, xs_nil, xs_cons, bnd_ok, bnd_er, ob_ok, ob_er, opt_so, tst_b, tst_er, evs, evAnd, evOr, evIf, evo, itv, bindT, setL, wipeE, pnv, putP, endP, endM, isi_ii, isi_bi, isi_bb, isi_tt, bi_tl, bi_ll, bi_lt, eS]
/-! all orders -/
def ext (n : Nat) : Nat → List Nat → List (List Nat)
  | 0, row => [row]
  | j + 1, row => (List.range n).flatMap fun t => if t ∈ row then [] else ext n j (row ++ [t])
def perms (n : Nat) : List (List Nat) := ext n n []
def ords (n : Nat) : List (List Nat) := (List.range (n + 1)).flatMap fun k => ext n k []
theorem mem_ext {n : Nat} : ∀ {j : Nat} {row o : List Nat}, o ∈ ext n j row ↔ ∃ q, o = row ++ q ∧ q.length = j ∧ (∀ t ∈ q, t < n) ∧ q.Nodup ∧ ∀ t ∈ q, t ∉ row
  | 0, row, o => by
    simp only [ext, List.mem_singleton]
    constructor
    · rintro rfl
      exact ⟨[], by simp, rfl, by simp, List.nodup_nil, by simp⟩
    · rintro ⟨q, rfl, hq, _⟩
      rw [List.eq_nil_of_length_eq_zero hq, List.append_nil]
  | j + 1, row, o => by
    simp only [ext, List.mem_flatMap, List.mem_range]
    constructor
    · rintro ⟨t, ht, ho⟩
      by_cases hr : t ∈ row
      · rw [if_pos hr] at ho; cases ho
      · rw [if_neg hr, mem_ext] at ho
        obtain ⟨q, rfl, hq, h1, h2, h3⟩ := ho
        refine ⟨t :: q, by simp, by simp [hq], fun u hu => ?_, List.nodup_cons.2 ⟨fun hm => h3 t hm (by simp), h2⟩, fun u hu => ?_⟩
        · rcases List.mem_cons.1 hu with rfl | hu
          · exact ht
          · exact h1 u hu
        · rcases List.mem_cons.1 hu with rfl | hu
          · exact hr
          · exact fun hm => h3 u hu (by simp [hm])
    · rintro ⟨q, rfl, hq, h1, h2, h3⟩
      cases q with
      | nil => cases hq
      | cons t q =>
        rw [List.nodup_cons] at h2
        refine ⟨t, h1 t List.mem_cons_self, ?_⟩
        rw [if_neg (h3 t List.mem_cons_self), mem_ext]
        exact ⟨q, by simp, by simpa using hq, fun u hu => h1 u (List.mem_cons_of_mem _ hu), h2.2, fun u hu hm => by
          rcases List.mem_append.1 hm with hm | hm
          · exact h3 u (List.mem_cons_of_mem _ hu) hm
          · rw [List.mem_singleton] at hm; exact h2.1 (hm ▸ hu)⟩
theorem nd_le {l₁ : List Nat} : ∀ {l₂ : List Nat}, l₁.Nodup → (∀ k ∈ l₁, k ∈ l₂) → l₁.length ≤ l₂.length := by
  induction l₁ with
  | nil => intro l₂ _ _; exact Nat.zero_le _
  | cons a r ih =>
    intro l₂ hn h
    have ha : a ∈ l₂ := h a List.mem_cons_self
    have hr := List.nodup_cons.mp hn
    have := ih (l₂ := l₂.erase a) hr.2 fun k hk => (List.mem_erase_of_ne (show k ≠ a from fun e => hr.1 (by rw [← e]; exact hk))).mpr (h k (List.mem_cons_of_mem _ hk))
    rw [List.length_erase_of_mem ha] at this
    have : 0 < l₂.length := List.length_pos_of_mem ha
    rw [List.length_cons]
    omega
theorem nd_lt {n : Nat} {q : List Nat} (h1 : ∀ t ∈ q, t < n) (h2 : q.Nodup) : q.length ≤ n := by
  have := nd_le (l₂ := List.range n) h2 (fun t ht => List.mem_range.2 (h1 t ht))
  simpa using this
theorem mem_perms {n : Nat} {o : List Nat} : o ∈ perms n ↔ VO n o ∧ o.length = n := by
  rw [perms, mem_ext]
  constructor
  · rintro ⟨q, rfl, hq, h1, h2, _⟩
    exact ⟨⟨h1, h2, by simpa using Nat.le_of_eq hq⟩, hq⟩
  · rintro ⟨h, hl⟩
    exact ⟨o, rfl, hl, h.lt, h.nd, by simp⟩
theorem mem_ords {n : Nat} {o : List Nat} : o ∈ ords n ↔ VO n o := by
  simp only [ords, List.mem_flatMap, List.mem_range, mem_ext]
  constructor
  · rintro ⟨k, hk, q, rfl, hq, h1, h2, _⟩
    exact ⟨h1, h2, nd_lt h1 h2⟩
  · intro h
    exact ⟨o.length, by have := h.len; omega, o, rfl, rfl, h.lt, h.nd, by simp⟩
theorem five {n : Nat} {P : Nat → Prop} (h1 : 1 ≤ n) (h5 : n ≤ 5) (p1 : P 1) (p2 : P 2) (p3 : P 3) (p4 : P 4) (p5 : P 5) : P n := by
  have : n = 1 ∨ n = 2 ∨ n = 3 ∨ n = 4 ∨ n = 5 := by omega
  rcases this with rfl | rfl | rfl | rfl | rfl <;> assumption
theorem lo1 : F_law_orders [.int (1 : Nat)] = some (.ok (.list ((ords 1).map eN))) := by kernel_rfl
theorem lo2 : F_law_orders [.int (2 : Nat)] = some (.ok (.list ((ords 2).map eN))) := by kernel_rfl
theorem lo3 : F_law_orders [.int (3 : Nat)] = some (.ok (.list ((ords 3).map eN))) := by kernel_rfl
theorem lo4 : F_law_orders [.int (4 : Nat)] = some (.ok (.list ((ords 4).map eN))) := by kernel_rfl
theorem lo5 : F_law_orders [.int (5 : Nat)] = some (.ok (.list ((ords 5).map eN))) := by kernel_rfl
theorem F_law_orders_ok {n : Nat} (h1 : 1 ≤ n) (h5 : n ≤ 5) : F_law_orders [.int n] = some (.ok (.list ((ords n).map eN))) :=
  five (P := fun n => F_law_orders [.int n] = some (.ok (.list ((ords n).map eN)))) h1 h5 lo1 lo2 lo3 lo4 lo5
theorem ords_len {n : Nat} (h1 : 1 ≤ n) (h5 : n ≤ 5) : 0 < (ords n).length ∧ (ords n).length ≤ 400 :=
  five (P := fun n => 0 < (ords n).length ∧ (ords n).length ≤ 400) h1 h5 (by decide +kernel) (by decide +kernel) (by decide +kernel) (by decide +kernel) (by decide +kernel)
theorem F_law_any_order_ok (c k : Int) {n : Nat} (h1 : 1 ≤ n) (h5 : n ≤ 5) : ∃ (o : List Nat) (c' k' : Int), F_law_any_order [.int c, .int k] [.int n] = some (eN o, [.int c', .int k']) ∧ VO n o := by
  obtain ⟨l0, l1⟩ := ords_len h1 h5
  obtain ⟨r, c', k', e2, r0, r1⟩ := F_law_roll_ok c k (many := (ords n).length) (by omega) (by omega)
  obtain ⟨i, rfl⟩ : ∃ i : Nat, r = i := ⟨r.toNat, by omega⟩
  obtain ⟨o, ho⟩ := get_of_lt (xs := ords n) (i := i) (by omega)
  refine ⟨o, c', k', ?_, mem_ords.1 (List.mem_of_getElem? ho)⟩
  simp only [F_law_any_order, fnM, ir_law_any_order]
  have hi : ixD (.list ((ords n).map eN)) (.int i) = some (eN o) := atI_map _ ho
  simp [v_cst, v_glob, v_var, v_neg, v_bin, v_cmp, v_chain, v_and, v_or, v_not, v_ife, v_ix, v_oix, v_slc, v_tup, v_lst, v_call, v_callD, v_bi, v_isi, v_lenset, v_sset, v_mth, v_trng, v_told, v_smth, v_lowr, toldR_ok, x_asg, x_new, x_frz, x_app, x_oset, x_if, x_ret, x_raise, x_exp, x_par, xs_nil, xs_cons, bnd_ok, bnd_er, ob_ok, ob_er, opt_so, tst_b, tst_er, evs, evAnd, evOr, evIf, evo, itv, bindT, setL, wipeE, pnv, putP, endP, endM, isi_ii, isi_bi, isi_bb, isi_tt, bi_tl, bi_ll, bi_lt, F_law_orders_ok h1 h5, e2, hi]
theorem perms_len {n : Nat} (h1 : 1 ≤ n) (h5 : n ≤ 5) : 0 < (perms n).length ∧ (perms n).length ≤ 120 :=
  five (P := fun n => 0 < (perms n).length ∧ (perms n).length ≤ 120) h1 h5 (by decide +kernel) (by decide +kernel) (by decide +kernel) (by decide +kernel) (by decide +kernel)
end TO

set_option Elab.async false
set_option linter.all false
set_option maxRecDepth 100000
set_option maxHeartbeats 8000000
/-! Orders that pass; the best order. -/
namespace TO
open PySem L2
theorem of_W {b : List S} {env : En} {m : Mu} (h : W b env m (Nx fun _ _ => True)) : ∃ env' m', execs b env m = some (.nx env' m') := by
  obtain ⟨oc, h1, h2⟩ := h
  cases oc with
  | nx env' m' => exact ⟨env', m', h1⟩
  | rt d m' => exact h2.elim
  | ex x m' => exact h2.elim
end TO

set_option Elab.async false
set_option linter.all false
set_option maxRecDepth 100000
set_option maxHeartbeats 8000000
/-! Normal forms. -/
namespace TO
open PySem L2
theorem slc_take {α : Type} (f : α → D) (xs : List α) (k : Nat) : slcD (.tuple (xs.map f)) none (some (k : Int)) = some (.tuple ((xs.take k).map f)) := by
  simp only [slcD, cutD, HT.sIx_none, HT.sIx_nat, List.drop_zero, List.length_map, Nat.sub_zero, List.map_take]
  congr 2
  refine Eq.trans ?_ (List.take_eq_take_min ..).symm
  rw [List.length_map]
theorem slc_drop {α : Type} (f : α → D) (xs : List α) (k : Nat) : slcD (.tuple (xs.map f)) (some (k : Int)) none = some (.tuple ((xs.drop k).map f)) := by
  simp only [slcD, cutD, HT.sIx_none, HT.sIx_nat, List.length_map, List.map_drop]
  congr 2
  rw [List.take_of_length_le (by simp)]
  by_cases h : k ≤ xs.length
  · rw [Nat.min_eq_left h]
  · rw [Nat.min_eq_right (by omega), List.drop_eq_nil_of_le (by simp), List.drop_eq_nil_of_le (by simp; omega)]
theorem add_T {α : Type} (f : α → D) (a b : List α) (h : a.length + b.length ≤ lim) : binD .add (.tuple (a.map f)) (.tuple (b.map f)) = some (.tuple ((a ++ b).map f)) := by
  simp [binD, h]
theorem mul_T {α : Type} (f : α → D) (x : α) (k : Nat) (h1 : 1 ≤ k) (h2 : k ≤ 1000) : binD .mul (.tuple [f x]) (.int k) = some (.tuple ((List.replicate k x).map f)) := by
  have : ([f x] ≠ [] ∧ [f x].length ≤ 1000 ∧ (1 : Int) ≤ k ∧ (k : Int) ≤ 1000) := ⟨by simp, by simp, by omega, by omega⟩
  simp only [binD, if_pos this, Int.toNat_natCast, rep_one, List.map_replicate]
theorem kw4 (r : Row) : kw r = "victim" ∨ kw r = "stable" ∨ kw r = "brittle" ∨ kw r = "broken" := by
  unfold kw
  split <;> split <;> simp
theorem kw_lay (r : Row) : PyData.canLay0 (.str (kw r)) = true := by
  rcases kw4 r with h | h | h | h <;> rw [h] <;> decide +kernel
/-- does an effect show? -/
def shows (r : Row) : Bool := if r.1 then decide (-1 ∈ r.2) else decide (1 ∈ r.2)
def nrm (r : Row) : Row := if shows r then r else (r.1, List.replicate r.2.length 0)
theorem in_sb (r : Row) : inD (.str (kw r)) (.tuple [.str "stable", .str "broken"]) = some (!shows r) := by
  have h : ∀ w : Str, (w = "victim" ∨ w = "stable" ∨ w = "brittle" ∨ w = "broken") → inD (.str w) (.tuple [.str "stable", .str "broken"]) = some (decide (w = "stable") || decide (w = "broken")) := by
    rintro w (rfl | rfl | rfl | rfl) <;> decide +kernel
  rw [h _ (kw4 r)]
  congr 1
  have s1 : ("victim" : Str) ≠ "stable" := by decide +kernel
  have s2 : ("victim" : Str) ≠ "broken" := by decide +kernel
  have s3 : ("brittle" : Str) ≠ "stable" := by decide +kernel
  have s4 : ("brittle" : Str) ≠ "broken" := by decide +kernel
  unfold kw shows
  cases h1 : r.1
  · by_cases h2 : 1 ∈ r.2 <;> simp [h2, s3, s4]
  · by_cases h2 : -1 ∈ r.2 <;> simp [h2, s1, s2]
theorem nrm_len (r : Row) : (nrm r).2.length = r.2.length := by
  unfold nrm; split <;> simp
theorem nrm_fst (r : Row) : (nrm r).1 = r.1 := by
  unfold nrm; split <;> rfl
theorem nrm_VR {n t : Nat} {r : Row} (h : VR n t r) : VR n t (nrm r) := by
  unfold nrm
  split
  · exact h
  · refine ⟨by simp [h.len], fun e he => ?_, ?_⟩
    · rw [List.eq_of_mem_replicate he]; decide
    · rw [List.getElem?_replicate, if_pos (by
        have := (List.getElem?_eq_some_iff.1 h.z).1
        exact this)]
theorem nrm_nrm (r : Row) : nrm (nrm r) = nrm r := by
  cases h : shows r
  · have e : nrm r = (r.1, List.replicate r.2.length 0) := by unfold nrm; rw [h]; rfl
    have hs : shows (nrm r) = false := by
      rw [e]
      unfold shows
      cases h1 : r.1 <;> simp
    have e2 : nrm (nrm r) = ((nrm r).1, List.replicate (nrm r).2.length 0) := by
      show (if shows (nrm r) = true then nrm r else ((nrm r).1, List.replicate (nrm r).2.length 0)) = _
      rw [hs]; rfl
    rw [e2, e]
    simp
  · have e : nrm r = r := by unfold nrm; rw [h]; rfl
    rw [e, e]
theorem pass_nrm {n t : Nat} {r : Row} (hv : VR n t r) (b : List Nat) : pass (nrm r) b = pass r b := by
  unfold nrm
  cases h : shows r
  · simp only [Bool.false_eq_true, if_false]
    have hz : ∀ (x : Bool), pass (x, List.replicate r.2.length 0) b = x := fun x => by
      rw [pass, fold_last]
      have : (b.filter fun u => decide ((List.replicate r.2.length (0 : Int)).getD u 0 ≠ 0)) = [] := by
        rw [List.filter_eq_nil_iff]
        intro u _
        simp [List.getD, List.getElem?_replicate]
        split <;> rfl
      show (match ((b.filter fun u => decide ((List.replicate r.2.length (0 : Int)).getD u 0 ≠ 0)).getLast?) with | none => x | some t => (List.replicate r.2.length (0 : Int)).getD t 0 == 1) = x
      rw [this]; rfl
    rw [hz]
    unfold shows at h
    cases h1 : r.1
    · rw [h1] at h
      have h2 : 1 ∉ r.2 := by simpa using h
      exact (pass_false h1 fun u _ e => h2 (List.mem_of_getElem? e)).symm
    · rw [h1] at h
      have h2 : -1 ∉ r.2 := by simpa using h
      exact (pass_true hv h1 fun u _ e => h2 (List.mem_of_getElem? e)).symm
  · rfl
theorem VS_nrm {s : List Row} (h : VS s) : VS (s.map nrm) := by
  refine ⟨by simpa using h.n1, by simpa using h.n7, fun i r hr => ?_⟩
  rw [List.getElem?_map, Option.map_eq_some_iff] at hr
  obtain ⟨r0, h0, rfl⟩ := hr
  rw [List.length_map]
  exact nrm_VR (h.ok _ _ h0)
theorem ends_nrm {s : List Row} (h : VS s) {o : List Nat} (ho : VO s.length o) : ends (s.map nrm) o = ends s o := by
  unfold ends
  refine List.map_congr_left fun p hp => ?_
  have hp := List.mem_zipIdx_iff_getElem?.1 hp
  obtain ⟨r, hr⟩ := get_of_lt (ho.lt _ (List.mem_of_getElem? hp))
  have e1 : s.getD p.1 (false, []) = r := by simp [List.getD, hr]
  have e2 : (s.map nrm).getD p.1 (false, []) = nrm r := by simp [List.getD, hr]
  rw [e1, e2, pass_nrm (h.ok _ _ hr)]
/-- a loop that may hand back early -/
theorem W.find {α : Type} {tg : Tg} {it : It} {bd r : List S} {env : En} {m m1 : Mu} {Q : Oc → Prop} (xs : List α) (en : α → D) (p : α → Bool) (g : α → D) (R : En → Mu → Prop) (hit : itv it env m = some (.ok (xs.map en), m1)) (h0 : R env m1)
    (hs : ∀ x env m, x ∈ xs → R env m → ∃ env1, bindT tg (en x) env = some env1 ∧ (p x = false → W bd env1 m (Nx R)) ∧ (p x = true → W bd env1 m fun oc => ∃ m', oc = .rt (g x) m'))
    (k0 : xs.find? p = none → ∀ env m, R env m → W r env m Q) (k1 : ∀ x, xs.find? p = some x → ∀ m', Q (.rt (g x) m')) : W (.forS tg it bd :: r) env m Q := by
  have go : ∀ (l : List α) (env : En) (m : Mu), (∀ x ∈ l, x ∈ xs) → R env m →
      (l.find? p = none ∧ ∃ env' m', loopF (fun d env m => match bindT tg d env with | some env1 => execs bd env1 m | none => none) (l.map en) env m = some (.nx env' m') ∧ R env' m') ∨
      (∃ x m', l.find? p = some x ∧ loopF (fun d env m => match bindT tg d env with | some env1 => execs bd env1 m | none => none) (l.map en) env m = some (.rt (g x) m')) := by
    intro l
    induction l with
    | nil => intro env m _ h; exact .inl ⟨rfl, env, m, rfl, h⟩
    | cons x l ih =>
      intro env m hl h
      obtain ⟨env1, h1, h2, h3⟩ := hs x env m (hl x List.mem_cons_self) h
      cases hp : p x
      · obtain ⟨oc, e1, e2⟩ := h2 hp
        cases oc with
        | nx env2 m2 =>
          have e3 : loopF (fun d env m => match bindT tg d env with | some env1 => execs bd env1 m | none => none) ((x :: l).map en) env m = loopF (fun d env m => match bindT tg d env with | some env1 => execs bd env1 m | none => none) (l.map en) env2 m2 := by
            rw [List.map_cons, loopF]; simp only [h1, e1]
          rw [e3, List.find?_cons_of_neg (by simp [hp])]
          exact ih env2 m2 (fun y hy => hl y (List.mem_cons_of_mem _ hy)) e2
        | rt d m2 => exact e2.elim
        | ex x m2 => exact e2.elim
      · obtain ⟨oc, e1, m', rfl⟩ := h3 hp
        refine .inr ⟨x, m', by rw [List.find?_cons_of_pos hp], ?_⟩
        rw [List.map_cons, loopF]; simp only [h1, e1]
  rcases go xs env m1 (fun _ h => h) h0 with ⟨hf, env', m', e1, e2⟩ | ⟨x, m', hf, e1⟩
  · exact W.nx (by simp only [exec, hit, ob_ok]; exact e1) (k0 hf env' m' e2)
  · exact W.rt (by simp only [exec, hit, ob_ok]; exact e1) (k1 x hf m')
end TO

set_option Elab.async false
set_option linter.all false
set_option maxRecDepth 100000
set_option maxHeartbeats 8000000
/-! Logs. -/
namespace TO
open PySem L2
/-! all rows of a test -/
def stp (o t : Nat) (e : List Int) : List (List Int) := (if o ≠ t then [-1, 0, 1] else [0]).map fun x => e ++ [x]
def effsN (n t : Nat) : List (List Int) := (List.range n).foldl (fun found o => found.flatMap (stp o t)) [[]]
def allR (n t : Nat) : List Row := ((effsN n t).map (fun e => (false, e)) ++ (effsN n t).map (fun e => (true, e))).filter fun r => decide (nrm r = r)
def lawE (n : Nat) (e : List Int) : List Row := (if e = List.replicate n 0 ∨ -1 ∈ e then [(true, e)] else []) ++ (if e = List.replicate n 0 ∨ 1 ∈ e then [(false, e)] else [])
def lawR (n t : Nat) : List Row := (effsN n t).flatMap (lawE n)
theorem effs_succ (n t : Nat) : effsN (n + 1) t = (effsN n t).flatMap (stp n t) := by
  unfold effsN
  rw [List.range_succ, List.foldl_append]
  rfl
theorem stp_len (o t : Nat) (e : List Int) : (stp o t e).length ≤ 3 := by
  unfold stp
  rw [List.length_map]
  split <;> simp
theorem effs_len (t : Nat) : ∀ n : Nat, (effsN n t).length ≤ 3 ^ n
  | 0 => by simp [effsN]
  | n + 1 => by
    rw [effs_succ, Nat.pow_succ]
    exact Nat.le_trans (flat_len _ 3 _ fun e _ => stp_len n t e) (Nat.mul_le_mul_right _ (effs_len t n))
theorem effs_le {n : Nat} (t : Nat) (h : n ≤ 7) : (effsN n t).length ≤ 2187 := Nat.le_trans (effs_len t n) (Nat.le_trans (Nat.pow_le_pow_right (by decide) h) (by decide))
theorem mem_stp {o t : Nat} {e f : List Int} : f ∈ stp o t e ↔ ∃ x, f = e ++ [x] ∧ -1 ≤ x ∧ x ≤ 1 ∧ (o = t → x = 0) := by
  unfold stp
  rw [List.mem_map]
  constructor
  · rintro ⟨x, hx, rfl⟩
    refine ⟨x, rfl, ?_⟩
    by_cases h : o = t
    · rw [if_neg (by simpa using h)] at hx
      have : x = 0 := by simpa using hx
      subst this
      exact ⟨by decide, by decide, fun _ => rfl⟩
    · rw [if_pos h] at hx
      have : x = -1 ∨ x = 0 ∨ x = 1 := by simpa using hx
      exact ⟨by omega, by omega, fun q => absurd q h⟩
  · rintro ⟨x, rfl, h1, h2, h3⟩
    refine ⟨x, ?_, rfl⟩
    by_cases h : o = t
    · rw [if_neg (by simpa using h), h3 h]; simp
    · rw [if_pos h]
      have : x = -1 ∨ x = 0 ∨ x = 1 := by omega
      simpa using this
theorem mem_effs {t : Nat} : ∀ {n : Nat} {e : List Int}, e ∈ effsN n t ↔ e.length = n ∧ (∀ x ∈ e, -1 ≤ x ∧ x ≤ 1) ∧ (t < n → e[t]? = some 0)
  | 0, e => by
    show e ∈ [[]] ↔ _
    rw [List.mem_singleton]
    constructor
    · rintro rfl
      simp
    · rintro ⟨h, _⟩
      exact List.eq_nil_of_length_eq_zero h
  | n + 1, e => by
    rw [effs_succ, List.mem_flatMap]
    constructor
    · rintro ⟨f, hf, he⟩
      obtain ⟨h1, h2, h3⟩ := mem_effs.1 hf
      obtain ⟨x, rfl, x1, x2, x3⟩ := mem_stp.1 he
      refine ⟨by simp [h1], ?_, fun ht => ?_⟩
      · intro y hy
        rcases List.mem_append.1 hy with hy | hy
        · exact h2 y hy
        · have : y = x := by simpa using hy
          subst this
          exact ⟨x1, x2⟩
      · by_cases hn : t = n
        · subst hn
          rw [List.getElem?_append_right (by omega), h1, Nat.sub_self, x3 rfl]
          rfl
        · rw [List.getElem?_append_left (by omega)]
          exact h3 (by omega)
    · rintro ⟨h1, h2, h3⟩
      have hne : e ≠ [] := by intro q; subst q; simp at h1
      refine ⟨e.dropLast, mem_effs.2 ⟨by simp [h1], fun x hx => h2 x (List.dropLast_subset e hx), fun ht => ?_⟩, mem_stp.2 ⟨e.getLast hne, (List.dropLast_concat_getLast hne).symm, ?_⟩⟩
      · have := h3 (by omega)
        rw [← List.dropLast_concat_getLast hne, List.getElem?_append_left (by simp; omega)] at this
        exact this
      · have hl := h2 _ (List.getLast_mem hne)
        refine ⟨hl.1, hl.2, fun q => ?_⟩
        have := h3 (by omega)
        rw [← List.dropLast_concat_getLast hne, List.getElem?_append_right (by simp; omega)] at this
        simpa [h1, q] using this
theorem nd_flat {α β : Type} {f : α → List β} : ∀ {l : List α}, l.Nodup → (∀ x ∈ l, (f x).Nodup) → (∀ x ∈ l, ∀ y ∈ l, ∀ z, z ∈ f x → z ∈ f y → x = y) → (l.flatMap f).Nodup
  | [], _, _, _ => by simp
  | a :: l, h1, h2, h3 => by
    rw [List.nodup_cons] at h1
    rw [List.flatMap_cons, List.nodup_append]
    refine ⟨h2 a List.mem_cons_self, nd_flat h1.2 (fun x hx => h2 x (List.mem_cons_of_mem _ hx)) (fun x hx y hy => h3 x (List.mem_cons_of_mem _ hx) y (List.mem_cons_of_mem _ hy)), fun x hx y hy e => ?_⟩
    subst e
    obtain ⟨b, hb, hy⟩ := List.mem_flatMap.1 hy
    have := h3 a List.mem_cons_self b (List.mem_cons_of_mem _ hb) x hx hy
    subst this
    exact h1.1 hb
theorem nd_stp (o t : Nat) (e : List Int) : (stp o t e).Nodup := by
  unfold stp
  rw [List.Nodup, List.pairwise_map]
  have : (if o ≠ t then [(-1 : Int), 0, 1] else [0]).Nodup := by split <;> decide
  exact this.imp fun h1 h2 => h1 (by simpa using h2)
theorem nd_effs (t : Nat) : ∀ n : Nat, (effsN n t).Nodup
  | 0 => by simp [effsN]
  | n + 1 => by
    rw [effs_succ]
    refine nd_flat (nd_effs t n) (fun e _ => nd_stp n t e) fun x _ y _ z hx hy => ?_
    obtain ⟨a, rfl, _⟩ := mem_stp.1 hx
    obtain ⟨b, e, _⟩ := mem_stp.1 hy
    exact (List.append_inj' e rfl).1
theorem nrm_id {n : Nat} {b : Bool} {e : List Int} (h : e.length = n) : nrm (b, e) = (b, e) ↔ e = List.replicate n 0 ∨ (if b then -1 ∈ e else 1 ∈ e) := by
  unfold nrm shows
  subst h
  cases b
  · by_cases h1 : (1 : Int) ∈ e
    · simp [h1]
    · simp [h1]
      exact ⟨fun q => q.symm, fun q => q.symm⟩
  · by_cases h1 : (-1 : Int) ∈ e
    · simp [h1]
    · simp [h1]
      exact ⟨fun q => q.symm, fun q => q.symm⟩
theorem mem_allR {n t : Nat} {r : Row} : r ∈ allR n t ↔ r.2 ∈ effsN n t ∧ (r.2 = List.replicate n 0 ∨ (if r.1 then -1 ∈ r.2 else 1 ∈ r.2)) := by
  obtain ⟨b, e⟩ := r
  unfold allR
  rw [List.mem_filter, List.mem_append, List.mem_map, List.mem_map, decide_eq_true_eq]
  constructor
  · rintro ⟨h, h2⟩
    have he : e ∈ effsN n t := by
      rcases h with ⟨f, hf, q⟩ | ⟨f, hf, q⟩
      · cases q; exact hf
      · cases q; exact hf
    exact ⟨he, (nrm_id (mem_effs.1 he).1).1 h2⟩
  · rintro ⟨he, h⟩
    refine ⟨?_, (nrm_id (mem_effs.1 he).1).2 h⟩
    cases b
    · exact .inl ⟨e, he, rfl⟩
    · exact .inr ⟨e, he, rfl⟩
theorem mem_lawE {n : Nat} {e : List Int} {r : Row} : r ∈ lawE n e ↔ r.2 = e ∧ (e = List.replicate n 0 ∨ (if r.1 then -1 ∈ e else 1 ∈ e)) := by
  obtain ⟨b, f⟩ := r
  unfold lawE
  rw [List.mem_append]
  by_cases h1 : e = List.replicate n 0 ∨ -1 ∈ e
  · rw [if_pos h1]
    by_cases h2 : e = List.replicate n 0 ∨ 1 ∈ e
    · rw [if_pos h2]
      cases b <;> simp [h1, h2]
    · rw [if_neg h2]
      cases b <;> simp [h1, h2]
  · rw [if_neg h1]
    by_cases h2 : e = List.replicate n 0 ∨ 1 ∈ e
    · rw [if_pos h2]
      cases b <;> simp [h1, h2]
    · rw [if_neg h2]
      cases b
      · simpa using fun _ => h2
      · simpa using fun _ => h1
theorem mem_lawR {n t : Nat} {r : Row} : r ∈ lawR n t ↔ r.2 ∈ effsN n t ∧ (r.2 = List.replicate n 0 ∨ (if r.1 then -1 ∈ r.2 else 1 ∈ r.2)) := by
  unfold lawR
  rw [List.mem_flatMap]
  constructor
  · rintro ⟨e, he, hr⟩
    obtain ⟨h1, h2⟩ := mem_lawE.1 hr
    subst h1
    exact ⟨he, h2⟩
  · rintro ⟨he, h⟩
    exact ⟨r.2, he, mem_lawE.2 ⟨rfl, h⟩⟩
theorem nd_allR (n t : Nat) : (allR n t).Nodup := by
  refine List.Nodup.sublist List.filter_sublist ?_
  rw [List.nodup_append]
  refine ⟨?_, ?_, ?_⟩
  · rw [List.Nodup, List.pairwise_map]
    exact (nd_effs t n).imp fun h1 h2 => h1 (by simpa using h2)
  · rw [List.Nodup, List.pairwise_map]
    exact (nd_effs t n).imp fun h1 h2 => h1 (by simpa using h2)
  · intro x hx y hy e
    obtain ⟨a, _, rfl⟩ := List.mem_map.1 hx
    obtain ⟨b, _, rfl⟩ := List.mem_map.1 hy
    simp at e
theorem nd_lawR (n t : Nat) : (lawR n t).Nodup := by
  refine nd_flat (nd_effs t n) (fun e _ => ?_) fun x _ y _ z hx hy => (mem_lawE.1 hx).1.symm.trans (mem_lawE.1 hy).1
  unfold lawE
  split <;> split <;> simp
theorem lawR_perm (n t : Nat) : (lawR n t).Perm (allR n t) := (List.perm_ext_iff_of_nodup (nd_lawR n t) (nd_allR n t)).2 fun r => mem_lawR.trans mem_allR.symm
theorem rows_len {n : Nat} (t : Nat) (h7 : n ≤ 7) : (allR n t).length ≤ 4374 := by
  refine Nat.le_trans (List.length_filter_le _ _) ?_
  have := effs_le t h7
  simp
  omega
theorem allR_VR {n t : Nat} (ht : t < n) {r : Row} (hr : r ∈ allR n t) : VR n t r := by
  obtain ⟨h1, h2, h3⟩ := mem_effs.1 (mem_allR.1 hr).1
  exact ⟨h1, h2, h3 ht⟩
theorem add_Z (e : List Int) (x : Int) (h : e.length ≤ 7) : binD .add (eZ e) (.tuple [.int x]) = some (eZ (e ++ [x])) := add_T PyData.int e [x] (by simp [lim]; omega)
theorem eq_eZ (a b : List Int) : eqD (eZ a) (eZ b) = some (decide (a = b)) := by rw [eqD_of (sh_eZ a) (sh_eZ b) (by decide) (by decide), eqv_eZ]
theorem add_LL (a b : List D) (h : a.length + b.length ≤ lim) : binD .add (.list a) (.list b) = some (.list (a ++ b)) := by simp only [binD, if_pos h]
theorem v_addL {env m a b} {xs ys : List D} (ha : ev a env m = some (.ok (.list xs), m)) (hb : ev b env m = some (.ok (.list ys), m)) (h : xs.length + ys.length ≤ lim) : ev (.bin .add a b) env m = some (.ok (.list (xs ++ ys)), m) := by
  rw [v_bin, ha, bnd_ok, hb, bnd_ok, add_LL _ _ h, opt_so]
/-- one more place -/
theorem v_stp {env m a b} {i o t : Nat} {e : List Int} {nm : Str} (he : e.length ≤ 6) (hit : itv (.seq a) env m = some (.ok ((if o ≠ t then [-1, 0, 1] else [0]).map PyData.int), m))
    (hx : ∀ d, ev b (((env.set i none)).set i (some (.val d))) m = some (.ok (eZ e), m)) (hi : i < env.length) : ev (.comp [(nm, i)] (.name i) (.seq a) (.bin .add b (.tup [.var i])) []) env m = some (.ok (.list ((stp o t e).map eZ)), m) := by
  have hs : ∀ l : List Int, (l.map fun x => e ++ [x]).map eZ = l.map fun x => eZ (e ++ [x]) := fun l => by rw [List.map_map]; rfl
  unfold stp
  rw [hs]
  refine v_compA (if o ≠ t then [-1, 0, 1] else [0]) PyData.int _ hit (by split <;> simp [lim]) fun x _ => ⟨((env.set i none)).set i (some (.val (.int x))), rfl, ?_⟩
  have hv : (((env.set i none)).set i (some (Sl.val (.int x))))[i]? = some (some (.val (.int x))) := by
    rw [List.getElem?_set_self (by simpa using hi)]
  have h1 : (1 : Nat) ≤ lim := by decide
  simp only [v_bin, hx, bnd_ok, v_tup, evs, v_var, hv, List.length_cons, List.length_nil, Nat.zero_add, if_pos h1, add_Z e x (by omega), opt_so]
theorem effs_l6 {i t : Nat} (hi : i ≤ 6) {e : List Int} (h : e ∈ effsN i t) : e.length ≤ 6 := by rw [(mem_effs.1 h).1]; exact hi
end TO

set_option Elab.async false
set_option linter.all false
set_option maxRecDepth 100000
set_option maxHeartbeats 8000000
set_option exponentiation.threshold 3000
/-! What the log defs hand back. -/
namespace TO
open PySem L2
abbrev Log := List (List Nat × List Bool)
def eK (e : List Nat × List Bool) : D := .tuple [eN e.1, eB e.2]
def eG (g : Log) : D := .list (g.map eK)
structure VG (n : Nat) (g : Log) : Prop where
  len : g.length ≤ 20
  ok : ∀ e ∈ g, VO n e.1 ∧ e.2.length = e.1.length
theorem endsLen (s : List Row) (o : List Nat) : (ends s o).length = o.length := by simp [ends]
theorem ix_K0 (e : List Nat × List Bool) : ixD (eK e) (.int 0) = some (eN e.1) := rfl
theorem ix_K1 (e : List Nat × List Bool) : ixD (eK e) (.int 1) = some (eB e.2) := rfl
theorem len_K (e : List Nat × List Bool) : biD .len [eK e] = some (.int 2) := rfl
theorem isi_K (e : List Nat × List Bool) : isiD .tuple (eK e) = true := rfl
theorem isi_B (e : List Bool) : isiD .tuple (eB e) = true := rfl
theorem isi_G (g : Log) : isiD .list (eG g) = true := rfl
theorem len_G (g : Log) : biD .len [eG g] = some (.int g.length) := by simp [eG, biD]
theorem len_B (g : List Bool) : biD .len [eB g] = some (.int g.length) := by simp [eB, biD]
theorem sq_G (g : Log) : seqD (eG g) = some (g.map eK) := rfl
theorem sq_B (g : List Bool) : seqD (eB g) = some (g.map .bool) := rfl
theorem F_are_results_ok {e : List Nat × List Bool} (h : e.2.length = e.1.length) (hl : e.1.length ≤ lim) : F_are_results [eN e.1, eB e.2] = some (.ok (.bool true)) := by
  simp only [F_are_results, fnP, ir_are_results]
  have hc : ∀ m, ev (.comp [("item", 2)] (.name 2) (.seq (.var 1)) (.isi (.var 2) .bool) []) [some (Sl.val (eN e.1)), some (.val (eB e.2)), none] m = some (.ok (.list (e.2.map fun _ => .bool true)), m) := by
    intro m
    refine v_compA e.2 .bool _ (by simp [v_cst, v_glob, v_var, v_neg, v_bin, v_cmp, v_chain, v_and, v_or, v_not, v_ife, v_ix, v_oix, v_slc, v_tup, v_lst, v_call, v_callD, v_bi, v_isi, v_lenset, v_sset, v_mth, v_trng, v_told, v_smth, v_lowr, toldR_ok, x_asg, x_new, x_frz, x_app, x_oset, x_if, x_ret, x_raise, x_exp, x_par, xs_nil, xs_cons, bnd_ok, bnd_er, ob_ok, ob_er, opt_so, tst_b, tst_er, evs, evAnd, evOr, evIf, evo, itv, bindT, setL, wipeE, pnv, putP, endP, endM, isi_ii, isi_bi, isi_bb, isi_tt, bi_tl, bi_ll, bi_lt, sq_B]) (by rw [h]; exact hl) fun x hx => ⟨_, rfl, ?_⟩
    simp [v_cst, v_glob, v_var, v_neg, v_bin, v_cmp, v_chain, v_and, v_or, v_not, v_ife, v_ix, v_oix, v_slc, v_tup, v_lst, v_call, v_callD, v_bi, v_isi, v_lenset, v_sset, v_mth, v_trng, v_told, v_smth, v_lowr, toldR_ok, x_asg, x_new, x_frz, x_app, x_oset, x_if, x_ret, x_raise, x_exp, x_par, xs_nil, xs_cons, bnd_ok, bnd_er, ob_ok, ob_er, opt_so, tst_b, tst_er, evs, evAnd, evOr, evIf, evo, itv, bindT, setL, wipeE, pnv, putP, endP, endM, isi_ii, isi_bi, isi_bb, isi_tt, bi_tl, bi_ll, bi_lt]
  have ha := all_list (fun _ : Bool => true) e.2
  have : (e.2.all fun _ => true) = true := by simp
  rw [this] at ha
  generalize hq : (e.2.map fun _ => PyData.bool true) = q at hc ha
  simp [v_cst, v_glob, v_var, v_neg, v_bin, v_cmp, v_chain, v_and, v_or, v_not, v_ife, v_ix, v_oix, v_slc, v_tup, v_lst, v_call, v_callD, v_bi, v_isi, v_lenset, v_sset, v_mth, v_trng, v_told, v_smth, v_lowr, toldR_ok, x_asg, x_new, x_frz, x_app, x_oset, x_if, x_ret, x_raise, x_exp, x_par, xs_nil, xs_cons, bnd_ok, bnd_er, ob_ok, ob_er, opt_so, tst_b, tst_er, evs, evAnd, evOr, evIf, evo, itv, bindT, setL, wipeE, pnv, putP, endP, endM, isi_ii, isi_bi, isi_bb, isi_tt, bi_tl, bi_ll, bi_lt, isi_B, len_B, len_N, h, cmpD, eq_ii, hc, ha]
/-! what a log says of a test -/
def pl (o : List Nat) (t : Nat) : Nat := (o.map fun n : Nat => (n : Int)).idxOf (t : Int)
theorem pl_ok {xs : List Nat} {t : Nat} (h : t ∈ xs) : xs[pl xs t]? = some t ∧ mthD .index (eN xs) [.int t] = some (.int (pl xs t)) := by
  have hm : (t : Int) ∈ xs.map fun n : Nat => (n : Int) := List.mem_map.2 ⟨t, h, rfl⟩
  constructor
  · have hlt := List.idxOf_lt_length_of_mem hm
    have hg := List.getElem_idxOf hlt
    have hg2 := List.getElem?_eq_getElem hlt
    rw [hg, List.getElem?_map] at hg2
    unfold pl
    cases hx : xs[(xs.map fun n : Nat => (n : Int)).idxOf (t : Int)]? with
    | none => rw [hx] at hg2; cases hg2
    | some y =>
      rw [hx] at hg2
      have : (y : Int) = t := by simpa using hg2
      rw [show y = t by omega]
  · simp only [mthD, eN, intsD_map (fun n : Nat => (n : Int)), Option.bind_some, if_pos hm]
    rfl
def ans (t : Nat) (e : List Nat × List Bool) (r : Row) : Bool := pass r (e.1.take (pl e.1 t)) == e.2.getD (pl e.1 t) false
def fits (t : Nat) (g : Log) (r : Row) : Bool := g.all fun e => !decide (t ∈ e.1) || ans t e r
def eO (t : Nat) (e : List Nat × List Bool) : D := .tuple [eN (e.1.take (pl e.1 t)), .bool (e.2.getD (pl e.1 t) false)]
theorem res_at {e : List Nat × List Bool} {t : Nat} (h2 : e.2.length = e.1.length) (h : t ∈ e.1) : e.2[pl e.1 t]? = some (e.2.getD (pl e.1 t) false) := by
  have h1 := (List.getElem?_eq_some_iff.1 (pl_ok h).1).1
  obtain ⟨x, hx⟩ := get_of_lt (xs := e.2) (i := pl e.1 t) (by omega)
  rw [hx]; simp [List.getD, hx]
theorem pre_lt {n t : Nat} {e : List Nat × List Bool} (h : VO n e.1) (k : Nat) : ∀ u ∈ e.1.take k, u < n := fun u hu => h.lt u (List.mem_of_mem_take hu)
/-! the candidates -/
def cand (n : Nat) (g : Log) : List (List Row) := (List.range n).map fun t => (allR n t).filter (fits t g)
def eC (c : List (List Row)) : D := .list (c.map fun rs => .list (rs.map eR))
theorem mul_small {i : Int} {x : Nat} (h : x ≤ 10000) : mulOk i x := by
  have h1 : -(2 : Int) ^ 64 < x := Int.lt_of_lt_of_le (by decide) (Int.natCast_nonneg x)
  have h2 : (x : Int) < 2 ^ 64 := Int.lt_of_le_of_lt (Int.ofNat_le.2 h) (by decide)
  exact Or.inl (Or.inr ⟨h1, h2⟩)
theorem mul_I {i j : Int} (h : mulOk i j) : binD .mul (.int i) (.int j) = some (.int (i * j)) := if_pos h
theorem mul_N {b x : Nat} (h : x ≤ 10000) : binD .mul (.int (b : Int)) (.int (x : Int)) = some (.int ((b * x : Nat) : Int)) := by
  rw [mul_I (mul_small h), Int.natCast_mul]
theorem v_mulN {env m a c} {b x : Nat} (h : x ≤ 10000) (ha : ev a env m = some (.ok (.int b), m)) (hc : ev c env m = some (.ok (.int x), m)) : ev (.bin .mul a c) env m = some (.ok (.int ((b * x : Nat) : Int)), m) := by
  rw [v_bin, ha, bnd_ok, hc, bnd_ok, mul_N h, opt_so]
def pr (ns : List Nat) : Nat := ns.foldl (· * ·) 1
theorem cand_len {n : Nat} (g : Log) : (cand n g).length = n := by simp [cand]
theorem cand_le {n : Nat} (h4 : n ≤ 7) {g : Log} {rs : List Row} (h : rs ∈ cand n g) : rs.length ≤ 4374 := by
  obtain ⟨t, ht, rfl⟩ := List.mem_map.1 h
  exact Nat.le_trans (List.length_filter_le _ _) (rows_len _ h4)
theorem sh_eC (c : List (List Row)) : Sh 4 (eC c) := Sh.listM fun rs _ => Sh.listM fun r _ => sh_eR r
theorem in_C (c : List (List Row)) : inD (.list []) (eC c) = some (decide ([] ∈ c)) := by
  have h1 := (sh_eC c).ok (by decide)
  have h2 : SeqAt.shaped (.list []) = true := by decide +kernel
  rw [eC] at h1 ⊢
  simp only [inD, h1, h2, Bool.and_self, if_true]
  congr 1
  rw [List.any_map, Bool.eq_iff_iff]
  simp only [List.any_eq_true, Function.comp, decide_eq_true_eq]
  constructor
  · rintro ⟨y, hy, e⟩
    cases y with
    | nil => exact hy
    | cons a y => simp [PyData.eqv, PyData.eqvAll] at e
  · intro h
    exact ⟨[], h, by simp [PyData.eqv, PyData.eqvAll]⟩
end TO

set_option Elab.async false
set_option linter.all false
set_option maxRecDepth 100000
set_option maxHeartbeats 8000000
set_option exponentiation.threshold 3000
/-! The law's logs and rows. -/
namespace TO
open PySem L2
theorem roll_nat (c k : Int) {many : Nat} (h : 0 < many) (h2 : many ≤ 1000) : ∃ (r : Nat) (c' k' : Int), F_law_roll [.int c, .int k] [.int many] = some (.int r, [.int c', .int k']) ∧ r < many := by
  obtain ⟨r, c1, k1, e, r0, r1⟩ := F_law_roll_ok c k (many := many) (by omega) (by omega)
  obtain ⟨n, rfl⟩ : ∃ n : Nat, r = n := ⟨r.toNat, by omega⟩
  exact ⟨n, c1, k1, e, by omega⟩
theorem slc_takeL {α : Type} (f : α → D) (xs : List α) (k : Nat) : slcD (.list (xs.map f)) none (some (k : Int)) = some (.list ((xs.take k).map f)) := by
  simp only [slcD, cutD, HT.sIx_none, HT.sIx_nat, List.drop_zero, List.length_map, Nat.sub_zero, List.map_take]
  congr 2
  refine Eq.trans ?_ (List.take_eq_take_min ..).symm
  rw [List.length_map]
theorem slc_dropL {α : Type} (f : α → D) (xs : List α) (k : Nat) : slcD (.list (xs.map f)) (some (k : Int)) none = some (.list ((xs.drop k).map f)) := by
  simp only [slcD, cutD, HT.sIx_none, HT.sIx_nat, List.length_map, List.map_drop]
  congr 2
  rw [List.take_of_length_le (by simp)]
  by_cases h : k ≤ xs.length
  · rw [Nat.min_eq_left h]
  · rw [Nat.min_eq_right (by omega), List.drop_eq_nil_of_le (by simp), List.drop_eq_nil_of_le (by simp; omega)]
theorem add_L {α : Type} (f : α → D) (a b : List α) (h : a.length + b.length ≤ lim) : binD .add (.list (a.map f)) (.list (b.map f)) = some (.list ((a ++ b).map f)) := by
  simp [binD, h]
theorem slcG_take (g : Log) (k : Nat) : slcD (eG g) none (some (k : Int)) = some (eG (g.take k)) := slc_takeL eK g k
theorem slcG_drop (g : Log) (k : Nat) : slcD (eG g) (some (k : Int)) none = some (eG (g.drop k)) := slc_dropL eK g k
theorem slcB_take (g : List Bool) (k : Nat) : slcD (eB g) none (some (k : Int)) = some (eB (g.take k)) := slc_take _ g k
theorem slcB_drop (g : List Bool) (k : Nat) : slcD (eB g) (some (k : Int)) none = some (eB (g.drop k)) := slc_drop _ g k
theorem addG (a b : Log) (h : a.length + b.length ≤ 1000) : binD .add (eG a) (eG b) = some (eG (a ++ b)) := add_L eK a b (by unfold lim; omega)
theorem addB (a b : List Bool) (h : a.length + b.length ≤ 1000) : binD .add (eB a) (eB b) = some (eB (a ++ b)) := add_T _ a b (by unfold lim; omega)
theorem ix_G {g : Log} {i : Nat} {e : List Nat × List Bool} (h : g[i]? = some e) : ixD (eG g) (.int i) = some (eK e) := atI_map _ h
theorem sh_eK (e : List Nat × List Bool) : Sh 2 (eK e) := sh_pair (sh_eN _) (sh_eB _)
theorem sh_eG (g : Log) : Sh 3 (eG g) := Sh.listM fun e _ => sh_eK e
theorem eq_Gn (g : Log) : eqD (eG g) (.list []) = some (decide (g = [])) := by
  rw [eqD_of (sh_eG g) (k := 3) (l := 3) (Sh.list (by simp)) (by decide) (by decide)]
  cases g <;> simp [eG, PyData.eqv, PyData.eqvAll]
theorem v_tup2 {env m a b} {x y : D} (ha : ev a env m = some (.ok x, m)) (hb : ev b env m = some (.ok y, m)) : ev (.tup [a, b]) env m = some (.ok (.tuple [x, y]), m) := by
  have h2 : (2 : Nat) ≤ lim := by decide
  simp only [v_tup, evs, ha, hb, bnd_ok, List.length_cons, List.length_nil, Nat.zero_add]
  rw [if_pos h2]
theorem v_tup1 {env m a} {x : D} (ha : ev a env m = some (.ok x, m)) : ev (.tup [a]) env m = some (.ok (.tuple [x]), m) := by
  have h2 : (1 : Nat) ≤ lim := by decide
  simp only [v_tup, evs, ha, bnd_ok, List.length_cons, List.length_nil, Nat.zero_add]
  rw [if_pos h2]
theorem v_lst1 {env m a} {x : D} (ha : ev a env m = some (.ok x, m)) : ev (.lst [a]) env m = some (.ok (.list [x]), m) := by
  have h2 : (1 : Nat) ≤ lim := by decide
  simp only [v_lst, evs, ha, bnd_ok, List.length_cons, List.length_nil, Nat.zero_add]
  rw [if_pos h2]
theorem v_bin_ok {o env m a b} {x y z : D} (ha : ev a env m = some (.ok x, m)) (hb : ev b env m = some (.ok y, m)) (h : binD o x y = some z) : ev (.bin o a b) env m = some (.ok z, m) := by
  rw [v_bin, ha, bnd_ok, hb, bnd_ok, h, opt_so]
theorem v_ifT {t a b env m r} (h : ev t env m = some (.ok (.bool true), m)) (k : ev a env m = r) : ev (.ife t a b) env m = r := by rw [v_ife, h, bnd_ok]; exact k
theorem v_ifF {t a b env m r} (h : ev t env m = some (.ok (.bool false), m)) (k : ev b env m = r) : ev (.ife t a b) env m = r := by rw [v_ife, h, bnd_ok]; exact k
def lawC (n : Nat) (g : Log) : List (List Row) := (List.range n).map fun t => (lawR n t).filter (fits t g)
theorem lawC_perm {n : Nat} (h4 : n ≤ 7) (g : Log) {t : Nat} (ht : t < n) : ((lawC n g).getD t []).Perm ((cand n g).getD t []) := by
  have e1 : (lawC n g).getD t [] = (lawR n t).filter (fits t g) := by simp [lawC, List.getD, List.getElem?_range ht]
  have e2 : (cand n g).getD t [] = (allR n t).filter (fits t g) := by simp [cand, List.getD, List.getElem?_range ht]
  rw [e1, e2]
  exact (lawR_perm n t).filter _
theorem lawC_nil {n : Nat} (h4 : n ≤ 7) (g : Log) : [] ∈ lawC n g ↔ [] ∈ cand n g := by
  simp only [lawC, cand, List.mem_map, List.mem_range]
  constructor
  · rintro ⟨t, ht, e⟩
    refine ⟨t, ht, ?_⟩
    have := (lawR_perm n t).filter (fits t g)
    rw [e] at this
    exact this.nil_eq.symm
  · rintro ⟨t, ht, e⟩
    refine ⟨t, ht, ?_⟩
    have := (lawR_perm n t).filter (fits t g)
    rw [e] at this
    exact this.eq_nil
end TO

set_option Elab.async false
set_option linter.all false
set_option maxRecDepth 100000
set_option maxHeartbeats 8000000
set_option exponentiation.threshold 3000
/-! What all candidates agree on. -/
namespace TO
open PySem L2
theorem told_no {e : E} {env : En} {m : Mu} {x : Str} (h : ev e env m = some (.error x, m)) (hx : x ∈ err13) : ev (.cmp .ne (.told e) (.tup [.cst (.str "error"), .cst (.str x)])) env m = some (.ok (.bool false), m) := by
  rw [v_cmp, v_told, h, toldR_er m hx, bnd_ok, v_tup2 (v_cst ..) (v_cst ..), bnd_ok]
  simp only [cmpD, eq_err hx, Option.map_some, Bool.not_true, opt_so]
theorem told_er {e : E} {env : En} {m : Mu} {x : Str} (h : ev e env m = some (.error x, m)) (hx : x ∈ err13) : ev (.told e) env m = some (.ok (errD x), m) := by
  rw [v_told, h, toldR_er m hx]
theorem v_compE {own tg it elt ifs env m} {x : Str} {m1 : Mu} (h : itv it env m = some (.error x, m1)) : ev (.comp own tg it elt ifs) env m = noEx (some (.error x, m1)) ∨ ev (.comp own tg it elt ifs) env m = some (.error x, m1) := by
  right
  simp only [ev, h, bnd_er]
theorem v_len {env m a} {xs : List D} (h : ev a env m = some (.ok (.list xs), m)) : ev (.bi .len [a]) env m = some (.ok (.int (xs.length : Nat)), m) := by
  simp only [v_bi, evs, h, bnd_ok, bi_ll, opt_so]
structure VC (n : Nat) (C : List (List Row)) : Prop where
  ok : ∀ t, t < n → ∃ rs, C[t]? = some rs ∧ rs.length ≤ 4374 ∧ (n ≤ 5 → rs.length ≤ 486) ∧ ∀ r ∈ rs, VR n t r
theorem rows_len5 {n : Nat} (t : Nat) (h5 : n ≤ 5) : (allR n t).length ≤ 486 := by
  refine Nat.le_trans (List.length_filter_le _ _) ?_
  have : (effsN n t).length ≤ 243 := Nat.le_trans (effs_len t n) (Nat.le_trans (Nat.pow_le_pow_right (by decide) h5) (by decide))
  simp
  omega
theorem cand_VC {n : Nat} (h4 : n ≤ 7) (g : Log) : VC n (cand n g) := ⟨fun t ht => ⟨(allR n t).filter (fits t g), by simp [cand, List.getElem?_range ht], Nat.le_trans (List.length_filter_le _ _) (rows_len t h4), fun h5 => Nat.le_trans (List.length_filter_le _ _) (rows_len5 t h5), fun r hr => allR_VR ht (List.mem_filter.1 hr).1⟩⟩
theorem lawC_VC {n : Nat} (h4 : n ≤ 7) (g : Log) : VC n (lawC n g) := ⟨fun t ht => ⟨(lawR n t).filter (fits t g), by simp [lawC, List.getElem?_range ht], Nat.le_trans (List.length_filter_le _ _) (by rw [(lawR_perm n t).length_eq]; exact rows_len t h4), fun h5 => Nat.le_trans (List.length_filter_le _ _) (by rw [(lawR_perm n t).length_eq]; exact rows_len5 t h5), fun r hr => allR_VR ht ((lawR_perm n t).mem_iff.1 (List.mem_filter.1 hr).1)⟩⟩
theorem ix_C {C : List (List Row)} {t : Nat} {rs : List Row} (h : C[t]? = some rs) : ixD (eC C) (.int t) = some (.list (rs.map eR)) := atI_map (fun rs : List Row => PyData.list (rs.map eR)) h
theorem C_ne {n : Nat} {g : Log} (hn : [] ∉ cand n g) {t : Nat} (ht : t < n) : (cand n g).getD t [] ≠ [] := by
  intro e
  refine hn ?_
  have : (cand n g)[t]? = some ((cand n g).getD t []) := by
    obtain ⟨rs, h⟩ := get_of_lt (xs := cand n g) (i := t) (by rw [cand_len]; exact ht)
    rw [h]; simp [List.getD, h]
  rw [e] at this
  exact List.mem_of_getElem? this
theorem zip_lt {n : Nat} {o : List Nat} (ho : VO n o) {p : Nat × Nat} (hp : p ∈ o.zipIdx) : p.1 < n := ho.lt _ (List.mem_of_getElem? (List.mem_zipIdx_iff_getElem?.1 hp))
/-! one mark, or none -/
def cm (bs : List Bool) : D := if true ∈ bs then (if false ∈ bs then .none else .bool true) else .bool false
theorem cm_perm {a b : List Bool} (h : a.Perm b) : cm a = cm b := by
  unfold cm
  simp only [h.mem_iff]
theorem cm_all {b : Bool} {r : List Bool} : cm (b :: r) = if (b :: r).all (· == b) then .bool b else .none := by
  unfold cm
  by_cases h : ((b :: r).all (· == b)) = true
  · rw [if_pos h]
    have hall : ∀ x ∈ b :: r, x = b := fun x hx => by simpa using List.all_eq_true.1 h x hx
    cases b
    · rw [if_neg (fun q => by have := hall _ q; cases this)]
    · rw [if_pos List.mem_cons_self, if_neg (fun q => by have := hall _ q; cases this)]
  · rw [if_neg h]
    have : ∃ x ∈ r, x ≠ b := by
      apply Classical.byContradiction
      intro q
      refine h (List.all_eq_true.2 fun x hx => ?_)
      rcases List.mem_cons.1 hx with rfl | hx
      · simp
      · have : x = b := Classical.byContradiction fun z => q ⟨x, hx, z⟩
        subst this; simp
    obtain ⟨x, hx, hne⟩ := this
    cases b
    · have : x = true := by cases x <;> simp_all
      subst this
      rw [if_pos (List.mem_cons_of_mem _ hx), if_pos List.mem_cons_self]
    · have : x = false := by cases x <;> simp_all
      subst this
      rw [if_pos List.mem_cons_self, if_pos (List.mem_cons_of_mem _ hx)]
theorem sh_cm (bs : List Bool) : Sh 0 (cm bs) := by
  unfold cm
  split
  · split
    · exact sh_none
    · exact sh_bool _
  · exact sh_bool _
theorem ix_b0 (b : Bool) (r : List Bool) : ixD (.list ((b :: r).map .bool)) (.int 0) = some (.bool b) := atI_map (n := 0) PyData.bool (x := b) (by simp)
def frs (C : List (List Row)) : List D := C.map fun rs => cm (rs.map (·.1))
/-! the effects that may be -/
def up3 (a b c : Bool) : List Int := (if a then [-1] else []) ++ (if b then [0] else []) ++ (if c then [1] else [])
theorem upI_3 : ∀ {ns : List Int}, (∀ x ∈ ns, -1 ≤ x ∧ x ≤ 1) → upI ns = up3 (decide (-1 ∈ ns)) (decide (0 ∈ ns)) (decide (1 ∈ ns))
  | [], _ => rfl
  | x :: r, h => by
    have ih := upI_3 (ns := r) fun y hy => h y (List.mem_cons_of_mem _ hy)
    have hx := h x List.mem_cons_self
    show insI x (upI r) = _
    rw [ih]
    have : x = -1 ∨ x = 0 ∨ x = 1 := by omega
    simp only [List.mem_cons]
    rcases this with rfl | rfl | rfl
    · by_cases q1 : (-1 : Int) ∈ r <;> by_cases q2 : (0 : Int) ∈ r <;> by_cases q3 : (1 : Int) ∈ r <;> simp [q1, q2, q3, up3, insI]
    · by_cases q1 : (-1 : Int) ∈ r <;> by_cases q2 : (0 : Int) ∈ r <;> by_cases q3 : (1 : Int) ∈ r <;> simp [q1, q2, q3, up3, insI]
    · by_cases q1 : (-1 : Int) ∈ r <;> by_cases q2 : (0 : Int) ∈ r <;> by_cases q3 : (1 : Int) ∈ r <;> simp [q1, q2, q3, up3, insI]
theorem up3_len (a b c : Bool) : (up3 a b c).length ≤ 3 := by cases a <;> cases b <;> cases c <;> decide
theorem sset_I {ns : List Int} (h : ∀ x ∈ ns, -1 ≤ x ∧ x ≤ 1) (hl : ns.length ≤ 1000) : ssetD (.list (ns.map .int)) = some (.list ((upI ns).map .int)) := by
  have h3 := up3_len (decide (-1 ∈ ns)) (decide (0 ∈ ns)) (decide (1 ∈ ns))
  rw [← upI_3 h] at h3
  have hi := intsD_map (fun x : Int => x) ns
  rw [show (ns.map fun x : Int => x) = ns from List.map_id' ns] at hi
  have hi' : intsD (ns.map .int) = some ns := hi
  simp only [ssetD, hi']
  rw [if_pos ⟨hl, by omega⟩]
theorem sset_B {b : Bool} {bs : List Bool} (hl : (b :: bs).length ≤ 1000) : ssetD (.list ((b :: bs).map .bool)) = some (.list ((upB (decide (false ∈ b :: bs)) (decide (true ∈ b :: bs))).map .bool)) := by
  have h1 : intsD ((b :: bs).map .bool) = none := rfl
  have h2 := boolsD_map (fun x : Bool => x) (b :: bs)
  rw [show ((b :: bs).map fun x : Bool => x) = b :: bs from List.map_id' _] at h2
  have h2' : boolsD ((b :: bs).map .bool) = some (b :: bs) := h2
  simp only [ssetD, h1, h2', Option.bind_some]
  rw [if_pos hl]
theorem upI_perm {a b : List Int} (h : a.Perm b) (ha : ∀ x ∈ a, -1 ≤ x ∧ x ≤ 1) : upI a = upI b := by
  rw [upI_3 ha, upI_3 fun x hx => ha x (h.mem_iff.2 hx)]
  simp only [h.mem_iff]
def efo (rs : List Row) (u : Nat) : List Int := rs.map fun r => r.2.getD u 0
theorem efo_ok {n t u : Nat} {rs : List Row} (h : ∀ r ∈ rs, VR n t r) (hu : u < n) : ∀ x ∈ efo rs u, -1 ≤ x ∧ x ≤ 1 := by
  intro x hx
  obtain ⟨r, hr, rfl⟩ := List.mem_map.1 hx
  obtain ⟨e, he⟩ := get_of_lt (xs := r.2) (i := u) (by rw [(h r hr).len]; exact hu)
  rw [getD_of he]
  exact (h r hr).ok e (List.mem_of_getElem? he)
/-! forecasts -/
def fc (C : List (List Row)) (o : List Nat) (p : Nat × Nat) : D := cm ((C.getD p.1 []).map fun r => pass r (o.take p.2))
def fcs (C : List (List Row)) (o : List Nat) : List D := o.zipIdx.map (fc C o)
end TO

set_option Elab.async false
set_option linter.all false
set_option maxRecDepth 100000
set_option maxHeartbeats 8000000
set_option exponentiation.threshold 3000
/-! Texts. -/
namespace TO
open PySem L2
abbrev T (l : List Nat) : D := .str (SX.S l)
theorem sh_T {k : Nat} {l : List Nat} (h : ∀ c ∈ l, c < 1114112) : Sh k (T l) := sh_str (by
  show PyData.strOk (SX.S l) = true
  unfold PyData.strOk
  rw [← Array.all_toList, List.all_eq_true]
  intro c hc
  simpa using h c hc)
theorem eq_T {a b : List Nat} (ha : ∀ c ∈ a, c < 1114112) (hb : ∀ c ∈ b, c < 1114112) : eqD (T a) (T b) = some (decide (a = b)) := by
  rw [eqD_of (k := 0) (l := 0) (sh_T ha) (sh_T hb) (by decide) (by decide)]
  show some (SX.S a == SX.S b) = _
  rw [SX.S_beq_eq]
theorem add_TT (a b : List Nat) (h : a.length + b.length ≤ lim) : binD .add (T a) (T b) = some (T (a ++ b)) := by
  show (if (SX.S a).length + (SX.S b).length ≤ lim then some (PyData.str (SX.S a ++ SX.S b)) else none) = _
  rw [SX.S_len, SX.S_len, if_pos h, SX.S_cat]
theorem slcT_take (l : List Nat) (k : Nat) (h : l.length ≤ lim) : slcD (T l) none (some (k : Int)) = some (T (l.take k)) := by
  show (if (SX.S l).length ≤ lim then some (PyData.str (cutS (SX.S l) none (some (k : Int)))) else none) = _
  rw [SX.S_len, if_pos h]
  unfold cutS
  rw [SX.S_len, HT.sIx_none, HT.sIx_nat]
  simp only [List.drop_zero, Nat.sub_zero]
  congr 4
  show l.take (min k l.length) = l.take k
  rw [List.take_eq_take_iff]
  simp
theorem slcT_drop (l : List Nat) (k : Nat) (h : l.length ≤ lim) : slcD (T l) (some (k : Int)) none = some (T (l.drop k)) := by
  show (if (SX.S l).length ≤ lim then some (PyData.str (cutS (SX.S l) (some (k : Int)) none)) else none) = _
  rw [SX.S_len, if_pos h]
  unfold cutS
  rw [SX.S_len, HT.sIx_none, HT.sIx_nat]
  congr 3
  by_cases hk : k ≤ l.length
  · rw [Nat.min_eq_left hk, List.take_of_length_le (by simp)]
  · rw [Nat.min_eq_right (by omega), List.drop_of_length_le (i := k) (by omega)]
    simp
theorem ix_T {l : List Nat} {k c : Nat} (h : l[k]? = some c) (hl : l.length ≤ lim) : ixD (T l) (.int k) = some (T [c]) := by
  show (if (SX.S l).length ≤ lim then (atI l (k : Int)).map fun c => PyData.str ⟨#[c]⟩ else none) = _
  rw [SX.S_len, if_pos hl]
  have hk := (List.getElem?_eq_some_iff.1 h).1
  have q : atI l (k : Int) = some c := by
    unfold atI ixN at *
    have h1 : (0 : Int) ≤ k := by omega
    have h2 : (k : Int) < l.length := by omega
    simp [h1, h2, h]
  rw [q]; rfl
theorem len_T (l : List Nat) (h : l.length ≤ lim) : biD .len [T l] = some (.int (l.length : Nat)) := by
  show (if (SX.S l).length ≤ lim then some (PyData.int ((SX.S l).length : Nat)) else none) = _
  rw [SX.S_len, if_pos h]
theorem chrs_T (l : List Nat) : chrsD (SX.S l) = l.map fun c => T [c] := rfl
theorem strs_T : ∀ ls : List (List Nat), strsD (ls.map T) = some (ls.map SX.S)
  | [] => rfl
  | l :: ls => by
    show (strsD (ls.map T)).map _ = _
    rw [strs_T ls]; rfl
theorem join_T {a : List Nat} {ls : List (List Nat)} (h : (ls.map List.length).sum + ls.length * a.length ≤ lim) : smtD .join (SX.S a) (.list (ls.map T)) = some (T (TL.joinL a ls)) := by
  show ((strsD (ls.map T)).bind fun ys => if (ys.map (·.length)).sum + ys.length * (SX.S a).length ≤ lim then some (PyData.str (Txt.join (SX.S a) ys)) else none) = _
  rw [strs_T]
  have e : ((ls.map SX.S).map (·.length)).sum = (ls.map List.length).sum := by
    rw [List.map_map]
    congr 1
  show (if ((ls.map SX.S).map (·.length)).sum + (ls.map SX.S).length * (SX.S a).length ≤ lim then some (PyData.str (Txt.join (SX.S a) (ls.map SX.S))) else none) = _
  rw [e, SX.S_len, List.length_map, if_pos h, SX.join_S]
theorem split_T {a : List Nat} (h : a.length ≤ lim) : smtD .split (SX.S a) (T [32]) = some (.list ((TL.spl [32] 0 [] a).map T)) := by
  show (if ((SX.S [32]).length == 0) = false ∧ (SX.S a).length ≤ lim then some (PyData.list ((Txt.split (SX.S a) (SX.S [32])).map .str)) else none) = _
  rw [SX.S_len, if_pos ⟨by decide, h⟩, SX.split_S (by decide) (by decide), List.map_map]
  rfl
theorem v_smth_ok {k : Smt} {a b : E} {env : En} {m : Mu} {z : Str} {e g : D} (ha : ev a env m = some (.ok (.str z), m)) (hb : ev b env m = some (.ok e, m)) (h : smtD k z e = some g) : ev (.smth k a b) env m = some (.ok g, m) := by
  simp only [v_smth, ha, hb, bnd_ok, h, opt_so]
theorem joinL_one (f : α → Nat) : ∀ l : List α, TL.joinL [] (l.map fun x => [f x]) = l.map f
  | [] => rfl
  | [x] => rfl
  | x :: y :: l => by
    have := joinL_one f (y :: l)
    simp only [List.map_cons] at this ⊢
    show [f x] ++ ([] ++ TL.joinL [] ([f y] :: l.map fun x => [f x])) = _
    rw [this]; rfl
theorem joinL_len (a : List Nat) : ∀ ls : List (List Nat), (TL.joinL a ls).length ≤ (ls.map List.length).sum + ls.length * a.length
  | [] => by simp [TL.joinL]
  | [x] => by simp [TL.joinL]
  | x :: y :: ls => by
    have := joinL_len a (y :: ls)
    show (x ++ (a ++ TL.joinL a (y :: ls))).length ≤ _
    simp only [List.length_append, List.map_cons, List.sum_cons, List.length_cons] at this ⊢
    have e : (ls.length + 1 + 1) * a.length = (ls.length + 1) * a.length + a.length := by rw [Nat.succ_mul]
    omega
/-! rows as words -/
def sg (e : Int) : Nat := if e = -1 then 45 else if e = 0 then 46 else 43
def rowC (r : Row) : List Nat := (if r.1 then 80 else 70) :: r.2.map sg
def isSg (c : Nat) : Bool := c == 45 || c == 46 || c == 43
def ung (c : Nat) : Int := if c = 45 then -1 else if c = 46 then 0 else 1
def rowOf : List Nat → Option Row
  | [] => none
  | c :: cs => if (c == 80 || c == 70) && cs.all isSg then some (c == 80, cs.map ung) else none
theorem sg_ung {c : Nat} (h : isSg c = true) : sg (ung c) = c := by
  unfold isSg at h
  simp only [Bool.or_eq_true, beq_iff_eq] at h
  rcases h with (rfl | rfl) | rfl <;> rfl
theorem ung_sg {e : Int} (h : -1 ≤ e ∧ e ≤ 1) : ung (sg e) = e ∧ isSg (sg e) = true := by
  have : e = -1 ∨ e = 0 ∨ e = 1 := by omega
  rcases this with rfl | rfl | rfl <;> exact ⟨rfl, rfl⟩
theorem ung_ok (c : Nat) : -1 ≤ ung c ∧ ung c ≤ 1 := by
  unfold ung
  split
  · omega
  · split <;> omega
theorem rowOf_C {r : Row} (h : ∀ e ∈ r.2, -1 ≤ e ∧ e ≤ 1) : rowOf (rowC r) = some r := by
  obtain ⟨b, es⟩ := r
  have h1 : (es.map sg).all isSg = true := by
    rw [List.all_map, List.all_eq_true]
    exact fun e he => (ung_sg (h e he)).2
  have h2 : (es.map sg).map ung = es := by
    rw [List.map_map]
    conv => rhs; rw [← List.map_id es]
    exact List.map_congr_left fun e he => (ung_sg (h e he)).1
  unfold rowC rowOf
  cases b
  · simp [h1, h2]
  · simp [h1, h2]
theorem C_rowOf {w : List Nat} {r : Row} (h : rowOf w = some r) : rowC r = w ∧ (∀ e ∈ r.2, -1 ≤ e ∧ e ≤ 1) ∧ r.2.length < w.length := by
  cases w with
  | nil => cases h
  | cons c cs =>
    simp only [rowOf, Option.ite_none_right_eq_some, Option.some.injEq, Bool.and_eq_true, Bool.or_eq_true, beq_iff_eq] at h
    obtain ⟨⟨h1, h2⟩, rfl⟩ := h
    refine ⟨?_, ?_, by simp⟩
    · unfold rowC
      congr 1
      · rcases h1 with rfl | rfl <;> rfl
      · simp only [List.map_map]
        conv => rhs; rw [← List.map_id cs]
        exact List.map_congr_left fun c hc => sg_ung (List.all_eq_true.1 h2 c hc)
    · intro e he
      obtain ⟨c, _, rfl⟩ := List.mem_map.1 he
      exact ung_ok c
theorem rowC_lt (r : Row) : ∀ c ∈ rowC r, c < 128 ∧ c ≠ 32 := by
  intro c hc
  rcases List.mem_cons.1 hc with rfl | hc
  · cases r.1 <;> decide
  · obtain ⟨e, _, rfl⟩ := List.mem_map.1 hc
    unfold sg
    split
    · decide
    · split <;> decide
theorem F_row_text_ok {r : Row} (h : ∀ e ∈ r.2, -1 ≤ e ∧ e ≤ 1) (hl : r.2.length ≤ 1000) : F_row_text [eR r] = some (.ok (T (rowC r))) := by
  refine fnP_W rfl (W.ret (m1 := [none]) (d := T (rowC r)) ?_ rfl)
  have hc : ev (.comp [("effect", 1)] (.name 1) (.seq (.ix (.var 0) (.cst (.int 1)))) (.ix (.glob "SIGNS" (.str "-.+")) (.bin .add (.var 1) (.cst (.int 1)))) []) [some (Sl.val (eR r)), none] [none] = some (.ok (.list ((r.2.map fun e => [sg e]).map T)), [none]) := by
    rw [List.map_map]
    refine v_compA r.2 .int _ (by simp [v_cst, v_glob, v_var, v_neg, v_bin, v_cmp, v_chain, v_and, v_or, v_not, v_ife, v_ix, v_oix, v_slc, v_tup, v_lst, v_call, v_callD, v_bi, v_isi, v_lenset, v_sset, v_mth, v_trng, v_told, v_smth, v_lowr, toldR_ok, x_asg, x_new, x_frz, x_app, x_oset, x_if, x_ret, x_raise, x_exp, x_par, xs_nil, xs_cons, bnd_ok, bnd_er, ob_ok, ob_er, opt_so, tst_b, tst_er, evs, evAnd, evOr, evIf, evo, itv, bindT, setL, wipeE, pnv, putP, endP, endM, isi_ii, isi_bi, isi_bb, isi_tt, bi_tl, bi_ll, bi_lt, ix_R1, sq_Z]) (by unfold lim; omega) fun e he => ⟨_, rfl, ?_⟩
    have hx : ixD (.str "-.+") (.int (e + 1)) = some (T [sg e]) := by
      have := h e he
      have : e = -1 ∨ e = 0 ∨ e = 1 := by omega
      rcases this with rfl | rfl | rfl <;> rfl
    simp [v_cst, v_glob, v_var, v_neg, v_bin, v_cmp, v_chain, v_and, v_or, v_not, v_ife, v_ix, v_oix, v_slc, v_tup, v_lst, v_call, v_callD, v_bi, v_isi, v_lenset, v_sset, v_mth, v_trng, v_told, v_smth, v_lowr, toldR_ok, x_asg, x_new, x_frz, x_app, x_oset, x_if, x_ret, x_raise, x_exp, x_par, xs_nil, xs_cons, bnd_ok, bnd_er, ob_ok, ob_er, opt_so, tst_b, tst_er, evs, evAnd, evOr, evIf, evo, itv, bindT, setL, wipeE, pnv, putP, endP, endM, isi_ii, isi_bi, isi_bb, isi_tt, bi_tl, bi_ll, bi_lt, binD, hx]
  have hj := join_T (a := []) (ls := r.2.map fun e => [sg e]) (by
    rw [List.map_map]
    have : (r.2.map (List.length ∘ fun e => [sg e])).sum = r.2.length := by
      induction r.2 with
      | nil => rfl
      | cons x l ih => simp [ih]; omega
    rw [this]; simp; unfold lim; omega)
  rw [joinL_one] at hj
  have hs : ev (.smth .join (.cst (.str "")) (.comp [("effect", 1)] (.name 1) (.seq (.ix (.var 0) (.cst (.int 1)))) (.ix (.glob "SIGNS" (.str "-.+")) (.bin .add (.var 1) (.cst (.int 1)))) [])) [some (Sl.val (eR r)), none] [none] = some (.ok (T (r.2.map sg)), [none]) := by
    exact v_smth_ok (z := SX.S []) (v_cst ..) hc hj
  refine v_bin_ok (x := T [if r.1 then 80 else 70]) (y := T (r.2.map sg)) ?_ hs ?_
  · cases hr : r.1
    · exact v_ifF (by simp [v_cst, v_glob, v_var, v_neg, v_bin, v_cmp, v_chain, v_and, v_or, v_not, v_ife, v_ix, v_oix, v_slc, v_tup, v_lst, v_call, v_callD, v_bi, v_isi, v_lenset, v_sset, v_mth, v_trng, v_told, v_smth, v_lowr, toldR_ok, x_asg, x_new, x_frz, x_app, x_oset, x_if, x_ret, x_raise, x_exp, x_par, xs_nil, xs_cons, bnd_ok, bnd_er, ob_ok, ob_er, opt_so, tst_b, tst_er, evs, evAnd, evOr, evIf, evo, itv, bindT, setL, wipeE, pnv, putP, endP, endM, isi_ii, isi_bi, isi_bb, isi_tt, bi_tl, bi_ll, bi_lt, ix_R0, hr]) (by simp [v_cst, v_glob, v_var, v_neg, v_bin, v_cmp, v_chain, v_and, v_or, v_not, v_ife, v_ix, v_oix, v_slc, v_tup, v_lst, v_call, v_callD, v_bi, v_isi, v_lenset, v_sset, v_mth, v_trng, v_told, v_smth, v_lowr, toldR_ok, x_asg, x_new, x_frz, x_app, x_oset, x_if, x_ret, x_raise, x_exp, x_par, xs_nil, xs_cons, bnd_ok, bnd_er, ob_ok, ob_er, opt_so, tst_b, tst_er, evs, evAnd, evOr, evIf, evo, itv, bindT, setL, wipeE, pnv, putP, endP, endM, isi_ii, isi_bi, isi_bb, isi_tt, bi_tl, bi_ll, bi_lt]; rfl)
    · exact v_ifT (by simp [v_cst, v_glob, v_var, v_neg, v_bin, v_cmp, v_chain, v_and, v_or, v_not, v_ife, v_ix, v_oix, v_slc, v_tup, v_lst, v_call, v_callD, v_bi, v_isi, v_lenset, v_sset, v_mth, v_trng, v_told, v_smth, v_lowr, toldR_ok, x_asg, x_new, x_frz, x_app, x_oset, x_if, x_ret, x_raise, x_exp, x_par, xs_nil, xs_cons, bnd_ok, bnd_er, ob_ok, ob_er, opt_so, tst_b, tst_er, evs, evAnd, evOr, evIf, evo, itv, bindT, setL, wipeE, pnv, putP, endP, endM, isi_ii, isi_bi, isi_bb, isi_tt, bi_tl, bi_ll, bi_lt, ix_R0, hr]) (by simp [v_cst, v_glob, v_var, v_neg, v_bin, v_cmp, v_chain, v_and, v_or, v_not, v_ife, v_ix, v_oix, v_slc, v_tup, v_lst, v_call, v_callD, v_bi, v_isi, v_lenset, v_sset, v_mth, v_trng, v_told, v_smth, v_lowr, toldR_ok, x_asg, x_new, x_frz, x_app, x_oset, x_if, x_ret, x_raise, x_exp, x_par, xs_nil, xs_cons, bnd_ok, bnd_er, ob_ok, ob_er, opt_so, tst_b, tst_er, evs, evAnd, evOr, evIf, evo, itv, bindT, setL, wipeE, pnv, putP, endP, endM, isi_ii, isi_bi, isi_bb, isi_tt, bi_tl, bi_ll, bi_lt]; rfl)
  · rw [add_TT _ _ (by simp; unfold lim; omega)]
    rfl
theorem F_suite_text_ok {s : List Row} (h : F_is_suite [eS s] = some (.ok (.bool true))) (hl : s.length ≤ 100) (hr : ∀ r ∈ s, (∀ e ∈ r.2, -1 ≤ e ∧ e ≤ 1) ∧ r.2.length ≤ 100) : F_suite_text [eS s] = some (.ok (T (TL.joinL [32] (s.map rowC)))) := by
  have hcs : F_check_suite [eS s] = some (.ok .none) := by
    simp only [F_check_suite, fnP, ir_check_suite]
    simp [v_cst, v_glob, v_var, v_neg, v_bin, v_cmp, v_chain, v_and, v_or, v_not, v_ife, v_ix, v_oix, v_slc, v_tup, v_lst, v_call, v_callD, v_bi, v_isi, v_lenset, v_sset, v_mth, v_trng, v_told, v_smth, v_lowr, toldR_ok, x_asg, x_new, x_frz, x_app, x_oset, x_if, x_ret, x_raise, x_exp, x_par, xs_nil, xs_cons, bnd_ok, bnd_er, ob_ok, ob_er, opt_so, tst_b, tst_er, evs, evAnd, evOr, evIf, evo, itv, bindT, setL, wipeE, pnv, putP, endP, endM, isi_ii, isi_bi, isi_bb, isi_tt, bi_tl, bi_ll, bi_lt, h]
  refine fnP_W rfl (W.exp (d := .none) (m1 := [none]) (by simp [v_cst, v_glob, v_var, v_neg, v_bin, v_cmp, v_chain, v_and, v_or, v_not, v_ife, v_ix, v_oix, v_slc, v_tup, v_lst, v_call, v_callD, v_bi, v_isi, v_lenset, v_sset, v_mth, v_trng, v_told, v_smth, v_lowr, toldR_ok, x_asg, x_new, x_frz, x_app, x_oset, x_if, x_ret, x_raise, x_exp, x_par, xs_nil, xs_cons, bnd_ok, bnd_er, ob_ok, ob_er, opt_so, tst_b, tst_er, evs, evAnd, evOr, evIf, evo, itv, bindT, setL, wipeE, pnv, putP, endP, endM, isi_ii, isi_bi, isi_bb, isi_tt, bi_tl, bi_ll, bi_lt, hcs]) (W.ret (m1 := [none]) (d := T (TL.joinL [32] (s.map rowC))) ?_ rfl))
  have hc : ev (.comp [("row", 1)] (.name 1) (.seq (.var 0)) (.call "row_text" F_row_text [(.var 1)]) []) [some (Sl.val (eS s)), none] [none] = some (.ok (.list ((s.map rowC).map T)), [none]) := by
    rw [List.map_map]
    refine v_compA s eR _ (by simp [v_cst, v_glob, v_var, v_neg, v_bin, v_cmp, v_chain, v_and, v_or, v_not, v_ife, v_ix, v_oix, v_slc, v_tup, v_lst, v_call, v_callD, v_bi, v_isi, v_lenset, v_sset, v_mth, v_trng, v_told, v_smth, v_lowr, toldR_ok, x_asg, x_new, x_frz, x_app, x_oset, x_if, x_ret, x_raise, x_exp, x_par, xs_nil, xs_cons, bnd_ok, bnd_er, ob_ok, ob_er, opt_so, tst_b, tst_er, evs, evAnd, evOr, evIf, evo, itv, bindT, setL, wipeE, pnv, putP, endP, endM, isi_ii, isi_bi, isi_bb, isi_tt, bi_tl, bi_ll, bi_lt, sq_S]) (by unfold lim; omega) fun r hm => ⟨_, rfl, ?_⟩
    obtain ⟨h1, h2⟩ := hr r hm
    simp [v_cst, v_glob, v_var, v_neg, v_bin, v_cmp, v_chain, v_and, v_or, v_not, v_ife, v_ix, v_oix, v_slc, v_tup, v_lst, v_call, v_callD, v_bi, v_isi, v_lenset, v_sset, v_mth, v_trng, v_told, v_smth, v_lowr, toldR_ok, x_asg, x_new, x_frz, x_app, x_oset, x_if, x_ret, x_raise, x_exp, x_par, xs_nil, xs_cons, bnd_ok, bnd_er, ob_ok, ob_er, opt_so, tst_b, tst_er, evs, evAnd, evOr, evIf, evo, itv, bindT, setL, wipeE, pnv, putP, endP, endM, isi_ii, isi_bi, isi_bb, isi_tt, bi_tl, bi_ll, bi_lt, F_row_text_ok h1 (by omega)]
  have hj := join_T (a := [32]) (ls := s.map rowC) (by
    have : ∀ l : List Row, (∀ r ∈ l, r.2.length ≤ 100) → ((l.map rowC).map List.length).sum ≤ l.length * 101 := by
      intro l hl
      induction l with
      | nil => simp
      | cons r l ih =>
        have h1 := hl r List.mem_cons_self
        have h2 := ih fun x hx => hl x (List.mem_cons_of_mem _ hx)
        simp only [List.map_cons, List.sum_cons, List.length_cons, rowC, List.length_map] at h2 ⊢
        omega
    have := this s fun r hm => (hr r hm).2
    simp only [List.length_map, List.length_singleton] at this ⊢
    unfold lim
    omega)
  exact v_smth_ok (z := SX.S [32]) (v_cst ..) hc hj
end TO

set_option Elab.async false
set_option linter.all false
set_option maxRecDepth 100000
set_option maxHeartbeats 8000000
set_option exponentiation.threshold 3000
/-! Texts read. -/
namespace TO
open PySem L2
theorem W.ex {env : En} {m m1 : Mu} {r : List S} {Q : Oc → Prop} {x : Str} {s : S} (h : exec s env m = some (.ex x m1)) (k : Q (.ex x m1)) : W (s :: r) env m Q := ⟨_, by rw [xs_cons, h], k⟩
theorem W.expX {env : En} {m m1 : Mu} {r : List S} {Q : Oc → Prop} {x : Str} {e : E} (h : ev e env m = some (.error x, m1)) (k : Q (.ex x m1)) : W (.exp e :: r) env m Q := W.ex (by rw [x_exp, h]; rfl) k
theorem W.raise {env : En} {m : Mu} {r : List S} {Q : Oc → Prop} {x : Str} (k : Q (.ex x m)) : W (.raise x :: r) env m Q := W.ex (x_raise ..) k
theorem in_PF (c : Nat) : inD (T [c]) (.tuple [.str "P", .str "F"]) = some (c == 80 || c == 70) := by
  show (if flatD (T [c]) && [PyData.str "P", .str "F"].all flatD then some ([PyData.str "P", .str "F"].any fun z => PyData.eqv z (T [c])) else none) = _
  rw [if_pos (by rfl)]
  have h1 : PyData.eqv (.str "P") (T [c]) = (c == 80) := by
    show ((SX.S [80]) == SX.S [c]) = _
    rw [SX.S_beq_eq, Bool.eq_iff_iff, decide_eq_true_eq, beq_iff_eq]
    exact ⟨fun h => by injection h with h _; exact h.symm, fun h => by rw [h]⟩
  have h2 : PyData.eqv (.str "F") (T [c]) = (c == 70) := by
    show ((SX.S [70]) == SX.S [c]) = _
    rw [SX.S_beq_eq, Bool.eq_iff_iff, decide_eq_true_eq, beq_iff_eq]
    exact ⟨fun h => by injection h with h _; exact h.symm, fun h => by rw [h]⟩
  simp only [List.any_cons, List.any_nil, h1, h2, Bool.or_false]
theorem in_PF0 : inD (T []) (.tuple [.str "P", .str "F"]) = some false := by decide +kernel
theorem in_SG (c : Nat) : inD (T [c]) (.str "-.+") = some (isSg c) := by
  show some (decide (c ∈ (Str.ofString "-.+").cps.toList)) = _
  have e : (Str.ofString "-.+").cps.toList = [45, 46, 43] := by decide +kernel
  rw [e]
  unfold isSg
  congr 1
  rw [Bool.eq_iff_iff]
  simp only [decide_eq_true_eq, List.mem_cons, List.not_mem_nil, or_false, Bool.or_eq_true, beq_iff_eq]
  omega
theorem ix_SG {c : Nat} (h : isSg c = true) : smtD .index "-.+" (T [c]) = some (.int (ung c + 1)) := by
  unfold isSg at h
  simp only [Bool.or_eq_true, beq_iff_eq] at h
  rcases h with (rfl | rfl) | rfl <;> kernel_rfl
theorem F_row_in_ok {w : List Nat} (hl : w.length ≤ 1000) : F_row_in [T w] = (match rowOf w with | some r => some (.ok (eR r)) | none => some (.error "BadText")) := by
  have hl2 : (2 : Nat) ≤ lim := by decide
  have hlw : w.length ≤ lim := by unfold lim; omega
  have hsl := slcT_take w 1 hlw
  have hdr := slcT_drop w 1 hlw
  cases w with
  | nil =>
    have hn := in_PF0
    refine fnP_W rfl (W.yes (m1 := [none]) ?_ (W.raise rfl))
    have : ev (.cmp .notin (.slc (.var 0) .no (.yes (.cst (.int 1)))) (.tup [(.cst (.str "P")), (.cst (.str "F"))])) [some (Sl.val (T [])), none] [none] = some (.ok (.bool true), [none]) := by
      have hsl' : slcD (T []) none (some 1) = some (T []) := hsl
      simp [v_cst, v_glob, v_var, v_neg, v_bin, v_cmp, v_chain, v_and, v_or, v_not, v_ife, v_ix, v_oix, v_slc, v_tup, v_lst, v_call, v_callD, v_bi, v_isi, v_lenset, v_sset, v_mth, v_trng, v_told, v_smth, v_lowr, toldR_ok, x_asg, x_new, x_frz, x_app, x_oset, x_if, x_ret, x_raise, x_exp, x_par, xs_nil, xs_cons, bnd_ok, bnd_er, ob_ok, ob_er, opt_so, tst_b, tst_er, evs, evAnd, evOr, evIf, evo, itv, bindT, setL, wipeE, pnv, putP, endP, endM, isi_ii, isi_bi, isi_bb, isi_tt, bi_tl, bi_ll, bi_lt, hsl', hl2, cmpD, hn]
    show ev (.orE _) [some (Sl.val (T [])), none] _ = _
    simp only [v_or, evOr, this, bnd_ok]
  | cons c cs =>
    have hsl' : slcD (T (c :: cs)) none (some 1) = some (T [c]) := hsl
    have hdr' : slcD (T (c :: cs)) (some 1) none = some (T cs) := hdr
    have hpf := in_PF c
    have hcs : cs.length ≤ 1000 := by simp at hl; omega
    have ha : ev (.cmp .notin (.slc (.var 0) .no (.yes (.cst (.int 1)))) (.tup [(.cst (.str "P")), (.cst (.str "F"))])) [some (Sl.val (T (c :: cs))), none] [none] = some (.ok (.bool (!(c == 80 || c == 70))), [none]) := by
      simp [v_cst, v_glob, v_var, v_neg, v_bin, v_cmp, v_chain, v_and, v_or, v_not, v_ife, v_ix, v_oix, v_slc, v_tup, v_lst, v_call, v_callD, v_bi, v_isi, v_lenset, v_sset, v_mth, v_trng, v_told, v_smth, v_lowr, toldR_ok, x_asg, x_new, x_frz, x_app, x_oset, x_if, x_ret, x_raise, x_exp, x_par, xs_nil, xs_cons, bnd_ok, bnd_er, ob_ok, ob_er, opt_so, tst_b, tst_er, evs, evAnd, evOr, evIf, evo, itv, bindT, setL, wipeE, pnv, putP, endP, endM, isi_ii, isi_bi, isi_bb, isi_tt, bi_tl, bi_ll, bi_lt, hsl', hl2, cmpD, hpf]
    have hit : itv (.chr (.slc (.var 0) (.yes (.cst (.int 1))) .no)) [some (Sl.val (T (c :: cs))), none] [none] = some (.ok (cs.map fun c => T [c]), [none]) := by
      simp [v_cst, v_glob, v_var, v_neg, v_bin, v_cmp, v_chain, v_and, v_or, v_not, v_ife, v_ix, v_oix, v_slc, v_tup, v_lst, v_call, v_callD, v_bi, v_isi, v_lenset, v_sset, v_mth, v_trng, v_told, v_smth, v_lowr, toldR_ok, x_asg, x_new, x_frz, x_app, x_oset, x_if, x_ret, x_raise, x_exp, x_par, xs_nil, xs_cons, bnd_ok, bnd_er, ob_ok, ob_er, opt_so, tst_b, tst_er, evs, evAnd, evOr, evIf, evo, itv, bindT, setL, wipeE, pnv, putP, endP, endM, isi_ii, isi_bi, isi_bb, isi_tt, bi_tl, bi_ll, bi_lt, hdr', chrs_T]
    have hb : ev (.comp [("sign", 1)] (.name 1) (.chr (.slc (.var 0) (.yes (.cst (.int 1))) .no)) (.cmp .isin (.var 1) (.glob "SIGNS" (.str "-.+"))) []) [some (Sl.val (T (c :: cs))), none] [none] = some (.ok (.list (cs.map fun c => .bool (isSg c))), [none]) := by
      refine v_compA cs (fun c => T [c]) _ hit (by unfold lim; omega) fun x hx => ⟨_, rfl, ?_⟩
      have := in_SG x
      simp [v_cst, v_glob, v_var, v_neg, v_bin, v_cmp, v_chain, v_and, v_or, v_not, v_ife, v_ix, v_oix, v_slc, v_tup, v_lst, v_call, v_callD, v_bi, v_isi, v_lenset, v_sset, v_mth, v_trng, v_told, v_smth, v_lowr, toldR_ok, x_asg, x_new, x_frz, x_app, x_oset, x_if, x_ret, x_raise, x_exp, x_par, xs_nil, xs_cons, bnd_ok, bnd_er, ob_ok, ob_er, opt_so, tst_b, tst_er, evs, evAnd, evOr, evIf, evo, itv, bindT, setL, wipeE, pnv, putP, endP, endM, isi_ii, isi_bi, isi_bb, isi_tt, bi_tl, bi_ll, bi_lt, cmpD, this]
    have hall := all_list isSg cs
    have hb2 : ev (.notE (.bi .all [(.comp [("sign", 1)] (.name 1) (.chr (.slc (.var 0) (.yes (.cst (.int 1))) .no)) (.cmp .isin (.var 1) (.glob "SIGNS" (.str "-.+"))) [])])) [some (Sl.val (T (c :: cs))), none] [none] = some (.ok (.bool (!cs.all isSg)), [none]) := by
      simp only [v_not, v_bi, evs, hb, bnd_ok, hall, opt_so]
    by_cases hg : ((c == 80 || c == 70) && cs.all isSg) = true
    · have hr : rowOf (c :: cs) = some (c == 80, cs.map ung) := by simp only [rowOf, hg, if_true]
      rw [hr]
      obtain ⟨g1, g2⟩ := Bool.and_eq_true_iff.1 hg
      rw [g1] at ha
      rw [g2] at hb2
      have hc : ev (.comp [("sign", 1)] (.name 1) (.chr (.slc (.var 0) (.yes (.cst (.int 1))) .no)) (.bin .sub (.smth .index (.glob "SIGNS" (.str "-.+")) (.var 1)) (.cst (.int 1))) []) [some (Sl.val (T (c :: cs))), none] [none] = some (.ok (.list ((cs.map ung).map .int)), [none]) := by
        rw [List.map_map]
        refine v_compA cs (fun c => T [c]) _ hit (by unfold lim; omega) fun x hx => ⟨_, rfl, ?_⟩
        have := ix_SG (List.all_eq_true.1 g2 x hx)
        have e : ung x + 1 - 1 = ung x := by omega
        simp [v_cst, v_glob, v_var, v_neg, v_bin, v_cmp, v_chain, v_and, v_or, v_not, v_ife, v_ix, v_oix, v_slc, v_tup, v_lst, v_call, v_callD, v_bi, v_isi, v_lenset, v_sset, v_mth, v_trng, v_told, v_smth, v_lowr, toldR_ok, x_asg, x_new, x_frz, x_app, x_oset, x_if, x_ret, x_raise, x_exp, x_par, xs_nil, xs_cons, bnd_ok, bnd_er, ob_ok, ob_er, opt_so, tst_b, tst_er, evs, evAnd, evOr, evIf, evo, itv, bindT, setL, wipeE, pnv, putP, endP, endM, isi_ii, isi_bi, isi_bb, isi_tt, bi_tl, bi_ll, bi_lt, this, binD, e]
      have h0 : eqD (T [c]) (.str "P") = some (c == 80) := by
        have := eq_T (a := [c]) (b := [80]) (by
          simp only [Bool.or_eq_true, beq_iff_eq] at g1
          intro x hx
          rw [List.mem_singleton.1 hx]
          rcases g1 with rfl | rfl <;> decide) (by decide)
        rw [show (PyData.str "P" : D) = T [80] from rfl, this]
        congr 1
        rw [Bool.eq_iff_iff]; simp
      have hi := ix_T (l := c :: cs) (k := 0) (c := c) rfl hlw
      refine fnP_W rfl (W.no (m1 := [none]) ?_ (W.ret (m1 := [none]) (d := eR (c == 80, cs.map ung)) ?_ rfl))
      · show ev (.orE _) [some (Sl.val (T (c :: cs))), none] _ = _
        simp only [v_or, evOr, ha, hb2, bnd_ok, Bool.not_true]
      · show ev (.tup _) [some (Sl.val (T (c :: cs))), none] _ = _
        refine v_tup2 (x := .bool (c == 80)) (y := .tuple ((cs.map ung).map .int)) ?_ ?_
        · have hi' : ixD (T (c :: cs)) (.int 0) = some (T [c]) := hi
          simp [v_cst, v_glob, v_var, v_neg, v_bin, v_cmp, v_chain, v_and, v_or, v_not, v_ife, v_ix, v_oix, v_slc, v_tup, v_lst, v_call, v_callD, v_bi, v_isi, v_lenset, v_sset, v_mth, v_trng, v_told, v_smth, v_lowr, toldR_ok, x_asg, x_new, x_frz, x_app, x_oset, x_if, x_ret, x_raise, x_exp, x_par, xs_nil, xs_cons, bnd_ok, bnd_er, ob_ok, ob_er, opt_so, tst_b, tst_er, evs, evAnd, evOr, evIf, evo, itv, bindT, setL, wipeE, pnv, putP, endP, endM, isi_ii, isi_bi, isi_bb, isi_tt, bi_tl, bi_ll, bi_lt, hi', cmpD, h0]
        · simp only [v_bi, evs, hc, bnd_ok, bi_tl, opt_so]
    · have hr : rowOf (c :: cs) = none := by simp only [rowOf, hg]; rfl
      rw [hr]
      refine fnP_W rfl (W.yes (m1 := [none]) ?_ (W.raise rfl))
      show ev (.orE _) [some (Sl.val (T (c :: cs))), none] _ = _
      cases g1 : (c == 80 || c == 70)
      · rw [g1] at ha
        simp only [v_or, evOr, ha, bnd_ok, Bool.not_false]
      · rw [g1] at ha hg
        simp only [Bool.true_and] at hg
        have g2 : cs.all isSg = false := by simpa using hg
        rw [g2] at hb2
        simp only [v_or, evOr, ha, hb2, bnd_ok, Bool.not_true, Bool.not_false]
/-! suites as pages -/
def isR (n i : Nat) (r : Row) : Bool := decide (r.2.length = n) && decide (r.2.getD i 0 = 0)
def isS (s : List Row) : Bool := decide (1 ≤ s.length) && decide (s.length ≤ 7) && s.zipIdx.all fun p => isR s.length p.2 p.1
theorem F_is_row_any {n i : Nat} {r : Row} (hi : i < n) (hn : n ≤ lim) (hr : ∀ e ∈ r.2, -1 ≤ e ∧ e ≤ 1) : F_is_row [.int n, .int i, eR r] = some (.ok (.bool (isR n i r))) := by
  unfold isR
  by_cases hl : r.2.length = n
  · rw [decide_eq_true hl, Bool.true_and]
    have hc : ev (.comp [("item", 3)] (.name 3) (.seq (.ix (.var 2) (.cst (.int 1)))) (.call "is_integer" F_is_integer [(.var 3), (.neg (.cst (.int 1))), (.cst (.int 1))]) []) [some (Sl.val (.int n)), some (.val (.int i)), some (.val (eR r)), none] [none] = some (.ok (.list (r.2.map fun _ => .bool true)), [none]) := by
      refine v_compA r.2 .int _ (by simp [v_cst, v_glob, v_var, v_neg, v_bin, v_cmp, v_chain, v_and, v_or, v_not, v_ife, v_ix, v_oix, v_slc, v_tup, v_lst, v_call, v_callD, v_bi, v_isi, v_lenset, v_sset, v_mth, v_trng, v_told, v_smth, v_lowr, toldR_ok, x_asg, x_new, x_frz, x_app, x_oset, x_if, x_ret, x_raise, x_exp, x_par, xs_nil, xs_cons, bnd_ok, bnd_er, ob_ok, ob_er, opt_so, tst_b, tst_er, evs, evAnd, evOr, evIf, evo, itv, bindT, setL, wipeE, pnv, putP, endP, endM, isi_ii, isi_bi, isi_bb, isi_tt, bi_tl, bi_ll, bi_lt, ix_R1, sq_Z]) (by omega) fun x hx => ⟨_, rfl, ?_⟩
      have := hr x hx
      simp [v_cst, v_glob, v_var, v_neg, v_bin, v_cmp, v_chain, v_and, v_or, v_not, v_ife, v_ix, v_oix, v_slc, v_tup, v_lst, v_call, v_callD, v_bi, v_isi, v_lenset, v_sset, v_mth, v_trng, v_told, v_smth, v_lowr, toldR_ok, x_asg, x_new, x_frz, x_app, x_oset, x_if, x_ret, x_raise, x_exp, x_par, xs_nil, xs_cons, bnd_ok, bnd_er, ob_ok, ob_er, opt_so, tst_b, tst_er, evs, evAnd, evOr, evIf, evo, itv, bindT, setL, wipeE, pnv, putP, endP, endM, isi_ii, isi_bi, isi_bb, isi_tt, bi_tl, bi_ll, bi_lt, F_is_integer_ok, this.1, this.2]
    have ha := all_list (fun _ : Int => true) r.2
    have e1 : (r.2.all fun _ => true) = true := by simp
    rw [e1] at ha
    generalize hq : (r.2.map fun _ => PyData.bool true) = q at hc ha
    obtain ⟨x, hx⟩ := get_of_lt (xs := r.2) (i := i) (by omega)
    have hxD : r.2.getD i 0 = x := getD_of hx
    rw [hxD]
    have hix := ix_Z hx
    have hlZ : biD .len [eZ r.2] = some (.int n) := by rw [len_Z, hl]
    simp only [F_is_row, fnP, ir_is_row]
    simp [v_cst, v_glob, v_var, v_neg, v_bin, v_cmp, v_chain, v_and, v_or, v_not, v_ife, v_ix, v_oix, v_slc, v_tup, v_lst, v_call, v_callD, v_bi, v_isi, v_lenset, v_sset, v_mth, v_trng, v_told, v_smth, v_lowr, toldR_ok, x_asg, x_new, x_frz, x_app, x_oset, x_if, x_ret, x_raise, x_exp, x_par, xs_nil, xs_cons, bnd_ok, bnd_er, ob_ok, ob_er, opt_so, tst_b, tst_er, evs, evAnd, evOr, evIf, evo, itv, bindT, setL, wipeE, pnv, putP, endP, endM, isi_ii, isi_bi, isi_bb, isi_tt, bi_tl, bi_ll, bi_lt, isi_R, len_R, ix_R0, ix_R1, isi_Z, hlZ, cmpD, eq_ii, hc, ha, hix]
  · rw [decide_eq_false hl, Bool.false_and]
    have hlZ : eqD (.int (r.2.length : Nat)) (.int n) = some false := by
      rw [eq_ii, decide_eq_false (by omega)]
    simp only [F_is_row, fnP, ir_is_row]
    simp [v_cst, v_glob, v_var, v_neg, v_bin, v_cmp, v_chain, v_and, v_or, v_not, v_ife, v_ix, v_oix, v_slc, v_tup, v_lst, v_call, v_callD, v_bi, v_isi, v_lenset, v_sset, v_mth, v_trng, v_told, v_smth, v_lowr, toldR_ok, x_asg, x_new, x_frz, x_app, x_oset, x_if, x_ret, x_raise, x_exp, x_par, xs_nil, xs_cons, bnd_ok, bnd_er, ob_ok, ob_er, opt_so, tst_b, tst_er, evs, evAnd, evOr, evIf, evo, itv, bindT, setL, wipeE, pnv, putP, endP, endM, isi_ii, isi_bi, isi_bb, isi_tt, bi_tl, bi_ll, bi_lt, isi_R, len_R, ix_R0, ix_R1, isi_Z, len_Z, cmpD, eq_ii, hl, hlZ]
end TO

set_option Elab.async false
set_option linter.all false
set_option maxRecDepth 100000
set_option maxHeartbeats 8000000
set_option exponentiation.threshold 3000
/-! Pages and runs read. -/
namespace TO
open PySem L2
theorem spl_cons (acc : List Nat) (c : Nat) (r : List Nat) : TL.spl [32] 0 acc (c :: r) = if c = 32 then acc :: TL.spl [32] 0 [] r else TL.spl [32] 0 (acc ++ [c]) r := by
  by_cases h : c = 32
  · rw [if_pos h, TL.spl_hit (by subst h; rfl)]
    rfl
  · rw [if_neg h, TL.spl_miss (TL.pre_of_head _ _ h)]
theorem spl_ne : ∀ (t acc : List Nat), TL.spl [32] 0 acc t ≠ []
  | [], acc => by rw [TL.spl_nil]; simp
  | c :: r, acc => by
    rw [spl_cons]
    split
    · simp
    · exact spl_ne r _
theorem join_spl : ∀ (t acc : List Nat), TL.joinL [32] (TL.spl [32] 0 acc t) = acc ++ t
  | [], acc => by rw [TL.spl_nil]; simp [TL.joinL]
  | c :: r, acc => by
    rw [spl_cons]
    split
    · rename_i h
      subst h
      have ih := join_spl r []
      have hne := spl_ne r []
      cases hs : TL.spl [32] 0 [] r with
      | nil => exact absurd hs hne
      | cons x l =>
        rw [hs] at ih
        show acc ++ ([32] ++ TL.joinL [32] (x :: l)) = _
        rw [ih]; simp
    · rw [join_spl r]; simp
theorem join_big : ∀ (ls : List (List Nat)), ls.length ≤ (TL.joinL [32] ls).length + 1 ∧ ∀ w ∈ ls, w.length ≤ (TL.joinL [32] ls).length ∧ ∀ c ∈ w, c ∈ TL.joinL [32] ls
  | [] => by simp
  | [x] => by simp [TL.joinL]
  | x :: y :: ls => by
    obtain ⟨h1, h2⟩ := join_big (y :: ls)
    have e : TL.joinL [32] (x :: y :: ls) = x ++ ([32] ++ TL.joinL [32] (y :: ls)) := rfl
    rw [e]
    constructor
    · simp only [List.length_cons, List.length_append] at h1 ⊢
      simp only [List.length_nil]
      omega
    · intro w hw
      rcases List.mem_cons.1 hw with rfl | hw
      · exact ⟨by simp, fun c hc => by simp [hc]⟩
      · obtain ⟨h3, h4⟩ := h2 w hw
        exact ⟨by simp only [List.length_append]; omega, fun c hc => by simp [h4 c hc]⟩
theorem spl_big {t : List Nat} : (TL.spl [32] 0 [] t).length ≤ t.length + 1 ∧ ∀ w ∈ TL.spl [32] 0 [] t, w.length ≤ t.length ∧ ∀ c ∈ w, c ∈ t := by
  have h := join_big (TL.spl [32] 0 [] t)
  rw [join_spl t []] at h
  exact h
def rowsOf : List (List Nat) → Option (List Row)
  | [] => some []
  | w :: ws => match rowOf w with
    | some r => (rowsOf ws).map (r :: ·)
    | none => none
theorem rowsOf_ok : ∀ {ws : List (List Nat)} {rs : List Row}, rowsOf ws = some rs → rs.map rowC = ws ∧ ∀ r ∈ rs, (∀ e ∈ r.2, -1 ≤ e ∧ e ≤ 1) ∧ ∃ w ∈ ws, r.2.length < w.length
  | [], rs, h => by cases h; simp
  | w :: ws, rs, h => by
    simp only [rowsOf] at h
    cases hw : rowOf w with
    | none => rw [hw] at h; cases h
    | some r =>
      rw [hw] at h
      obtain ⟨rs', h1, rfl⟩ := Option.map_eq_some_iff.mp h
      obtain ⟨h2, h3⟩ := rowsOf_ok h1
      obtain ⟨c1, c2, c3⟩ := C_rowOf hw
      refine ⟨by rw [List.map_cons, c1, h2], fun x hx => ?_⟩
      rcases List.mem_cons.1 hx with rfl | hx
      · exact ⟨c2, w, List.mem_cons_self, c3⟩
      · obtain ⟨q1, w', q2, q3⟩ := h3 x hx
        exact ⟨q1, w', List.mem_cons_of_mem _ q2, q3⟩
theorem rowsOf_C : ∀ {s : List Row}, (∀ r ∈ s, ∀ e ∈ r.2, -1 ≤ e ∧ e ≤ 1) → rowsOf (s.map rowC) = some s
  | [], _ => rfl
  | r :: s, h => by
    simp only [List.map_cons, rowsOf, rowOf_C (h r List.mem_cons_self), rowsOf_C fun x hx => h x (List.mem_cons_of_mem _ hx), Option.map_some]
theorem rowsOf_none {ws : List (List Nat)} {w : List Nat} (hw : w ∈ ws) (h : rowOf w = none) : rowsOf ws = none := by
  induction ws with
  | nil => cases hw
  | cons x ws ih =>
    simp only [rowsOf]
    rcases List.mem_cons.1 hw with rfl | hw
    · rw [h]
    · cases hx : rowOf x with
      | none => rfl
      | some r => simp only [ih hw, Option.map_none]
theorem F_is_suite_any {s : List Row} (hl : s.length ≤ 1001) (hr : ∀ r ∈ s, ∀ e ∈ r.2, -1 ≤ e ∧ e ≤ 1) : F_is_suite [eS s] = some (.ok (.bool (isS s))) := by
  unfold isS
  by_cases h1 : 1 ≤ s.length
  · by_cases h7 : s.length ≤ 7
    · have hc : ev (.comp [("test", 1), ("row", 2)] (.tup [1, 2]) (.enum (.var 0)) (.call "is_row" F_is_row [(.bi .len [(.var 0)]), (.var 1), (.var 2)]) []) [some (Sl.val (eS s)), none, none] [none] = some (.ok (.list (s.zipIdx.map fun p => .bool (isR s.length p.2 p.1))), [none]) := by
        refine v_compA s.zipIdx (fun p => .tuple [.int (p.2 : Int), eR p.1]) _ ?_ (by rw [List.length_zipIdx]; unfold lim; omega) fun x hx => ⟨_, by simp [v_cst, v_glob, v_var, v_neg, v_bin, v_cmp, v_chain, v_and, v_or, v_not, v_ife, v_ix, v_oix, v_slc, v_tup, v_lst, v_call, v_callD, v_bi, v_isi, v_lenset, v_sset, v_mth, v_trng, v_told, v_smth, v_lowr, toldR_ok, x_asg, x_new, x_frz, x_app, x_oset, x_if, x_ret, x_raise, x_exp, x_par, xs_nil, xs_cons, bnd_ok, bnd_er, ob_ok, ob_er, opt_so, tst_b, tst_er, evs, evAnd, evOr, evIf, evo, itv, bindT, setL, wipeE, pnv, putP, endP, endM, isi_ii, isi_bi, isi_bb, isi_tt, bi_tl, bi_ll, bi_lt]; rfl, ?_⟩
        · simp [v_cst, v_glob, v_var, v_neg, v_bin, v_cmp, v_chain, v_and, v_or, v_not, v_ife, v_ix, v_oix, v_slc, v_tup, v_lst, v_call, v_callD, v_bi, v_isi, v_lenset, v_sset, v_mth, v_trng, v_told, v_smth, v_lowr, toldR_ok, x_asg, x_new, x_frz, x_app, x_oset, x_if, x_ret, x_raise, x_exp, x_par, xs_nil, xs_cons, bnd_ok, bnd_er, ob_ok, ob_er, opt_so, tst_b, tst_er, evs, evAnd, evOr, evIf, evo, itv, bindT, setL, wipeE, pnv, putP, endP, endM, isi_ii, isi_bi, isi_bb, isi_tt, bi_tl, bi_ll, bi_lt, sq_S, enum_map]
        · have hx := List.mem_zipIdx_iff_getElem?.1 hx
          simp [v_cst, v_glob, v_var, v_neg, v_bin, v_cmp, v_chain, v_and, v_or, v_not, v_ife, v_ix, v_oix, v_slc, v_tup, v_lst, v_call, v_callD, v_bi, v_isi, v_lenset, v_sset, v_mth, v_trng, v_told, v_smth, v_lowr, toldR_ok, x_asg, x_new, x_frz, x_app, x_oset, x_if, x_ret, x_raise, x_exp, x_par, xs_nil, xs_cons, bnd_ok, bnd_er, ob_ok, ob_er, opt_so, tst_b, tst_er, evs, evAnd, evOr, evIf, evo, itv, bindT, setL, wipeE, pnv, putP, endP, endM, isi_ii, isi_bi, isi_bb, isi_tt, bi_tl, bi_ll, bi_lt, len_S, F_is_row_any (r := x.1) (List.getElem?_eq_some_iff.1 hx).1 (show s.length ≤ lim by unfold lim; omega) (hr _ (List.mem_of_getElem? hx))]
      have e1 : decide ((1 : Int) ≤ s.length) = true := by simp; omega
      have e2 : decide ((s.length : Int) ≤ 7) = true := by simp; omega
      have ha := all_list (fun p : Row × Nat => isR s.length p.2 p.1) s.zipIdx
      rw [decide_eq_true h1, decide_eq_true h7]
      generalize (s.zipIdx.map fun p => PyData.bool (isR s.length p.2 p.1)) = q at hc ha
      simp only [F_is_suite, fnP, ir_is_suite]
      simp [v_cst, v_glob, v_var, v_neg, v_bin, v_cmp, v_chain, v_and, v_or, v_not, v_ife, v_ix, v_oix, v_slc, v_tup, v_lst, v_call, v_callD, v_bi, v_isi, v_lenset, v_sset, v_mth, v_trng, v_told, v_smth, v_lowr, toldR_ok, x_asg, x_new, x_frz, x_app, x_oset, x_if, x_ret, x_raise, x_exp, x_par, xs_nil, xs_cons, bnd_ok, bnd_er, ob_ok, ob_er, opt_so, tst_b, tst_er, evs, evAnd, evOr, evIf, evo, itv, bindT, setL, wipeE, pnv, putP, endP, endM, isi_ii, isi_bi, isi_bb, isi_tt, bi_tl, bi_ll, bi_lt, len_S, isi_S, cmpD, e1, e2, hc, ha]
    · have e1 : decide ((1 : Int) ≤ s.length) = true := by simp; omega
      have e2 : decide ((s.length : Int) ≤ 7) = false := by simp; omega
      rw [decide_eq_false h7]
      simp only [F_is_suite, fnP, ir_is_suite]
      simp [v_cst, v_glob, v_var, v_neg, v_bin, v_cmp, v_chain, v_and, v_or, v_not, v_ife, v_ix, v_oix, v_slc, v_tup, v_lst, v_call, v_callD, v_bi, v_isi, v_lenset, v_sset, v_mth, v_trng, v_told, v_smth, v_lowr, toldR_ok, x_asg, x_new, x_frz, x_app, x_oset, x_if, x_ret, x_raise, x_exp, x_par, xs_nil, xs_cons, bnd_ok, bnd_er, ob_ok, ob_er, opt_so, tst_b, tst_er, evs, evAnd, evOr, evIf, evo, itv, bindT, setL, wipeE, pnv, putP, endP, endM, isi_ii, isi_bi, isi_bb, isi_tt, bi_tl, bi_ll, bi_lt, len_S, isi_S, cmpD, e1, e2]
  · have e1 : decide ((1 : Int) ≤ s.length) = false := by simp; omega
    rw [decide_eq_false h1]
    simp only [F_is_suite, fnP, ir_is_suite]
    simp [v_cst, v_glob, v_var, v_neg, v_bin, v_cmp, v_chain, v_and, v_or, v_not, v_ife, v_ix, v_oix, v_slc, v_tup, v_lst, v_call, v_callD, v_bi, v_isi, v_lenset, v_sset, v_mth, v_trng, v_told, v_smth, v_lowr, toldR_ok, x_asg, x_new, x_frz, x_app, x_oset, x_if, x_ret, x_raise, x_exp, x_par, xs_nil, xs_cons, bnd_ok, bnd_er, ob_ok, ob_er, opt_so, tst_b, tst_er, evs, evAnd, evOr, evIf, evo, itv, bindT, setL, wipeE, pnv, putP, endP, endM, isi_ii, isi_bi, isi_bb, isi_tt, bi_tl, bi_ll, bi_lt, len_S, isi_S, cmpD, e1]
theorem isS_VS {s : List Row} (h : VS s) : isS s = true := by
  unfold isS
  rw [decide_eq_true h.n1, decide_eq_true h.n7, Bool.true_and, Bool.true_and, List.all_eq_true]
  intro p hp
  have hp := List.mem_zipIdx_iff_getElem?.1 hp
  have hv := h.ok _ _ hp
  unfold isR
  rw [decide_eq_true hv.len, getD_of hv.z]
  rfl
theorem x_tcx (i own tg it elt env m) : exec (.tcx i own tg it elt) env m = ob (bnd (itv it env m) fun ds m => if ds.length ≤ lim then compF (fun d m => match bindT tg d (wipeE env (own.map (·.2))) with
      | some env1 => bnd (ev elt env1 m) fun y m => some (.ok (some y), m)
      | none => none) ds m else none) fun ys m => some (.nx (env.set i (some (.val (.tuple ys)))) m) := by first | (simp only [exec]; done) | (simp only [exec]; rfl)
theorem compF_rows {f : D → Mu → Rr (Option D)} {m : Mu} : ∀ {ws : List (List Nat)}, (∀ w ∈ ws, f (T w) m = match rowOf w with | some r => some (.ok (some (eR r)), m) | none => some (.error "BadText", m)) →
    compF f (ws.map T) m = match rowsOf ws with | some rs => some (.ok (rs.map eR), m) | none => some (.error "BadText", m)
  | [], _ => rfl
  | w :: ws, h => by
    have h0 := h w List.mem_cons_self
    have ih := compF_rows (f := f) (m := m) (ws := ws) fun x hx => h x (List.mem_cons_of_mem _ hx)
    simp only [List.map_cons, compF, rowsOf]
    cases hw : rowOf w with
    | none =>
      rw [hw] at h0
      simp only [h0, bnd_er]
    | some r =>
      rw [hw] at h0
      simp only [h0, bnd_ok, ih]
      cases rowsOf ws with
      | none => simp only [bnd_er, Option.map_none]
      | some rs => simp only [bnd_ok, Option.map_some, List.map_cons]
def pS (t : List Nat) : Option (List Row) := (rowsOf (TL.spl [32] 0 [] t)).bind fun rs => if isS rs then some rs else none
theorem F_parse_suite_ok {t : List Nat} (hl : t.length ≤ 1000) : F_parse_suite [T t] = (match pS t with | some rs => some (.ok (eS rs)) | none => some (.error "BadText")) := by
  obtain ⟨b1, b2⟩ := spl_big (t := t)
  have hct : F_check_text [T t] = some (.ok .none) := by
    simp only [F_check_text, fnP, ir_check_text]
    have : isiD .str (T t) = true := rfl
    simp [v_cst, v_glob, v_var, v_neg, v_bin, v_cmp, v_chain, v_and, v_or, v_not, v_ife, v_ix, v_oix, v_slc, v_tup, v_lst, v_call, v_callD, v_bi, v_isi, v_lenset, v_sset, v_mth, v_trng, v_told, v_smth, v_lowr, toldR_ok, x_asg, x_new, x_frz, x_app, x_oset, x_if, x_ret, x_raise, x_exp, x_par, xs_nil, xs_cons, bnd_ok, bnd_er, ob_ok, ob_er, opt_so, tst_b, tst_er, evs, evAnd, evOr, evIf, evo, itv, bindT, setL, wipeE, pnv, putP, endP, endM, isi_ii, isi_bi, isi_bb, isi_tt, bi_tl, bi_ll, bi_lt, this]
  have hit : itv (.seq (.smth .split (.var 0) (.cst (.str " ")))) [some (Sl.val (T t)), none, none] [none] = some (.ok ((TL.spl [32] 0 [] t).map T), [none]) := by
    have := v_smth_ok (k := .split) (a := .var 0) (b := .cst (.str " ")) (env := [some (Sl.val (T t)), none, none]) (m := [none]) (z := SX.S t) (e := T [32]) (by simp [v_cst, v_glob, v_var, v_neg, v_bin, v_cmp, v_chain, v_and, v_or, v_not, v_ife, v_ix, v_oix, v_slc, v_tup, v_lst, v_call, v_callD, v_bi, v_isi, v_lenset, v_sset, v_mth, v_trng, v_told, v_smth, v_lowr, toldR_ok, x_asg, x_new, x_frz, x_app, x_oset, x_if, x_ret, x_raise, x_exp, x_par, xs_nil, xs_cons, bnd_ok, bnd_er, ob_ok, ob_er, opt_so, tst_b, tst_er, evs, evAnd, evOr, evIf, evo, itv, bindT, setL, wipeE, pnv, putP, endP, endM, isi_ii, isi_bi, isi_bb, isi_tt, bi_tl, bi_ll, bi_lt]) (v_cst ..) (split_T (by unfold lim; omega))
    simp only [itv, this, bnd_ok, seqD, opt_so]
  have hcf := compF_rows (f := fun (d : D) (m : Mu) => match bindT (.name 2) d (wipeE [some (Sl.val (T t)), none, none] ([(("word" : Str), 2)].map (·.2))) with
      | some env1 => bnd (ev (.call "row_in" F_row_in [(.var 2)]) env1 m) fun y m => some (.ok (some y), m)
      | none => none) (m := [none]) (ws := TL.spl [32] 0 [] t) (fun w hw => by
    have := F_row_in_ok (w := w) (by have := (b2 w hw).1; omega)
    simp only [bindT, wipeE, List.map_cons, List.map_nil]
    cases hr : rowOf w with
    | none =>
      rw [hr] at this
      simp [v_cst, v_glob, v_var, v_neg, v_bin, v_cmp, v_chain, v_and, v_or, v_not, v_ife, v_ix, v_oix, v_slc, v_tup, v_lst, v_call, v_callD, v_bi, v_isi, v_lenset, v_sset, v_mth, v_trng, v_told, v_smth, v_lowr, toldR_ok, x_asg, x_new, x_frz, x_app, x_oset, x_if, x_ret, x_raise, x_exp, x_par, xs_nil, xs_cons, bnd_ok, bnd_er, ob_ok, ob_er, opt_so, tst_b, tst_er, evs, evAnd, evOr, evIf, evo, itv, bindT, setL, wipeE, pnv, putP, endP, endM, isi_ii, isi_bi, isi_bb, isi_tt, bi_tl, bi_ll, bi_lt, this]
    | some r =>
      rw [hr] at this
      simp [v_cst, v_glob, v_var, v_neg, v_bin, v_cmp, v_chain, v_and, v_or, v_not, v_ife, v_ix, v_oix, v_slc, v_tup, v_lst, v_call, v_callD, v_bi, v_isi, v_lenset, v_sset, v_mth, v_trng, v_told, v_smth, v_lowr, toldR_ok, x_asg, x_new, x_frz, x_app, x_oset, x_if, x_ret, x_raise, x_exp, x_par, xs_nil, xs_cons, bnd_ok, bnd_er, ob_ok, ob_er, opt_so, tst_b, tst_er, evs, evAnd, evOr, evIf, evo, itv, bindT, setL, wipeE, pnv, putP, endP, endM, isi_ii, isi_bi, isi_bb, isi_tt, bi_tl, bi_ll, bi_lt, this])
  have hx : exec (.tcx 1 [("word", 2)] (.name 2) (.seq (.smth .split (.var 0) (.cst (.str " ")))) (.call "row_in" F_row_in [(.var 2)])) [some (Sl.val (T t)), none, none] [none] = match rowsOf (TL.spl [32] 0 [] t) with
      | some rs => some (.nx [some (Sl.val (T t)), some (.val (eS rs)), none] [none])
      | none => some (.ex "BadText" [none]) := by
    rw [x_tcx, hit, bnd_ok, List.length_map, if_pos (by unfold lim; omega), hcf]
    cases rowsOf (TL.spl [32] 0 [] t) <;> rfl
  unfold pS
  cases hr : rowsOf (TL.spl [32] 0 [] t) with
  | none =>
    rw [hr] at hx
    exact fnP_W rfl (W.exp (d := .none) (m1 := [none]) (by simp [v_cst, v_glob, v_var, v_neg, v_bin, v_cmp, v_chain, v_and, v_or, v_not, v_ife, v_ix, v_oix, v_slc, v_tup, v_lst, v_call, v_callD, v_bi, v_isi, v_lenset, v_sset, v_mth, v_trng, v_told, v_smth, v_lowr, toldR_ok, x_asg, x_new, x_frz, x_app, x_oset, x_if, x_ret, x_raise, x_exp, x_par, xs_nil, xs_cons, bnd_ok, bnd_er, ob_ok, ob_er, opt_so, tst_b, tst_er, evs, evAnd, evOr, evIf, evo, itv, bindT, setL, wipeE, pnv, putP, endP, endM, isi_ii, isi_bi, isi_bb, isi_tt, bi_tl, bi_ll, bi_lt, hct]) (W.ex hx rfl))
  | some rs =>
    rw [hr] at hx
    obtain ⟨r1, r2⟩ := rowsOf_ok hr
    have hlen : rs.length = (TL.spl [32] 0 [] t).length := by rw [← r1, List.length_map]
    have his := F_is_suite_any (s := rs) (by omega) fun r hr => (r2 r hr).1
    simp only [Option.bind_some]
    cases hS : isS rs
    · rw [hS] at his
      exact fnP_W rfl (W.exp (d := .none) (m1 := [none]) (by simp [v_cst, v_glob, v_var, v_neg, v_bin, v_cmp, v_chain, v_and, v_or, v_not, v_ife, v_ix, v_oix, v_slc, v_tup, v_lst, v_call, v_callD, v_bi, v_isi, v_lenset, v_sset, v_mth, v_trng, v_told, v_smth, v_lowr, toldR_ok, x_asg, x_new, x_frz, x_app, x_oset, x_if, x_ret, x_raise, x_exp, x_par, xs_nil, xs_cons, bnd_ok, bnd_er, ob_ok, ob_er, opt_so, tst_b, tst_er, evs, evAnd, evOr, evIf, evo, itv, bindT, setL, wipeE, pnv, putP, endP, endM, isi_ii, isi_bi, isi_bb, isi_tt, bi_tl, bi_ll, bi_lt, hct]) (W.nx hx (W.yes (m1 := [none]) (by simp [v_cst, v_glob, v_var, v_neg, v_bin, v_cmp, v_chain, v_and, v_or, v_not, v_ife, v_ix, v_oix, v_slc, v_tup, v_lst, v_call, v_callD, v_bi, v_isi, v_lenset, v_sset, v_mth, v_trng, v_told, v_smth, v_lowr, toldR_ok, x_asg, x_new, x_frz, x_app, x_oset, x_if, x_ret, x_raise, x_exp, x_par, xs_nil, xs_cons, bnd_ok, bnd_er, ob_ok, ob_er, opt_so, tst_b, tst_er, evs, evAnd, evOr, evIf, evo, itv, bindT, setL, wipeE, pnv, putP, endP, endM, isi_ii, isi_bi, isi_bb, isi_tt, bi_tl, bi_ll, bi_lt, his]) (W.raise rfl))))
    · rw [hS] at his
      exact fnP_W rfl (W.exp (d := .none) (m1 := [none]) (by simp [v_cst, v_glob, v_var, v_neg, v_bin, v_cmp, v_chain, v_and, v_or, v_not, v_ife, v_ix, v_oix, v_slc, v_tup, v_lst, v_call, v_callD, v_bi, v_isi, v_lenset, v_sset, v_mth, v_trng, v_told, v_smth, v_lowr, toldR_ok, x_asg, x_new, x_frz, x_app, x_oset, x_if, x_ret, x_raise, x_exp, x_par, xs_nil, xs_cons, bnd_ok, bnd_er, ob_ok, ob_er, opt_so, tst_b, tst_er, evs, evAnd, evOr, evIf, evo, itv, bindT, setL, wipeE, pnv, putP, endP, endM, isi_ii, isi_bi, isi_bb, isi_tt, bi_tl, bi_ll, bi_lt, hct]) (W.nx hx (W.no (m1 := [none]) (by simp [v_cst, v_glob, v_var, v_neg, v_bin, v_cmp, v_chain, v_and, v_or, v_not, v_ife, v_ix, v_oix, v_slc, v_tup, v_lst, v_call, v_callD, v_bi, v_isi, v_lenset, v_sset, v_mth, v_trng, v_told, v_smth, v_lowr, toldR_ok, x_asg, x_new, x_frz, x_app, x_oset, x_if, x_ret, x_raise, x_exp, x_par, xs_nil, xs_cons, bnd_ok, bnd_er, ob_ok, ob_er, opt_so, tst_b, tst_er, evs, evAnd, evOr, evIf, evo, itv, bindT, setL, wipeE, pnv, putP, endP, endM, isi_ii, isi_bi, isi_bb, isi_tt, bi_tl, bi_ll, bi_lt, his]) (W.ret (d := eS rs) (m1 := [none]) (by simp [v_cst, v_glob, v_var, v_neg, v_bin, v_cmp, v_chain, v_and, v_or, v_not, v_ife, v_ix, v_oix, v_slc, v_tup, v_lst, v_call, v_callD, v_bi, v_isi, v_lenset, v_sset, v_mth, v_trng, v_told, v_smth, v_lowr, toldR_ok, x_asg, x_new, x_frz, x_app, x_oset, x_if, x_ret, x_raise, x_exp, x_par, xs_nil, xs_cons, bnd_ok, bnd_er, ob_ok, ob_er, opt_so, tst_b, tst_er, evs, evAnd, evOr, evIf, evo, itv, bindT, setL, wipeE, pnv, putP, endP, endM, isi_ii, isi_bi, isi_bb, isi_tt, bi_tl, bi_ll, bi_lt]) rfl))))
end TO

set_option Elab.async false
set_option linter.all false
set_option maxRecDepth 100000
set_option maxHeartbeats 8000000
set_option exponentiation.threshold 3000
/-! Texts of suites and runs. -/
namespace TO
open PySem L2
/-! runs as texts -/
def runW (p : Nat × Bool) : List Nat := [48 + p.1, if p.2 then 43 else 45]
theorem zip_eN (o : List Nat) (bs : List Bool) : zipD (o.map fun (t : Nat) => .int (t : Int)) (bs.map .bool) = (o.zip bs).map fun p => .tuple [.int (p.1 : Int), .bool p.2] := by
  induction o generalizing bs with
  | nil => simp [zipD]
  | cons a o ih =>
    cases bs with
    | nil => simp [zipD]
    | cons b bs => simp [zipD, ih]
theorem str_D {t : Nat} (h : t < 10) : biD .str1 [.int t] = some (T [48 + t]) := by
  have h1 : ((t : Int)).natAbs.log2 < 1920 := by
    rw [Int.natAbs_natCast]
    have : ∀ t < 10, Nat.log2 t < 1920 := by decide
    exact this t h
  show (if ((t : Int)).natAbs.log2 < 1920 then some (PyData.str (Str.ofString (toString (t : Int)))) else none) = _
  rw [if_pos h1, SX.num_S, TL.numL_lt h]
theorem v_run {env : En} {i j a b : Nat} {nm nm' : Str} {o : List Nat} {bs : List Bool} {m : Mu} (ha : env[a]? = some (some (.val (eN o)))) (hb : env[b]? = some (some (.val (eB bs)))) (hij : i ≠ j) (hi : i < env.length) (hj : j < env.length) (ho : ∀ t ∈ o, t < 10) (hl : o.length ≤ 1000) :
    ev (.smth .join (.cst (.str " ")) (.comp [(nm, i), (nm', j)] (.tup [i, j]) (.zip (.var a) (.var b)) (.bin .add (.bi .str1 [(.var i)]) (.ife (.var j) (.cst (.str "+")) (.cst (.str "-")))) [])) env m = some (.ok (T (TL.joinL [32] ((o.zip bs).map runW))), m) := by
  have hc : ev (.comp [(nm, i), (nm', j)] (.tup [i, j]) (.zip (.var a) (.var b)) (.bin .add (.bi .str1 [(.var i)]) (.ife (.var j) (.cst (.str "+")) (.cst (.str "-")))) []) env m = some (.ok (.list (((o.zip bs).map runW).map T)), m) := by
    rw [List.map_map]
    refine v_compA (o.zip bs) (fun p => .tuple [.int (p.1 : Int), .bool p.2]) _ ?_ (by rw [List.length_zip]; unfold lim; omega) fun p hp => ?_
    · have hz := zip_eN o bs
      simp only [itv, v_var, ha, hb, bnd_ok, eN, eB, hz]
    · have hp1 : p.1 ∈ o := (List.of_mem_zip hp).1
      refine ⟨((wipeE env [i, j]).set i (some (.val (.int (p.1 : Int))))).set j (some (.val (.bool p.2))), rfl, ?_⟩
      have e1 : (((wipeE env [i, j]).set i (some (.val (.int (p.1 : Int))))).set j (some (.val (.bool p.2))))[i]? = some (some (.val (.int (p.1 : Int)))) := by
        rw [List.getElem?_set_ne (Ne.symm hij), List.getElem?_set_self (by simpa [wipeE] using hi)]
      have e2 : (((wipeE env [i, j]).set i (some (.val (.int (p.1 : Int))))).set j (some (.val (.bool p.2))))[j]? = some (some (.val (.bool p.2))) := by
        rw [List.getElem?_set_self (by simpa [wipeE] using hj)]
      generalize ((wipeE env [i, j]).set i (some (Sl.val (.int (p.1 : Int))))).set j (some (Sl.val (.bool p.2))) = env1 at e1 e2 ⊢
      have hs := str_D (ho _ hp1)
      refine v_bin_ok (x := T [48 + p.1]) (y := T [if p.2 then 43 else 45]) (by simp only [v_bi, evs, v_var, e1, bnd_ok, hs, opt_so]) ?_ (add_TT _ _ (by unfold lim; simp))
      cases hq : p.2
      · rw [hq] at e2
        exact v_ifF (by simp only [v_var, e2]) (v_cst ..)
      · rw [hq] at e2
        exact v_ifT (by simp only [v_var, e2]) (v_cst ..)
  refine v_smth_ok (z := SX.S [32]) (v_cst ..) hc (join_T ?_)
  have : ((((o.zip bs).map runW).map List.length)).sum = (o.zip bs).length * 2 := by
    generalize o.zip bs = l
    induction l with
    | nil => rfl
    | cons x l ih => simp only [List.map_cons, List.sum_cons, ih, List.length_cons]; simp [runW]; omega
  rw [this]
  simp only [List.length_map, List.length_zip, List.length_singleton]
  unfold lim
  omega
theorem F_run_text_ok {o : List Nat} {bs : List Bool} (hio : F_is_order [.int 7, eN o] = some (.ok (.bool true))) (ho : ∀ t ∈ o, t < 10) (hl : o.length ≤ 1000) (hb : bs.length = o.length) : F_run_text [eN o, eB bs] = some (.ok (T (TL.joinL [32] ((o.zip bs).map runW)))) := by
  have h1 : F_check_order [.int 7, eN o] = some (.ok .none) := by
    simp only [F_check_order, fnP, ir_check_order]
    simp [v_cst, v_glob, v_var, v_neg, v_bin, v_cmp, v_chain, v_and, v_or, v_not, v_ife, v_ix, v_oix, v_slc, v_tup, v_lst, v_call, v_callD, v_bi, v_isi, v_lenset, v_sset, v_mth, v_trng, v_told, v_smth, v_lowr, toldR_ok, x_asg, x_new, x_frz, x_app, x_oset, x_if, x_ret, x_raise, x_exp, x_par, xs_nil, xs_cons, bnd_ok, bnd_er, ob_ok, ob_er, opt_so, tst_b, tst_er, evs, evAnd, evOr, evIf, evo, itv, bindT, setL, wipeE, pnv, putP, endP, endM, isi_ii, isi_bi, isi_bb, isi_tt, bi_tl, bi_ll, bi_lt, hio]
  have h2 := F_are_results_ok (e := (o, bs)) hb (by show o.length ≤ lim; unfold lim; omega)
  have h3 : F_written [eN o, eB bs] = some (.ok (T (TL.joinL [32] ((o.zip bs).map runW)))) :=
    fnP_W rfl (W.ret (m1 := [none]) (v_run (i := 2) (j := 3) (a := 0) (b := 1) rfl rfl (by decide) (show 2 < 4 by decide) (show 3 < 4 by decide) ho hl) rfl)
  simp only [F_run_text, fnP, ir_run_text]
  simp [v_cst, v_glob, v_var, v_neg, v_bin, v_cmp, v_chain, v_and, v_or, v_not, v_ife, v_ix, v_oix, v_slc, v_tup, v_lst, v_call, v_callD, v_bi, v_isi, v_lenset, v_sset, v_mth, v_trng, v_told, v_smth, v_lowr, toldR_ok, x_asg, x_new, x_frz, x_app, x_oset, x_if, x_ret, x_raise, x_exp, x_par, xs_nil, xs_cons, bnd_ok, bnd_er, ob_ok, ob_er, opt_so, tst_b, tst_er, evs, evAnd, evOr, evIf, evo, itv, bindT, setL, wipeE, pnv, putP, endP, endM, isi_ii, isi_bi, isi_bb, isi_tt, bi_tl, bi_ll, bi_lt, h1, h2, h3]
def wordOf : List Nat → Option (Nat × Bool)
  | [d, p] => if (decide (48 ≤ d) && decide (d ≤ 57)) && (p == 43 || p == 45) then some (d - 48, p == 43) else none
  | _ => none
def wordsOf : List (List Nat) → Option (List (Nat × Bool))
  | [] => some []
  | w :: ws => match wordOf w with
    | some r => (wordsOf ws).map (r :: ·)
    | none => none
theorem W_wordOf {w : List Nat} {p : Nat × Bool} (h : wordOf w = some p) : runW p = w ∧ p.1 < 10 := by
  match w, h with
  | [d, q], h =>
    simp only [wordOf, Option.ite_none_right_eq_some, Option.some.injEq, Bool.and_eq_true, decide_eq_true_eq, Bool.or_eq_true, beq_iff_eq] at h
    obtain ⟨⟨⟨h1, h2⟩, h3⟩, rfl⟩ := h
    refine ⟨?_, by show d - 48 < 10; omega⟩
    unfold runW
    have e : 48 + (d - 48) = d := by omega
    rcases h3 with rfl | rfl <;> simp [e]
theorem wordOf_W {p : Nat × Bool} (h : p.1 < 10) : wordOf (runW p) = some p := by
  obtain ⟨t, b⟩ := p
  have h : t < 10 := h
  unfold runW wordOf
  have h1 : (decide (48 ≤ 48 + t) && decide (48 + t ≤ 57)) = true := by simp; omega
  have e : 48 + t - 48 = t := by omega
  cases b <;> simp [h1, e] <;> omega
theorem wordsOf_ok : ∀ {ws : List (List Nat)} {ps : List (Nat × Bool)}, wordsOf ws = some ps → ps.map runW = ws ∧ ∀ p ∈ ps, p.1 < 10
  | [], ps, h => by cases h; simp
  | w :: ws, ps, h => by
    simp only [wordsOf] at h
    cases hw : wordOf w with
    | none => rw [hw] at h; cases h
    | some r =>
      rw [hw] at h
      obtain ⟨rs', h1, rfl⟩ := Option.map_eq_some_iff.mp h
      obtain ⟨h2, h3⟩ := wordsOf_ok h1
      obtain ⟨c1, c2⟩ := W_wordOf hw
      refine ⟨by rw [List.map_cons, c1, h2], fun x hx => ?_⟩
      rcases List.mem_cons.1 hx with rfl | hx
      · exact c2
      · exact h3 x hx
theorem wordsOf_W : ∀ {ps : List (Nat × Bool)}, (∀ p ∈ ps, p.1 < 10) → wordsOf (ps.map runW) = some ps
  | [], _ => rfl
  | r :: s, h => by
    simp only [List.map_cons, wordsOf, wordOf_W (h r List.mem_cons_self), wordsOf_W fun x hx => h x (List.mem_cons_of_mem _ hx), Option.map_some]
theorem wordsOf_none {ws : List (List Nat)} {w : List Nat} (hw : w ∈ ws) (h : wordOf w = none) : wordsOf ws = none := by
  induction ws with
  | nil => cases hw
  | cons x ws ih =>
    simp only [wordsOf]
    rcases List.mem_cons.1 hw with rfl | hw
    · rw [h]
    · cases hx : wordOf x with
      | none => rfl
      | some r => simp only [ih hw, Option.map_none]
theorem in_FIG (c : Nat) : inD (T [c]) (.str "0123456789") = some (decide (48 ≤ c) && decide (c ≤ 57)) := by
  show some (decide (c ∈ (Str.ofString "0123456789").cps.toList)) = _
  have e : (Str.ofString "0123456789").cps.toList = [48, 49, 50, 51, 52, 53, 54, 55, 56, 57] := by decide +kernel
  rw [e]
  congr 1
  rw [Bool.eq_iff_iff]
  simp only [decide_eq_true_eq, List.mem_cons, List.not_mem_nil, or_false, Bool.and_eq_true]
  omega
theorem in_PM (c : Nat) : inD (T [c]) (.str "+-") = some (c == 43 || c == 45) := by
  show some (decide (c ∈ (Str.ofString "+-").cps.toList)) = _
  have e : (Str.ofString "+-").cps.toList = [43, 45] := by decide +kernel
  rw [e]
  congr 1
  rw [Bool.eq_iff_iff]
  simp only [decide_eq_true_eq, List.mem_cons, List.not_mem_nil, or_false, Bool.or_eq_true, beq_iff_eq]
theorem int_D {d : Nat} (h : (decide (48 ≤ d) && decide (d ≤ 57)) = true) : biD .int1 [T [d]] = some (.int ((d - 48 : Nat) : Int)) := by
  simp only [Bool.and_eq_true, decide_eq_true_eq] at h
  have : d = 48 ∨ d = 49 ∨ d = 50 ∨ d = 51 ∨ d = 52 ∨ d = 53 ∨ d = 54 ∨ d = 55 ∨ d = 56 ∨ d = 57 := by omega
  rcases this with rfl | rfl | rfl | rfl | rfl | rfl | rfl | rfl | rfl | rfl <;> kernel_rfl
def bdR : List S := [.ifS (.orE [(.cmp .ne (.bi .len [(.var 1)]) (.cst (.int 2))), (.cmp .notin (.ix (.var 1) (.cst (.int 0))) (.glob "FIGURES" (.str "0123456789"))), (.cmp .notin (.ix (.var 1) (.cst (.int 1))) (.cst (.str "+-")))]) [.raise "BadText"] [],
    .app 2 (.bi .int1 [(.ix (.var 1) (.cst (.int 0)))]),
    .app 3 (.cmp .eq (.ix (.var 1) (.cst (.int 1))) (.cst (.str "+")))]
theorem read_step {t w : List Nat} (hl : w.length ≤ 1000) {os bs : List D} (h1 : os.length < 2000) (h2 : bs.length < 2000) : execs bdR [some (Sl.val (T t)), some (.val (T w)), some (.obj 1), some (.obj 2)] [none, some os, some bs] = match wordOf w with
    | some p => some (.nx [some (Sl.val (T t)), some (.val (T w)), some (.obj 1), some (.obj 2)] [none, some (os ++ [.int (p.1 : Nat)]), some (bs ++ [.bool p.2])])
    | none => some (.ex "BadText" [none, some os, some bs]) := by
  have hlw : w.length ≤ lim := by unfold lim; omega
  have hlen := len_T w hlw
  have fin : ∀ {oc : Oc}, W bdR [some (Sl.val (T t)), some (.val (T w)), some (.obj 1), some (.obj 2)] [none, some os, some bs] (fun o => o = oc) → execs bdR [some (Sl.val (T t)), some (.val (T w)), some (.obj 1), some (.obj 2)] [none, some os, some bs] = some oc := fun {oc} h => by
    obtain ⟨o, e, rfl⟩ := h
    exact e
  by_cases h2' : w.length = 2
  · match w, h2' with
    | [d, p], _ =>
      have i0 : ixD (T [d, p]) (.int 0) = some (T [d]) := ix_T (l := [d, p]) (k := 0) rfl hlw
      have i1 : ixD (T [d, p]) (.int 1) = some (T [p]) := ix_T (l := [d, p]) (k := 1) rfl hlw
      have f0 := in_FIG d
      have f1 := in_PM p
      have hl2 : biD .len [T [d, p]] = some (.int 2) := hlen
      cases g1 : (decide (48 ≤ d) && decide (d ≤ 57))
      · rw [g1] at f0
        have e : wordOf [d, p] = none := by simp [wordOf, g1]
        rw [e]
        refine fin (W.yes (m1 := [none, some os, some bs]) ?_ (W.raise rfl))
        simp [v_cst, v_glob, v_var, v_neg, v_bin, v_cmp, v_chain, v_and, v_or, v_not, v_ife, v_ix, v_oix, v_slc, v_tup, v_lst, v_call, v_callD, v_bi, v_isi, v_lenset, v_sset, v_mth, v_trng, v_told, v_smth, v_lowr, toldR_ok, x_asg, x_new, x_frz, x_app, x_oset, x_if, x_ret, x_raise, x_exp, x_par, xs_nil, xs_cons, bnd_ok, bnd_er, ob_ok, ob_er, opt_so, tst_b, tst_er, evs, evAnd, evOr, evIf, evo, itv, bindT, setL, wipeE, pnv, putP, endP, endM, isi_ii, isi_bi, isi_bb, isi_tt, bi_tl, bi_ll, bi_lt, hl2, cmpD, eq_ii, i0, f0]
      · rw [g1] at f0
        cases g2 : (p == 43 || p == 45)
        · rw [g2] at f1
          have e : wordOf [d, p] = none := by simp [wordOf, g2]
          rw [e]
          refine fin (W.yes (m1 := [none, some os, some bs]) ?_ (W.raise rfl))
          simp [v_cst, v_glob, v_var, v_neg, v_bin, v_cmp, v_chain, v_and, v_or, v_not, v_ife, v_ix, v_oix, v_slc, v_tup, v_lst, v_call, v_callD, v_bi, v_isi, v_lenset, v_sset, v_mth, v_trng, v_told, v_smth, v_lowr, toldR_ok, x_asg, x_new, x_frz, x_app, x_oset, x_if, x_ret, x_raise, x_exp, x_par, xs_nil, xs_cons, bnd_ok, bnd_er, ob_ok, ob_er, opt_so, tst_b, tst_er, evs, evAnd, evOr, evIf, evo, itv, bindT, setL, wipeE, pnv, putP, endP, endM, isi_ii, isi_bi, isi_bb, isi_tt, bi_tl, bi_ll, bi_lt, hl2, cmpD, eq_ii, i0, f0, i1, f1]
        · rw [g2] at f1
          have e : wordOf [d, p] = some (d - 48, p == 43) := by simp only [wordOf, g1, g2, Bool.and_self, if_true]
          rw [e]
          have hi := int_D g1
          have hp : eqD (T [p]) (.str "+") = some (p == 43) := by
            have := eq_T (a := [p]) (b := [43]) (by
              simp only [Bool.or_eq_true, beq_iff_eq] at g2
              intro x hx
              rw [List.mem_singleton.1 hx]
              rcases g2 with rfl | rfl <;> decide) (by decide)
            rw [show (PyData.str "+" : D) = T [43] from rfl, this]
            congr 1
            rw [Bool.eq_iff_iff]; simp
          refine fin (W.no (m1 := [none, some os, some bs]) (by simp [v_cst, v_glob, v_var, v_neg, v_bin, v_cmp, v_chain, v_and, v_or, v_not, v_ife, v_ix, v_oix, v_slc, v_tup, v_lst, v_call, v_callD, v_bi, v_isi, v_lenset, v_sset, v_mth, v_trng, v_told, v_smth, v_lowr, toldR_ok, x_asg, x_new, x_frz, x_app, x_oset, x_if, x_ret, x_raise, x_exp, x_par, xs_nil, xs_cons, bnd_ok, bnd_er, ob_ok, ob_er, opt_so, tst_b, tst_er, evs, evAnd, evOr, evIf, evo, itv, bindT, setL, wipeE, pnv, putP, endP, endM, isi_ii, isi_bi, isi_bb, isi_tt, bi_tl, bi_ll, bi_lt, hl2, cmpD, eq_ii, i0, f0, i1, f1]) (W.app (j := 1) (xs := os) (d := .int ((d - 48 : Nat) : Int)) (m1 := [none, some os, some bs]) rfl (by simp [v_cst, v_glob, v_var, v_neg, v_bin, v_cmp, v_chain, v_and, v_or, v_not, v_ife, v_ix, v_oix, v_slc, v_tup, v_lst, v_call, v_callD, v_bi, v_isi, v_lenset, v_sset, v_mth, v_trng, v_told, v_smth, v_lowr, toldR_ok, x_asg, x_new, x_frz, x_app, x_oset, x_if, x_ret, x_raise, x_exp, x_par, xs_nil, xs_cons, bnd_ok, bnd_er, ob_ok, ob_er, opt_so, tst_b, tst_er, evs, evAnd, evOr, evIf, evo, itv, bindT, setL, wipeE, pnv, putP, endP, endM, isi_ii, isi_bi, isi_bb, isi_tt, bi_tl, bi_ll, bi_lt, i0, hi]) rfl (by unfold lim; omega) (W.app (j := 2) (xs := bs) (d := .bool (p == 43)) (m1 := [none, some (os ++ [.int ((d - 48 : Nat) : Int)]), some bs]) rfl (by simp [v_cst, v_glob, v_var, v_neg, v_bin, v_cmp, v_chain, v_and, v_or, v_not, v_ife, v_ix, v_oix, v_slc, v_tup, v_lst, v_call, v_callD, v_bi, v_isi, v_lenset, v_sset, v_mth, v_trng, v_told, v_smth, v_lowr, toldR_ok, x_asg, x_new, x_frz, x_app, x_oset, x_if, x_ret, x_raise, x_exp, x_par, xs_nil, xs_cons, bnd_ok, bnd_er, ob_ok, ob_er, opt_so, tst_b, tst_er, evs, evAnd, evOr, evIf, evo, itv, bindT, setL, wipeE, pnv, putP, endP, endM, isi_ii, isi_bi, isi_bb, isi_tt, bi_tl, bi_ll, bi_lt, i1, cmpD, hp]) rfl (by unfold lim; omega) (W.nil rfl))))
  · have e : wordOf w = none := by
      match w, h2' with
      | [], _ => rfl
      | [_], _ => rfl
      | [_, _], h => exact absurd rfl h
      | _ :: _ :: _ :: _, _ => rfl
    rw [e]
    have hne : eqD (.int (w.length : Nat)) (.int 2) = some false := by rw [eq_ii, decide_eq_false (by omega)]
    refine fin (W.yes (m1 := [none, some os, some bs]) ?_ (W.raise rfl))
    have : ev (.cmp .ne (.bi .len [(.var 1)]) (.cst (.int 2))) [some (Sl.val (T t)), some (.val (T w)), some (.obj 1), some (.obj 2)] [none, some os, some bs] = some (.ok (.bool true), [none, some os, some bs]) := by
      simp [v_cst, v_glob, v_var, v_neg, v_bin, v_cmp, v_chain, v_and, v_or, v_not, v_ife, v_ix, v_oix, v_slc, v_tup, v_lst, v_call, v_callD, v_bi, v_isi, v_lenset, v_sset, v_mth, v_trng, v_told, v_smth, v_lowr, toldR_ok, x_asg, x_new, x_frz, x_app, x_oset, x_if, x_ret, x_raise, x_exp, x_par, xs_nil, xs_cons, bnd_ok, bnd_er, ob_ok, ob_er, opt_so, tst_b, tst_er, evs, evAnd, evOr, evIf, evo, itv, bindT, setL, wipeE, pnv, putP, endP, endM, isi_ii, isi_bi, isi_bb, isi_tt, bi_tl, bi_ll, bi_lt, hlen, cmpD, hne]
    simp only [v_or, evOr, this, bnd_ok]
theorem read_loop {t : List Nat} : ∀ (ws : List (List Nat)) (os bs : List D) (x1 : Option Sl), (∀ w ∈ ws, w.length ≤ 1000) → os.length + ws.length < 2000 → bs.length + ws.length < 2000 →
    ∃ oc, loopF (fun d env m => match bindT (.name 1) d env with | some env1 => execs bdR env1 m | none => none) (ws.map T) [some (Sl.val (T t)), x1, some (.obj 1), some (.obj 2)] [none, some os, some bs] = some oc ∧ (match wordsOf ws with
      | some ps => ∃ x1', oc = .nx [some (Sl.val (T t)), x1', some (.obj 1), some (.obj 2)] [none, some (os ++ ps.map fun p => .int (p.1 : Nat)), some (bs ++ ps.map fun p => .bool p.2)]
      | none => ∃ m, oc = .ex "BadText" m)
  | [], os, bs, x1, _, _, _ => ⟨_, rfl, x1, by simp⟩
  | w :: ws, os, bs, x1, hw, h1, h2 => by
    simp only [List.length_cons] at h1 h2
    have hs := read_step (t := t) (w := w) (hw w List.mem_cons_self) (os := os) (bs := bs) (by omega) (by omega)
    simp only [List.map_cons, loopF, bindT, List.set_cons_succ, List.set_cons_zero, wordsOf]
    cases hp : wordOf w with
    | none =>
      rw [hp] at hs
      simp only [hs]
      exact ⟨_, rfl, _, rfl⟩
    | some p =>
      rw [hp] at hs
      simp only [hs]
      obtain ⟨oc, e, h⟩ := read_loop (t := t) ws (os ++ [.int (p.1 : Nat)]) (bs ++ [.bool p.2]) (some (.val (T w))) (fun x hx => hw x (List.mem_cons_of_mem _ hx)) (by simp; omega) (by simp; omega)
      refine ⟨oc, e, ?_⟩
      cases hq : wordsOf ws with
      | none =>
        rw [hq] at h
        exact h
      | some ps =>
        rw [hq] at h
        obtain ⟨x1', rfl⟩ := h
        exact ⟨x1', by simp⟩
def isO (o : List Nat) : Bool := (o.all fun t => decide (t ≤ 6)) && decide ((dd (o.map fun (t : Nat) => (t : Int))).length = o.length)
theorem F_is_order_any {o : List Nat} (hl : o.length ≤ 1000) : F_is_order [.int 7, eN o] = some (.ok (.bool (isO o))) := by
  have hc : ev (.comp [("test", 2)] (.name 2) (.seq (.var 1)) (.call "is_integer" F_is_integer [(.var 2), (.cst (.int 0)), (.bin .sub (.var 0) (.cst (.int 1)))]) []) [some (Sl.val (.int 7)), some (.val (eN o)), none] [none] = some (.ok (.list (o.map fun t => .bool (decide (t ≤ 6)))), [none]) := by
    refine v_compA o (fun n : Nat => .int n) _ (by simp [v_cst, v_glob, v_var, v_neg, v_bin, v_cmp, v_chain, v_and, v_or, v_not, v_ife, v_ix, v_oix, v_slc, v_tup, v_lst, v_call, v_callD, v_bi, v_isi, v_lenset, v_sset, v_mth, v_trng, v_told, v_smth, v_lowr, toldR_ok, x_asg, x_new, x_frz, x_app, x_oset, x_if, x_ret, x_raise, x_exp, x_par, xs_nil, xs_cons, bnd_ok, bnd_er, ob_ok, ob_er, opt_so, tst_b, tst_er, evs, evAnd, evOr, evIf, evo, itv, bindT, setL, wipeE, pnv, putP, endP, endM, isi_ii, isi_bi, isi_bb, isi_tt, bi_tl, bi_ll, bi_lt, sq_N]) (by unfold lim; omega) fun x hx => ⟨_, rfl, ?_⟩
    have e : (decide ((0 : Int) ≤ x) && decide ((x : Int) ≤ 6)) = decide (x ≤ 6) := by
      rw [Bool.eq_iff_iff]; simp; omega
    have e7 : binD .sub (.int 7) (.int 1) = some (.int 6) := rfl
    simp [v_cst, v_glob, v_var, v_neg, v_bin, v_cmp, v_chain, v_and, v_or, v_not, v_ife, v_ix, v_oix, v_slc, v_tup, v_lst, v_call, v_callD, v_bi, v_isi, v_lenset, v_sset, v_mth, v_trng, v_told, v_smth, v_lowr, toldR_ok, x_asg, x_new, x_frz, x_app, x_oset, x_if, x_ret, x_raise, x_exp, x_par, xs_nil, xs_cons, bnd_ok, bnd_er, ob_ok, ob_er, opt_so, tst_b, tst_er, evs, evAnd, evOr, evIf, evo, itv, bindT, setL, wipeE, pnv, putP, endP, endM, isi_ii, isi_bi, isi_bb, isi_tt, bi_tl, bi_ll, bi_lt, e7, F_is_integer_ok, e]
    omega
  have ha := all_list (fun t : Nat => decide (t ≤ 6)) o
  have hls : lensetD (eN o) = some (.int (dd (o.map fun (t : Nat) => (t : Int))).length) := by
    simp only [lensetD, eN, intsD_map (fun n : Nat => (n : Int)), Option.bind_some, List.length_map]
    rw [if_pos (by omega)]
  have hq2 : eqD (.int ((dd (o.map fun (t : Nat) => (t : Int))).length : Nat)) (.int (o.length : Nat)) = some (decide ((dd (o.map fun (t : Nat) => (t : Int))).length = o.length)) := by
    rw [eq_ii]
    congr 1
    rw [Bool.eq_iff_iff, decide_eq_true_eq, decide_eq_true_eq]
    omega
  unfold isO
  generalize (o.map fun t => PyData.bool (decide (t ≤ 6))) = q at hc ha
  simp only [F_is_order, fnP, ir_is_order]
  cases hA : (o.all fun t => decide (t ≤ 6))
  · rw [hA] at ha
    simp [v_cst, v_glob, v_var, v_neg, v_bin, v_cmp, v_chain, v_and, v_or, v_not, v_ife, v_ix, v_oix, v_slc, v_tup, v_lst, v_call, v_callD, v_bi, v_isi, v_lenset, v_sset, v_mth, v_trng, v_told, v_smth, v_lowr, toldR_ok, x_asg, x_new, x_frz, x_app, x_oset, x_if, x_ret, x_raise, x_exp, x_par, xs_nil, xs_cons, bnd_ok, bnd_er, ob_ok, ob_er, opt_so, tst_b, tst_er, evs, evAnd, evOr, evIf, evo, itv, bindT, setL, wipeE, pnv, putP, endP, endM, isi_ii, isi_bi, isi_bb, isi_tt, bi_tl, bi_ll, bi_lt, isi_N, hc, ha]
  · rw [hA] at ha
    simp [v_cst, v_glob, v_var, v_neg, v_bin, v_cmp, v_chain, v_and, v_or, v_not, v_ife, v_ix, v_oix, v_slc, v_tup, v_lst, v_call, v_callD, v_bi, v_isi, v_lenset, v_sset, v_mth, v_trng, v_told, v_smth, v_lowr, toldR_ok, x_asg, x_new, x_frz, x_app, x_oset, x_if, x_ret, x_raise, x_exp, x_par, xs_nil, xs_cons, bnd_ok, bnd_er, ob_ok, ob_er, opt_so, tst_b, tst_er, evs, evAnd, evOr, evIf, evo, itv, bindT, setL, wipeE, pnv, putP, endP, endM, isi_ii, isi_bi, isi_bb, isi_tt, bi_tl, bi_ll, bi_lt, isi_N, hc, ha, len_N, hls, cmpD, hq2]
theorem isO_VO {o : List Nat} (h : VO 7 o) : isO o = true := by
  have h1 := F_is_order_ok h (by decide)
  have h2 := F_is_order_any (o := o) (by have := h.len; omega)
  have h1 : F_is_order [.int 7, eN o] = some (.ok (.bool true)) := h1
  rw [h1] at h2
  cases hq : isO o with
  | true => rfl
  | false => rw [hq] at h2; cases h2
def words (t : List Nat) : List (List Nat) := if t = [] then [] else TL.spl [32] 0 [] t
def pR (t : List Nat) : Option (List (Nat × Bool)) := (wordsOf (words t)).bind fun ps => if isO (ps.map (·.1)) then some ps else none
theorem words_big (t : List Nat) : (words t).length ≤ t.length + 1 ∧ ∀ w ∈ words t, w.length ≤ t.length := by
  unfold words
  split
  · simp
  · exact ⟨spl_big.1, fun w hw => (spl_big.2 w hw).1⟩
theorem join_words (t : List Nat) : TL.joinL [32] (words t) = t := by
  unfold words
  split
  · rename_i h; rw [h]; rfl
  · exact join_spl t []
theorem F_parse_run_ok {t : List Nat} (hl : t.length ≤ 900) (hch : ∀ c ∈ t, c < 1114112) : F_parse_run [T t] = (match pR t with | some ps => some (.ok (.tuple [eN (ps.map (·.1)), eB (ps.map (·.2))])) | none => some (.error "BadText")) := by
  obtain ⟨b1, b2⟩ := words_big t
  have hct : F_check_text [T t] = some (.ok .none) := by
    simp only [F_check_text, fnP, ir_check_text]
    have : isiD .str (T t) = true := rfl
    simp [v_cst, v_glob, v_var, v_neg, v_bin, v_cmp, v_chain, v_and, v_or, v_not, v_ife, v_ix, v_oix, v_slc, v_tup, v_lst, v_call, v_callD, v_bi, v_isi, v_lenset, v_sset, v_mth, v_trng, v_told, v_smth, v_lowr, toldR_ok, x_asg, x_new, x_frz, x_app, x_oset, x_if, x_ret, x_raise, x_exp, x_par, xs_nil, xs_cons, bnd_ok, bnd_er, ob_ok, ob_er, opt_so, tst_b, tst_er, evs, evAnd, evOr, evIf, evo, itv, bindT, setL, wipeE, pnv, putP, endP, endM, isi_ii, isi_bi, isi_bb, isi_tt, bi_tl, bi_ll, bi_lt, this]
  have hl0 : (0 : Nat) ≤ lim := by decide
  have hl2 : (2 : Nat) ≤ lim := by decide
  have hit : ∀ M : Mu, itv (.seq (.ife (.cmp .ne (.var 0) (.cst (.str ""))) (.smth .split (.var 0) (.cst (.str " "))) (.lst []))) [some (Sl.val (T t)), none, some (.obj 1), some (.obj 2)] M = some (.ok ((words t).map T), M) := by
    intro M
    have he := eq_T (a := t) (b := []) hch (by simp)
    have he' : eqD (T t) (.str "") = some (decide (t = [])) := he
    unfold words
    by_cases ht : t = []
    · rw [decide_eq_true ht] at he'
      rw [if_pos ht]
      have := v_ifF (t := .cmp .ne (.var 0) (.cst (.str ""))) (a := .smth .split (.var 0) (.cst (.str " "))) (b := .lst []) (env := [some (Sl.val (T t)), none, some (.obj 1), some (.obj 2)]) (m := M) (r := some (.ok (.list []), M)) (by simp [v_cst, v_glob, v_var, v_neg, v_bin, v_cmp, v_chain, v_and, v_or, v_not, v_ife, v_ix, v_oix, v_slc, v_tup, v_lst, v_call, v_callD, v_bi, v_isi, v_lenset, v_sset, v_mth, v_trng, v_told, v_smth, v_lowr, toldR_ok, x_asg, x_new, x_frz, x_app, x_oset, x_if, x_ret, x_raise, x_exp, x_par, xs_nil, xs_cons, bnd_ok, bnd_er, ob_ok, ob_er, opt_so, tst_b, tst_er, evs, evAnd, evOr, evIf, evo, itv, bindT, setL, wipeE, pnv, putP, endP, endM, isi_ii, isi_bi, isi_bb, isi_tt, bi_tl, bi_ll, bi_lt, cmpD, he']) (by simp [v_cst, v_glob, v_var, v_neg, v_bin, v_cmp, v_chain, v_and, v_or, v_not, v_ife, v_ix, v_oix, v_slc, v_tup, v_lst, v_call, v_callD, v_bi, v_isi, v_lenset, v_sset, v_mth, v_trng, v_told, v_smth, v_lowr, toldR_ok, x_asg, x_new, x_frz, x_app, x_oset, x_if, x_ret, x_raise, x_exp, x_par, xs_nil, xs_cons, bnd_ok, bnd_er, ob_ok, ob_er, opt_so, tst_b, tst_er, evs, evAnd, evOr, evIf, evo, itv, bindT, setL, wipeE, pnv, putP, endP, endM, isi_ii, isi_bi, isi_bb, isi_tt, bi_tl, bi_ll, bi_lt, hl0])
      simp only [itv, this, bnd_ok, seqD, opt_so, List.map_nil]
    · rw [decide_eq_false ht] at he'
      rw [if_neg ht]
      have := v_ifT (t := .cmp .ne (.var 0) (.cst (.str ""))) (a := .smth .split (.var 0) (.cst (.str " "))) (b := .lst []) (env := [some (Sl.val (T t)), none, some (.obj 1), some (.obj 2)]) (m := M) (r := some (.ok (.list ((TL.spl [32] 0 [] t).map T)), M)) (by simp [v_cst, v_glob, v_var, v_neg, v_bin, v_cmp, v_chain, v_and, v_or, v_not, v_ife, v_ix, v_oix, v_slc, v_tup, v_lst, v_call, v_callD, v_bi, v_isi, v_lenset, v_sset, v_mth, v_trng, v_told, v_smth, v_lowr, toldR_ok, x_asg, x_new, x_frz, x_app, x_oset, x_if, x_ret, x_raise, x_exp, x_par, xs_nil, xs_cons, bnd_ok, bnd_er, ob_ok, ob_er, opt_so, tst_b, tst_er, evs, evAnd, evOr, evIf, evo, itv, bindT, setL, wipeE, pnv, putP, endP, endM, isi_ii, isi_bi, isi_bb, isi_tt, bi_tl, bi_ll, bi_lt, cmpD, he']) (v_smth_ok (z := SX.S t) (e := T [32]) (by simp [v_cst, v_glob, v_var, v_neg, v_bin, v_cmp, v_chain, v_and, v_or, v_not, v_ife, v_ix, v_oix, v_slc, v_tup, v_lst, v_call, v_callD, v_bi, v_isi, v_lenset, v_sset, v_mth, v_trng, v_told, v_smth, v_lowr, toldR_ok, x_asg, x_new, x_frz, x_app, x_oset, x_if, x_ret, x_raise, x_exp, x_par, xs_nil, xs_cons, bnd_ok, bnd_er, ob_ok, ob_er, opt_so, tst_b, tst_er, evs, evAnd, evOr, evIf, evo, itv, bindT, setL, wipeE, pnv, putP, endP, endM, isi_ii, isi_bi, isi_bb, isi_tt, bi_tl, bi_ll, bi_lt]) (v_cst ..) (split_T (by unfold lim; omega)))
      simp only [itv, this, bnd_ok, seqD, opt_so]
  obtain ⟨oc, e, h⟩ := read_loop (t := t) (words t) [] [] none (fun w hw => by have := b2 w hw; omega) (by simp; omega) (by simp; omega)
  have hfor : exec (.forS (.name 1) (.seq (.ife (.cmp .ne (.var 0) (.cst (.str ""))) (.smth .split (.var 0) (.cst (.str " "))) (.lst []))) bdR) [some (Sl.val (T t)), none, some (.obj 1), some (.obj 2)] [none, some [], some []] = some oc := by
    rw [← e]
    simp only [exec, hit, ob_ok]
    try rfl
  have hread : F_read [T t] = (match pR t with | some ps => some (.ok (.tuple [eN (ps.map (·.1)), eB (ps.map (·.2))])) | none => some (.error "BadText")) := by
    unfold pR
    cases hw : wordsOf (words t) with
    | none =>
      rw [hw] at h
      obtain ⟨m, rfl⟩ := h
      exact fnP_W rfl (W.par (x := .inr []) (y := .inr []) (m1 := [none]) (m2 := [none]) (by simp [v_cst, v_glob, v_var, v_neg, v_bin, v_cmp, v_chain, v_and, v_or, v_not, v_ife, v_ix, v_oix, v_slc, v_tup, v_lst, v_call, v_callD, v_bi, v_isi, v_lenset, v_sset, v_mth, v_trng, v_told, v_smth, v_lowr, toldR_ok, x_asg, x_new, x_frz, x_app, x_oset, x_if, x_ret, x_raise, x_exp, x_par, xs_nil, xs_cons, bnd_ok, bnd_er, ob_ok, ob_er, opt_so, tst_b, tst_er, evs, evAnd, evOr, evIf, evo, itv, bindT, setL, wipeE, pnv, putP, endP, endM, isi_ii, isi_bi, isi_bb, isi_tt, bi_tl, bi_ll, bi_lt, hl0]) (by simp [v_cst, v_glob, v_var, v_neg, v_bin, v_cmp, v_chain, v_and, v_or, v_not, v_ife, v_ix, v_oix, v_slc, v_tup, v_lst, v_call, v_callD, v_bi, v_isi, v_lenset, v_sset, v_mth, v_trng, v_told, v_smth, v_lowr, toldR_ok, x_asg, x_new, x_frz, x_app, x_oset, x_if, x_ret, x_raise, x_exp, x_par, xs_nil, xs_cons, bnd_ok, bnd_er, ob_ok, ob_er, opt_so, tst_b, tst_er, evs, evAnd, evOr, evIf, evo, itv, bindT, setL, wipeE, pnv, putP, endP, endM, isi_ii, isi_bi, isi_bb, isi_tt, bi_tl, bi_ll, bi_lt, hl0]) (W.ex hfor rfl))
    | some ps =>
      rw [hw] at h
      obtain ⟨x1', rfl⟩ := h
      obtain ⟨p1, p2⟩ := wordsOf_ok hw
      have hpl : ps.length = (words t).length := by rw [← p1, List.length_map]
      have hio := F_is_order_any (o := ps.map (·.1)) (by rw [List.length_map]; omega)
      simp only [Option.bind_some]
      have hE : (ps.map fun p => PyData.int (p.1 : Nat)) = (ps.map (·.1)).map fun (t : Nat) => PyData.int (t : Int) := by rw [List.map_map]; rfl
      have hB : (ps.map fun p => PyData.bool p.2) = (ps.map (·.2)).map PyData.bool := by rw [List.map_map]; rfl
      rw [hE, hB] at hfor
      rw [eN] at hio
      generalize hO : ((ps.map (·.1)).map fun (t : Nat) => PyData.int (t : Int)) = O at hfor hio
      generalize hBB : ((ps.map (·.2)).map PyData.bool) = BB at hfor
      simp only [List.nil_append] at hfor
      cases hS : isO (ps.map (·.1))
      · rw [hS] at hio
        show F_read [T t] = some (.error "BadText")
        refine fnP_W rfl (W.par (x := .inr []) (y := .inr []) (m1 := [none]) (m2 := [none]) (by simp [v_cst, v_glob, v_var, v_neg, v_bin, v_cmp, v_chain, v_and, v_or, v_not, v_ife, v_ix, v_oix, v_slc, v_tup, v_lst, v_call, v_callD, v_bi, v_isi, v_lenset, v_sset, v_mth, v_trng, v_told, v_smth, v_lowr, toldR_ok, x_asg, x_new, x_frz, x_app, x_oset, x_if, x_ret, x_raise, x_exp, x_par, xs_nil, xs_cons, bnd_ok, bnd_er, ob_ok, ob_er, opt_so, tst_b, tst_er, evs, evAnd, evOr, evIf, evo, itv, bindT, setL, wipeE, pnv, putP, endP, endM, isi_ii, isi_bi, isi_bb, isi_tt, bi_tl, bi_ll, bi_lt, hl0]) (by simp [v_cst, v_glob, v_var, v_neg, v_bin, v_cmp, v_chain, v_and, v_or, v_not, v_ife, v_ix, v_oix, v_slc, v_tup, v_lst, v_call, v_callD, v_bi, v_isi, v_lenset, v_sset, v_mth, v_trng, v_told, v_smth, v_lowr, toldR_ok, x_asg, x_new, x_frz, x_app, x_oset, x_if, x_ret, x_raise, x_exp, x_par, xs_nil, xs_cons, bnd_ok, bnd_er, ob_ok, ob_er, opt_so, tst_b, tst_er, evs, evAnd, evOr, evIf, evo, itv, bindT, setL, wipeE, pnv, putP, endP, endM, isi_ii, isi_bi, isi_bb, isi_tt, bi_tl, bi_ll, bi_lt, hl0]) (W.nx hfor (W.frz (j := 1) (xs := O) rfl rfl (by decide) (W.yes (m1 := [none, none, some BB]) ?_ (W.raise rfl)))))
        simp [v_cst, v_glob, v_var, v_neg, v_bin, v_cmp, v_chain, v_and, v_or, v_not, v_ife, v_ix, v_oix, v_slc, v_tup, v_lst, v_call, v_callD, v_bi, v_isi, v_lenset, v_sset, v_mth, v_trng, v_told, v_smth, v_lowr, toldR_ok, x_asg, x_new, x_frz, x_app, x_oset, x_if, x_ret, x_raise, x_exp, x_par, xs_nil, xs_cons, bnd_ok, bnd_er, ob_ok, ob_er, opt_so, tst_b, tst_er, evs, evAnd, evOr, evIf, evo, itv, bindT, setL, wipeE, pnv, putP, endP, endM, isi_ii, isi_bi, isi_bb, isi_tt, bi_tl, bi_ll, bi_lt, thaw_eq, thaw_o, thaw_v, hio]
      · rw [hS] at hio
        show F_read [T t] = some (.ok (.tuple [.tuple ((ps.map (·.1)).map fun (t : Nat) => PyData.int (t : Int)), .tuple ((ps.map (·.2)).map PyData.bool)]))
        rw [hO, hBB]
        refine fnP_W rfl (W.par (x := .inr []) (y := .inr []) (m1 := [none]) (m2 := [none]) (by simp [v_cst, v_glob, v_var, v_neg, v_bin, v_cmp, v_chain, v_and, v_or, v_not, v_ife, v_ix, v_oix, v_slc, v_tup, v_lst, v_call, v_callD, v_bi, v_isi, v_lenset, v_sset, v_mth, v_trng, v_told, v_smth, v_lowr, toldR_ok, x_asg, x_new, x_frz, x_app, x_oset, x_if, x_ret, x_raise, x_exp, x_par, xs_nil, xs_cons, bnd_ok, bnd_er, ob_ok, ob_er, opt_so, tst_b, tst_er, evs, evAnd, evOr, evIf, evo, itv, bindT, setL, wipeE, pnv, putP, endP, endM, isi_ii, isi_bi, isi_bb, isi_tt, bi_tl, bi_ll, bi_lt, hl0]) (by simp [v_cst, v_glob, v_var, v_neg, v_bin, v_cmp, v_chain, v_and, v_or, v_not, v_ife, v_ix, v_oix, v_slc, v_tup, v_lst, v_call, v_callD, v_bi, v_isi, v_lenset, v_sset, v_mth, v_trng, v_told, v_smth, v_lowr, toldR_ok, x_asg, x_new, x_frz, x_app, x_oset, x_if, x_ret, x_raise, x_exp, x_par, xs_nil, xs_cons, bnd_ok, bnd_er, ob_ok, ob_er, opt_so, tst_b, tst_er, evs, evAnd, evOr, evIf, evo, itv, bindT, setL, wipeE, pnv, putP, endP, endM, isi_ii, isi_bi, isi_bb, isi_tt, bi_tl, bi_ll, bi_lt, hl0]) (W.nx hfor (W.frz (j := 1) (xs := O) rfl rfl (by decide) (W.no (m1 := [none, none, some BB]) ?_ (W.frz (j := 2) (xs := BB) rfl rfl (by decide) (W.ret (m1 := [none, none, none]) (d := .tuple [.tuple O, .tuple BB]) ?_ rfl))))))
        · simp [v_cst, v_glob, v_var, v_neg, v_bin, v_cmp, v_chain, v_and, v_or, v_not, v_ife, v_ix, v_oix, v_slc, v_tup, v_lst, v_call, v_callD, v_bi, v_isi, v_lenset, v_sset, v_mth, v_trng, v_told, v_smth, v_lowr, toldR_ok, x_asg, x_new, x_frz, x_app, x_oset, x_if, x_ret, x_raise, x_exp, x_par, xs_nil, xs_cons, bnd_ok, bnd_er, ob_ok, ob_er, opt_so, tst_b, tst_er, evs, evAnd, evOr, evIf, evo, itv, bindT, setL, wipeE, pnv, putP, endP, endM, isi_ii, isi_bi, isi_bb, isi_tt, bi_tl, bi_ll, bi_lt, thaw_eq, thaw_o, thaw_v, hio]
        · simp [v_cst, v_glob, v_var, v_neg, v_bin, v_cmp, v_chain, v_and, v_or, v_not, v_ife, v_ix, v_oix, v_slc, v_tup, v_lst, v_call, v_callD, v_bi, v_isi, v_lenset, v_sset, v_mth, v_trng, v_told, v_smth, v_lowr, toldR_ok, x_asg, x_new, x_frz, x_app, x_oset, x_if, x_ret, x_raise, x_exp, x_par, xs_nil, xs_cons, bnd_ok, bnd_er, ob_ok, ob_er, opt_so, tst_b, tst_er, evs, evAnd, evOr, evIf, evo, itv, bindT, setL, wipeE, pnv, putP, endP, endM, isi_ii, isi_bi, isi_bb, isi_tt, bi_tl, bi_ll, bi_lt, thaw_eq, thaw_o, thaw_v, hl2]
  simp only [F_parse_run, fnP, ir_parse_run]
  cases hq : pR t with
  | none =>
    rw [hq] at hread
    simp [v_cst, v_glob, v_var, v_neg, v_bin, v_cmp, v_chain, v_and, v_or, v_not, v_ife, v_ix, v_oix, v_slc, v_tup, v_lst, v_call, v_callD, v_bi, v_isi, v_lenset, v_sset, v_mth, v_trng, v_told, v_smth, v_lowr, toldR_ok, x_asg, x_new, x_frz, x_app, x_oset, x_if, x_ret, x_raise, x_exp, x_par, xs_nil, xs_cons, bnd_ok, bnd_er, ob_ok, ob_er, opt_so, tst_b, tst_er, evs, evAnd, evOr, evIf, evo, itv, bindT, setL, wipeE, pnv, putP, endP, endM, isi_ii, isi_bi, isi_bb, isi_tt, bi_tl, bi_ll, bi_lt, hct, hread]
  | some ps =>
    rw [hq] at hread
    simp [v_cst, v_glob, v_var, v_neg, v_bin, v_cmp, v_chain, v_and, v_or, v_not, v_ife, v_ix, v_oix, v_slc, v_tup, v_lst, v_call, v_callD, v_bi, v_isi, v_lenset, v_sset, v_mth, v_trng, v_told, v_smth, v_lowr, toldR_ok, x_asg, x_new, x_frz, x_app, x_oset, x_if, x_ret, x_raise, x_exp, x_par, xs_nil, xs_cons, bnd_ok, bnd_er, ob_ok, ob_er, opt_so, tst_b, tst_er, evs, evAnd, evOr, evIf, evo, itv, bindT, setL, wipeE, pnv, putP, endP, endM, isi_ii, isi_bi, isi_bb, isi_tt, bi_tl, bi_ll, bi_lt, hct, hread]
/-! rolled results -/
theorem compF_roll {f : D → Mu → Rr (Option D)} {mm : Int → Int → Mu} (h : ∀ d c k, ∃ (b : Bool) (c' k' : Int), f d (mm c k) = some (.ok (some (.bool b)), mm c' k')) : ∀ (ds : List D) (c k : Int), ∃ (bs : List Bool) (c' k' : Int), compF f ds (mm c k) = some (.ok (bs.map .bool), mm c' k') ∧ bs.length = ds.length
  | [], c, k => ⟨[], c, k, rfl, rfl⟩
  | d :: ds, c, k => by
    obtain ⟨b, c1, k1, e1⟩ := h d c k
    obtain ⟨bs, c2, k2, e2, hl⟩ := compF_roll h ds c1 k1
    exact ⟨b :: bs, c2, k2, by rw [compF, e1, bnd_ok, e2, bnd_ok]; rfl, by simp [hl]⟩
theorem v_rolls {env : En} {o : List Nat} {i j : Nat} {nm : Str} {rest : Mu} (h1 : env[1]? = some (some (.obj 0))) (hj : env[j]? = some (some (.val (eN o)))) (hi : i ≠ 1) (hol : o.length ≤ lim) (c k : Int) :
    ∃ (bs : List Bool) (c' k' : Int), ev (.bi .tuple [(.comp [(nm, i)] (.name i) (.seq (.var j)) (.cmp .eq (.callD "_law_roll" F_law_roll 1 [(.cst (.int 2))]) (.cst (.int 0))) [])]) env (some [.int c, .int k] :: rest) = some (.ok (eB bs), some [.int c', .int k'] :: rest) ∧ bs.length = o.length := by
  have hf : ∀ (d : D) (c k : Int), ∃ (b : Bool) (c' k' : Int), (fun (d : D) (m : Mu) => match bindT (.name i) d (wipeE env ([(nm, i)].map (·.2))) with
      | some env1 => bnd (evIf [] env1 m) fun b m => if b then bnd (ev (.cmp .eq (.callD "_law_roll" F_law_roll 1 [(.cst (.int 2))]) (.cst (.int 0))) env1 m) fun y m => some (.ok (some y), m) else some (.ok none, m)
      | none => none) d (some [.int c, .int k] :: rest) = some (.ok (some (.bool b)), some [.int c', .int k'] :: rest) := by
    intro d c k
    obtain ⟨r, c1, k1, e1, r0, r1⟩ := F_law_roll_ok c k (many := 2) (by decide) (by decide)
    refine ⟨decide (r = 0), c1, k1, ?_⟩
    have hq : (((wipeE env ([(nm, i)].map (·.2))).set i (some (.val d))))[1]? = some (some (.obj 0)) := by
      simp only [List.map_cons, List.map_nil, wipeE]
      rw [List.getElem?_set_ne hi, List.getElem?_set_ne hi]
      exact h1
    simp only [bindT]
    generalize (wipeE env ([(nm, i)].map (·.2))).set i (some (Sl.val d)) = env1 at hq
    simp only [evIf, bnd_ok, if_true, v_cmp, v_callD, hq, evs, v_cst, List.getElem?_cons_zero, e1, Option.map_some, List.set_cons_zero, cmpD, eq_ii, opt_so]
  have hf' : ∃ f : D → Mu → Rr (Option D), (fun (d : D) (m : Mu) => match bindT (.name i) d (wipeE env ([(nm, i)].map (·.2))) with
      | some env1 => bnd (evIf [] env1 m) fun b m => if b then bnd (ev (.cmp .eq (.callD "_law_roll" F_law_roll 1 [(.cst (.int 2))]) (.cst (.int 0))) env1 m) fun y m => some (.ok (some y), m) else some (.ok none, m)
      | none => none) = f := ⟨_, rfl⟩
  obtain ⟨f, ef⟩ := hf'
  rw [ef] at hf
  obtain ⟨bs, c', k', e, hbl⟩ := compF_roll (f := f) (mm := fun c k => some [.int c, .int k] :: rest) hf (o.map fun (t : Nat) => .int (t : Int)) c k
  rw [List.length_map] at hbl
  refine ⟨bs, c', k', ?_, hbl⟩
  have hc : ev (.comp [(nm, i)] (.name i) (.seq (.var j)) (.cmp .eq (.callD "_law_roll" F_law_roll 1 [(.cst (.int 2))]) (.cst (.int 0))) []) env (some [.int c, .int k] :: rest) = some (.ok (.list (bs.map .bool)), some [.int c', .int k'] :: rest) := by
    have hu : ∀ (own : List (Str × Nat)) (tg : Tg) (it : It) (elt : E) (ifs : List E) (env : En) (m : Mu), ev (.comp own tg it elt ifs) env m = bnd (itv it env m) fun ds m => noEx (bnd (compF (fun d m => match bindT tg d (wipeE env (own.map (·.2))) with
      | some env1 => bnd (evIf ifs env1 m) fun b m => if b then bnd (ev elt env1 m) fun y m => some (.ok (some y), m) else some (.ok none, m)
      | none => none) ds m) fun ys m => if ds.length ≤ lim then some (.ok (.list ys), m) else none) := by
      intro own tg it elt ifs env m
      first | (simp only [ev]; done) | (simp only [ev]; rfl)
    have hit : itv (.seq (.var j)) env (some [.int c, .int k] :: rest) = some (.ok (o.map fun (t : Nat) => .int (t : Int)), some [.int c, .int k] :: rest) := by
      simp only [itv, v_var, hj, bnd_ok, eN, seqD, opt_so]
    rw [hu, hit, bnd_ok, ef, e, bnd_ok, List.length_map, if_pos hol]
    rfl
  simp only [v_bi, evs, hc, bnd_ok, bi_tl, opt_so]
  rfl
/-! texts that are none -/
theorem nil_last : ∀ (t acc : List Nat), [] ∈ TL.spl [32] 0 acc (t ++ [32])
  | [], acc => by
    rw [List.nil_append, spl_cons, if_pos rfl, TL.spl_nil]
    simp
  | c :: r, acc => by
    rw [List.cons_append, spl_cons]
    split
    · exact List.mem_cons_of_mem _ (nil_last r [])
    · exact nil_last r _
theorem nil_first (t : List Nat) : [] ∈ TL.spl [32] 0 [] (32 :: t) := by
  rw [spl_cons, if_pos rfl]
  exact List.mem_cons_self
theorem spl_snoc {c : Nat} (hc : c ≠ 32) : ∀ (t acc : List Nat), ∃ init last, TL.spl [32] 0 acc t = init ++ [last] ∧ TL.spl [32] 0 acc (t ++ [c]) = init ++ [last ++ [c]]
  | [], acc => ⟨[], acc, by rw [TL.spl_nil]; rfl, by rw [List.nil_append, spl_cons, if_neg hc, TL.spl_nil]; rfl⟩
  | d :: r, acc => by
    rw [List.cons_append, spl_cons, spl_cons]
    split
    · obtain ⟨init, last, h1, h2⟩ := spl_snoc hc r []
      exact ⟨acc :: init, last, by rw [h1]; rfl, by rw [h2]; rfl⟩
    · exact spl_snoc hc r _
theorem spl_head {c : Nat} : ∀ (t acc : List Nat), ∃ w l, TL.spl [32] 0 (c :: acc) t = (c :: w) :: l
  | [], acc => ⟨acc, [], by rw [TL.spl_nil]⟩
  | d :: r, acc => by
    rw [spl_cons]
    split
    · exact ⟨acc, _, rfl⟩
    · exact spl_head r (acc ++ [d])
theorem pS_none {t w : List Nat} (hw : w ∈ TL.spl [32] 0 [] t) (h : rowOf w = none) : pS t = none := by
  unfold pS
  rw [rowsOf_none hw h]; rfl
theorem pR_none {t w : List Nat} (ht : t ≠ []) (hw : w ∈ TL.spl [32] 0 [] t) (h : wordOf w = none) : pR t = none := by
  unfold pR words
  rw [if_neg ht, wordsOf_none hw h]; rfl
def pageC (s : List Row) : List Nat := TL.joinL [32] (s.map rowC)
theorem spl_page {s : List Row} (h : s ≠ []) : TL.spl [32] 0 [] (pageC s) = s.map rowC := by
  refine TL.spl_join (S := []) (by simpa using h) fun p hp => ?_
  obtain ⟨r, _, rfl⟩ := List.mem_map.1 hp
  exact fun z => (rowC_lt r 32 z).2 rfl
theorem join_lt {P : Nat → Prop} (h32 : P 32) : ∀ {ls : List (List Nat)}, (∀ l ∈ ls, ∀ c ∈ l, P c) → ∀ c ∈ TL.joinL [32] ls, P c
  | [], _, c, hc => by simp [TL.joinL] at hc
  | [x], h, c, hc => h x List.mem_cons_self c hc
  | x :: y :: ls, h, c, hc => by
    have e : TL.joinL [32] (x :: y :: ls) = x ++ ([32] ++ TL.joinL [32] (y :: ls)) := rfl
    rw [e] at hc
    rcases List.mem_append.1 hc with hc | hc
    · exact h x List.mem_cons_self c hc
    · rcases List.mem_append.1 hc with hc | hc
      · rw [List.mem_singleton.1 hc]; exact h32
      · exact join_lt h32 (fun l hl => h l (List.mem_cons_of_mem _ hl)) c hc
theorem page_lt (s : List Row) : ∀ c ∈ pageC s, c < 128 := join_lt (P := fun c => c < 128) (by decide) fun l hl c hc => by
  obtain ⟨r, _, rfl⟩ := List.mem_map.1 hl
  exact (rowC_lt r c hc).1
theorem pS_page {s : List Row} (h : VS s) : pS (pageC s) = some s := by
  have hne : s ≠ [] := fun z => by have := h.n1; rw [z] at this; simp at this
  unfold pS
  rw [spl_page hne, rowsOf_C (fun r hr => by
    obtain ⟨i, hi⟩ := List.getElem?_of_mem hr
    exact (h.ok i r hi).ok), Option.bind_some, if_pos (isS_VS h)]
theorem pS_plus {s : List Row} (h : VS s) : pS (pageC s ++ [43]) = none := by
  have hn1 := h.n1
  have hne : s ≠ [] := fun z => by rw [z] at hn1; simp at hn1
  obtain ⟨s0, r, hs⟩ : ∃ s0 r, s = s0 ++ [r] := by
    rcases List.eq_nil_or_concat s with z | ⟨s0, r, z⟩
    · exact absurd z hne
    · exact ⟨s0, r, by rw [z, List.concat_eq_append]⟩
  obtain ⟨init, last, h1, h2⟩ := spl_snoc (c := 43) (by decide) (pageC s) []
  rw [spl_page hne, hs, List.map_append, List.map_singleton] at h1
  obtain ⟨e1, e2⟩ := List.append_inj' h1 rfl
  have e2 : rowC r = last := by injection e2
  have hs' : TL.spl [32] 0 [] (pageC s ++ [43]) = (s0 ++ [(r.1, r.2 ++ [1])]).map rowC := by
    rw [h2, ← e1, ← e2, List.map_append, List.map_singleton]
    congr 2
    unfold rowC
    simp [sg]
  have hok : ∀ x ∈ s0 ++ [(r.1, r.2 ++ [1])], ∀ e ∈ x.2, -1 ≤ e ∧ e ≤ 1 := by
    have all : ∀ x ∈ s, ∀ e ∈ x.2, -1 ≤ e ∧ e ≤ 1 := fun x hx => by
      obtain ⟨i, hi⟩ := List.getElem?_of_mem hx
      exact (h.ok i x hi).ok
    intro x hx e he
    rcases List.mem_append.1 hx with hx | hx
    · exact all x (by rw [hs]; simp [hx]) e he
    · rw [List.mem_singleton.1 hx] at he
      rcases List.mem_append.1 he with he | he
      · exact all r (by rw [hs]; simp) e he
      · rw [List.mem_singleton.1 he]; decide
  unfold pS
  rw [hs', rowsOf_C hok, Option.bind_some, if_neg]
  intro z
  unfold isS at z
  simp only [Bool.and_eq_true] at z
  have hr : s[s0.length]? = some r := by rw [hs]; simp
  have hlen := (h.ok _ _ hr).len
  have := List.all_eq_true.1 z.2 ((r.1, r.2 ++ [1]), s0.length) (List.mem_zipIdx_iff_getElem?.2 (by simp))
  unfold isR at this
  simp only [Bool.and_eq_true, decide_eq_true_eq, List.length_append, List.length_singleton] at this
  rw [hs] at hlen
  simp only [List.length_append, List.length_singleton] at hlen
  omega
theorem ps_no {d : D} (h : isiD .str d = false) : F_parse_suite [d] = some (.error "BadText") := by
  have : F_check_text [d] = some (.error "BadText") := by
    simp only [F_check_text, fnP, ir_check_text]
    simp [v_cst, v_glob, v_var, v_neg, v_bin, v_cmp, v_chain, v_and, v_or, v_not, v_ife, v_ix, v_oix, v_slc, v_tup, v_lst, v_call, v_callD, v_bi, v_isi, v_lenset, v_sset, v_mth, v_trng, v_told, v_smth, v_lowr, toldR_ok, x_asg, x_new, x_frz, x_app, x_oset, x_if, x_ret, x_raise, x_exp, x_par, xs_nil, xs_cons, bnd_ok, bnd_er, ob_ok, ob_er, opt_so, tst_b, tst_er, evs, evAnd, evOr, evIf, evo, itv, bindT, setL, wipeE, pnv, putP, endP, endM, isi_ii, isi_bi, isi_bb, isi_tt, bi_tl, bi_ll, bi_lt, h]
  exact fnP_W rfl (W.expX (m1 := [none]) (by simp [v_cst, v_glob, v_var, v_neg, v_bin, v_cmp, v_chain, v_and, v_or, v_not, v_ife, v_ix, v_oix, v_slc, v_tup, v_lst, v_call, v_callD, v_bi, v_isi, v_lenset, v_sset, v_mth, v_trng, v_told, v_smth, v_lowr, toldR_ok, x_asg, x_new, x_frz, x_app, x_oset, x_if, x_ret, x_raise, x_exp, x_par, xs_nil, xs_cons, bnd_ok, bnd_er, ob_ok, ob_er, opt_so, tst_b, tst_er, evs, evAnd, evOr, evIf, evo, itv, bindT, setL, wipeE, pnv, putP, endP, endM, isi_ii, isi_bi, isi_bb, isi_tt, bi_tl, bi_ll, bi_lt, this]) rfl)
theorem pr_no {d : D} (h : isiD .str d = false) : F_parse_run [d] = some (.error "BadText") := by
  have : F_check_text [d] = some (.error "BadText") := by
    simp only [F_check_text, fnP, ir_check_text]
    simp [v_cst, v_glob, v_var, v_neg, v_bin, v_cmp, v_chain, v_and, v_or, v_not, v_ife, v_ix, v_oix, v_slc, v_tup, v_lst, v_call, v_callD, v_bi, v_isi, v_lenset, v_sset, v_mth, v_trng, v_told, v_smth, v_lowr, toldR_ok, x_asg, x_new, x_frz, x_app, x_oset, x_if, x_ret, x_raise, x_exp, x_par, xs_nil, xs_cons, bnd_ok, bnd_er, ob_ok, ob_er, opt_so, tst_b, tst_er, evs, evAnd, evOr, evIf, evo, itv, bindT, setL, wipeE, pnv, putP, endP, endM, isi_ii, isi_bi, isi_bb, isi_tt, bi_tl, bi_ll, bi_lt, h]
  exact fnP_W rfl (W.expX (m1 := [none]) (by simp [v_cst, v_glob, v_var, v_neg, v_bin, v_cmp, v_chain, v_and, v_or, v_not, v_ife, v_ix, v_oix, v_slc, v_tup, v_lst, v_call, v_callD, v_bi, v_isi, v_lenset, v_sset, v_mth, v_trng, v_told, v_smth, v_lowr, toldR_ok, x_asg, x_new, x_frz, x_app, x_oset, x_if, x_ret, x_raise, x_exp, x_par, xs_nil, xs_cons, bnd_ok, bnd_er, ob_ok, ob_er, opt_so, tst_b, tst_er, evs, evAnd, evOr, evIf, evo, itv, bindT, setL, wipeE, pnv, putP, endP, endM, isi_ii, isi_bi, isi_bb, isi_tt, bi_tl, bi_ll, bi_lt, this]) rfl)
theorem ps_none {t : List Nat} (hl : t.length ≤ 1000) (h : pS t = none) : F_parse_suite [T t] = some (.error "BadText") := by
  have := F_parse_suite_ok hl
  rw [h] at this
  exact this
theorem pr_none {t : List Nat} (hl : t.length ≤ 900) (hch : ∀ c ∈ t, c < 1114112) (h : pR t = none) : F_parse_run [T t] = some (.error "BadText") := by
  have := F_parse_run_ok hl hch
  rw [h] at this
  exact this
theorem far_ok {s : List Row} (h : VS s) (hP : (pageC s).length ≤ 100) {t : List Nat} (hT : t.length ≤ 100) (htc : ∀ c ∈ t, c < 128) : F_law_far_texts [T (pageC s), T t] = some (.ok (.bool true)) := by
  have hl1 : (1 : Nat) ≤ lim := by decide
  have hl2 : (2 : Nat) ≤ lim := by decide
  have hl3 : (3 : Nat) ≤ lim := by decide
  have hl12 : (12 : Nat) ≤ lim := by decide
  have hl0 : (0 : Nat) ≤ lim := by decide
  have hpc := page_lt s
  generalize hpg : pageC s = page at hP hpc
  have q1 : binD .add (T page) (.str " ") = some (T (page ++ [32])) := add_TT page [32] (by unfold lim; simp; omega)
  have q2 : binD .add (.str " ") (T page) = some (T (32 :: page)) := add_TT [32] page (by unfold lim; simp; omega)
  have q3 : binD .add (T page) (.str "+") = some (T (page ++ [43])) := add_TT page [43] (by unfold lim; simp; omega)
  have q4 : Txt.lower (SX.S page) = SX.S (page.map PyProof.Rows.lo1) := SX.lower_S (List.all_eq_true.2 fun c hc => by simpa using hpc c hc)
  have q5 : binD .add (T t) (.str " ") = some (T (t ++ [32])) := add_TT t [32] (by unfold lim; simp; omega)
  have q6 : binD .add (.str " ") (T t) = some (T (32 :: t)) := add_TT [32] t (by unfold lim; simp; omega)
  have hlow : (SX.S page).length ≤ lim := by rw [SX.S_len]; unfold lim; omega
  obtain ⟨A1, hA1⟩ : ∃ A1 : List D, A1 = [.none, .int 5, .bool true, T [], T [32], T (page ++ [32]), T (32 :: page), T (page ++ [43]), T [80], T [80, 43], T [70, 45], T [112, 46]] := ⟨_, rfl⟩
  obtain ⟨A2, hA2⟩ : ∃ A2 : List D, A2 = [T [80, 46, 32, 32, 80, 46], T (page.map PyProof.Rows.lo1), .list [T page]] := ⟨_, rfl⟩
  have bad1 : ∀ d ∈ A1 ++ A2, F_parse_suite [d] = some (.error "BadText") := by
    intro d hd
    rw [hA1, hA2] at hd
    simp only [List.cons_append, List.nil_append, List.mem_cons, List.not_mem_nil, or_false] at hd
    rcases hd with rfl | rfl | rfl | rfl | rfl | rfl | rfl | rfl | rfl | rfl | rfl | rfl | rfl | rfl | rfl
    · exact ps_no rfl
    · exact ps_no rfl
    · exact ps_no rfl
    · exact ps_none (by decide) (by decide +kernel)
    · exact ps_none (by decide) (by decide +kernel)
    · exact ps_none (by simp; omega) (pS_none (nil_last page []) rfl)
    · exact ps_none (by simp; omega) (pS_none (nil_first page) rfl)
    · rw [← hpg]
      exact ps_none (by rw [hpg]; simp; omega) (pS_plus h)
    · exact ps_none (by decide) (by decide +kernel)
    · exact ps_none (by decide) (by decide +kernel)
    · exact ps_none (by decide) (by decide +kernel)
    · exact ps_none (by decide) (by decide +kernel)
    · exact ps_none (by decide) (by decide +kernel)
    · refine ps_none (by rw [List.length_map]; omega) ?_
      obtain ⟨c, r, e, hc⟩ : ∃ c r, page = c :: r ∧ (c = 80 ∨ c = 70) := by
        have hn1 := h.n1
        cases s with
        | nil => simp at hn1
        | cons x s =>
          have : ∃ r, pageC (x :: s) = (if x.1 then 80 else 70) :: r := by
            unfold pageC
            cases s with
            | nil => exact ⟨_, rfl⟩
            | cons y s => exact ⟨_, rfl⟩
          obtain ⟨r, e⟩ := this
          rw [hpg] at e
          exact ⟨_, r, e, by cases x.1 <;> simp⟩
      rw [e, List.map_cons]
      have hl : PyProof.Rows.lo1 c = 112 ∨ PyProof.Rows.lo1 c = 102 := by
        rcases hc with rfl | rfl
        · left; decide +kernel
        · right; decide +kernel
      rcases hl with e | e
      · rw [e]
        obtain ⟨w, l, hw⟩ := spl_head (c := 112) (r.map PyProof.Rows.lo1) []
        refine pS_none (w := 112 :: w) (by rw [spl_cons, if_neg (by decide), List.nil_append, hw]; exact List.mem_cons_self) rfl
      · rw [e]
        obtain ⟨w, l, hw⟩ := spl_head (c := 102) (r.map PyProof.Rows.lo1) []
        refine pS_none (w := 102 :: w) (by rw [spl_cons, if_neg (by decide), List.nil_append, hw]; exact List.mem_cons_self) rfl
    · exact ps_no rfl
  obtain ⟨B1, hB1⟩ : ∃ B1 : List D, B1 = [.none, .int 5, .bool true, T [32], T (t ++ [32]), T (32 :: t), T [48], T [43], T [55, 43], T [48, 43, 32, 48, 45], T [48, 46], T [48, 48, 43]] := ⟨_, rfl⟩
  obtain ⟨B2, hB2⟩ : ∃ B2 : List D, B2 = [T [48, 43, 32, 32, 49, 43], .list [T t]] := ⟨_, rfl⟩
  have bad2 : ∀ d ∈ B1 ++ B2, F_parse_run [d] = some (.error "BadText") := by
    intro d hd
    rw [hB1, hB2] at hd
    simp only [List.cons_append, List.nil_append, List.mem_cons, List.not_mem_nil, or_false] at hd
    rcases hd with rfl | rfl | rfl | rfl | rfl | rfl | rfl | rfl | rfl | rfl | rfl | rfl | rfl | rfl
    · exact pr_no rfl
    · exact pr_no rfl
    · exact pr_no rfl
    · exact pr_none (by decide) (by decide) (by decide +kernel)
    · exact pr_none (by simp; omega) (fun c hc => by
        rcases List.mem_append.1 hc with hc | hc
        · have := htc c hc; omega
        · rw [List.mem_singleton.1 hc]; decide) (pR_none (by simp) (nil_last t []) rfl)
    · exact pr_none (by simp; omega) (fun c hc => by
        rcases List.mem_cons.1 hc with rfl | hc
        · decide
        · have := htc c hc; omega) (pR_none (by simp) (nil_first t) rfl)
    · exact pr_none (by decide) (by decide) (by decide +kernel)
    · exact pr_none (by decide) (by decide) (by decide +kernel)
    · exact pr_none (by decide) (by decide) (by decide +kernel)
    · exact pr_none (by decide) (by decide) (by decide +kernel)
    · exact pr_none (by decide) (by decide) (by decide +kernel)
    · exact pr_none (by decide) (by decide) (by decide +kernel)
    · exact pr_none (by decide) (by decide) (by decide +kernel)
    · exact pr_no rfl
  have hA1l : A1.length = 12 := by rw [hA1]; rfl
  have hA2l : A2.length = 3 := by rw [hA2]; rfl
  have hB1l : B1.length = 12 := by rw [hB1]; rfl
  have hB2l : B2.length = 2 := by rw [hB2]; rfl
  refine fnP_W rfl (W.asg (d := .list A1) (m1 := [none]) (by rw [hA1]; simp [v_cst, v_glob, v_var, v_neg, v_bin, v_cmp, v_chain, v_and, v_or, v_not, v_ife, v_ix, v_oix, v_slc, v_tup, v_lst, v_call, v_callD, v_bi, v_isi, v_lenset, v_sset, v_mth, v_trng, v_told, v_smth, v_lowr, toldR_ok, x_asg, x_new, x_frz, x_app, x_oset, x_if, x_ret, x_raise, x_exp, x_par, xs_nil, xs_cons, bnd_ok, bnd_er, ob_ok, ob_er, opt_so, tst_b, tst_er, evs, evAnd, evOr, evIf, evo, itv, bindT, setL, wipeE, pnv, putP, endP, endM, isi_ii, isi_bi, isi_bb, isi_tt, bi_tl, bi_ll, bi_lt, q1, q2, q3, hl12]; exact ⟨rfl, rfl, rfl, rfl, rfl, rfl⟩) (W.asg (d := .list (A1 ++ A2)) (m1 := [none]) ?_ ?_))
  · refine v_bin_ok (x := .list A1) (y := .list A2) (by simp [v_cst, v_glob, v_var, v_neg, v_bin, v_cmp, v_chain, v_and, v_or, v_not, v_ife, v_ix, v_oix, v_slc, v_tup, v_lst, v_call, v_callD, v_bi, v_isi, v_lenset, v_sset, v_mth, v_trng, v_told, v_smth, v_lowr, toldR_ok, x_asg, x_new, x_frz, x_app, x_oset, x_if, x_ret, x_raise, x_exp, x_par, xs_nil, xs_cons, bnd_ok, bnd_er, ob_ok, ob_er, opt_so, tst_b, tst_er, evs, evAnd, evOr, evIf, evo, itv, bindT, setL, wipeE, pnv, putP, endP, endM, isi_ii, isi_bi, isi_bb, isi_tt, bi_tl, bi_ll, bi_lt]) (by rw [hA2]; simp [v_cst, v_glob, v_var, v_neg, v_bin, v_cmp, v_chain, v_and, v_or, v_not, v_ife, v_ix, v_oix, v_slc, v_tup, v_lst, v_call, v_callD, v_bi, v_isi, v_lenset, v_sset, v_mth, v_trng, v_told, v_smth, v_lowr, toldR_ok, x_asg, x_new, x_frz, x_app, x_oset, x_if, x_ret, x_raise, x_exp, x_par, xs_nil, xs_cons, bnd_ok, bnd_er, ob_ok, ob_er, opt_so, tst_b, tst_er, evs, evAnd, evOr, evIf, evo, itv, bindT, setL, wipeE, pnv, putP, endP, endM, isi_ii, isi_bi, isi_bb, isi_tt, bi_tl, bi_ll, bi_lt, hlow, q4, hl1, hl3]; rfl) (add_LL _ _ (by unfold lim; omega))
  refine W.forF (m1 := [none]) (A1 ++ A2) id (fun (u : Unit) _ => u) () (fun _ env m => ∃ x3, m = [none] ∧ env = [some (Sl.val (T page)), some (.val (T t)), some (.val (.list (A1 ++ A2))), x3]) (by simp [v_cst, v_glob, v_var, v_neg, v_bin, v_cmp, v_chain, v_and, v_or, v_not, v_ife, v_ix, v_oix, v_slc, v_tup, v_lst, v_call, v_callD, v_bi, v_isi, v_lenset, v_sset, v_mth, v_trng, v_told, v_smth, v_lowr, toldR_ok, x_asg, x_new, x_frz, x_app, x_oset, x_if, x_ret, x_raise, x_exp, x_par, xs_nil, xs_cons, bnd_ok, bnd_er, ob_ok, ob_er, opt_so, tst_b, tst_er, evs, evAnd, evOr, evIf, evo, itv, bindT, setL, wipeE, pnv, putP, endP, endM, isi_ii, isi_bi, isi_bb, isi_tt, bi_tl, bi_ll, bi_lt, seqD]) ⟨none, rfl, rfl⟩ ?_ ?_
  · rintro _ d env m hd ⟨x3, rfl, rfl⟩
    refine ⟨_, rfl, W.no (m1 := [none]) (told_no ?_ (by decide +kernel)) (W.nil ⟨_, rfl, rfl⟩)⟩
    simp [v_cst, v_glob, v_var, v_neg, v_bin, v_cmp, v_chain, v_and, v_or, v_not, v_ife, v_ix, v_oix, v_slc, v_tup, v_lst, v_call, v_callD, v_bi, v_isi, v_lenset, v_sset, v_mth, v_trng, v_told, v_smth, v_lowr, toldR_ok, x_asg, x_new, x_frz, x_app, x_oset, x_if, x_ret, x_raise, x_exp, x_par, xs_nil, xs_cons, bnd_ok, bnd_er, ob_ok, ob_er, opt_so, tst_b, tst_er, evs, evAnd, evOr, evIf, evo, itv, bindT, setL, wipeE, pnv, putP, endP, endM, isi_ii, isi_bi, isi_bb, isi_tt, bi_tl, bi_ll, bi_lt, bad1 d hd]
  · rintro env m ⟨x3, rfl, rfl⟩
    refine W.asg (d := .list B1) (m1 := [none]) (by rw [hB1]; simp [v_cst, v_glob, v_var, v_neg, v_bin, v_cmp, v_chain, v_and, v_or, v_not, v_ife, v_ix, v_oix, v_slc, v_tup, v_lst, v_call, v_callD, v_bi, v_isi, v_lenset, v_sset, v_mth, v_trng, v_told, v_smth, v_lowr, toldR_ok, x_asg, x_new, x_frz, x_app, x_oset, x_if, x_ret, x_raise, x_exp, x_par, xs_nil, xs_cons, bnd_ok, bnd_er, ob_ok, ob_er, opt_so, tst_b, tst_er, evs, evAnd, evOr, evIf, evo, itv, bindT, setL, wipeE, pnv, putP, endP, endM, isi_ii, isi_bi, isi_bb, isi_tt, bi_tl, bi_ll, bi_lt, q5, q6, hl12]; exact ⟨rfl, rfl, rfl, rfl, rfl, rfl, rfl⟩) (W.asg (d := .list (B1 ++ B2)) (m1 := [none]) ?_ ?_)
    · refine v_bin_ok (x := .list B1) (y := .list B2) (by simp [v_cst, v_glob, v_var, v_neg, v_bin, v_cmp, v_chain, v_and, v_or, v_not, v_ife, v_ix, v_oix, v_slc, v_tup, v_lst, v_call, v_callD, v_bi, v_isi, v_lenset, v_sset, v_mth, v_trng, v_told, v_smth, v_lowr, toldR_ok, x_asg, x_new, x_frz, x_app, x_oset, x_if, x_ret, x_raise, x_exp, x_par, xs_nil, xs_cons, bnd_ok, bnd_er, ob_ok, ob_er, opt_so, tst_b, tst_er, evs, evAnd, evOr, evIf, evo, itv, bindT, setL, wipeE, pnv, putP, endP, endM, isi_ii, isi_bi, isi_bb, isi_tt, bi_tl, bi_ll, bi_lt]) (by rw [hB2]; simp [v_cst, v_glob, v_var, v_neg, v_bin, v_cmp, v_chain, v_and, v_or, v_not, v_ife, v_ix, v_oix, v_slc, v_tup, v_lst, v_call, v_callD, v_bi, v_isi, v_lenset, v_sset, v_mth, v_trng, v_told, v_smth, v_lowr, toldR_ok, x_asg, x_new, x_frz, x_app, x_oset, x_if, x_ret, x_raise, x_exp, x_par, xs_nil, xs_cons, bnd_ok, bnd_er, ob_ok, ob_er, opt_so, tst_b, tst_er, evs, evAnd, evOr, evIf, evo, itv, bindT, setL, wipeE, pnv, putP, endP, endM, isi_ii, isi_bi, isi_bb, isi_tt, bi_tl, bi_ll, bi_lt, hl1, hl2]; rfl) (add_LL _ _ (by unfold lim; omega))
    refine W.forF (m1 := [none]) (B1 ++ B2) id (fun (u : Unit) _ => u) () (fun _ env m => ∃ x3, m = [none] ∧ env = [some (Sl.val (T page)), some (.val (T t)), some (.val (.list (B1 ++ B2))), x3]) (by simp [v_cst, v_glob, v_var, v_neg, v_bin, v_cmp, v_chain, v_and, v_or, v_not, v_ife, v_ix, v_oix, v_slc, v_tup, v_lst, v_call, v_callD, v_bi, v_isi, v_lenset, v_sset, v_mth, v_trng, v_told, v_smth, v_lowr, toldR_ok, x_asg, x_new, x_frz, x_app, x_oset, x_if, x_ret, x_raise, x_exp, x_par, xs_nil, xs_cons, bnd_ok, bnd_er, ob_ok, ob_er, opt_so, tst_b, tst_er, evs, evAnd, evOr, evIf, evo, itv, bindT, setL, wipeE, pnv, putP, endP, endM, isi_ii, isi_bi, isi_bb, isi_tt, bi_tl, bi_ll, bi_lt, seqD]) ⟨_, rfl, rfl⟩ ?_ ?_
    · rintro _ d env m hd ⟨x3, rfl, rfl⟩
      refine ⟨_, rfl, W.no (m1 := [none]) (told_no ?_ (by decide +kernel)) (W.nil ⟨_, rfl, rfl⟩)⟩
      simp [v_cst, v_glob, v_var, v_neg, v_bin, v_cmp, v_chain, v_and, v_or, v_not, v_ife, v_ix, v_oix, v_slc, v_tup, v_lst, v_call, v_callD, v_bi, v_isi, v_lenset, v_sset, v_mth, v_trng, v_told, v_smth, v_lowr, toldR_ok, x_asg, x_new, x_frz, x_app, x_oset, x_if, x_ret, x_raise, x_exp, x_par, xs_nil, xs_cons, bnd_ok, bnd_er, ob_ok, ob_er, opt_so, tst_b, tst_er, evs, evAnd, evOr, evIf, evo, itv, bindT, setL, wipeE, pnv, putP, endP, endM, isi_ii, isi_bi, isi_bb, isi_tt, bi_tl, bi_ll, bi_lt, bad2 d hd]
    · rintro env m ⟨x3, rfl, rfl⟩
      have e1 : F_parse_run [.str ""] = some (.ok (.tuple [.tuple [], .tuple []])) := F_parse_run_ok (t := []) (by decide) (by simp)
      have e2 : F_parse_suite [.str "F."] = some (.ok (.tuple [.tuple [.bool false, .tuple [.int 0]]])) := by
        have := F_parse_suite_ok (t := [70, 46]) (by decide)
        have hp : pS [70, 46] = some [(false, [0])] := by decide +kernel
        rw [hp] at this
        exact this
      have e3 : eqD (.tuple [.tuple [], .tuple []]) (.tuple [.tuple [], .tuple []]) = some true := by decide +kernel
      have e4 : eqD (.tuple [.tuple [.bool false, .tuple [.int 0]]]) (.tuple [.tuple [.bool false, .tuple [.int 0]]]) = some true := by decide +kernel
      exact W.ret (d := .bool true) (m1 := [none]) (by simp [v_cst, v_glob, v_var, v_neg, v_bin, v_cmp, v_chain, v_and, v_or, v_not, v_ife, v_ix, v_oix, v_slc, v_tup, v_lst, v_call, v_callD, v_bi, v_isi, v_lenset, v_sset, v_mth, v_trng, v_told, v_smth, v_lowr, toldR_ok, x_asg, x_new, x_frz, x_app, x_oset, x_if, x_ret, x_raise, x_exp, x_par, xs_nil, xs_cons, bnd_ok, bnd_er, ob_ok, ob_er, opt_so, tst_b, tst_er, evs, evAnd, evOr, evIf, evo, itv, bindT, setL, wipeE, pnv, putP, endP, endM, isi_ii, isi_bi, isi_bb, isi_tt, bi_tl, bi_ll, bi_lt, e1, e2, e3, e4, cmpD, hl0, hl1, hl2]) rfl
end TO

set_option Elab.async false
set_option linter.all false
set_option maxRecDepth 100000
set_option maxHeartbeats 8000000
set_option exponentiation.threshold 3000
namespace TO
open PySem L2
/-! the law -/
theorem v_page {env : En} {m : Mu} {s : List Row} (h3 : env[3]? = some (some (.val (eS s)))) (hl : env.length = 16) (hs : s.length ≤ 100) (hr : ∀ r ∈ s, (∀ e ∈ r.2, -1 ≤ e ∧ e ≤ 1) ∧ r.2.length ≤ 100) :
    ev (.smth .join (.cst (.str " ")) (.comp [("row", 13)] (.name 13) (.seq (.var 3)) (.bin .add (.ife (.ix (.var 13) (.cst (.int 0))) (.cst (.str "P")) (.cst (.str "F"))) (.smth .join (.cst (.str "")) (.comp [("effect", 15)] (.name 15) (.seq (.ix (.var 13) (.cst (.int 1)))) (.ix (.cst (.str "-.+")) (.bin .add (.var 15) (.cst (.int 1)))) []))) [])) env m = some (.ok (T (pageC s)), m) := by
  have hc : ev (.comp [("row", 13)] (.name 13) (.seq (.var 3)) (.bin .add (.ife (.ix (.var 13) (.cst (.int 0))) (.cst (.str "P")) (.cst (.str "F"))) (.smth .join (.cst (.str "")) (.comp [("effect", 15)] (.name 15) (.seq (.ix (.var 13) (.cst (.int 1)))) (.ix (.cst (.str "-.+")) (.bin .add (.var 15) (.cst (.int 1)))) []))) []) env m = some (.ok (.list ((s.map rowC).map T)), m) := by
    rw [List.map_map]
    refine v_compA s eR _ (by simp only [itv, v_var, h3, bnd_ok, sq_S, opt_so]) (by unfold lim; omega) fun r hm => ⟨(wipeE env [13]).set 13 (some (.val (eR r))), rfl, ?_⟩
    obtain ⟨h1, h2⟩ := hr r hm
    have e13 : ((wipeE env [13]).set 13 (some (.val (eR r))))[13]? = some (some (.val (eR r))) := by
      rw [List.getElem?_set_self (by simp [wipeE]; omega)]
    have hl1 : ((wipeE env [13]).set 13 (some (.val (eR r)))).length = 16 := by simp [wipeE, hl]
    generalize (wipeE env [13]).set 13 (some (Sl.val (eR r))) = env1 at e13 hl1 ⊢
    have hi : ev (.comp [("effect", 15)] (.name 15) (.seq (.ix (.var 13) (.cst (.int 1)))) (.ix (.cst (.str "-.+")) (.bin .add (.var 15) (.cst (.int 1)))) []) env1 m = some (.ok (.list ((r.2.map fun e => [sg e]).map T)), m) := by
      rw [List.map_map]
      refine v_compA r.2 .int _ (by simp only [itv, v_ix, v_var, e13, v_cst, bnd_ok, ix_R1, opt_so, sq_Z]) (by unfold lim; omega) fun e he => ⟨(wipeE env1 [15]).set 15 (some (.val (.int e))), rfl, ?_⟩
      have e15 : ((wipeE env1 [15]).set 15 (some (.val (.int e))))[15]? = some (some (.val (.int e))) := by
        rw [List.getElem?_set_self (by simp [wipeE]; omega)]
      have hx : ixD (.str "-.+") (.int (e + 1)) = some (T [sg e]) := by
        have := h1 e he
        have : e = -1 ∨ e = 0 ∨ e = 1 := by omega
        rcases this with rfl | rfl | rfl <;> rfl
      simp only [v_ix, v_cst, v_bin, v_var, e15, bnd_ok, binD, opt_so, hx, Function.comp]
    have hj := join_T (a := []) (ls := r.2.map fun e => [sg e]) (by
      rw [List.map_map]
      have : (r.2.map (List.length ∘ fun e => [sg e])).sum = r.2.length := by
        generalize r.2 = l
        induction l with
        | nil => rfl
        | cons x l ih => simp [ih]; omega
      rw [this]; simp; unfold lim; omega)
    rw [joinL_one] at hj
    refine v_bin_ok (x := T [if r.1 then 80 else 70]) (y := T (r.2.map sg)) ?_ (v_smth_ok (z := SX.S []) (v_cst ..) hi hj) ?_
    · cases hr : r.1
      · exact v_ifF (by simp only [v_ix, v_var, e13, v_cst, bnd_ok, ix_R0, hr, opt_so]) (v_cst ..)
      · exact v_ifT (by simp only [v_ix, v_var, e13, v_cst, bnd_ok, ix_R0, hr, opt_so]) (v_cst ..)
    · rw [add_TT _ _ (by simp; unfold lim; omega)]
      rfl
  refine v_smth_ok (z := SX.S [32]) (v_cst ..) hc (join_T ?_)
  have : ∀ l : List Row, (∀ r ∈ l, r.2.length ≤ 100) → ((l.map rowC).map List.length).sum ≤ l.length * 101 := by
    intro l hl
    induction l with
    | nil => simp
    | cons r l ih =>
      have h1 := hl r List.mem_cons_self
      have h2 := ih fun x hx => hl x (List.mem_cons_of_mem _ hx)
      simp only [List.map_cons, List.sum_cons, List.length_cons, rowC, List.length_map] at h2 ⊢
      omega
  have := this s fun r hm => (hr r hm).2
  simp only [List.length_map, List.length_singleton] at this ⊢
  unfold lim
  omega
theorem v_cmp_gt {i : Nat} {env : En} {m : Mu} {z : Int} {b : Bool} (h : env[i]? = some (some (.val (.int z)))) (hb : decide (0 < z) = b) : ev (.cmp .gt (.var i) (.cst (.int 0))) env m = some (.ok (.bool b), m) := by
  simp only [v_cmp, v_var, h, v_cst, bnd_ok, cmpD, Option.map_some, opt_so, hb]
theorem spoilt_ok (c k : Int) {t g : List Nat} (ht : t.length ≤ 200) (hg0 : g ≠ []) (hg : g.length ≤ 100) (hc : ∀ x ∈ t, x < 128) (hcg : ∀ x ∈ g, x < 128) : ∃ (u : List Nat) (c' k' : Int), F_law_spoilt [.int c, .int k] [T t, T g] = some (T u, [.int c', .int k']) ∧ u.length ≤ t.length + 1 ∧ ∀ x ∈ u, x < 128 := by
  have hgl : 0 < g.length := List.length_pos_iff.2 hg0
  obtain ⟨a, c1, k1, e1, a0, a1⟩ := F_law_roll_ok c k (many := (t.length : Int) + 1) (by omega) (by omega)
  obtain ⟨b, c2, k2, e2, b0, b1⟩ := F_law_roll_ok c1 k1 (many := 3) (by decide) (by decide)
  obtain ⟨A, rfl⟩ : ∃ A : Nat, a = A := ⟨a.toNat, by omega⟩
  obtain ⟨B, rfl⟩ : ∃ B : Nat, b = B := ⟨b.toNat, by omega⟩
  have hlt : t.length ≤ lim := by unfold lim; omega
  have hlg : g.length ≤ lim := by unfold lim; omega
  have l1 := len_T t hlt
  have l2 := len_T g hlg
  have s1 := slcT_take t A hlt
  -- the end, with any sign
  have fin : ∀ (sn : List Nat) (c3 k3 : Int), sn.length ≤ 1 → (∀ x ∈ sn, x < 128) → ∃ u : List Nat, W [.ret (.bin .add (.bin .add (.slc (.var 1) .no (.yes (.var 4))) (.var 3)) (.slc (.var 1) (.yes (.bin .add (.var 4) (.bi .int1 [(.cmp .gt (.var 5) (.cst (.int 0)))]))) .no))] [some (Sl.obj 0), some (.val (T t)), some (.val (T g)), some (.val (T sn)), some (.val (.int A)), some (.val (.int B))] [some [.int c3, .int k3]] (fun oc => endM (some oc) = some (T u, [.int c3, .int k3])) ∧ u.length ≤ t.length + 1 ∧ ∀ x ∈ u, x < 128 := by
    intro sn c3 k3 hsn hsc
    refine ⟨t.take A ++ sn ++ t.drop (A + if 0 < B then 1 else 0), W.ret (m1 := [some [.int c3, .int k3]]) (d := T (t.take A ++ sn ++ t.drop (A + if 0 < B then 1 else 0))) ?_ rfl, ?_, ?_⟩
    · have s2 := slcT_drop t (A + if 0 < B then 1 else 0) hlt
      refine v_bin_ok (x := T (t.take A ++ sn)) (y := T (t.drop (A + if 0 < B then 1 else 0))) (v_bin_ok (x := T (t.take A)) (y := T sn) (by simp [v_cst, v_glob, v_var, v_neg, v_bin, v_cmp, v_chain, v_and, v_or, v_not, v_ife, v_ix, v_oix, v_slc, v_tup, v_lst, v_call, v_callD, v_bi, v_isi, v_lenset, v_sset, v_mth, v_trng, v_told, v_smth, v_lowr, toldR_ok, x_asg, x_new, x_frz, x_app, x_oset, x_if, x_ret, x_raise, x_exp, x_par, xs_nil, xs_cons, bnd_ok, bnd_er, ob_ok, ob_er, opt_so, tst_b, tst_er, evs, evAnd, evOr, evIf, evo, itv, bindT, setL, wipeE, pnv, putP, endP, endM, isi_ii, isi_bi, isi_bb, isi_tt, bi_tl, bi_ll, bi_lt, s1]) (by simp [v_cst, v_glob, v_var, v_neg, v_bin, v_cmp, v_chain, v_and, v_or, v_not, v_ife, v_ix, v_oix, v_slc, v_tup, v_lst, v_call, v_callD, v_bi, v_isi, v_lenset, v_sset, v_mth, v_trng, v_told, v_smth, v_lowr, toldR_ok, x_asg, x_new, x_frz, x_app, x_oset, x_if, x_ret, x_raise, x_exp, x_par, xs_nil, xs_cons, bnd_ok, bnd_er, ob_ok, ob_er, opt_so, tst_b, tst_er, evs, evAnd, evOr, evIf, evo, itv, bindT, setL, wipeE, pnv, putP, endP, endM, isi_ii, isi_bi, isi_bb, isi_tt, bi_tl, bi_ll, bi_lt]) (add_TT _ _ (by simp; unfold lim; omega))) ?_ (add_TT _ _ (by simp; unfold lim; omega))
      have hidx : ev (.bin .add (.var 4) (.bi .int1 [(.cmp .gt (.var 5) (.cst (.int 0)))])) [some (Sl.obj 0), some (.val (T t)), some (.val (T g)), some (.val (T sn)), some (.val (.int A)), some (.val (.int B))] [some [.int c3, .int k3]] = some (.ok (.int ((A + (if 0 < B then 1 else 0) : Nat) : Int)), [some [.int c3, .int k3]]) := by
        have hcm : ev (.cmp .gt (.var 5) (.cst (.int 0))) [some (Sl.obj 0), some (.val (T t)), some (.val (T g)), some (.val (T sn)), some (.val (.int A)), some (.val (.int B))] [some [.int c3, .int k3]] = some (.ok (.bool (decide (0 < B))), [some [.int c3, .int k3]]) := by
          refine v_cmp_gt rfl ?_
          rw [Bool.eq_iff_iff, decide_eq_true_eq, decide_eq_true_eq]
          omega
        have hin : ev (.bi .int1 [(.cmp .gt (.var 5) (.cst (.int 0)))]) [some (Sl.obj 0), some (.val (T t)), some (.val (T g)), some (.val (T sn)), some (.val (.int A)), some (.val (.int B))] [some [.int c3, .int k3]] = some (.ok (.int (if decide (0 < B) = true then 1 else 0)), [some [.int c3, .int k3]]) := by
          simp only [v_bi, evs, hcm, bnd_ok, biD, opt_so]
        refine v_bin_ok (x := .int A) (y := .int (if decide (0 < B) = true then 1 else 0)) (by simp [v_cst, v_glob, v_var, v_neg, v_bin, v_cmp, v_chain, v_and, v_or, v_not, v_ife, v_ix, v_oix, v_slc, v_tup, v_lst, v_call, v_callD, v_bi, v_isi, v_lenset, v_sset, v_mth, v_trng, v_told, v_smth, v_lowr, toldR_ok, x_asg, x_new, x_frz, x_app, x_oset, x_if, x_ret, x_raise, x_exp, x_par, xs_nil, xs_cons, bnd_ok, bnd_er, ob_ok, ob_er, opt_so, tst_b, tst_er, evs, evAnd, evOr, evIf, evo, itv, bindT, setL, wipeE, pnv, putP, endP, endM, isi_ii, isi_bi, isi_bb, isi_tt, bi_tl, bi_ll, bi_lt]) hin ?_
        show some (PyData.int ((A : Int) + _)) = _
        congr 2
        by_cases hB : 0 < B
        · simp only [hB, decide_true, if_true]; omega
        · simp only [hB, decide_false, if_false]; simp
      simp only [v_slc, v_var, List.getElem?_cons_succ, List.getElem?_cons_zero, evo, hidx, bnd_ok, s2, opt_so]
    · simp only [List.length_append, List.length_take, List.length_drop]
      omega
    · intro x hx
      rcases List.mem_append.1 hx with hx | hx
      · rcases List.mem_append.1 hx with hx | hx
        · exact hc x (List.mem_of_mem_take hx)
        · exact hsc x hx
      · exact hc x (List.mem_of_mem_drop hx)
  have l1' : biD .len [T t] = some (.int t.length) := l1
  by_cases hB : B < 2
  · obtain ⟨j, c3, k3, e3, j0, j1⟩ := F_law_roll_ok c2 k2 (many := (g.length : Int)) (by omega) (by omega)
    obtain ⟨J, rfl⟩ : ∃ J : Nat, j = J := ⟨j.toNat, by omega⟩
    obtain ⟨x, hx⟩ := get_of_lt (xs := g) (i := J) (by omega)
    obtain ⟨u, hw, hu1, hu2⟩ := fin [x] c3 k3 (by simp) (fun y hy => by rw [List.mem_singleton.1 hy]; exact hcg x (List.mem_of_getElem? hx))
    refine ⟨u, c3, k3, fnM_W rfl (W.par (x := .inl (.int A)) (y := .inl (.int B)) (m1 := [some [.int c1, .int k1]]) (m2 := [some [.int c2, .int k2]]) (by simp [v_cst, v_glob, v_var, v_neg, v_bin, v_cmp, v_chain, v_and, v_or, v_not, v_ife, v_ix, v_oix, v_slc, v_tup, v_lst, v_call, v_callD, v_bi, v_isi, v_lenset, v_sset, v_mth, v_trng, v_told, v_smth, v_lowr, toldR_ok, x_asg, x_new, x_frz, x_app, x_oset, x_if, x_ret, x_raise, x_exp, x_par, xs_nil, xs_cons, bnd_ok, bnd_er, ob_ok, ob_er, opt_so, tst_b, tst_er, evs, evAnd, evOr, evIf, evo, itv, bindT, setL, wipeE, pnv, putP, endP, endM, isi_ii, isi_bi, isi_bb, isi_tt, bi_tl, bi_ll, bi_lt, l1', binD, e1]) (by simp [v_cst, v_glob, v_var, v_neg, v_bin, v_cmp, v_chain, v_and, v_or, v_not, v_ife, v_ix, v_oix, v_slc, v_tup, v_lst, v_call, v_callD, v_bi, v_isi, v_lenset, v_sset, v_mth, v_trng, v_told, v_smth, v_lowr, toldR_ok, x_asg, x_new, x_frz, x_app, x_oset, x_if, x_ret, x_raise, x_exp, x_par, xs_nil, xs_cons, bnd_ok, bnd_er, ob_ok, ob_er, opt_so, tst_b, tst_er, evs, evAnd, evOr, evIf, evo, itv, bindT, setL, wipeE, pnv, putP, endP, endM, isi_ii, isi_bi, isi_bb, isi_tt, bi_tl, bi_ll, bi_lt, e2]) (W.asg (d := T [x]) (m1 := [some [.int c3, .int k3]]) ?_ hw)), hu1, hu2⟩
    have hB' : (B : Int) < 2 := by omega
    have hix := ix_T hx hlg
    have l2' : biD .len [T g] = some (.int g.length) := l2
    simp [v_cst, v_glob, v_var, v_neg, v_bin, v_cmp, v_chain, v_and, v_or, v_not, v_ife, v_ix, v_oix, v_slc, v_tup, v_lst, v_call, v_callD, v_bi, v_isi, v_lenset, v_sset, v_mth, v_trng, v_told, v_smth, v_lowr, toldR_ok, x_asg, x_new, x_frz, x_app, x_oset, x_if, x_ret, x_raise, x_exp, x_par, xs_nil, xs_cons, bnd_ok, bnd_er, ob_ok, ob_er, opt_so, tst_b, tst_er, evs, evAnd, evOr, evIf, evo, itv, bindT, setL, wipeE, pnv, putP, endP, endM, isi_ii, isi_bi, isi_bb, isi_tt, bi_tl, bi_ll, bi_lt, cmpD, hB', l2', e3, hix]
  · obtain ⟨u, hw, hu1, hu2⟩ := fin [] c2 k2 (by simp) (by simp)
    refine ⟨u, c2, k2, fnM_W rfl (W.par (x := .inl (.int A)) (y := .inl (.int B)) (m1 := [some [.int c1, .int k1]]) (m2 := [some [.int c2, .int k2]]) (by simp [v_cst, v_glob, v_var, v_neg, v_bin, v_cmp, v_chain, v_and, v_or, v_not, v_ife, v_ix, v_oix, v_slc, v_tup, v_lst, v_call, v_callD, v_bi, v_isi, v_lenset, v_sset, v_mth, v_trng, v_told, v_smth, v_lowr, toldR_ok, x_asg, x_new, x_frz, x_app, x_oset, x_if, x_ret, x_raise, x_exp, x_par, xs_nil, xs_cons, bnd_ok, bnd_er, ob_ok, ob_er, opt_so, tst_b, tst_er, evs, evAnd, evOr, evIf, evo, itv, bindT, setL, wipeE, pnv, putP, endP, endM, isi_ii, isi_bi, isi_bb, isi_tt, bi_tl, bi_ll, bi_lt, l1', binD, e1]) (by simp [v_cst, v_glob, v_var, v_neg, v_bin, v_cmp, v_chain, v_and, v_or, v_not, v_ife, v_ix, v_oix, v_slc, v_tup, v_lst, v_call, v_callD, v_bi, v_isi, v_lenset, v_sset, v_mth, v_trng, v_told, v_smth, v_lowr, toldR_ok, x_asg, x_new, x_frz, x_app, x_oset, x_if, x_ret, x_raise, x_exp, x_par, xs_nil, xs_cons, bnd_ok, bnd_er, ob_ok, ob_er, opt_so, tst_b, tst_er, evs, evAnd, evOr, evIf, evo, itv, bindT, setL, wipeE, pnv, putP, endP, endM, isi_ii, isi_bi, isi_bb, isi_tt, bi_tl, bi_ll, bi_lt, e2]) (W.asg (d := T []) (m1 := [some [.int c2, .int k2]]) ?_ hw)), hu1, hu2⟩
    have hB' : ¬ (B : Int) < 2 := by omega
    simp [v_cst, v_glob, v_var, v_neg, v_bin, v_cmp, v_chain, v_and, v_or, v_not, v_ife, v_ix, v_oix, v_slc, v_tup, v_lst, v_call, v_callD, v_bi, v_isi, v_lenset, v_sset, v_mth, v_trng, v_told, v_smth, v_lowr, toldR_ok, x_asg, x_new, x_frz, x_app, x_oset, x_if, x_ret, x_raise, x_exp, x_par, xs_nil, xs_cons, bnd_ok, bnd_er, ob_ok, ob_er, opt_so, tst_b, tst_er, evs, evAnd, evOr, evIf, evo, itv, bindT, setL, wipeE, pnv, putP, endP, endM, isi_ii, isi_bi, isi_bb, isi_tt, bi_tl, bi_ll, bi_lt, cmpD, hB']
    rfl
theorem ne_SE (rs : List Row) : eqD (eS rs) (errD "BadText") = some false := by
  rw [errD, eqD_of (sh_eS rs) (sh_err (x := "BadText") (by decide +kernel)) (by decide) (by decide)]
  unfold eS
  match rs with
  | [] => rfl
  | [_] => simp [PyData.eqv, PyData.eqvAll]
  | [x, y] => simp [PyData.eqv, PyData.eqvAll, eR]
  | _ :: _ :: _ :: _ => simp [PyData.eqv, PyData.eqvAll]
theorem ne_RE (o : List Nat) (bs : List Bool) : eqD (.tuple [eN o, eB bs]) (errD "BadText") = some false := by
  rw [errD, eqD_of (sh_pair (k := 1) (sh_eN o) (sh_eB bs)) (sh_err (x := "BadText") (by decide +kernel)) (by decide) (by decide)]
  simp [PyData.eqv, PyData.eqvAll, eN]
theorem v_and0 {env m a b} (ha : ev a env m = some (.ok (.bool false), m)) : ev (.andE [a, b]) env m = some (.ok (.bool false), m) := by
  simp only [v_and, evAnd, ha, bnd_ok]
theorem v_and1 {env m a b} {r : Rr D} (ha : ev a env m = some (.ok (.bool true), m)) (hb : ev b env m = r) : ev (.andE [a, b]) env m = r := by
  simp only [v_and, evAnd, ha, bnd_ok, hb]
theorem v_or0 {env m a b} (ha : ev a env m = some (.ok (.bool false), m)) (hb : ev b env m = some (.ok (.bool false), m)) : ev (.orE [a, b]) env m = some (.ok (.bool false), m) := by
  simp only [v_or, evOr, ha, hb, bnd_ok]
theorem v_or3 {env m a b c} (ha : ev a env m = some (.ok (.bool false), m)) (hb : ev b env m = some (.ok (.bool false), m)) (hc : ev c env m = some (.ok (.bool false), m)) : ev (.orE [a, b, c]) env m = some (.ok (.bool false), m) := by
  simp only [v_or, evOr, ha, hb, hc, bnd_ok]
theorem v_cmpOk {o a b env m} {x y : D} {t : Bool} (ha : ev a env m = some (.ok x, m)) (hb : ev b env m = some (.ok y, m)) (h : cmpD o x y = some t) : ev (.cmp o a b) env m = some (.ok (.bool t), m) := by
  simp only [v_cmp, ha, hb, bnd_ok, h, Option.map_some, opt_so]
theorem v_call1 {f F a env m} {x : D} {r : Except Str D} (ha : ev a env m = some (.ok x, m)) (hF : F [x] = some r) : ev (.call f F [a]) env m = some (r, m) := by
  simp only [v_call, evs, ha, bnd_ok, hF, Option.map_some]
theorem v_call2 {f F a b env m} {x y : D} {r : Except Str D} (ha : ev a env m = some (.ok x, m)) (hb : ev b env m = some (.ok y, m)) (hF : F [x, y] = some r) : ev (.call f F [a, b]) env m = some (r, m) := by
  simp only [v_call, evs, ha, hb, bnd_ok, hF, Option.map_some]
theorem v_ne0 {a b env m} {x y : D} (ha : ev a env m = some (.ok x, m)) (hb : ev b env m = some (.ok y, m)) (h : eqD x y = some true) : ev (.cmp .ne a b) env m = some (.ok (.bool false), m) := v_cmpOk ha hb (by simp [cmpD, h])
def runC (o : List Nat) (bs : List Bool) : List Nat := TL.joinL [32] ((o.zip bs).map runW)
theorem runW_lt {p : Nat × Bool} (h : p.1 < 10) : ∀ c ∈ runW p, c < 128 ∧ c ≠ 32 := by
  intro c hc
  simp only [runW, List.mem_cons, List.not_mem_nil, or_false] at hc
  rcases hc with rfl | rfl
  · omega
  · cases p.2 <;> decide
theorem runC_lt {o : List Nat} {bs : List Bool} (h : ∀ t ∈ o, t < 10) : ∀ c ∈ runC o bs, c < 128 := join_lt (P := fun c => c < 128) (by decide) fun l hl c hc => by
  obtain ⟨p, hp, rfl⟩ := List.mem_map.1 hl
  exact (runW_lt (h _ (List.of_mem_zip hp).1) c hc).1
theorem runC_len (o : List Nat) (bs : List Bool) : (runC o bs).length ≤ 3 * o.length := by
  have h1 := joinL_len [32] ((o.zip bs).map runW)
  have : ((((o.zip bs).map runW).map List.length)).sum = (o.zip bs).length * 2 := by
    generalize o.zip bs = l
    induction l with
    | nil => rfl
    | cons x l ih => simp only [List.map_cons, List.sum_cons, ih, List.length_cons]; simp [runW]; omega
  rw [this] at h1
  simp only [List.length_map, List.length_zip, List.length_singleton] at h1
  unfold runC
  omega
theorem pR_run {o : List Nat} {bs : List Bool} (h : VO 7 o) (hb : bs.length = o.length) : pR (runC o bs) = some (o.zip bs) := by
  have h10 : ∀ p ∈ o.zip bs, p.1 < 10 := fun p hp => by have := h.lt _ (List.of_mem_zip hp).1; omega
  have hw : words (runC o bs) = (o.zip bs).map runW := by
    unfold words
    cases hz : o.zip bs with
    | nil =>
      have : runC o bs = [] := by unfold runC; rw [hz]; rfl
      rw [if_pos this]; rfl
    | cons p l =>
      have hne : (p :: l).map runW ≠ [] := by simp
      have hj : runC o bs = TL.joinL [32] ((p :: l).map runW) := by unfold runC; rw [hz]
      rw [if_neg, hj]
      · refine TL.spl_join (S := []) hne fun q hq => ?_
        obtain ⟨p', hp', rfl⟩ := List.mem_map.1 hq
        exact fun z => (runW_lt (h10 p' (by rw [hz]; exact hp')) 32 z).2 rfl
      · rw [hj]
        intro z
        have := (join_big ((p :: l).map runW)).2 (runW p) (by simp)
        rw [z] at this
        simp [runW] at this
  unfold pR
  rw [hw, wordsOf_W h10, Option.bind_some, List.map_fst_zip (by omega), if_pos (isO_VO h)]
end TO

set_option Elab.async false
set_option linter.all false
set_option maxRecDepth 100000
set_option maxHeartbeats 1000000
set_option exponentiation.threshold 3000
namespace TO
open PySem L2
theorem run_back {v : List Nat} {qs : List (Nat × Bool)} (hl : v.length ≤ 300) (hp : pR v = some qs) : F_run_text [eN (qs.map (·.1)), eB (qs.map (·.2))] = some (.ok (T v)) := by
  unfold pR at hp
  obtain ⟨qs', w1, w2⟩ := Option.bind_eq_some_iff.mp hp
  rw [Option.ite_none_right_eq_some, Option.some.injEq] at w2
  obtain ⟨w2, rfl⟩ := w2
  obtain ⟨w3, w4⟩ := wordsOf_ok w1
  obtain ⟨w5, w6⟩ := words_big v
  have hql : qs'.length = (words v).length := by rw [← w3, List.length_map]
  generalize ho : qs'.map (·.1) = o at w2 ⊢
  generalize hb : qs'.map (·.2) = bs
  have hol : o.length = qs'.length := by rw [← ho, List.length_map]
  have hbl : bs.length = qs'.length := by rw [← hb, List.length_map]
  have hio := F_is_order_any (o := o) (by omega)
  rw [w2] at hio
  have hrt := F_run_text_ok (o := o) (bs := bs) hio (fun t ht => by
    rw [← ho] at ht
    obtain ⟨p, hp, rfl⟩ := List.mem_map.1 ht
    exact w4 p hp) (by omega) (by omega)
  have hzz : o.zip bs = qs' := by rw [← ho, ← hb]; exact (List.zip_of_prod rfl rfl).symm
  rw [hzz, w3, join_words] at hrt
  exact hrt
theorem suite_back {u : List Nat} {qs : List Row} (hl : u.length ≤ 101) (hp : pS u = some qs) : F_is_suite [eS qs] = some (.ok (.bool true)) ∧ F_suite_text [eS qs] = some (.ok (T u)) := by
  unfold pS at hp
  obtain ⟨qs', w1, w2⟩ := Option.bind_eq_some_iff.mp hp
  rw [Option.ite_none_right_eq_some, Option.some.injEq] at w2
  obtain ⟨w2, rfl⟩ := w2
  obtain ⟨w3, w4⟩ := rowsOf_ok w1
  obtain ⟨w5, w6⟩ := spl_big (t := u)
  have hql : qs'.length = (TL.spl [32] 0 [] u).length := by rw [← w3, List.length_map]
  have his := F_is_suite_any (s := qs') (by omega) fun r hr => (w4 r hr).1
  rw [w2] at his
  have hq7 : qs'.length ≤ 7 := by
    unfold isS at w2
    simp only [Bool.and_eq_true, decide_eq_true_eq] at w2
    exact w2.1.2
  have hst := F_suite_text_ok (s := qs') his (by omega) fun r hr => ⟨(w4 r hr).1, by
    obtain ⟨w, hw, hlt⟩ := (w4 r hr).2
    have := (w6 w hw).1
    omega⟩
  rw [w3, join_spl u []] at hst
  exact ⟨his, hst⟩
end TO

set_option Elab.async false
set_option linter.all false
set_option maxRecDepth 100000
set_option maxHeartbeats 8000000
set_option exponentiation.threshold 3000
namespace TO
open PySem L2
theorem law_ends : ∀ z : Int, ∃ env m, execs ir_law ((List.replicate N_law.length none).set 1 (some (.obj 0))) [some [.int z, .int 0]] = some (.nx env m) := by
  intro z
  have hl0 : (0 : Nat) ≤ lim := by decide
  have hl1 : (1 : Nat) ≤ lim := by decide
  have hl2 : (2 : Nat) ≤ lim := by decide
  obtain ⟨r, c1, k1, e1, r0, r1⟩ := F_law_roll_ok z 0 (many := 6) (by decide) (by decide)
  obtain ⟨n, hn⟩ : ∃ n : Nat, 1 + r = n := ⟨(1 + r).toNat, by omega⟩
  have h1 : 1 ≤ n := by omega
  have h6 : n ≤ 6 := by omega
  obtain ⟨s, c2, k2, e2, hv, hl⟩ := F_law_any_suite_ok c1 k1 h1 (show n ≤ 7 by omega)
  obtain ⟨o, c3, k3, e3, ho⟩ := F_law_any_order_ok c2 k2 (n := min n 4) (by omega) (by omega)
  have hmin : biD .min2 [.int n, .int 4] = some (.int (min n 4 : Nat)) := by
    show some (PyData.int (if (4 : Int) < n then 4 else n)) = _
    congr 2
    split <;> omega
  have ho7 : VO 7 o := ⟨fun t ht => by have := ho.lt t ht; omega, ho.nd, by have := ho.len; omega⟩
  have ho10 : ∀ t ∈ o, t < 10 := fun t ht => by have := ho7.lt t ht; omega
  have hol := ho7.len
  obtain ⟨bs, c4, k4, e4, hbs⟩ := v_rolls (env := [none, some (Sl.obj 0), some (.val (.int n)), some (.val (eS s)), some (.val (eN o)), none, none, none, none, none, none, none, none, none, none, none]) (o := o) (i := 12) (j := 4) (nm := "test") (rest := []) rfl rfl (by decide) (by unfold lim; omega) c3 k3
  have hrs : ∀ x ∈ s, (∀ e ∈ x.2, -1 ≤ e ∧ e ≤ 1) ∧ x.2.length ≤ 100 := fun x hx => by
    obtain ⟨i, hi⟩ := List.getElem?_of_mem hx
    have := hv.ok i x hi
    exact ⟨this.ok, by rw [this.len]; omega⟩
  refine of_W (W.asg (d := .int n) (m1 := [some [.int c1, .int k1]]) (by simp [v_cst, v_glob, v_var, v_neg, v_bin, v_cmp, v_chain, v_and, v_or, v_not, v_ife, v_ix, v_oix, v_slc, v_tup, v_lst, v_call, v_callD, v_bi, v_isi, v_lenset, v_sset, v_mth, v_trng, v_told, v_smth, v_lowr, toldR_ok, x_asg, x_new, x_frz, x_app, x_oset, x_if, x_ret, x_raise, x_exp, x_par, xs_nil, xs_cons, bnd_ok, bnd_er, ob_ok, ob_er, opt_so, tst_b, tst_er, evs, evAnd, evOr, evIf, evo, itv, bindT, setL, wipeE, pnv, putP, endP, endM, isi_ii, isi_bi, isi_bb, isi_tt, bi_tl, bi_ll, bi_lt, N_law, e1, binD, hn]) (W.asg (d := eS s) (m1 := [some [.int c2, .int k2]]) (by simp [v_cst, v_glob, v_var, v_neg, v_bin, v_cmp, v_chain, v_and, v_or, v_not, v_ife, v_ix, v_oix, v_slc, v_tup, v_lst, v_call, v_callD, v_bi, v_isi, v_lenset, v_sset, v_mth, v_trng, v_told, v_smth, v_lowr, toldR_ok, x_asg, x_new, x_frz, x_app, x_oset, x_if, x_ret, x_raise, x_exp, x_par, xs_nil, xs_cons, bnd_ok, bnd_er, ob_ok, ob_er, opt_so, tst_b, tst_er, evs, evAnd, evOr, evIf, evo, itv, bindT, setL, wipeE, pnv, putP, endP, endM, isi_ii, isi_bi, isi_bb, isi_tt, bi_tl, bi_ll, bi_lt, N_law, e2]) (W.asg (d := eN o) (m1 := [some [.int c3, .int k3]]) (by simp [v_cst, v_glob, v_var, v_neg, v_bin, v_cmp, v_chain, v_and, v_or, v_not, v_ife, v_ix, v_oix, v_slc, v_tup, v_lst, v_call, v_callD, v_bi, v_isi, v_lenset, v_sset, v_mth, v_trng, v_told, v_smth, v_lowr, toldR_ok, x_asg, x_new, x_frz, x_app, x_oset, x_if, x_ret, x_raise, x_exp, x_par, xs_nil, xs_cons, bnd_ok, bnd_er, ob_ok, ob_er, opt_so, tst_b, tst_er, evs, evAnd, evOr, evIf, evo, itv, bindT, setL, wipeE, pnv, putP, endP, endM, isi_ii, isi_bi, isi_bb, isi_tt, bi_tl, bi_ll, bi_lt, N_law, hmin, e3]) (W.asg (d := eB bs) (m1 := [some [.int c4, .int k4]]) e4 ?_))))
  refine W.asg (d := T (pageC s)) (m1 := [some [.int c4, .int k4]]) (v_page rfl rfl (by omega) hrs) (W.asg (d := T (runC o bs)) (m1 := [some [.int c4, .int k4]]) (v_run (a := 4) (b := 5) rfl rfl (by decide) (show 12 < 16 by decide) (show 14 < 16 by decide) ho10 (by omega)) ?_)
  have hpc : ∀ c ∈ pageC s, c < 1114112 := fun c hc => by have := page_lt s c hc; omega
  have htc : ∀ c ∈ runC o bs, c < 1114112 := fun c hc => by have := runC_lt (bs := bs) ho10 c hc; omega
  have hpl : (pageC s).length ≤ 100 := by
    have h1 := joinL_len [32] (s.map rowC)
    have : ∀ l : List Row, (∀ r ∈ l, r.2.length ≤ 6) → ((l.map rowC).map List.length).sum ≤ l.length * 7 := by
      intro l hl
      induction l with
      | nil => simp
      | cons r l ih =>
        have h1 := hl r List.mem_cons_self
        have h2 := ih fun x hx => hl x (List.mem_cons_of_mem _ hx)
        simp only [List.map_cons, List.sum_cons, List.length_cons, rowC, List.length_map] at h2 ⊢
        omega
    have := this s fun x hx => by
      obtain ⟨i, hi⟩ := List.getElem?_of_mem hx
      rw [(hv.ok i x hi).len]; omega
    simp only [List.length_map, List.length_singleton] at h1
    unfold pageC
    omega
  have htl : (runC o bs).length ≤ 100 := by have := runC_len o bs; omega
  have q1 := F_suite_text_ok (F_is_suite_ok hv) (by omega) hrs
  have q2 : F_parse_suite [T (pageC s)] = some (.ok (eS s)) := by
    have := F_parse_suite_ok (t := pageC s) (by omega)
    rw [pS_page hv] at this
    exact this
  have q3 := F_run_text_ok (o := o) (bs := bs) (F_is_order_ok ho7 (by decide)) ho10 (by omega) hbs
  have q4 : F_parse_run [T (runC o bs)] = some (.ok (.tuple [eN o, eB bs])) := by
    have := F_parse_run_ok (t := runC o bs) (by omega) htc
    rw [pR_run ho7 hbs] at this
    have g1 : (o.zip bs).map (·.1) = o := List.map_fst_zip (by omega)
    have g2 : (o.zip bs).map (·.2) = bs := List.map_snd_zip (by omega)
    have this : F_parse_run [T (runC o bs)] = some (.ok (.tuple [eN ((o.zip bs).map (·.1)), eB ((o.zip bs).map (·.2))])) := this
    rw [g1, g2] at this
    exact this
  refine W.no (m1 := [some [.int c4, .int k4]]) (v_or3 (v_ne0 (x := T (pageC s)) (y := T (pageC s)) (v_call1 (x := eS s) (by simp [v_cst, v_glob, v_var, v_neg, v_bin, v_cmp, v_chain, v_and, v_or, v_not, v_ife, v_ix, v_oix, v_slc, v_tup, v_lst, v_call, v_callD, v_bi, v_isi, v_lenset, v_sset, v_mth, v_trng, v_told, v_smth, v_lowr, toldR_ok, x_asg, x_new, x_frz, x_app, x_oset, x_if, x_ret, x_raise, x_exp, x_par, xs_nil, xs_cons, bnd_ok, bnd_er, ob_ok, ob_er, opt_so, tst_b, tst_er, evs, evAnd, evOr, evIf, evo, itv, bindT, setL, wipeE, pnv, putP, endP, endM, isi_ii, isi_bi, isi_bb, isi_tt, bi_tl, bi_ll, bi_lt, N_law]) q1) (by simp [v_cst, v_glob, v_var, v_neg, v_bin, v_cmp, v_chain, v_and, v_or, v_not, v_ife, v_ix, v_oix, v_slc, v_tup, v_lst, v_call, v_callD, v_bi, v_isi, v_lenset, v_sset, v_mth, v_trng, v_told, v_smth, v_lowr, toldR_ok, x_asg, x_new, x_frz, x_app, x_oset, x_if, x_ret, x_raise, x_exp, x_par, xs_nil, xs_cons, bnd_ok, bnd_er, ob_ok, ob_er, opt_so, tst_b, tst_er, evs, evAnd, evOr, evIf, evo, itv, bindT, setL, wipeE, pnv, putP, endP, endM, isi_ii, isi_bi, isi_bb, isi_tt, bi_tl, bi_ll, bi_lt, N_law]) (by rw [eq_T hpc hpc]; simp)) (v_ne0 (x := eS s) (y := eS s) (v_call1 (x := T (pageC s)) (by simp [v_cst, v_glob, v_var, v_neg, v_bin, v_cmp, v_chain, v_and, v_or, v_not, v_ife, v_ix, v_oix, v_slc, v_tup, v_lst, v_call, v_callD, v_bi, v_isi, v_lenset, v_sset, v_mth, v_trng, v_told, v_smth, v_lowr, toldR_ok, x_asg, x_new, x_frz, x_app, x_oset, x_if, x_ret, x_raise, x_exp, x_par, xs_nil, xs_cons, bnd_ok, bnd_er, ob_ok, ob_er, opt_so, tst_b, tst_er, evs, evAnd, evOr, evIf, evo, itv, bindT, setL, wipeE, pnv, putP, endP, endM, isi_ii, isi_bi, isi_bb, isi_tt, bi_tl, bi_ll, bi_lt, N_law]) q2) (by simp [v_cst, v_glob, v_var, v_neg, v_bin, v_cmp, v_chain, v_and, v_or, v_not, v_ife, v_ix, v_oix, v_slc, v_tup, v_lst, v_call, v_callD, v_bi, v_isi, v_lenset, v_sset, v_mth, v_trng, v_told, v_smth, v_lowr, toldR_ok, x_asg, x_new, x_frz, x_app, x_oset, x_if, x_ret, x_raise, x_exp, x_par, xs_nil, xs_cons, bnd_ok, bnd_er, ob_ok, ob_er, opt_so, tst_b, tst_er, evs, evAnd, evOr, evIf, evo, itv, bindT, setL, wipeE, pnv, putP, endP, endM, isi_ii, isi_bi, isi_bb, isi_tt, bi_tl, bi_ll, bi_lt, N_law]) (by rw [eq_eS]; simp)) (v_ne0 (x := T (runC o bs)) (y := T (runC o bs)) (v_call2 (x := eN o) (y := eB bs) (by simp [v_cst, v_glob, v_var, v_neg, v_bin, v_cmp, v_chain, v_and, v_or, v_not, v_ife, v_ix, v_oix, v_slc, v_tup, v_lst, v_call, v_callD, v_bi, v_isi, v_lenset, v_sset, v_mth, v_trng, v_told, v_smth, v_lowr, toldR_ok, x_asg, x_new, x_frz, x_app, x_oset, x_if, x_ret, x_raise, x_exp, x_par, xs_nil, xs_cons, bnd_ok, bnd_er, ob_ok, ob_er, opt_so, tst_b, tst_er, evs, evAnd, evOr, evIf, evo, itv, bindT, setL, wipeE, pnv, putP, endP, endM, isi_ii, isi_bi, isi_bb, isi_tt, bi_tl, bi_ll, bi_lt, N_law]) (by simp [v_cst, v_glob, v_var, v_neg, v_bin, v_cmp, v_chain, v_and, v_or, v_not, v_ife, v_ix, v_oix, v_slc, v_tup, v_lst, v_call, v_callD, v_bi, v_isi, v_lenset, v_sset, v_mth, v_trng, v_told, v_smth, v_lowr, toldR_ok, x_asg, x_new, x_frz, x_app, x_oset, x_if, x_ret, x_raise, x_exp, x_par, xs_nil, xs_cons, bnd_ok, bnd_er, ob_ok, ob_er, opt_so, tst_b, tst_er, evs, evAnd, evOr, evIf, evo, itv, bindT, setL, wipeE, pnv, putP, endP, endM, isi_ii, isi_bi, isi_bb, isi_tt, bi_tl, bi_ll, bi_lt, N_law]) q3) (by simp [v_cst, v_glob, v_var, v_neg, v_bin, v_cmp, v_chain, v_and, v_or, v_not, v_ife, v_ix, v_oix, v_slc, v_tup, v_lst, v_call, v_callD, v_bi, v_isi, v_lenset, v_sset, v_mth, v_trng, v_told, v_smth, v_lowr, toldR_ok, x_asg, x_new, x_frz, x_app, x_oset, x_if, x_ret, x_raise, x_exp, x_par, xs_nil, xs_cons, bnd_ok, bnd_er, ob_ok, ob_er, opt_so, tst_b, tst_er, evs, evAnd, evOr, evIf, evo, itv, bindT, setL, wipeE, pnv, putP, endP, endM, isi_ii, isi_bi, isi_bb, isi_tt, bi_tl, bi_ll, bi_lt, N_law]) (by rw [eq_T htc htc]; simp))) ?_
  refine W.no (m1 := [some [.int c4, .int k4]]) (v_ne0 (x := .tuple [eN o, eB bs]) (y := .tuple [eN o, eB bs]) (v_call1 (x := T (runC o bs)) (by simp [v_cst, v_glob, v_var, v_neg, v_bin, v_cmp, v_chain, v_and, v_or, v_not, v_ife, v_ix, v_oix, v_slc, v_tup, v_lst, v_call, v_callD, v_bi, v_isi, v_lenset, v_sset, v_mth, v_trng, v_told, v_smth, v_lowr, toldR_ok, x_asg, x_new, x_frz, x_app, x_oset, x_if, x_ret, x_raise, x_exp, x_par, xs_nil, xs_cons, bnd_ok, bnd_er, ob_ok, ob_er, opt_so, tst_b, tst_er, evs, evAnd, evOr, evIf, evo, itv, bindT, setL, wipeE, pnv, putP, endP, endM, isi_ii, isi_bi, isi_bb, isi_tt, bi_tl, bi_ll, bi_lt, N_law]) q4) (v_tup2 (by simp [v_cst, v_glob, v_var, v_neg, v_bin, v_cmp, v_chain, v_and, v_or, v_not, v_ife, v_ix, v_oix, v_slc, v_tup, v_lst, v_call, v_callD, v_bi, v_isi, v_lenset, v_sset, v_mth, v_trng, v_told, v_smth, v_lowr, toldR_ok, x_asg, x_new, x_frz, x_app, x_oset, x_if, x_ret, x_raise, x_exp, x_par, xs_nil, xs_cons, bnd_ok, bnd_er, ob_ok, ob_er, opt_so, tst_b, tst_er, evs, evAnd, evOr, evIf, evo, itv, bindT, setL, wipeE, pnv, putP, endP, endM, isi_ii, isi_bi, isi_bb, isi_tt, bi_tl, bi_ll, bi_lt, N_law]) (by simp [v_cst, v_glob, v_var, v_neg, v_bin, v_cmp, v_chain, v_and, v_or, v_not, v_ife, v_ix, v_oix, v_slc, v_tup, v_lst, v_call, v_callD, v_bi, v_isi, v_lenset, v_sset, v_mth, v_trng, v_told, v_smth, v_lowr, toldR_ok, x_asg, x_new, x_frz, x_app, x_oset, x_if, x_ret, x_raise, x_exp, x_par, xs_nil, xs_cons, bnd_ok, bnd_er, ob_ok, ob_er, opt_so, tst_b, tst_er, evs, evAnd, evOr, evIf, evo, itv, bindT, setL, wipeE, pnv, putP, endP, endM, isi_ii, isi_bi, isi_bb, isi_tt, bi_tl, bi_ll, bi_lt, N_law])) (eqD_same (sh_pair (k := 1) (sh_eN o) (sh_eB bs)) (by decide))) ?_
  refine W.forF (m1 := [some [.int c4, .int k4]]) (List.range 8) (fun i : Nat => .int i) (fun (u : Unit) _ => u) () (fun _ env m => ∃ c k x8 x9 x10 x11, m = [some [.int c, .int k]] ∧ env = [none, some (Sl.obj 0), some (.val (.int n)), some (.val (eS s)), some (.val (eN o)), some (.val (eB bs)), some (.val (T (pageC s))), some (.val (T (runC o bs))), x8, x9, x10, x11, none, none, none, none]) (rng_it (n := 8) (by simp [v_cst, v_glob, v_var, v_neg, v_bin, v_cmp, v_chain, v_and, v_or, v_not, v_ife, v_ix, v_oix, v_slc, v_tup, v_lst, v_call, v_callD, v_bi, v_isi, v_lenset, v_sset, v_mth, v_trng, v_told, v_smth, v_lowr, toldR_ok, x_asg, x_new, x_frz, x_app, x_oset, x_if, x_ret, x_raise, x_exp, x_par, xs_nil, xs_cons, bnd_ok, bnd_er, ob_ok, ob_er, opt_so, tst_b, tst_er, evs, evAnd, evOr, evIf, evo, itv, bindT, setL, wipeE, pnv, putP, endP, endM, isi_ii, isi_bi, isi_bb, isi_tt, bi_tl, bi_ll, bi_lt]) (by decide)) ⟨c4, k4, none, none, none, none, rfl, rfl⟩ ?_ ?_
  · rintro _ i env m _ ⟨c, k, x8, x9, x10, x11, rfl, rfl⟩
    obtain ⟨u, c5, k5, e5, u1, u2⟩ := spoilt_ok c k (t := pageC s) (g := [80, 70, 43, 45, 46, 32]) (by omega) (by decide) (by decide) (page_lt s) (by decide)
    obtain ⟨v, c6, k6, e6, v1, v2⟩ := spoilt_ok c5 k5 (t := runC o bs) (g := [48, 49, 50, 43, 45, 32]) (by omega) (by decide) (by decide) (runC_lt ho10) (by decide)
    have e5' : F_law_spoilt [.int c, .int k] [T (pageC s), .str "PF+-. "] = some (T u, [.int c5, .int k5]) := e5
    have e6' : F_law_spoilt [.int c5, .int k5] [T (runC o bs), .str "012+- "] = some (T v, [.int c6, .int k6]) := e6
    have hu : ∀ c ∈ u, c < 1114112 := fun c hc => by have := u2 c hc; omega
    have hvv : ∀ c ∈ v, c < 1114112 := fun c hc => by have := v2 c hc; omega
    refine ⟨_, rfl, W.asgT (ds := [T u, T v]) (m1 := [some [.int c6, .int k6]]) (by simp [v_cst, v_glob, v_var, v_neg, v_bin, v_cmp, v_chain, v_and, v_or, v_not, v_ife, v_ix, v_oix, v_slc, v_tup, v_lst, v_call, v_callD, v_bi, v_isi, v_lenset, v_sset, v_mth, v_trng, v_told, v_smth, v_lowr, toldR_ok, x_asg, x_new, x_frz, x_app, x_oset, x_if, x_ret, x_raise, x_exp, x_par, xs_nil, xs_cons, bnd_ok, bnd_er, ob_ok, ob_er, opt_so, tst_b, tst_er, evs, evAnd, evOr, evIf, evo, itv, bindT, setL, wipeE, pnv, putP, endP, endM, isi_ii, isi_bi, isi_bb, isi_tt, bi_tl, bi_ll, bi_lt, e5', e6', hl2]) rfl ?_⟩
    have p1 := F_parse_suite_ok (t := u) (by omega)
    have p2 := F_parse_run_ok (t := v) (by omega) hvv
    -- the second half
    have half : ∀ (x9 : Option Sl), W [.asg (.name 9) (.told (.call "parse_run" F_parse_run [(.var 11)])),
    .ifS (.andE [(.cmp .ne (.var 9) (.tup [(.cst (.str "error")), (.cst (.str "BadText"))])), (.cmp .ne (.call "run_text" F_run_text [(.ix (.var 9) (.cst (.int 0))), (.ix (.var 9) (.cst (.int 1)))]) (.var 11))]) [.ret (.cst (.bool false))] []]
        [none, some (Sl.obj 0), some (.val (.int n)), some (.val (eS s)), some (.val (eN o)), some (.val (eB bs)), some (.val (T (pageC s))), some (.val (T (runC o bs))), some (.val (.int i)), x9, some (.val (T u)), some (.val (T v)), none, none, none, none] [some [.int c6, .int k6]]
        (Nx fun env m => ∃ c k x8 x9 x10 x11, m = [some [.int c, .int k]] ∧ env = [none, some (Sl.obj 0), some (.val (.int n)), some (.val (eS s)), some (.val (eN o)), some (.val (eB bs)), some (.val (T (pageC s))), some (.val (T (runC o bs))), x8, x9, x10, x11, none, none, none, none]) := by
      intro x9
      cases hp : pR v with
      | none =>
        rw [hp] at p2
        refine W.asg (d := errD "BadText") (m1 := [some [.int c6, .int k6]]) (told_er (v_call1 (x := T v) (by simp [v_cst, v_glob, v_var, v_neg, v_bin, v_cmp, v_chain, v_and, v_or, v_not, v_ife, v_ix, v_oix, v_slc, v_tup, v_lst, v_call, v_callD, v_bi, v_isi, v_lenset, v_sset, v_mth, v_trng, v_told, v_smth, v_lowr, toldR_ok, x_asg, x_new, x_frz, x_app, x_oset, x_if, x_ret, x_raise, x_exp, x_par, xs_nil, xs_cons, bnd_ok, bnd_er, ob_ok, ob_er, opt_so, tst_b, tst_er, evs, evAnd, evOr, evIf, evo, itv, bindT, setL, wipeE, pnv, putP, endP, endM, isi_ii, isi_bi, isi_bb, isi_tt, bi_tl, bi_ll, bi_lt]) p2) (by decide +kernel)) (W.no (m1 := [some [.int c6, .int k6]]) (v_and0 (v_ne0 (x := errD "BadText") (y := errD "BadText") (by simp [v_cst, v_glob, v_var, v_neg, v_bin, v_cmp, v_chain, v_and, v_or, v_not, v_ife, v_ix, v_oix, v_slc, v_tup, v_lst, v_call, v_callD, v_bi, v_isi, v_lenset, v_sset, v_mth, v_trng, v_told, v_smth, v_lowr, toldR_ok, x_asg, x_new, x_frz, x_app, x_oset, x_if, x_ret, x_raise, x_exp, x_par, xs_nil, xs_cons, bnd_ok, bnd_er, ob_ok, ob_er, opt_so, tst_b, tst_er, evs, evAnd, evOr, evIf, evo, itv, bindT, setL, wipeE, pnv, putP, endP, endM, isi_ii, isi_bi, isi_bb, isi_tt, bi_tl, bi_ll, bi_lt]) (v_tup2 (v_cst ..) (v_cst ..)) (eq_err (by decide +kernel)))) (W.nil ⟨_, _, _, _, _, _, rfl, rfl⟩))
      | some qs =>
        rw [hp] at p2
        have p2 : F_parse_run [T v] = some (.ok (.tuple [eN (qs.map (·.1)), eB (qs.map (·.2))])) := p2
        have hrt := run_back (by omega) hp
        generalize qs.map (·.1) = qo at p2 hrt
        generalize qs.map (·.2) = qb at p2 hrt
        have i0 : ixD (.tuple [eN qo, eB qb]) (.int 0) = some (eN qo) := rfl
        have i1 : ixD (.tuple [eN qo, eB qb]) (.int 1) = some (eB qb) := rfl
        refine W.asg (d := .tuple [eN qo, eB qb]) (m1 := [some [.int c6, .int k6]]) (by rw [v_told, v_call1 (x := T v) (by simp [v_cst, v_glob, v_var, v_neg, v_bin, v_cmp, v_chain, v_and, v_or, v_not, v_ife, v_ix, v_oix, v_slc, v_tup, v_lst, v_call, v_callD, v_bi, v_isi, v_lenset, v_sset, v_mth, v_trng, v_told, v_smth, v_lowr, toldR_ok, x_asg, x_new, x_frz, x_app, x_oset, x_if, x_ret, x_raise, x_exp, x_par, xs_nil, xs_cons, bnd_ok, bnd_er, ob_ok, ob_er, opt_so, tst_b, tst_er, evs, evAnd, evOr, evIf, evo, itv, bindT, setL, wipeE, pnv, putP, endP, endM, isi_ii, isi_bi, isi_bb, isi_tt, bi_tl, bi_ll, bi_lt]) p2]; rfl) (W.no (m1 := [some [.int c6, .int k6]]) (v_and1 (v_cmpOk (x := .tuple [eN qo, eB qb]) (y := errD "BadText") (by simp [v_cst, v_glob, v_var, v_neg, v_bin, v_cmp, v_chain, v_and, v_or, v_not, v_ife, v_ix, v_oix, v_slc, v_tup, v_lst, v_call, v_callD, v_bi, v_isi, v_lenset, v_sset, v_mth, v_trng, v_told, v_smth, v_lowr, toldR_ok, x_asg, x_new, x_frz, x_app, x_oset, x_if, x_ret, x_raise, x_exp, x_par, xs_nil, xs_cons, bnd_ok, bnd_er, ob_ok, ob_er, opt_so, tst_b, tst_er, evs, evAnd, evOr, evIf, evo, itv, bindT, setL, wipeE, pnv, putP, endP, endM, isi_ii, isi_bi, isi_bb, isi_tt, bi_tl, bi_ll, bi_lt]) (v_tup2 (v_cst ..) (v_cst ..)) (by simp [cmpD, ne_RE])) (v_ne0 (x := T v) (y := T v) (v_call2 (x := eN qo) (y := eB qb) (by simp [v_cst, v_glob, v_var, v_neg, v_bin, v_cmp, v_chain, v_and, v_or, v_not, v_ife, v_ix, v_oix, v_slc, v_tup, v_lst, v_call, v_callD, v_bi, v_isi, v_lenset, v_sset, v_mth, v_trng, v_told, v_smth, v_lowr, toldR_ok, x_asg, x_new, x_frz, x_app, x_oset, x_if, x_ret, x_raise, x_exp, x_par, xs_nil, xs_cons, bnd_ok, bnd_er, ob_ok, ob_er, opt_so, tst_b, tst_er, evs, evAnd, evOr, evIf, evo, itv, bindT, setL, wipeE, pnv, putP, endP, endM, isi_ii, isi_bi, isi_bb, isi_tt, bi_tl, bi_ll, bi_lt, i0]) (by simp [v_cst, v_glob, v_var, v_neg, v_bin, v_cmp, v_chain, v_and, v_or, v_not, v_ife, v_ix, v_oix, v_slc, v_tup, v_lst, v_call, v_callD, v_bi, v_isi, v_lenset, v_sset, v_mth, v_trng, v_told, v_smth, v_lowr, toldR_ok, x_asg, x_new, x_frz, x_app, x_oset, x_if, x_ret, x_raise, x_exp, x_par, xs_nil, xs_cons, bnd_ok, bnd_er, ob_ok, ob_er, opt_so, tst_b, tst_er, evs, evAnd, evOr, evIf, evo, itv, bindT, setL, wipeE, pnv, putP, endP, endM, isi_ii, isi_bi, isi_bb, isi_tt, bi_tl, bi_ll, bi_lt, i1]) hrt) (by simp [v_cst, v_glob, v_var, v_neg, v_bin, v_cmp, v_chain, v_and, v_or, v_not, v_ife, v_ix, v_oix, v_slc, v_tup, v_lst, v_call, v_callD, v_bi, v_isi, v_lenset, v_sset, v_mth, v_trng, v_told, v_smth, v_lowr, toldR_ok, x_asg, x_new, x_frz, x_app, x_oset, x_if, x_ret, x_raise, x_exp, x_par, xs_nil, xs_cons, bnd_ok, bnd_er, ob_ok, ob_er, opt_so, tst_b, tst_er, evs, evAnd, evOr, evIf, evo, itv, bindT, setL, wipeE, pnv, putP, endP, endM, isi_ii, isi_bi, isi_bb, isi_tt, bi_tl, bi_ll, bi_lt]) (by rw [eq_T hvv hvv]; simp))) (W.nil ⟨_, _, _, _, _, _, rfl, rfl⟩))
    cases hp : pS u with
    | none =>
      rw [hp] at p1
      refine W.asg (d := errD "BadText") (m1 := [some [.int c6, .int k6]]) (told_er (v_call1 (x := T u) (by simp [v_cst, v_glob, v_var, v_neg, v_bin, v_cmp, v_chain, v_and, v_or, v_not, v_ife, v_ix, v_oix, v_slc, v_tup, v_lst, v_call, v_callD, v_bi, v_isi, v_lenset, v_sset, v_mth, v_trng, v_told, v_smth, v_lowr, toldR_ok, x_asg, x_new, x_frz, x_app, x_oset, x_if, x_ret, x_raise, x_exp, x_par, xs_nil, xs_cons, bnd_ok, bnd_er, ob_ok, ob_er, opt_so, tst_b, tst_er, evs, evAnd, evOr, evIf, evo, itv, bindT, setL, wipeE, pnv, putP, endP, endM, isi_ii, isi_bi, isi_bb, isi_tt, bi_tl, bi_ll, bi_lt]) p1) (by decide +kernel)) (W.no (m1 := [some [.int c6, .int k6]]) (v_and0 (v_ne0 (x := errD "BadText") (y := errD "BadText") (by simp [v_cst, v_glob, v_var, v_neg, v_bin, v_cmp, v_chain, v_and, v_or, v_not, v_ife, v_ix, v_oix, v_slc, v_tup, v_lst, v_call, v_callD, v_bi, v_isi, v_lenset, v_sset, v_mth, v_trng, v_told, v_smth, v_lowr, toldR_ok, x_asg, x_new, x_frz, x_app, x_oset, x_if, x_ret, x_raise, x_exp, x_par, xs_nil, xs_cons, bnd_ok, bnd_er, ob_ok, ob_er, opt_so, tst_b, tst_er, evs, evAnd, evOr, evIf, evo, itv, bindT, setL, wipeE, pnv, putP, endP, endM, isi_ii, isi_bi, isi_bb, isi_tt, bi_tl, bi_ll, bi_lt]) (v_tup2 (v_cst ..) (v_cst ..)) (eq_err (by decide +kernel)))) (half _))
    | some qs =>
      rw [hp] at p1
      obtain ⟨his, hst⟩ := suite_back (by omega) hp
      have ist : isD (.bool true) (.bool true) = some true := rfl
      refine W.asg (d := eS qs) (m1 := [some [.int c6, .int k6]]) (by rw [v_told, v_call1 (x := T u) (by simp [v_cst, v_glob, v_var, v_neg, v_bin, v_cmp, v_chain, v_and, v_or, v_not, v_ife, v_ix, v_oix, v_slc, v_tup, v_lst, v_call, v_callD, v_bi, v_isi, v_lenset, v_sset, v_mth, v_trng, v_told, v_smth, v_lowr, toldR_ok, x_asg, x_new, x_frz, x_app, x_oset, x_if, x_ret, x_raise, x_exp, x_par, xs_nil, xs_cons, bnd_ok, bnd_er, ob_ok, ob_er, opt_so, tst_b, tst_er, evs, evAnd, evOr, evIf, evo, itv, bindT, setL, wipeE, pnv, putP, endP, endM, isi_ii, isi_bi, isi_bb, isi_tt, bi_tl, bi_ll, bi_lt]) p1]; rfl) (W.no (m1 := [some [.int c6, .int k6]]) (v_and1 (v_cmpOk (x := eS qs) (y := errD "BadText") (by simp [v_cst, v_glob, v_var, v_neg, v_bin, v_cmp, v_chain, v_and, v_or, v_not, v_ife, v_ix, v_oix, v_slc, v_tup, v_lst, v_call, v_callD, v_bi, v_isi, v_lenset, v_sset, v_mth, v_trng, v_told, v_smth, v_lowr, toldR_ok, x_asg, x_new, x_frz, x_app, x_oset, x_if, x_ret, x_raise, x_exp, x_par, xs_nil, xs_cons, bnd_ok, bnd_er, ob_ok, ob_er, opt_so, tst_b, tst_er, evs, evAnd, evOr, evIf, evo, itv, bindT, setL, wipeE, pnv, putP, endP, endM, isi_ii, isi_bi, isi_bb, isi_tt, bi_tl, bi_ll, bi_lt]) (v_tup2 (v_cst ..) (v_cst ..)) (by simp [cmpD, ne_SE])) (v_or0 (v_cmpOk (x := .bool true) (y := .bool true) (v_call1 (x := eS qs) (by simp [v_cst, v_glob, v_var, v_neg, v_bin, v_cmp, v_chain, v_and, v_or, v_not, v_ife, v_ix, v_oix, v_slc, v_tup, v_lst, v_call, v_callD, v_bi, v_isi, v_lenset, v_sset, v_mth, v_trng, v_told, v_smth, v_lowr, toldR_ok, x_asg, x_new, x_frz, x_app, x_oset, x_if, x_ret, x_raise, x_exp, x_par, xs_nil, xs_cons, bnd_ok, bnd_er, ob_ok, ob_er, opt_so, tst_b, tst_er, evs, evAnd, evOr, evIf, evo, itv, bindT, setL, wipeE, pnv, putP, endP, endM, isi_ii, isi_bi, isi_bb, isi_tt, bi_tl, bi_ll, bi_lt]) his) (v_cst ..) (by simp [cmpD, ist])) (v_ne0 (x := T u) (y := T u) (v_call1 (x := eS qs) (by simp [v_cst, v_glob, v_var, v_neg, v_bin, v_cmp, v_chain, v_and, v_or, v_not, v_ife, v_ix, v_oix, v_slc, v_tup, v_lst, v_call, v_callD, v_bi, v_isi, v_lenset, v_sset, v_mth, v_trng, v_told, v_smth, v_lowr, toldR_ok, x_asg, x_new, x_frz, x_app, x_oset, x_if, x_ret, x_raise, x_exp, x_par, xs_nil, xs_cons, bnd_ok, bnd_er, ob_ok, ob_er, opt_so, tst_b, tst_er, evs, evAnd, evOr, evIf, evo, itv, bindT, setL, wipeE, pnv, putP, endP, endM, isi_ii, isi_bi, isi_bb, isi_tt, bi_tl, bi_ll, bi_lt]) hst) (by simp [v_cst, v_glob, v_var, v_neg, v_bin, v_cmp, v_chain, v_and, v_or, v_not, v_ife, v_ix, v_oix, v_slc, v_tup, v_lst, v_call, v_callD, v_bi, v_isi, v_lenset, v_sset, v_mth, v_trng, v_told, v_smth, v_lowr, toldR_ok, x_asg, x_new, x_frz, x_app, x_oset, x_if, x_ret, x_raise, x_exp, x_par, xs_nil, xs_cons, bnd_ok, bnd_er, ob_ok, ob_er, opt_so, tst_b, tst_er, evs, evAnd, evOr, evIf, evo, itv, bindT, setL, wipeE, pnv, putP, endP, endM, isi_ii, isi_bi, isi_bb, isi_tt, bi_tl, bi_ll, bi_lt]) (by rw [eq_T hu hu]; simp)))) (half _))
  · rintro env m ⟨c, k, x8, x9, x10, x11, rfl, rfl⟩
    have hfar := far_ok hv hpl htl (runC_lt (bs := bs) ho10)
    have f1 : F_run_text [.tuple [.int 7], .none] = some (.error "BadOrder") := by kernel_rfl
    have f2 : F_run_text [.tuple [.int 0], .tuple [.int 1]] = some (.error "BadResults") := by kernel_rfl
    refine W.no (m1 := [some [.int c, .int k]]) (by simp [v_cst, v_glob, v_var, v_neg, v_bin, v_cmp, v_chain, v_and, v_or, v_not, v_ife, v_ix, v_oix, v_slc, v_tup, v_lst, v_call, v_callD, v_bi, v_isi, v_lenset, v_sset, v_mth, v_trng, v_told, v_smth, v_lowr, toldR_ok, x_asg, x_new, x_frz, x_app, x_oset, x_if, x_ret, x_raise, x_exp, x_par, xs_nil, xs_cons, bnd_ok, bnd_er, ob_ok, ob_er, opt_so, tst_b, tst_er, evs, evAnd, evOr, evIf, evo, itv, bindT, setL, wipeE, pnv, putP, endP, endM, isi_ii, isi_bi, isi_bb, isi_tt, bi_tl, bi_ll, bi_lt, hfar]) ?_
    have t1 : ∀ (env : En) (m : Mu), ev (.told (.call "run_text" F_run_text [(.tup [(.cst (.int 7))]), (.cst .none)])) env m = some (.ok (errD "BadOrder"), m) := fun env m => told_er (v_call2 (x := .tuple [.int 7]) (y := .none) (by simp [v_cst, v_glob, v_var, v_neg, v_bin, v_cmp, v_chain, v_and, v_or, v_not, v_ife, v_ix, v_oix, v_slc, v_tup, v_lst, v_call, v_callD, v_bi, v_isi, v_lenset, v_sset, v_mth, v_trng, v_told, v_smth, v_lowr, toldR_ok, x_asg, x_new, x_frz, x_app, x_oset, x_if, x_ret, x_raise, x_exp, x_par, xs_nil, xs_cons, bnd_ok, bnd_er, ob_ok, ob_er, opt_so, tst_b, tst_er, evs, evAnd, evOr, evIf, evo, itv, bindT, setL, wipeE, pnv, putP, endP, endM, isi_ii, isi_bi, isi_bb, isi_tt, bi_tl, bi_ll, bi_lt, hl1]) (v_cst ..) f1) (by decide +kernel)
    have t2 : ∀ (env : En) (m : Mu), ev (.told (.call "run_text" F_run_text [(.tup [(.cst (.int 0))]), (.tup [(.cst (.int 1))])])) env m = some (.ok (errD "BadResults"), m) := fun env m => told_er (v_call2 (x := .tuple [.int 0]) (y := .tuple [.int 1]) (by simp [v_cst, v_glob, v_var, v_neg, v_bin, v_cmp, v_chain, v_and, v_or, v_not, v_ife, v_ix, v_oix, v_slc, v_tup, v_lst, v_call, v_callD, v_bi, v_isi, v_lenset, v_sset, v_mth, v_trng, v_told, v_smth, v_lowr, toldR_ok, x_asg, x_new, x_frz, x_app, x_oset, x_if, x_ret, x_raise, x_exp, x_par, xs_nil, xs_cons, bnd_ok, bnd_er, ob_ok, ob_er, opt_so, tst_b, tst_er, evs, evAnd, evOr, evIf, evo, itv, bindT, setL, wipeE, pnv, putP, endP, endM, isi_ii, isi_bi, isi_bb, isi_tt, bi_tl, bi_ll, bi_lt, hl1]) (by simp [v_cst, v_glob, v_var, v_neg, v_bin, v_cmp, v_chain, v_and, v_or, v_not, v_ife, v_ix, v_oix, v_slc, v_tup, v_lst, v_call, v_callD, v_bi, v_isi, v_lenset, v_sset, v_mth, v_trng, v_told, v_smth, v_lowr, toldR_ok, x_asg, x_new, x_frz, x_app, x_oset, x_if, x_ret, x_raise, x_exp, x_par, xs_nil, xs_cons, bnd_ok, bnd_er, ob_ok, ob_er, opt_so, tst_b, tst_er, evs, evAnd, evOr, evIf, evo, itv, bindT, setL, wipeE, pnv, putP, endP, endM, isi_ii, isi_bi, isi_bb, isi_tt, bi_tl, bi_ll, bi_lt, hl1]) f2) (by decide +kernel)
    refine W.new (ds := [errD "BadOrder"]) (m1 := [some [.int c, .int k]]) (by simp only [evs, t1, bnd_ok]) (by decide) (W.app (j := 1) (xs := [errD "BadOrder"]) (d := errD "BadResults") (m1 := [some [.int c, .int k], some [errD "BadOrder"]]) rfl (t2 _ _) rfl (by decide) (W.frz (j := 1) (xs := [errD "BadOrder", errD "BadResults"]) rfl rfl (by decide) ?_))
    have hq : eqD (.list [errD "BadOrder", errD "BadResults"]) (.list [errD "BadOrder", errD "BadResults"]) = some true := by decide +kernel
    refine W.no (m1 := [some [.int c, .int k], none]) ?_ (W.nil trivial)
    have hq' : eqD (.list [.tuple [.str "error", .str "BadOrder"], .tuple [.str "error", .str "BadResults"]]) (.list [.tuple [.str "error", .str "BadOrder"], .tuple [.str "error", .str "BadResults"]]) = some true := hq
    simp [v_cst, v_glob, v_var, v_neg, v_bin, v_cmp, v_chain, v_and, v_or, v_not, v_ife, v_ix, v_oix, v_slc, v_tup, v_lst, v_call, v_callD, v_bi, v_isi, v_lenset, v_sset, v_mth, v_trng, v_told, v_smth, v_lowr, toldR_ok, x_asg, x_new, x_frz, x_app, x_oset, x_if, x_ret, x_raise, x_exp, x_par, xs_nil, xs_cons, bnd_ok, bnd_er, ob_ok, ob_er, opt_so, tst_b, tst_er, evs, evAnd, evOr, evIf, evo, itv, bindT, setL, wipeE, pnv, putP, endP, endM, isi_ii, isi_bi, isi_bb, isi_tt, bi_tl, bi_ll, bi_lt, thaw_eq, thaw_o, thaw_v, errD, cmpD, hq', hl2]
end TO

set_option Elab.async false
set_option linter.all false
set_option maxRecDepth 100000
set_option maxHeartbeats 8000000
namespace TO
open PySem L2
open TU (NT NG)
def topS (i : Nat) : Stmt := PySem.Challenge.pw_testorder_k14_whole_texts.main.body.getD i (.Pass ⟨0, 0, 0, 0⟩)
def forBody : Stmt → List Stmt
  | .For _ _ b _ _ => b
  | _ => []
abbrev s_is_integer : Stmt := topS 17
abbrev s_is_row : Stmt := topS 18
abbrev s_is_suite : Stmt := topS 19
abbrev s_check_suite : Stmt := topS 20
abbrev s_is_order : Stmt := topS 21
abbrev s_check_order : Stmt := topS 22
abbrev s_are_results : Stmt := topS 24
abbrev s_row_text : Stmt := topS 28
abbrev s_suite_text : Stmt := topS 29
abbrev s_check_text : Stmt := topS 30
abbrev s_row_in : Stmt := topS 31
abbrev s_parse_suite : Stmt := topS 32
abbrev s_written : Stmt := topS 33
abbrev s_run_text : Stmt := topS 34
abbrev s_read : Stmt := topS 35
abbrev s_parse_run : Stmt := topS 36
abbrev s_law_cell : Stmt := topS 38
abbrev s_law_drawn : Stmt := topS 39
abbrev s_law_roll : Stmt := topS 40
abbrev s_law_rounds : Stmt := topS 41
abbrev s_law_term : Stmt := topS 42
abbrev s_law_told : Stmt := topS 43
abbrev s_law_any_suite : Stmt := topS 44
abbrev s_law_orders : Stmt := topS 45
abbrev s_law_any_order : Stmt := topS 46
abbrev s_law_spoilt : Stmt := topS 47
abbrev s_law_far_texts : Stmt := topS 48
abbrev s_law : Stmt := topS 49
def N_law_cell : List Str := ["script", "k"]
def N_law_rounds : List Str := ["script", "high", "k"]
theorem sc_is_integer : FnScope N_is_integer ["value", "low", "high"] (defScope s_is_integer) := ⟨rfl, rfl, rfl, by decide +kernel, rfl, by decide +kernel, by decide +kernel⟩
theorem ck_is_integer : chkSs N_is_integer (defScope s_is_integer) ir_is_integer (defBody s_is_integer) = true := by kernel_rfl
theorem sc_is_row : FnScope N_is_row ["n", "test", "value"] (defScope s_is_row) := ⟨rfl, rfl, rfl, by decide +kernel, rfl, by decide +kernel, by decide +kernel⟩
theorem ck_is_row : chkSs N_is_row (defScope s_is_row) ir_is_row (defBody s_is_row) = true := by kernel_rfl
theorem sc_is_suite : FnScope N_is_suite ["value"] (defScope s_is_suite) := ⟨rfl, rfl, rfl, by decide +kernel, rfl, by decide +kernel, by decide +kernel⟩
theorem ck_is_suite : chkSs N_is_suite (defScope s_is_suite) ir_is_suite (defBody s_is_suite) = true := by kernel_rfl
theorem sc_check_suite : FnScope N_check_suite ["suite"] (defScope s_check_suite) := ⟨rfl, rfl, rfl, by decide +kernel, rfl, by decide +kernel, by decide +kernel⟩
theorem ck_check_suite : chkSs N_check_suite (defScope s_check_suite) ir_check_suite (defBody s_check_suite) = true := by kernel_rfl
theorem sc_is_order : FnScope N_is_order ["n", "value"] (defScope s_is_order) := ⟨rfl, rfl, rfl, by decide +kernel, rfl, by decide +kernel, by decide +kernel⟩
theorem ck_is_order : chkSs N_is_order (defScope s_is_order) ir_is_order (defBody s_is_order) = true := by kernel_rfl
theorem sc_check_order : FnScope N_check_order ["n", "order"] (defScope s_check_order) := ⟨rfl, rfl, rfl, by decide +kernel, rfl, by decide +kernel, by decide +kernel⟩
theorem ck_check_order : chkSs N_check_order (defScope s_check_order) ir_check_order (defBody s_check_order) = true := by kernel_rfl
theorem sc_are_results : FnScope N_are_results ["order", "value"] (defScope s_are_results) := ⟨rfl, rfl, rfl, by decide +kernel, rfl, by decide +kernel, by decide +kernel⟩
theorem ck_are_results : chkSs N_are_results (defScope s_are_results) ir_are_results (defBody s_are_results) = true := by kernel_rfl
theorem sc_row_text : FnScope N_row_text ["row"] (defScope s_row_text) := ⟨rfl, rfl, rfl, by decide +kernel, rfl, by decide +kernel, by decide +kernel⟩
theorem ck_row_text : chkSs N_row_text (defScope s_row_text) ir_row_text (defBody s_row_text) = true := by kernel_rfl
theorem sc_suite_text : FnScope N_suite_text ["suite"] (defScope s_suite_text) := ⟨rfl, rfl, rfl, by decide +kernel, rfl, by decide +kernel, by decide +kernel⟩
theorem ck_suite_text : chkSs N_suite_text (defScope s_suite_text) ir_suite_text (defBody s_suite_text) = true := by kernel_rfl
theorem sc_check_text : FnScope N_check_text ["text"] (defScope s_check_text) := ⟨rfl, rfl, rfl, by decide +kernel, rfl, by decide +kernel, by decide +kernel⟩
theorem ck_check_text : chkSs N_check_text (defScope s_check_text) ir_check_text (defBody s_check_text) = true := by kernel_rfl
theorem sc_row_in : FnScope N_row_in ["word"] (defScope s_row_in) := ⟨rfl, rfl, rfl, by decide +kernel, rfl, by decide +kernel, by decide +kernel⟩
theorem ck_row_in : chkSs N_row_in (defScope s_row_in) ir_row_in (defBody s_row_in) = true := by kernel_rfl
theorem sc_parse_suite : FnScope N_parse_suite ["text"] (defScope s_parse_suite) := ⟨rfl, rfl, rfl, by decide +kernel, rfl, by decide +kernel, by decide +kernel⟩
theorem ck_parse_suite : chkSs N_parse_suite (defScope s_parse_suite) ir_parse_suite (defBody s_parse_suite) = true := by kernel_rfl
theorem sc_written : FnScope N_written ["order", "results"] (defScope s_written) := ⟨rfl, rfl, rfl, by decide +kernel, rfl, by decide +kernel, by decide +kernel⟩
theorem ck_written : chkSs N_written (defScope s_written) ir_written (defBody s_written) = true := by kernel_rfl
theorem sc_run_text : FnScope N_run_text ["order", "results"] (defScope s_run_text) := ⟨rfl, rfl, rfl, by decide +kernel, rfl, by decide +kernel, by decide +kernel⟩
theorem ck_run_text : chkSs N_run_text (defScope s_run_text) ir_run_text (defBody s_run_text) = true := by kernel_rfl
theorem sc_read : FnScope N_read ["text"] (defScope s_read) := ⟨rfl, rfl, rfl, by decide +kernel, rfl, by decide +kernel, by decide +kernel⟩
theorem ck_read : chkSs N_read (defScope s_read) ir_read (defBody s_read) = true := by kernel_rfl
theorem sc_parse_run : FnScope N_parse_run ["text"] (defScope s_parse_run) := ⟨rfl, rfl, rfl, by decide +kernel, rfl, by decide +kernel, by decide +kernel⟩
theorem ck_parse_run : chkSs N_parse_run (defScope s_parse_run) ir_parse_run (defBody s_parse_run) = true := by kernel_rfl
theorem sc_law_cell : FnScope N_law_cell ["script", "k"] (defScope s_law_cell) := ⟨rfl, rfl, rfl, by decide +kernel, rfl, by decide +kernel, by decide +kernel⟩
theorem sc_law_drawn : FnScope N_law_drawn ["cell", "k"] (defScope s_law_drawn) := ⟨rfl, rfl, rfl, by decide +kernel, rfl, by decide +kernel, by decide +kernel⟩
theorem ck_law_drawn : chkSs N_law_drawn (defScope s_law_drawn) ir_law_drawn (defBody s_law_drawn) = true := by kernel_rfl
theorem sc_law_roll : FnScope N_law_roll ["dice", "many"] (defScope s_law_roll) := ⟨rfl, rfl, rfl, by decide +kernel, rfl, by decide +kernel, by decide +kernel⟩
theorem ck_law_roll : chkSs N_law_roll (defScope s_law_roll) ir_law_roll (defBody s_law_roll) = true := by kernel_rfl
theorem sc_law_rounds : FnScope N_law_rounds ["script", "high"] (defScope s_law_rounds) := ⟨rfl, rfl, rfl, by decide +kernel, rfl, by decide +kernel, by decide +kernel⟩
theorem sc_law_term : FnScope TU.NT ["e"] (defScope s_law_term) := ⟨rfl, rfl, rfl, by decide +kernel, rfl, by decide +kernel, by decide +kernel⟩
theorem sc_law_told : FnScope TU.NG ["deed"] (defScope s_law_told) := ⟨rfl, rfl, rfl, by decide +kernel, rfl, by decide +kernel, by decide +kernel⟩
theorem sc_law_any_suite : FnScope N_law_any_suite ["dice", "n"] (defScope s_law_any_suite) := ⟨rfl, rfl, rfl, by decide +kernel, rfl, by decide +kernel, by decide +kernel⟩
theorem ck_law_any_suite : chkSs N_law_any_suite (defScope s_law_any_suite) ir_law_any_suite (defBody s_law_any_suite) = true := by kernel_rfl
theorem sc_law_orders : FnScope N_law_orders ["n"] (defScope s_law_orders) := ⟨rfl, rfl, rfl, by decide +kernel, rfl, by decide +kernel, by decide +kernel⟩
theorem ck_law_orders : chkSs N_law_orders (defScope s_law_orders) ir_law_orders (defBody s_law_orders) = true := by kernel_rfl
theorem sc_law_any_order : FnScope N_law_any_order ["dice", "n"] (defScope s_law_any_order) := ⟨rfl, rfl, rfl, by decide +kernel, rfl, by decide +kernel, by decide +kernel⟩
theorem ck_law_any_order : chkSs N_law_any_order (defScope s_law_any_order) ir_law_any_order (defBody s_law_any_order) = true := by kernel_rfl
theorem sc_law_spoilt : FnScope N_law_spoilt ["dice", "text", "signs"] (defScope s_law_spoilt) := ⟨rfl, rfl, rfl, by decide +kernel, rfl, by decide +kernel, by decide +kernel⟩
theorem ck_law_spoilt : chkSs N_law_spoilt (defScope s_law_spoilt) ir_law_spoilt (defBody s_law_spoilt) = true := by kernel_rfl
theorem sc_law_far_texts : FnScope N_law_far_texts ["page", "text"] (defScope s_law_far_texts) := ⟨rfl, rfl, rfl, by decide +kernel, rfl, by decide +kernel, by decide +kernel⟩
theorem ck_law_far_texts : chkSs N_law_far_texts (defScope s_law_far_texts) ir_law_far_texts (defBody s_law_far_texts) = true := by kernel_rfl
theorem sc_law : FnScope N_law ["script"] (defScope s_law) := ⟨rfl, rfl, rfl, by decide +kernel, rfl, by decide +kernel, by decide +kernel⟩
theorem ck_law : chkSs N_law (defScope s_law) ir_law (forBody ((defBody s_law).getD 0 (.Pass ⟨0, 0, 0, 0⟩))) = true := by kernel_rfl
section
variable {P : Program} {w : World} {K : PySem.W.Frag} {mg : Str → Option Value} {base : Heap}
theorem ok_cell {f : Addr} {fd : FuncData} (F : Fun K "_law_cell" "_law_cell" s_law_cell f fd) (mlen : mg "len" = none) : FnOk P w K mg base CX0 1 f fd ["script", "k"] (spCell K) := by
  refine F.ok sc_law_cell (fun vs H Q E h => ?_) (fun cdv A outer s H vs Q E hr h => ?_)
  · obtain ⟨a, ns, k, rfl, _⟩ := h
    rfl
  · obtain ⟨a, ns, k, rfl, hS, hl, h0, h1, q⟩ := h
    refine ⟨_, pss_cons (ps_if (pt_cmpR (op_eqD hr.units) (pv 0) (pe_lst pa_nil) (nomark _)) (pss_one (ps_ret (pe_op op_mul (pv 1) pe_int))) pss_nil)
      (pss_one (ps_ret (pe_op op_add (pe_ix ix_list (pv 0) (pe_op op_mod (pv 1) (pe_callB call_len_seq (by rfl) mlen PySem.boot_len (pa_cons (pv 0) pa_nil))) (fun _ _ => rfl))
        (pe_op op_mul (pe_op op_fdiv (pv 1) (pe_callB call_len_seq (by rfl) mlen PySem.boot_len (pa_cons (pv 0) pa_nil))) pe_int)))), ?_⟩
    exact cell_read hS hl ⟨h0, h1⟩ rfl rfl q
theorem ok_rounds {f fC : Addr} {fd fdC : FuncData} (F : Fun K "_law_rounds" "_law_rounds" s_law_rounds f fd) (FC : Fun K "_law_cell" "_law_cell" s_law_cell fC fdC) (bC : Binds K fdC ["script", "k"] []) (mC : mg "_law_cell" = some (.ref fC))
    (mlen : mg "len" = none) (mrange : mg "range" = none) (mmax : mg "max" = none) (mmin : mg "min" = none) : FnOk P w K mg base CX0 2 f fd ["script", "high"] (spRounds K) := by
  have GC : FnOk P w K mg base CX0 1 fC fdC ["script", "k"] (spCell K) := ok_cell FC mlen
  refine F.ok sc_law_rounds (fun vs H Q E h => ?_) (fun cdv A outer s H vs Q E hr h => ?_)
  · obtain ⟨a, ns, k, rfl, _⟩ := h
    rfl
  · obtain ⟨a, ns, k, rfl, hS, hl, h0, h1, q⟩ := h
    refine ⟨_, pss_one (ps_ret (pe_lc (own := [("k", 2)]) (g := gName 2) (tt := tYes) rfl sc_law_rounds.nd
      (pi_range1 (by rfl) mrange (pa_cons (pe_callB (call_max2 rfl) (by rfl) mmax (by decide +kernel) (pa_cons pe_int (pa_cons (pe_callB (call_min2 rfl) (by rfl) mmin (by decide +kernel)
        (pa_cons (pv 1) (pa_cons (pe_callB call_len_seq (by rfl) mlen PySem.boot_len (pa_cons (pv 0) pa_nil)) pa_nil))) pa_nil))) pa_nil))
      (blkOk_by (N := N_law_rounds) (sc := defScope s_law_rounds) (by decide +kernel)) (fun _ _ _ _ _ => pg_name (i := 2) sc_law_rounds.nd rfl (Or.inl rfl)) (fun _ _ _ _ _ => pts_nil)
      (fun _ _ _ _ _ => pe_lst (pa_cons (pe_call GC hr rfl mC FC.kp bC .nil pass0 (pa_cons (pv 0) (pa_cons (pv 2) pa_nil))) (pa_cons pe_int pa_nil))))), ?_⟩
    exact rounds_read hS hl ⟨h0, h1⟩ rfl rfl rfl q
end
theorem term_ok {c : Ct} (d : DF c "_law_term" s_law_term ["e"]) : TU.TermD c.K c.mg :=
  termD_mk d sc_law_term (by decide +kernel) fun X p Dc y t => TU.term_read (k8 := 0) t (.cons (.cons (.cons (.cons .nil)))) (.cons (.cons (.cons .nil))) (.cons (.cons (.cons .nil))) (.cons (.cons (.cons .nil)))
    (.cons (.cons (.cons (.cons (.cons (.cons (.cons (.cons .nil)))))))) (.cons (.cons (.cons (.cons (.cons .nil))))) (by decide +kernel)
theorem all_mk {l : PySem.W.OpenLaw} {w : World} {K : PySem.W.Frag} {h : Heap} {mg : Str → Option Value} {fa : Addr} (X : K.In h) (G : h.Ns mainGlobals mg) (hfa : mg "law" = some (.ref fa))
    {f_is_integer : Addr} {od_is_integer an_is_integer : Option Addr} {sl_is_integer : Array (Option Value)} {oc_is_integer kV_is_integer dc_is_integer pm_is_integer cd_is_integer ct_is_integer : Value}
    {f_is_row : Addr} {od_is_row an_is_row : Option Addr} {sl_is_row : Array (Option Value)} {oc_is_row kV_is_row dc_is_row pm_is_row cd_is_row ct_is_row : Value}
    {f_is_suite : Addr} {od_is_suite an_is_suite : Option Addr} {sl_is_suite : Array (Option Value)} {oc_is_suite kV_is_suite dc_is_suite pm_is_suite cd_is_suite ct_is_suite : Value}
    {f_check_suite : Addr} {od_check_suite an_check_suite : Option Addr} {sl_check_suite : Array (Option Value)} {oc_check_suite kV_check_suite dc_check_suite pm_check_suite cd_check_suite ct_check_suite : Value}
    {f_is_order : Addr} {od_is_order an_is_order : Option Addr} {sl_is_order : Array (Option Value)} {oc_is_order kV_is_order dc_is_order pm_is_order cd_is_order ct_is_order : Value}
    {f_check_order : Addr} {od_check_order an_check_order : Option Addr} {sl_check_order : Array (Option Value)} {oc_check_order kV_check_order dc_check_order pm_check_order cd_check_order ct_check_order : Value}
    {f_are_results : Addr} {od_are_results an_are_results : Option Addr} {sl_are_results : Array (Option Value)} {oc_are_results kV_are_results dc_are_results pm_are_results cd_are_results ct_are_results : Value}
    {f_row_text : Addr} {od_row_text an_row_text : Option Addr} {sl_row_text : Array (Option Value)} {oc_row_text kV_row_text dc_row_text pm_row_text cd_row_text ct_row_text : Value}
    {f_suite_text : Addr} {od_suite_text an_suite_text : Option Addr} {sl_suite_text : Array (Option Value)} {oc_suite_text kV_suite_text dc_suite_text pm_suite_text cd_suite_text ct_suite_text : Value}
    {f_check_text : Addr} {od_check_text an_check_text : Option Addr} {sl_check_text : Array (Option Value)} {oc_check_text kV_check_text dc_check_text pm_check_text cd_check_text ct_check_text : Value}
    {f_row_in : Addr} {od_row_in an_row_in : Option Addr} {sl_row_in : Array (Option Value)} {oc_row_in kV_row_in dc_row_in pm_row_in cd_row_in ct_row_in : Value}
    {f_parse_suite : Addr} {od_parse_suite an_parse_suite : Option Addr} {sl_parse_suite : Array (Option Value)} {oc_parse_suite kV_parse_suite dc_parse_suite pm_parse_suite cd_parse_suite ct_parse_suite : Value}
    {f_written : Addr} {od_written an_written : Option Addr} {sl_written : Array (Option Value)} {oc_written kV_written dc_written pm_written cd_written ct_written : Value}
    {f_run_text : Addr} {od_run_text an_run_text : Option Addr} {sl_run_text : Array (Option Value)} {oc_run_text kV_run_text dc_run_text pm_run_text cd_run_text ct_run_text : Value}
    {f_read : Addr} {od_read an_read : Option Addr} {sl_read : Array (Option Value)} {oc_read kV_read dc_read pm_read cd_read ct_read : Value}
    {f_parse_run : Addr} {od_parse_run an_parse_run : Option Addr} {sl_parse_run : Array (Option Value)} {oc_parse_run kV_parse_run dc_parse_run pm_parse_run cd_parse_run ct_parse_run : Value}
    {f_law_cell : Addr} {od_law_cell an_law_cell : Option Addr} {sl_law_cell : Array (Option Value)} {oc_law_cell kV_law_cell dc_law_cell pm_law_cell cd_law_cell ct_law_cell : Value}
    {f_law_drawn : Addr} {od_law_drawn an_law_drawn : Option Addr} {sl_law_drawn : Array (Option Value)} {oc_law_drawn kV_law_drawn dc_law_drawn pm_law_drawn cd_law_drawn ct_law_drawn : Value}
    {f_law_roll : Addr} {od_law_roll an_law_roll : Option Addr} {sl_law_roll : Array (Option Value)} {oc_law_roll kV_law_roll dc_law_roll pm_law_roll cd_law_roll ct_law_roll : Value}
    {f_law_rounds : Addr} {od_law_rounds an_law_rounds : Option Addr} {sl_law_rounds : Array (Option Value)} {oc_law_rounds kV_law_rounds dc_law_rounds pm_law_rounds cd_law_rounds ct_law_rounds : Value}
    {f_law_term : Addr} {od_law_term an_law_term : Option Addr} {sl_law_term : Array (Option Value)} {oc_law_term kV_law_term dc_law_term pm_law_term cd_law_term ct_law_term : Value}
    {f_law_told : Addr} {od_law_told an_law_told : Option Addr} {sl_law_told : Array (Option Value)} {oc_law_told kV_law_told dc_law_told pm_law_told cd_law_told ct_law_told : Value}
    {f_law_any_suite : Addr} {od_law_any_suite an_law_any_suite : Option Addr} {sl_law_any_suite : Array (Option Value)} {oc_law_any_suite kV_law_any_suite dc_law_any_suite pm_law_any_suite cd_law_any_suite ct_law_any_suite : Value}
    {f_law_orders : Addr} {od_law_orders an_law_orders : Option Addr} {sl_law_orders : Array (Option Value)} {oc_law_orders kV_law_orders dc_law_orders pm_law_orders cd_law_orders ct_law_orders : Value}
    {f_law_any_order : Addr} {od_law_any_order an_law_any_order : Option Addr} {sl_law_any_order : Array (Option Value)} {oc_law_any_order kV_law_any_order dc_law_any_order pm_law_any_order cd_law_any_order ct_law_any_order : Value}
    {f_law_spoilt : Addr} {od_law_spoilt an_law_spoilt : Option Addr} {sl_law_spoilt : Array (Option Value)} {oc_law_spoilt kV_law_spoilt dc_law_spoilt pm_law_spoilt cd_law_spoilt ct_law_spoilt : Value}
    {f_law_far_texts : Addr} {od_law_far_texts an_law_far_texts : Option Addr} {sl_law_far_texts : Array (Option Value)} {oc_law_far_texts kV_law_far_texts dc_law_far_texts pm_law_far_texts cd_law_far_texts ct_law_far_texts : Value}
    {f_law : Addr} {od_law an_law : Option Addr} {sl_law : Array (Option Value)} {oc_law kV_law dc_law pm_law cd_law ct_law : Value}
    {C_BadOrder : Addr}
    {C_BadResults : Addr}
    {C_BadSuite : Addr}
    {C_BadText : Addr}
    {tk_FIGURES : Tok}
    {tk_MOST : Tok}
    {tk_SIGNS : Tok}
    (a_is_integer : PySem.W.nsIn K mainGlobals "is_integer" = some (some (.ref f_is_integer)))
    (l_is_integer : K.lookup f_is_integer = some ⟨oc_is_integer, od_is_integer, .func (PySem.W.fnOf "is_integer" "is_integer" (defArgs s_is_integer) (defBody s_is_integer) (defScope s_is_integer) .none kV_is_integer dc_is_integer pm_is_integer an_is_integer cd_is_integer ct_is_integer), sl_is_integer⟩)
    (c_is_integer : PySem.W.codeIn K cd_is_integer "is_integer" = true)
    (k_is_integer : PySem.W.keepIn K (.ref f_is_integer) = true)
    (a_is_row : PySem.W.nsIn K mainGlobals "is_row" = some (some (.ref f_is_row)))
    (l_is_row : K.lookup f_is_row = some ⟨oc_is_row, od_is_row, .func (PySem.W.fnOf "is_row" "is_row" (defArgs s_is_row) (defBody s_is_row) (defScope s_is_row) .none kV_is_row dc_is_row pm_is_row an_is_row cd_is_row ct_is_row), sl_is_row⟩)
    (c_is_row : PySem.W.codeIn K cd_is_row "is_row" = true)
    (k_is_row : PySem.W.keepIn K (.ref f_is_row) = true)
    (a_is_suite : PySem.W.nsIn K mainGlobals "is_suite" = some (some (.ref f_is_suite)))
    (l_is_suite : K.lookup f_is_suite = some ⟨oc_is_suite, od_is_suite, .func (PySem.W.fnOf "is_suite" "is_suite" (defArgs s_is_suite) (defBody s_is_suite) (defScope s_is_suite) .none kV_is_suite dc_is_suite pm_is_suite an_is_suite cd_is_suite ct_is_suite), sl_is_suite⟩)
    (c_is_suite : PySem.W.codeIn K cd_is_suite "is_suite" = true)
    (k_is_suite : PySem.W.keepIn K (.ref f_is_suite) = true)
    (a_check_suite : PySem.W.nsIn K mainGlobals "check_suite" = some (some (.ref f_check_suite)))
    (l_check_suite : K.lookup f_check_suite = some ⟨oc_check_suite, od_check_suite, .func (PySem.W.fnOf "check_suite" "check_suite" (defArgs s_check_suite) (defBody s_check_suite) (defScope s_check_suite) .none kV_check_suite dc_check_suite pm_check_suite an_check_suite cd_check_suite ct_check_suite), sl_check_suite⟩)
    (c_check_suite : PySem.W.codeIn K cd_check_suite "check_suite" = true)
    (k_check_suite : PySem.W.keepIn K (.ref f_check_suite) = true)
    (a_is_order : PySem.W.nsIn K mainGlobals "is_order" = some (some (.ref f_is_order)))
    (l_is_order : K.lookup f_is_order = some ⟨oc_is_order, od_is_order, .func (PySem.W.fnOf "is_order" "is_order" (defArgs s_is_order) (defBody s_is_order) (defScope s_is_order) .none kV_is_order dc_is_order pm_is_order an_is_order cd_is_order ct_is_order), sl_is_order⟩)
    (c_is_order : PySem.W.codeIn K cd_is_order "is_order" = true)
    (k_is_order : PySem.W.keepIn K (.ref f_is_order) = true)
    (a_check_order : PySem.W.nsIn K mainGlobals "check_order" = some (some (.ref f_check_order)))
    (l_check_order : K.lookup f_check_order = some ⟨oc_check_order, od_check_order, .func (PySem.W.fnOf "check_order" "check_order" (defArgs s_check_order) (defBody s_check_order) (defScope s_check_order) .none kV_check_order dc_check_order pm_check_order an_check_order cd_check_order ct_check_order), sl_check_order⟩)
    (c_check_order : PySem.W.codeIn K cd_check_order "check_order" = true)
    (k_check_order : PySem.W.keepIn K (.ref f_check_order) = true)
    (a_are_results : PySem.W.nsIn K mainGlobals "are_results" = some (some (.ref f_are_results)))
    (l_are_results : K.lookup f_are_results = some ⟨oc_are_results, od_are_results, .func (PySem.W.fnOf "are_results" "are_results" (defArgs s_are_results) (defBody s_are_results) (defScope s_are_results) .none kV_are_results dc_are_results pm_are_results an_are_results cd_are_results ct_are_results), sl_are_results⟩)
    (c_are_results : PySem.W.codeIn K cd_are_results "are_results" = true)
    (k_are_results : PySem.W.keepIn K (.ref f_are_results) = true)
    (a_row_text : PySem.W.nsIn K mainGlobals "row_text" = some (some (.ref f_row_text)))
    (l_row_text : K.lookup f_row_text = some ⟨oc_row_text, od_row_text, .func (PySem.W.fnOf "row_text" "row_text" (defArgs s_row_text) (defBody s_row_text) (defScope s_row_text) .none kV_row_text dc_row_text pm_row_text an_row_text cd_row_text ct_row_text), sl_row_text⟩)
    (c_row_text : PySem.W.codeIn K cd_row_text "row_text" = true)
    (k_row_text : PySem.W.keepIn K (.ref f_row_text) = true)
    (a_suite_text : PySem.W.nsIn K mainGlobals "suite_text" = some (some (.ref f_suite_text)))
    (l_suite_text : K.lookup f_suite_text = some ⟨oc_suite_text, od_suite_text, .func (PySem.W.fnOf "suite_text" "suite_text" (defArgs s_suite_text) (defBody s_suite_text) (defScope s_suite_text) .none kV_suite_text dc_suite_text pm_suite_text an_suite_text cd_suite_text ct_suite_text), sl_suite_text⟩)
    (c_suite_text : PySem.W.codeIn K cd_suite_text "suite_text" = true)
    (k_suite_text : PySem.W.keepIn K (.ref f_suite_text) = true)
    (a_check_text : PySem.W.nsIn K mainGlobals "check_text" = some (some (.ref f_check_text)))
    (l_check_text : K.lookup f_check_text = some ⟨oc_check_text, od_check_text, .func (PySem.W.fnOf "check_text" "check_text" (defArgs s_check_text) (defBody s_check_text) (defScope s_check_text) .none kV_check_text dc_check_text pm_check_text an_check_text cd_check_text ct_check_text), sl_check_text⟩)
    (c_check_text : PySem.W.codeIn K cd_check_text "check_text" = true)
    (k_check_text : PySem.W.keepIn K (.ref f_check_text) = true)
    (a_row_in : PySem.W.nsIn K mainGlobals "row_in" = some (some (.ref f_row_in)))
    (l_row_in : K.lookup f_row_in = some ⟨oc_row_in, od_row_in, .func (PySem.W.fnOf "row_in" "row_in" (defArgs s_row_in) (defBody s_row_in) (defScope s_row_in) .none kV_row_in dc_row_in pm_row_in an_row_in cd_row_in ct_row_in), sl_row_in⟩)
    (c_row_in : PySem.W.codeIn K cd_row_in "row_in" = true)
    (k_row_in : PySem.W.keepIn K (.ref f_row_in) = true)
    (a_parse_suite : PySem.W.nsIn K mainGlobals "parse_suite" = some (some (.ref f_parse_suite)))
    (l_parse_suite : K.lookup f_parse_suite = some ⟨oc_parse_suite, od_parse_suite, .func (PySem.W.fnOf "parse_suite" "parse_suite" (defArgs s_parse_suite) (defBody s_parse_suite) (defScope s_parse_suite) .none kV_parse_suite dc_parse_suite pm_parse_suite an_parse_suite cd_parse_suite ct_parse_suite), sl_parse_suite⟩)
    (c_parse_suite : PySem.W.codeIn K cd_parse_suite "parse_suite" = true)
    (k_parse_suite : PySem.W.keepIn K (.ref f_parse_suite) = true)
    (a_written : PySem.W.nsIn K mainGlobals "written" = some (some (.ref f_written)))
    (l_written : K.lookup f_written = some ⟨oc_written, od_written, .func (PySem.W.fnOf "written" "written" (defArgs s_written) (defBody s_written) (defScope s_written) .none kV_written dc_written pm_written an_written cd_written ct_written), sl_written⟩)
    (c_written : PySem.W.codeIn K cd_written "written" = true)
    (k_written : PySem.W.keepIn K (.ref f_written) = true)
    (a_run_text : PySem.W.nsIn K mainGlobals "run_text" = some (some (.ref f_run_text)))
    (l_run_text : K.lookup f_run_text = some ⟨oc_run_text, od_run_text, .func (PySem.W.fnOf "run_text" "run_text" (defArgs s_run_text) (defBody s_run_text) (defScope s_run_text) .none kV_run_text dc_run_text pm_run_text an_run_text cd_run_text ct_run_text), sl_run_text⟩)
    (c_run_text : PySem.W.codeIn K cd_run_text "run_text" = true)
    (k_run_text : PySem.W.keepIn K (.ref f_run_text) = true)
    (a_read : PySem.W.nsIn K mainGlobals "read" = some (some (.ref f_read)))
    (l_read : K.lookup f_read = some ⟨oc_read, od_read, .func (PySem.W.fnOf "read" "read" (defArgs s_read) (defBody s_read) (defScope s_read) .none kV_read dc_read pm_read an_read cd_read ct_read), sl_read⟩)
    (c_read : PySem.W.codeIn K cd_read "read" = true)
    (k_read : PySem.W.keepIn K (.ref f_read) = true)
    (a_parse_run : PySem.W.nsIn K mainGlobals "parse_run" = some (some (.ref f_parse_run)))
    (l_parse_run : K.lookup f_parse_run = some ⟨oc_parse_run, od_parse_run, .func (PySem.W.fnOf "parse_run" "parse_run" (defArgs s_parse_run) (defBody s_parse_run) (defScope s_parse_run) .none kV_parse_run dc_parse_run pm_parse_run an_parse_run cd_parse_run ct_parse_run), sl_parse_run⟩)
    (c_parse_run : PySem.W.codeIn K cd_parse_run "parse_run" = true)
    (k_parse_run : PySem.W.keepIn K (.ref f_parse_run) = true)
    (a_law_cell : PySem.W.nsIn K mainGlobals "_law_cell" = some (some (.ref f_law_cell)))
    (l_law_cell : K.lookup f_law_cell = some ⟨oc_law_cell, od_law_cell, .func (PySem.W.fnOf "_law_cell" "_law_cell" (defArgs s_law_cell) (defBody s_law_cell) (defScope s_law_cell) .none kV_law_cell dc_law_cell pm_law_cell an_law_cell cd_law_cell ct_law_cell), sl_law_cell⟩)
    (c_law_cell : PySem.W.codeIn K cd_law_cell "_law_cell" = true)
    (k_law_cell : PySem.W.keepIn K (.ref f_law_cell) = true)
    (a_law_drawn : PySem.W.nsIn K mainGlobals "_law_drawn" = some (some (.ref f_law_drawn)))
    (l_law_drawn : K.lookup f_law_drawn = some ⟨oc_law_drawn, od_law_drawn, .func (PySem.W.fnOf "_law_drawn" "_law_drawn" (defArgs s_law_drawn) (defBody s_law_drawn) (defScope s_law_drawn) .none kV_law_drawn dc_law_drawn pm_law_drawn an_law_drawn cd_law_drawn ct_law_drawn), sl_law_drawn⟩)
    (c_law_drawn : PySem.W.codeIn K cd_law_drawn "_law_drawn" = true)
    (k_law_drawn : PySem.W.keepIn K (.ref f_law_drawn) = true)
    (a_law_roll : PySem.W.nsIn K mainGlobals "_law_roll" = some (some (.ref f_law_roll)))
    (l_law_roll : K.lookup f_law_roll = some ⟨oc_law_roll, od_law_roll, .func (PySem.W.fnOf "_law_roll" "_law_roll" (defArgs s_law_roll) (defBody s_law_roll) (defScope s_law_roll) .none kV_law_roll dc_law_roll pm_law_roll an_law_roll cd_law_roll ct_law_roll), sl_law_roll⟩)
    (c_law_roll : PySem.W.codeIn K cd_law_roll "_law_roll" = true)
    (k_law_roll : PySem.W.keepIn K (.ref f_law_roll) = true)
    (a_law_rounds : PySem.W.nsIn K mainGlobals "_law_rounds" = some (some (.ref f_law_rounds)))
    (l_law_rounds : K.lookup f_law_rounds = some ⟨oc_law_rounds, od_law_rounds, .func (PySem.W.fnOf "_law_rounds" "_law_rounds" (defArgs s_law_rounds) (defBody s_law_rounds) (defScope s_law_rounds) .none kV_law_rounds dc_law_rounds pm_law_rounds an_law_rounds cd_law_rounds ct_law_rounds), sl_law_rounds⟩)
    (c_law_rounds : PySem.W.codeIn K cd_law_rounds "_law_rounds" = true)
    (k_law_rounds : PySem.W.keepIn K (.ref f_law_rounds) = true)
    (a_law_term : PySem.W.nsIn K mainGlobals "_law_term" = some (some (.ref f_law_term)))
    (l_law_term : K.lookup f_law_term = some ⟨oc_law_term, od_law_term, .func (PySem.W.fnOf "_law_term" "_law_term" (defArgs s_law_term) (defBody s_law_term) (defScope s_law_term) .none kV_law_term dc_law_term pm_law_term an_law_term cd_law_term ct_law_term), sl_law_term⟩)
    (c_law_term : PySem.W.codeIn K cd_law_term "_law_term" = true)
    (k_law_term : PySem.W.keepIn K (.ref f_law_term) = true)
    (a_law_told : PySem.W.nsIn K mainGlobals "_law_told" = some (some (.ref f_law_told)))
    (l_law_told : K.lookup f_law_told = some ⟨oc_law_told, od_law_told, .func (PySem.W.fnOf "_law_told" "_law_told" (defArgs s_law_told) (defBody s_law_told) (defScope s_law_told) .none kV_law_told dc_law_told pm_law_told an_law_told cd_law_told ct_law_told), sl_law_told⟩)
    (c_law_told : PySem.W.codeIn K cd_law_told "_law_told" = true)
    (k_law_told : PySem.W.keepIn K (.ref f_law_told) = true)
    (a_law_any_suite : PySem.W.nsIn K mainGlobals "_law_any_suite" = some (some (.ref f_law_any_suite)))
    (l_law_any_suite : K.lookup f_law_any_suite = some ⟨oc_law_any_suite, od_law_any_suite, .func (PySem.W.fnOf "_law_any_suite" "_law_any_suite" (defArgs s_law_any_suite) (defBody s_law_any_suite) (defScope s_law_any_suite) .none kV_law_any_suite dc_law_any_suite pm_law_any_suite an_law_any_suite cd_law_any_suite ct_law_any_suite), sl_law_any_suite⟩)
    (c_law_any_suite : PySem.W.codeIn K cd_law_any_suite "_law_any_suite" = true)
    (k_law_any_suite : PySem.W.keepIn K (.ref f_law_any_suite) = true)
    (a_law_orders : PySem.W.nsIn K mainGlobals "_law_orders" = some (some (.ref f_law_orders)))
    (l_law_orders : K.lookup f_law_orders = some ⟨oc_law_orders, od_law_orders, .func (PySem.W.fnOf "_law_orders" "_law_orders" (defArgs s_law_orders) (defBody s_law_orders) (defScope s_law_orders) .none kV_law_orders dc_law_orders pm_law_orders an_law_orders cd_law_orders ct_law_orders), sl_law_orders⟩)
    (c_law_orders : PySem.W.codeIn K cd_law_orders "_law_orders" = true)
    (k_law_orders : PySem.W.keepIn K (.ref f_law_orders) = true)
    (a_law_any_order : PySem.W.nsIn K mainGlobals "_law_any_order" = some (some (.ref f_law_any_order)))
    (l_law_any_order : K.lookup f_law_any_order = some ⟨oc_law_any_order, od_law_any_order, .func (PySem.W.fnOf "_law_any_order" "_law_any_order" (defArgs s_law_any_order) (defBody s_law_any_order) (defScope s_law_any_order) .none kV_law_any_order dc_law_any_order pm_law_any_order an_law_any_order cd_law_any_order ct_law_any_order), sl_law_any_order⟩)
    (c_law_any_order : PySem.W.codeIn K cd_law_any_order "_law_any_order" = true)
    (k_law_any_order : PySem.W.keepIn K (.ref f_law_any_order) = true)
    (a_law_spoilt : PySem.W.nsIn K mainGlobals "_law_spoilt" = some (some (.ref f_law_spoilt)))
    (l_law_spoilt : K.lookup f_law_spoilt = some ⟨oc_law_spoilt, od_law_spoilt, .func (PySem.W.fnOf "_law_spoilt" "_law_spoilt" (defArgs s_law_spoilt) (defBody s_law_spoilt) (defScope s_law_spoilt) .none kV_law_spoilt dc_law_spoilt pm_law_spoilt an_law_spoilt cd_law_spoilt ct_law_spoilt), sl_law_spoilt⟩)
    (c_law_spoilt : PySem.W.codeIn K cd_law_spoilt "_law_spoilt" = true)
    (k_law_spoilt : PySem.W.keepIn K (.ref f_law_spoilt) = true)
    (a_law_far_texts : PySem.W.nsIn K mainGlobals "_law_far_texts" = some (some (.ref f_law_far_texts)))
    (l_law_far_texts : K.lookup f_law_far_texts = some ⟨oc_law_far_texts, od_law_far_texts, .func (PySem.W.fnOf "_law_far_texts" "_law_far_texts" (defArgs s_law_far_texts) (defBody s_law_far_texts) (defScope s_law_far_texts) .none kV_law_far_texts dc_law_far_texts pm_law_far_texts an_law_far_texts cd_law_far_texts ct_law_far_texts), sl_law_far_texts⟩)
    (c_law_far_texts : PySem.W.codeIn K cd_law_far_texts "_law_far_texts" = true)
    (k_law_far_texts : PySem.W.keepIn K (.ref f_law_far_texts) = true)
    (a_law : PySem.W.nsIn K mainGlobals "law" = some (some (.ref f_law)))
    (l_law : K.lookup f_law = some ⟨oc_law, od_law, .func (PySem.W.fnOf "law" "law" (defArgs s_law) (defBody s_law) (defScope s_law) .none kV_law dc_law pm_law an_law cd_law ct_law), sl_law⟩)
    (c_law : PySem.W.codeIn K cd_law "law" = true)
    (k_law : PySem.W.keepIn K (.ref f_law) = true)
    (a_BadOrder : PySem.W.nsIn K mainGlobals "BadOrder" = some (some (.ref C_BadOrder)))
    (x_BadOrder : PySem.W.excIn K C_BadOrder [.type "ValueError", .type "Exception", .type "BaseException", .type "object"] "ValueError.__new__" = true)
    (k_BadOrder : PySem.W.keepIn K (.ref C_BadOrder) = true)
    (b_BadOrder : PySem.W.subIn K (.ref C_BadOrder) (.type "BaseException") = some true)
    (t_BadOrder : PySem.W.typeIn K (.ref C_BadOrder) = some (.type "type"))
    (a_BadResults : PySem.W.nsIn K mainGlobals "BadResults" = some (some (.ref C_BadResults)))
    (x_BadResults : PySem.W.excIn K C_BadResults [.type "ValueError", .type "Exception", .type "BaseException", .type "object"] "ValueError.__new__" = true)
    (k_BadResults : PySem.W.keepIn K (.ref C_BadResults) = true)
    (b_BadResults : PySem.W.subIn K (.ref C_BadResults) (.type "BaseException") = some true)
    (t_BadResults : PySem.W.typeIn K (.ref C_BadResults) = some (.type "type"))
    (a_BadSuite : PySem.W.nsIn K mainGlobals "BadSuite" = some (some (.ref C_BadSuite)))
    (x_BadSuite : PySem.W.excIn K C_BadSuite [.type "ValueError", .type "Exception", .type "BaseException", .type "object"] "ValueError.__new__" = true)
    (k_BadSuite : PySem.W.keepIn K (.ref C_BadSuite) = true)
    (b_BadSuite : PySem.W.subIn K (.ref C_BadSuite) (.type "BaseException") = some true)
    (t_BadSuite : PySem.W.typeIn K (.ref C_BadSuite) = some (.type "type"))
    (a_BadText : PySem.W.nsIn K mainGlobals "BadText" = some (some (.ref C_BadText)))
    (x_BadText : PySem.W.excIn K C_BadText [.type "ValueError", .type "Exception", .type "BaseException", .type "object"] "ValueError.__new__" = true)
    (k_BadText : PySem.W.keepIn K (.ref C_BadText) = true)
    (b_BadText : PySem.W.subIn K (.ref C_BadText) (.type "BaseException") = some true)
    (t_BadText : PySem.W.typeIn K (.ref C_BadText) = some (.type "type"))
    (g_FIGURES : PySem.W.nsIn K mainGlobals "FIGURES" = some (some (.str "0123456789" tk_FIGURES)))
    (g_MOST : PySem.W.nsIn K mainGlobals "MOST" = some (some (.int 7 tk_MOST)))
    (g_SIGNS : PySem.W.nsIn K mainGlobals "SIGNS" = some (some (.str "-.+" tk_SIGNS)))
    (z_len : PySem.W.nsIn K mainGlobals "len" = some none)
    (z_tuple : PySem.W.nsIn K mainGlobals "tuple" = some none)
    (z_list : PySem.W.nsIn K mainGlobals "list" = some none)
    (z_all : PySem.W.nsIn K mainGlobals "all" = some none)
    (z_sum : PySem.W.nsIn K mainGlobals "sum" = some none)
    (z_int : PySem.W.nsIn K mainGlobals "int" = some none)
    (z_max : PySem.W.nsIn K mainGlobals "max" = some none)
    (z_min : PySem.W.nsIn K mainGlobals "min" = some none)
    (z_isinstance : PySem.W.nsIn K mainGlobals "isinstance" = some none)
    (z_bool : PySem.W.nsIn K mainGlobals "bool" = some none)
    (z_str : PySem.W.nsIn K mainGlobals "str" = some none)
    (z_range : PySem.W.nsIn K mainGlobals "range" = some none)
    (z_enumerate : PySem.W.nsIn K mainGlobals "enumerate" = some none)
    (z_zip : PySem.W.nsIn K mainGlobals "zip" = some none)
    (z_set : PySem.W.nsIn K mainGlobals "set" = some none)
    (z_sorted : PySem.W.nsIn K mainGlobals "sorted" = some none)
    (z_ValueError : PySem.W.nsIn K mainGlobals "ValueError" = some none)
    (t13 : told13B K = true)
    (tb : tabB K ["_law_far_texts", "law"] = true)
    (hex : ∀ (z : Int), ∃ env m, execs ir_law ((List.replicate N_law.length none).set 1 (some (.obj 0))) [some [.int z, .int 0]] = some (.nx env m)) :
    ∃ fd : FuncData, (∀ (s : Shared) (v : Value), BindsTo s fd ⟨[v], []⟩ [("script", v)]) ∧ ∀ base : Heap, K.In base → base.Ns mainGlobals mg → (∀ p ∈ (["_law_far_texts", "law"] : List Str).filterMap (PySem.W.tabIn K), LamX.TabB base mg p.1 p.2) → FnOk l.prog w K mg base CX0 11 fa fd ["script"] (spLawT (tabT K ["_law_far_texts", "law"]) K) := by
  have e := hfa.symm.trans (PySem.W.mg_of X G a_law)
  cases e
  have F := fun_mk (st := s_law) l_law c_law k_law
  refine ⟨PySem.W.fnOf "law" "law" (defArgs s_law) (defBody s_law) (defScope s_law) .none kV_law dc_law pm_law an_law cd_law ct_law, fun s v => .of_eq rfl, fun base _ _ TB => ?_⟩
  have bf : ∀ x ∈ BN, mg x = none := fun x hx => by
    simp only [BN, List.mem_cons, List.mem_nil_iff, or_false] at hx
    rcases hx with rfl | rfl | rfl | rfl | rfl | rfl | rfl | rfl | rfl | rfl | rfl | rfl | rfl | rfl | rfl | rfl | rfl
    · exact PySem.W.mg_none_of X G z_len
    · exact PySem.W.mg_none_of X G z_tuple
    · exact PySem.W.mg_none_of X G z_list
    · exact PySem.W.mg_none_of X G z_all
    · exact PySem.W.mg_none_of X G z_sum
    · exact PySem.W.mg_none_of X G z_int
    · exact PySem.W.mg_none_of X G z_max
    · exact PySem.W.mg_none_of X G z_min
    · exact PySem.W.mg_none_of X G z_isinstance
    · exact PySem.W.mg_none_of X G z_bool
    · exact PySem.W.mg_none_of X G z_str
    · exact PySem.W.mg_none_of X G z_range
    · exact PySem.W.mg_none_of X G z_enumerate
    · exact PySem.W.mg_none_of X G z_zip
    · exact PySem.W.mg_none_of X G z_set
    · exact PySem.W.mg_none_of X G z_sorted
    · exact PySem.W.mg_none_of X G z_ValueError
  have mlen : mg "len" = none := PySem.W.mg_none_of X G z_len
  generalize hc : c0 l.prog w K mg base (tabT K ["_law_far_texts", "law"]) = c
  have eK : c.K = K := by rw [← hc]; rfl
  have em : c.mg = mg := by rw [← hc]; rfl
  have ecl : c.cls = clsOf c.mg := by rw [← hc]; rfl
  have bf' : ∀ x ∈ BN, c.mg x = none := by rw [em]; exact bf
  have eT : c.T = tabT c.K ["_law_far_texts", "law"] := by rw [← hc]; rfl
  have tb' : tabB c.K ["_law_far_texts", "law"] = true := by rw [eK]; exact tb
  have TB' : ∀ p ∈ (["_law_far_texts", "law"] : List Str).filterMap (PySem.W.tabIn c.K), LamX.TabB c.base c.mg p.1 p.2 := by rw [← hc]; exact TB
  have X' : c.K.In h := by rw [eK]; exact X
  have G' : h.Ns mainGlobals c.mg := by rw [em]; exact G
  have r_BadOrder : XF c.K c.mg "BadOrder" := by rw [eK, em]; exact ⟨C_BadOrder, PySem.W.mg_of X G a_BadOrder, x_BadOrder, k_BadOrder, b_BadOrder, t_BadOrder⟩
  have r_BadResults : XF c.K c.mg "BadResults" := by rw [eK, em]; exact ⟨C_BadResults, PySem.W.mg_of X G a_BadResults, x_BadResults, k_BadResults, b_BadResults, t_BadResults⟩
  have r_BadSuite : XF c.K c.mg "BadSuite" := by rw [eK, em]; exact ⟨C_BadSuite, PySem.W.mg_of X G a_BadSuite, x_BadSuite, k_BadSuite, b_BadSuite, t_BadSuite⟩
  have r_BadText : XF c.K c.mg "BadText" := by rw [eK, em]; exact ⟨C_BadText, PySem.W.mg_of X G a_BadText, x_BadText, k_BadText, b_BadText, t_BadText⟩
  have o_FIGURES : ∀ N k l, GlobOk (c.at N k l) "FIGURES" (.str "0123456789") := fun N k l => ⟨_, .str "0123456789", (show c.mg _ = _ by rw [em]; exact PySem.W.mg_of X G g_FIGURES), ⟨_, rfl⟩, rfl⟩
  have o_MOST : ∀ N k l, GlobOk (c.at N k l) "MOST" (.int 7) := fun N k l => ⟨_, .int 7, (show c.mg _ = _ by rw [em]; exact PySem.W.mg_of X G g_MOST), ⟨_, rfl⟩, rfl⟩
  have o_SIGNS : ∀ N k l, GlobOk (c.at N k l) "SIGNS" (.str "-.+") := fun N k l => ⟨_, .str "-.+", (show c.mg _ = _ by rw [em]; exact PySem.W.mg_of X G g_SIGNS), ⟨_, rfl⟩, rfl⟩
  have d_law_told : DF c "_law_told" s_law_told ["deed"] := df_mk X' G' (by rw [eK]; exact a_law_told) (by rw [eK]; exact l_law_told) (by rw [eK]; exact c_law_told) (by rw [eK]; exact k_law_told) fun _ _ _ _ _ _ us hl => match us, hl with | [_], _ => rfl
  have d_law_term : DF c "_law_term" s_law_term ["e"] := df_mk X' G' (by rw [eK]; exact a_law_term) (by rw [eK]; exact l_law_term) (by rw [eK]; exact c_law_term) (by rw [eK]; exact k_law_term) fun _ _ _ _ _ _ us hl => match us, hl with | [_], _ => rfl
  have tD : TU.ToldD c.K c.mg := toldD_mk d_law_told X' G' (by rw [eK]; exact t13) sc_law_told rfl (by decide +kernel) (by decide +kernel)
  have tM : TU.TermD c.K c.mg := term_ok d_law_term
  obtain ⟨ca_law_far_texts, ta_law_far_texts, et_law_far_texts⟩ := tab_some tb' (x := "_law_far_texts") (by decide +kernel)
  obtain ⟨ca_law, ta_law, et_law⟩ := tab_some tb' (x := "law") (by decide +kernel)
  have d_is_integer : DF c "is_integer" s_is_integer ["value", "low", "high"] := df_mk X' G' (by rw [eK]; exact a_is_integer) (by rw [eK]; exact l_is_integer) (by rw [eK]; exact c_is_integer) (by rw [eK]; exact k_is_integer) fun _ _ _ _ _ _ us hl => match us, hl with | [_, _, _], _ => rfl
  have at_is_integer : At c "is_integer" (fun c => spP c F_is_integer) 1 := at_P (k := 0) (l := none) d_is_integer bf' sc_is_integer ck_is_integer (by
      simp only [ir_is_integer, okSs, okS, okE, okEs, okO, okI, okP, at_nl, at_dn, and_true, true_and, and_self, Nat.reduceSub]
      try repeat' apply And.intro
      all_goals first
        | trivial
        | exact o_FIGURES _ _ _
        | exact o_MOST _ _ _
        | exact o_SIGNS _ _ _) .no
  have d_is_row : DF c "is_row" s_is_row ["n", "test", "value"] := df_mk X' G' (by rw [eK]; exact a_is_row) (by rw [eK]; exact l_is_row) (by rw [eK]; exact c_is_row) (by rw [eK]; exact k_is_row) fun _ _ _ _ _ _ us hl => match us, hl with | [_, _, _], _ => rfl
  have at_is_row : At c "is_row" (fun c => spP c F_is_row) 2 := at_P (k := 1) (l := none) d_is_row bf' sc_is_row ck_is_row (by
      simp only [ir_is_row, okSs, okS, okE, okEs, okO, okI, okP, at_nl, at_dn, and_true, true_and, and_self, Nat.reduceSub]
      try repeat' apply And.intro
      all_goals first
        | trivial
        | exact at_is_integer _ _ _ (by decide)
        | exact o_FIGURES _ _ _
        | exact o_MOST _ _ _
        | exact o_SIGNS _ _ _) .no
  have d_is_suite : DF c "is_suite" s_is_suite ["value"] := df_mk X' G' (by rw [eK]; exact a_is_suite) (by rw [eK]; exact l_is_suite) (by rw [eK]; exact c_is_suite) (by rw [eK]; exact k_is_suite) fun _ _ _ _ _ _ us hl => match us, hl with | [_], _ => rfl
  have at_is_suite : At c "is_suite" (fun c => spP c F_is_suite) 3 := at_P (k := 2) (l := none) d_is_suite bf' sc_is_suite ck_is_suite (by
      simp only [ir_is_suite, okSs, okS, okE, okEs, okO, okI, okP, at_nl, at_dn, and_true, true_and, and_self, Nat.reduceSub]
      try repeat' apply And.intro
      all_goals first
        | trivial
        | exact at_is_row _ _ _ (by decide)
        | exact o_FIGURES _ _ _
        | exact o_MOST _ _ _
        | exact o_SIGNS _ _ _) .no
  have d_check_suite : DF c "check_suite" s_check_suite ["suite"] := df_mk X' G' (by rw [eK]; exact a_check_suite) (by rw [eK]; exact l_check_suite) (by rw [eK]; exact c_check_suite) (by rw [eK]; exact k_check_suite) fun _ _ _ _ _ _ us hl => match us, hl with | [_], _ => rfl
  have at_check_suite : At c "check_suite" (fun c => spP c F_check_suite) 4 := at_P (k := 3) (l := none) d_check_suite bf' sc_check_suite ck_check_suite (by
      simp only [ir_check_suite, okSs, okS, okE, okEs, okO, okI, okP, at_nl, at_dn, and_true, true_and, and_self, Nat.reduceSub]
      try repeat' apply And.intro
      all_goals first
        | trivial
        | exact at_is_suite _ _ _ (by decide)
        | exact r_BadSuite.ok ecl _ _ _
        | exact o_FIGURES _ _ _
        | exact o_MOST _ _ _
        | exact o_SIGNS _ _ _) .no
  have d_is_order : DF c "is_order" s_is_order ["n", "value"] := df_mk X' G' (by rw [eK]; exact a_is_order) (by rw [eK]; exact l_is_order) (by rw [eK]; exact c_is_order) (by rw [eK]; exact k_is_order) fun _ _ _ _ _ _ us hl => match us, hl with | [_, _], _ => rfl
  have at_is_order : At c "is_order" (fun c => spP c F_is_order) 2 := at_P (k := 1) (l := none) d_is_order bf' sc_is_order ck_is_order (by
      simp only [ir_is_order, okSs, okS, okE, okEs, okO, okI, okP, at_nl, at_dn, and_true, true_and, and_self, Nat.reduceSub]
      try repeat' apply And.intro
      all_goals first
        | trivial
        | exact at_is_integer _ _ _ (by decide)
        | exact o_FIGURES _ _ _
        | exact o_MOST _ _ _
        | exact o_SIGNS _ _ _) .no
  have d_check_order : DF c "check_order" s_check_order ["n", "order"] := df_mk X' G' (by rw [eK]; exact a_check_order) (by rw [eK]; exact l_check_order) (by rw [eK]; exact c_check_order) (by rw [eK]; exact k_check_order) fun _ _ _ _ _ _ us hl => match us, hl with | [_, _], _ => rfl
  have at_check_order : At c "check_order" (fun c => spP c F_check_order) 3 := at_P (k := 2) (l := none) d_check_order bf' sc_check_order ck_check_order (by
      simp only [ir_check_order, okSs, okS, okE, okEs, okO, okI, okP, at_nl, at_dn, and_true, true_and, and_self, Nat.reduceSub]
      try repeat' apply And.intro
      all_goals first
        | trivial
        | exact at_is_order _ _ _ (by decide)
        | exact r_BadOrder.ok ecl _ _ _
        | exact o_FIGURES _ _ _
        | exact o_MOST _ _ _
        | exact o_SIGNS _ _ _) .no
  have d_are_results : DF c "are_results" s_are_results ["order", "value"] := df_mk X' G' (by rw [eK]; exact a_are_results) (by rw [eK]; exact l_are_results) (by rw [eK]; exact c_are_results) (by rw [eK]; exact k_are_results) fun _ _ _ _ _ _ us hl => match us, hl with | [_, _], _ => rfl
  have at_are_results : At c "are_results" (fun c => spP c F_are_results) 1 := at_P (k := 0) (l := none) d_are_results bf' sc_are_results ck_are_results (by
      simp only [ir_are_results, okSs, okS, okE, okEs, okO, okI, okP, at_nl, at_dn, and_true, true_and, and_self, Nat.reduceSub]
      try repeat' apply And.intro
      all_goals first
        | trivial
        | exact o_FIGURES _ _ _
        | exact o_MOST _ _ _
        | exact o_SIGNS _ _ _) .no
  have d_row_text : DF c "row_text" s_row_text ["row"] := df_mk X' G' (by rw [eK]; exact a_row_text) (by rw [eK]; exact l_row_text) (by rw [eK]; exact c_row_text) (by rw [eK]; exact k_row_text) fun _ _ _ _ _ _ us hl => match us, hl with | [_], _ => rfl
  have at_row_text : At c "row_text" (fun c => spP c F_row_text) 1 := at_P (k := 0) (l := none) d_row_text bf' sc_row_text ck_row_text (by
      simp only [ir_row_text, okSs, okS, okE, okEs, okO, okI, okP, at_nl, at_dn, and_true, true_and, and_self, Nat.reduceSub]
      try repeat' apply And.intro
      all_goals first
        | trivial
        | exact o_FIGURES _ _ _
        | exact o_MOST _ _ _
        | exact o_SIGNS _ _ _) .no
  have d_suite_text : DF c "suite_text" s_suite_text ["suite"] := df_mk X' G' (by rw [eK]; exact a_suite_text) (by rw [eK]; exact l_suite_text) (by rw [eK]; exact c_suite_text) (by rw [eK]; exact k_suite_text) fun _ _ _ _ _ _ us hl => match us, hl with | [_], _ => rfl
  have at_suite_text : At c "suite_text" (fun c => spP c F_suite_text) 5 := at_P (k := 4) (l := none) d_suite_text bf' sc_suite_text ck_suite_text (by
      simp only [ir_suite_text, okSs, okS, okE, okEs, okO, okI, okP, at_nl, at_dn, and_true, true_and, and_self, Nat.reduceSub]
      try repeat' apply And.intro
      all_goals first
        | trivial
        | exact at_check_suite _ _ _ (by decide)
        | exact at_row_text _ _ _ (by decide)
        | exact o_FIGURES _ _ _
        | exact o_MOST _ _ _
        | exact o_SIGNS _ _ _) .no
  have d_check_text : DF c "check_text" s_check_text ["text"] := df_mk X' G' (by rw [eK]; exact a_check_text) (by rw [eK]; exact l_check_text) (by rw [eK]; exact c_check_text) (by rw [eK]; exact k_check_text) fun _ _ _ _ _ _ us hl => match us, hl with | [_], _ => rfl
  have at_check_text : At c "check_text" (fun c => spP c F_check_text) 1 := at_P (k := 0) (l := none) d_check_text bf' sc_check_text ck_check_text (by
      simp only [ir_check_text, okSs, okS, okE, okEs, okO, okI, okP, at_nl, at_dn, and_true, true_and, and_self, Nat.reduceSub]
      try repeat' apply And.intro
      all_goals first
        | trivial
        | exact r_BadText.ok ecl _ _ _
        | exact o_FIGURES _ _ _
        | exact o_MOST _ _ _
        | exact o_SIGNS _ _ _) .no
  have d_row_in : DF c "row_in" s_row_in ["word"] := df_mk X' G' (by rw [eK]; exact a_row_in) (by rw [eK]; exact l_row_in) (by rw [eK]; exact c_row_in) (by rw [eK]; exact k_row_in) fun _ _ _ _ _ _ us hl => match us, hl with | [_], _ => rfl
  have at_row_in : At c "row_in" (fun c => spP c F_row_in) 1 := at_P (k := 0) (l := none) d_row_in bf' sc_row_in ck_row_in (by
      simp only [ir_row_in, okSs, okS, okE, okEs, okO, okI, okP, at_nl, at_dn, and_true, true_and, and_self, Nat.reduceSub]
      try repeat' apply And.intro
      all_goals first
        | trivial
        | exact r_BadText.ok ecl _ _ _
        | exact o_FIGURES _ _ _
        | exact o_MOST _ _ _
        | exact o_SIGNS _ _ _) .no
  have d_parse_suite : DF c "parse_suite" s_parse_suite ["text"] := df_mk X' G' (by rw [eK]; exact a_parse_suite) (by rw [eK]; exact l_parse_suite) (by rw [eK]; exact c_parse_suite) (by rw [eK]; exact k_parse_suite) fun _ _ _ _ _ _ us hl => match us, hl with | [_], _ => rfl
  have at_parse_suite : At c "parse_suite" (fun c => spP c F_parse_suite) 4 := at_P (k := 3) (l := none) d_parse_suite bf' sc_parse_suite ck_parse_suite (by
      simp only [ir_parse_suite, okSs, okS, okE, okEs, okO, okI, okP, at_nl, at_dn, and_true, true_and, and_self, Nat.reduceSub]
      try repeat' apply And.intro
      all_goals first
        | trivial
        | exact at_check_text _ _ _ (by decide)
        | exact at_is_suite _ _ _ (by decide)
        | exact at_row_in _ _ _ (by decide)
        | exact r_BadText.ok ecl _ _ _
        | exact o_FIGURES _ _ _
        | exact o_MOST _ _ _
        | exact o_SIGNS _ _ _) .no
  have d_written : DF c "written" s_written ["order", "results"] := df_mk X' G' (by rw [eK]; exact a_written) (by rw [eK]; exact l_written) (by rw [eK]; exact c_written) (by rw [eK]; exact k_written) fun _ _ _ _ _ _ us hl => match us, hl with | [_, _], _ => rfl
  have at_written : At c "written" (fun c => spP c F_written) 1 := at_P (k := 0) (l := none) d_written bf' sc_written ck_written (by
      simp only [ir_written, okSs, okS, okE, okEs, okO, okI, okP, at_nl, at_dn, and_true, true_and, and_self, Nat.reduceSub]
      try repeat' apply And.intro
      all_goals first
        | trivial
        | exact o_FIGURES _ _ _
        | exact o_MOST _ _ _
        | exact o_SIGNS _ _ _) .no
  have d_run_text : DF c "run_text" s_run_text ["order", "results"] := df_mk X' G' (by rw [eK]; exact a_run_text) (by rw [eK]; exact l_run_text) (by rw [eK]; exact c_run_text) (by rw [eK]; exact k_run_text) fun _ _ _ _ _ _ us hl => match us, hl with | [_, _], _ => rfl
  have at_run_text : At c "run_text" (fun c => spP c F_run_text) 4 := at_P (k := 3) (l := none) d_run_text bf' sc_run_text ck_run_text (by
      simp only [ir_run_text, okSs, okS, okE, okEs, okO, okI, okP, at_nl, at_dn, and_true, true_and, and_self, Nat.reduceSub]
      try repeat' apply And.intro
      all_goals first
        | trivial
        | exact at_check_order _ _ _ (by decide)
        | exact at_written _ _ _ (by decide)
        | exact at_are_results _ _ _ (by decide)
        | exact r_BadResults.ok ecl _ _ _
        | exact o_FIGURES _ _ _
        | exact o_MOST _ _ _
        | exact o_SIGNS _ _ _) .no
  have d_read : DF c "read" s_read ["text"] := df_mk X' G' (by rw [eK]; exact a_read) (by rw [eK]; exact l_read) (by rw [eK]; exact c_read) (by rw [eK]; exact k_read) fun _ _ _ _ _ _ us hl => match us, hl with | [_], _ => rfl
  have at_read : At c "read" (fun c => spP c F_read) 3 := at_P (k := 2) (l := none) d_read bf' sc_read ck_read (by
      simp only [ir_read, okSs, okS, okE, okEs, okO, okI, okP, at_nl, at_dn, and_true, true_and, and_self, Nat.reduceSub]
      try repeat' apply And.intro
      all_goals first
        | trivial
        | exact at_is_order _ _ _ (by decide)
        | exact r_BadText.ok ecl _ _ _
        | exact o_FIGURES _ _ _
        | exact o_MOST _ _ _
        | exact o_SIGNS _ _ _) .no
  have d_parse_run : DF c "parse_run" s_parse_run ["text"] := df_mk X' G' (by rw [eK]; exact a_parse_run) (by rw [eK]; exact l_parse_run) (by rw [eK]; exact c_parse_run) (by rw [eK]; exact k_parse_run) fun _ _ _ _ _ _ us hl => match us, hl with | [_], _ => rfl
  have at_parse_run : At c "parse_run" (fun c => spP c F_parse_run) 4 := at_P (k := 3) (l := none) d_parse_run bf' sc_parse_run ck_parse_run (by
      simp only [ir_parse_run, okSs, okS, okE, okEs, okO, okI, okP, at_nl, at_dn, and_true, true_and, and_self, Nat.reduceSub]
      try repeat' apply And.intro
      all_goals first
        | trivial
        | exact at_check_text _ _ _ (by decide)
        | exact at_read _ _ _ (by decide)
        | exact o_FIGURES _ _ _
        | exact o_MOST _ _ _
        | exact o_SIGNS _ _ _) .no
  have d_law_drawn : DF c "_law_drawn" s_law_drawn ["cell", "k"] := df_mk X' G' (by rw [eK]; exact a_law_drawn) (by rw [eK]; exact l_law_drawn) (by rw [eK]; exact c_law_drawn) (by rw [eK]; exact k_law_drawn) fun _ _ _ _ _ _ us hl => match us, hl with | [_, _], _ => rfl
  have at_law_drawn : At c "_law_drawn" (fun c => spP c F_law_drawn) 1 := at_P (k := 0) (l := none) d_law_drawn bf' sc_law_drawn ck_law_drawn (by
      simp only [ir_law_drawn, okSs, okS, okE, okEs, okO, okI, okP, at_nl, at_dn, and_true, true_and, and_self, Nat.reduceSub]
      try repeat' apply And.intro
      all_goals first
        | trivial
        | exact o_FIGURES _ _ _
        | exact o_MOST _ _ _
        | exact o_SIGNS _ _ _) .no
  have d_law_roll : DF c "_law_roll" s_law_roll ["dice", "many"] := df_mk X' G' (by rw [eK]; exact a_law_roll) (by rw [eK]; exact l_law_roll) (by rw [eK]; exact c_law_roll) (by rw [eK]; exact k_law_roll) fun _ _ _ _ _ _ us hl => match us, hl with | [_, _], _ => rfl
  have at_law_roll : At c "_law_roll" (fun c => spM c F_law_roll) 2 := at_M (k := 1) (l := none) d_law_roll bf' sc_law_roll ck_law_roll (by
      simp only [ir_law_roll, okSs, okS, okE, okEs, okO, okI, okP, at_nl, at_dn, and_true, true_and, and_self, Nat.reduceSub]
      try repeat' apply And.intro
      all_goals first
        | trivial
        | exact at_law_drawn _ _ _ (by decide)
        | exact o_FIGURES _ _ _
        | exact o_MOST _ _ _
        | exact o_SIGNS _ _ _) .no
  have d_law_any_suite : DF c "_law_any_suite" s_law_any_suite ["dice", "n"] := df_mk X' G' (by rw [eK]; exact a_law_any_suite) (by rw [eK]; exact l_law_any_suite) (by rw [eK]; exact c_law_any_suite) (by rw [eK]; exact k_law_any_suite) fun _ _ _ _ _ _ us hl => match us, hl with | [_, _], _ => rfl
  have at_law_any_suite : At c "_law_any_suite" (fun c => spM c F_law_any_suite) 3 := at_M (k := 2) (l := none) d_law_any_suite bf' sc_law_any_suite ck_law_any_suite (by
      simp only [ir_law_any_suite, okSs, okS, okE, okEs, okO, okI, okP, at_nl, at_dn, and_true, true_and, and_self, Nat.reduceSub]
      try repeat' apply And.intro
      all_goals first
        | trivial
        | exact at_law_roll _ _ _ (by decide)
        | exact o_FIGURES _ _ _
        | exact o_MOST _ _ _
        | exact o_SIGNS _ _ _) .no
  have d_law_orders : DF c "_law_orders" s_law_orders ["n"] := df_mk X' G' (by rw [eK]; exact a_law_orders) (by rw [eK]; exact l_law_orders) (by rw [eK]; exact c_law_orders) (by rw [eK]; exact k_law_orders) fun _ _ _ _ _ _ us hl => match us, hl with | [_], _ => rfl
  have at_law_orders : At c "_law_orders" (fun c => spP c F_law_orders) 1 := at_P (k := 0) (l := none) d_law_orders bf' sc_law_orders ck_law_orders (by
      simp only [ir_law_orders, okSs, okS, okE, okEs, okO, okI, okP, at_nl, at_dn, and_true, true_and, and_self, Nat.reduceSub]
      try repeat' apply And.intro
      all_goals first
        | trivial
        | exact o_FIGURES _ _ _
        | exact o_MOST _ _ _
        | exact o_SIGNS _ _ _) .no
  have d_law_any_order : DF c "_law_any_order" s_law_any_order ["dice", "n"] := df_mk X' G' (by rw [eK]; exact a_law_any_order) (by rw [eK]; exact l_law_any_order) (by rw [eK]; exact c_law_any_order) (by rw [eK]; exact k_law_any_order) fun _ _ _ _ _ _ us hl => match us, hl with | [_, _], _ => rfl
  have at_law_any_order : At c "_law_any_order" (fun c => spM c F_law_any_order) 3 := at_M (k := 2) (l := none) d_law_any_order bf' sc_law_any_order ck_law_any_order (by
      simp only [ir_law_any_order, okSs, okS, okE, okEs, okO, okI, okP, at_nl, at_dn, and_true, true_and, and_self, Nat.reduceSub]
      try repeat' apply And.intro
      all_goals first
        | trivial
        | exact at_law_orders _ _ _ (by decide)
        | exact at_law_roll _ _ _ (by decide)
        | exact o_FIGURES _ _ _
        | exact o_MOST _ _ _
        | exact o_SIGNS _ _ _) .no
  have d_law_spoilt : DF c "_law_spoilt" s_law_spoilt ["dice", "text", "signs"] := df_mk X' G' (by rw [eK]; exact a_law_spoilt) (by rw [eK]; exact l_law_spoilt) (by rw [eK]; exact c_law_spoilt) (by rw [eK]; exact k_law_spoilt) fun _ _ _ _ _ _ us hl => match us, hl with | [_, _, _], _ => rfl
  have at_law_spoilt : At c "_law_spoilt" (fun c => spM c F_law_spoilt) 3 := at_M (k := 2) (l := none) d_law_spoilt bf' sc_law_spoilt ck_law_spoilt (by
      simp only [ir_law_spoilt, okSs, okS, okE, okEs, okO, okI, okP, at_nl, at_dn, and_true, true_and, and_self, Nat.reduceSub]
      try repeat' apply And.intro
      all_goals first
        | trivial
        | exact at_law_roll _ _ _ (by decide)
        | exact o_FIGURES _ _ _
        | exact o_MOST _ _ _
        | exact o_SIGNS _ _ _) .no
  have d_law_far_texts : DF c "_law_far_texts" s_law_far_texts ["page", "text"] := df_mk X' G' (by rw [eK]; exact a_law_far_texts) (by rw [eK]; exact l_law_far_texts) (by rw [eK]; exact c_law_far_texts) (by rw [eK]; exact k_law_far_texts) fun _ _ _ _ _ _ us hl => match us, hl with | [_, _], _ => rfl
  have at_law_far_texts : At c "_law_far_texts" (fun c => spP c F_law_far_texts) 7 := at_P (k := 6) (l := (some (ca_law_far_texts, ta_law_far_texts, lamN "_law_far_texts"))) d_law_far_texts bf' sc_law_far_texts ck_law_far_texts (by
      simp only [ir_law_far_texts, okSs, okS, okE, okEs, okO, okI, okP, at_nl, at_dn, and_true, true_and, and_self, Nat.reduceSub]
      try repeat' apply And.intro
      all_goals first
        | trivial
        | exact at_parse_run _ _ _ (by decide)
        | exact at_parse_suite _ _ _ (by decide)
        | exact tolC_mk et_law_far_texts eT tb' (by decide +kernel) TB' tD tM ecl (by decide)
        | exact o_FIGURES _ _ _
        | exact o_MOST _ _ _
        | exact o_SIGNS _ _ _) (lamD_mk X' G' et_law_far_texts)
  have dR : Fun K "_law_rounds" "_law_rounds" s_law_rounds f_law_rounds _ := fun_mk l_law_rounds c_law_rounds k_law_rounds
  have dC : Fun K "_law_cell" "_law_cell" s_law_cell f_law_cell _ := fun_mk l_law_cell c_law_cell k_law_cell
  have bC := dC.binds (ps := ["script", "k"]) fun _ _ _ _ _ _ us hl => match us, hl with | [_, _], _ => rfl
  have bR := dR.binds (ps := ["script", "high"]) fun _ _ _ _ _ _ us hl => match us, hl with | [_, _], _ => rfl
  have GR : FnOk l.prog w K mg base CX0 2 f_law_rounds _ ["script", "high"] (spRounds K) := ok_rounds dR dC bC (PySem.W.mg_of X G a_law_cell) mlen (PySem.W.mg_none_of X G z_range) (PySem.W.mg_none_of X G z_max) (PySem.W.mg_none_of X G z_min)
  have okl : okSs (c.at N_law 10 (some (ca_law, ta_law, lamN "law"))) ir_law := (by
      simp only [ir_law, okSs, okS, okE, okEs, okO, okI, okP, at_nl, at_dn, and_true, true_and, and_self, Nat.reduceSub]
      try repeat' apply And.intro
      all_goals first
        | trivial
        | exact at_law_any_suite _ _ _ (by decide)
        | exact at_law_any_order _ _ _ (by decide)
        | exact at_law_roll _ _ _ (by decide)
        | exact at_parse_run _ _ _ (by decide)
        | exact at_law_far_texts _ _ _ (by decide)
        | exact at_suite_text _ _ _ (by decide)
        | exact at_parse_suite _ _ _ (by decide)
        | exact at_run_text _ _ _ (by decide)
        | exact at_law_spoilt _ _ _ (by decide)
        | exact at_is_suite _ _ _ (by decide)
        | exact tolC_mk et_law eT tb' (by decide +kernel) TB' tD tM ecl (by decide)
        | exact o_FIGURES _ _ _
        | exact o_MOST _ _ _
        | exact o_SIGNS _ _ _)
  have hld : LamD c "law" (some (ca_law, ta_law, lamN "law")) := lamD_mk X' G' et_law
  have F' := F
  rw [← eK] at F'
  have hlo := fun N k => hld.of (N := N) (k := k) F' (show c.mg "law" = _ by rw [em]; exact hfa)
  have hfl : c.T = tabT K ["_law_far_texts", "law"] := by rw [eT, eK]
  refine fun_okN F sc_law (fun vs H Q E h => ?_) (fun cdv A outer s H vs Q E ec hr h => ?_)
  · obtain ⟨a, ns, rfl, _⟩ := h
    rfl
  · obtain ⟨a, ns, rfl, hS, hlen, hTb, q⟩ := h
    rw [← hfl] at hTb
    subst hc
    have gx := gx_nox (c := (c0 l.prog w K mg base (tabT K ["_law_far_texts", "law"])).at N_law 10 (some (ca_law, ta_law, lamN "law"))) (CX0 := CX0) (E := E) (outer := outer) (s := s) (H := H) sc_law bf hr (by rw [← ec]; exact hlo _ _)
    refine ⟨_, PSs.nox (pss_cons (ps_for PassesOwn.never rfl (pi_list (pe_call GR (hr.mono (by decide)) rfl (PySem.W.mg_of X G a_law_rounds) dR.kp bR .nil pass0 (pa_cons (pv 0) (pa_cons pe_int pa_nil)))) (pg_name (i := 1) sc_law.nd rfl (by first | exact Or.inl rfl | exact Or.inr rfl))
      (pWSs (sts := forBody ((defBody s_law).getD 0 (.Pass ⟨0, 0, 0, 0⟩))))) (pss_one (ps_ret pe_bl))), ?_⟩
    exact law_read gx rfl ⟨PassesOwn.never, rfl, rfl⟩ ck_law okl (show 1 < N_law.length by decide) hex hS hlen (by decide) (fun H' hs => hTb.ext hs) rfl rfl q
end TO
open PySem PySem.W PyProof.Rows
set_option maxRecDepth 100000 in
set_option maxHeartbeats 0 in
theorem PySem.Challenge.cw_testorder_k14_whole_texts_holds : PySem.Challenge.rw_testorder_k14_whole_texts.Holds := by
  w_on; o_law; k_head; (case hw => w_witness2)
  k_fill
  refine TO.walkT (l := PySem.Challenge.rw_testorder_k14_whole_texts) (k := 11) ["_law_far_texts", "law"] rfl rfl ⟨rfl, by decide, by decide⟩ (by decide +kernel) ?B (fun w h Y => by first | exact PySem.W.kIn_of Y | exact PySem.W.km_in_of Y) ?F
  case B => intro w; kernel_rfl
  case F =>
    intro w mg fa h KX G hmg
    refine' TO.all_mk KX G hmg ?a_is_integer ?l_is_integer ?c_is_integer ?k_is_integer ?a_is_row ?l_is_row ?c_is_row ?k_is_row ?a_is_suite ?l_is_suite ?c_is_suite ?k_is_suite ?a_check_suite ?l_check_suite ?c_check_suite ?k_check_suite ?a_is_order ?l_is_order ?c_is_order ?k_is_order ?a_check_order ?l_check_order ?c_check_order ?k_check_order ?a_are_results ?l_are_results ?c_are_results ?k_are_results ?a_row_text ?l_row_text ?c_row_text ?k_row_text ?a_suite_text ?l_suite_text ?c_suite_text ?k_suite_text ?a_check_text ?l_check_text ?c_check_text ?k_check_text ?a_row_in ?l_row_in ?c_row_in ?k_row_in ?a_parse_suite ?l_parse_suite ?c_parse_suite ?k_parse_suite ?a_written ?l_written ?c_written ?k_written ?a_run_text ?l_run_text ?c_run_text ?k_run_text ?a_read ?l_read ?c_read ?k_read ?a_parse_run ?l_parse_run ?c_parse_run ?k_parse_run ?a_law_cell ?l_law_cell ?c_law_cell ?k_law_cell ?a_law_drawn ?l_law_drawn ?c_law_drawn ?k_law_drawn ?a_law_roll ?l_law_roll ?c_law_roll ?k_law_roll ?a_law_rounds ?l_law_rounds ?c_law_rounds ?k_law_rounds ?a_law_term ?l_law_term ?c_law_term ?k_law_term ?a_law_told ?l_law_told ?c_law_told ?k_law_told ?a_law_any_suite ?l_law_any_suite ?c_law_any_suite ?k_law_any_suite ?a_law_orders ?l_law_orders ?c_law_orders ?k_law_orders ?a_law_any_order ?l_law_any_order ?c_law_any_order ?k_law_any_order ?a_law_spoilt ?l_law_spoilt ?c_law_spoilt ?k_law_spoilt ?a_law_far_texts ?l_law_far_texts ?c_law_far_texts ?k_law_far_texts ?a_law ?l_law ?c_law ?k_law ?a_BadOrder ?x_BadOrder ?k_BadOrder ?b_BadOrder ?t_BadOrder ?a_BadResults ?x_BadResults ?k_BadResults ?b_BadResults ?t_BadResults ?a_BadSuite ?x_BadSuite ?k_BadSuite ?b_BadSuite ?t_BadSuite ?a_BadText ?x_BadText ?k_BadText ?b_BadText ?t_BadText ?g_FIGURES ?g_MOST ?g_SIGNS ?z_len ?z_tuple ?z_list ?z_all ?z_sum ?z_int ?z_max ?z_min ?z_isinstance ?z_bool ?z_str ?z_range ?z_enumerate ?z_zip ?z_set ?z_sorted ?z_ValueError ?t13 ?tb TO.law_ends
    (case a_is_integer => k_is)
    (case l_is_integer => k_is)
    (case c_is_integer => k_is)
    (case k_is_integer => k_is)
    (case a_is_row => k_is)
    (case l_is_row => k_is)
    (case c_is_row => k_is)
    (case k_is_row => k_is)
    (case a_is_suite => k_is)
    (case l_is_suite => k_is)
    (case c_is_suite => k_is)
    (case k_is_suite => k_is)
    (case a_check_suite => k_is)
    (case l_check_suite => k_is)
    (case c_check_suite => k_is)
    (case k_check_suite => k_is)
    (case a_is_order => k_is)
    (case l_is_order => k_is)
    (case c_is_order => k_is)
    (case k_is_order => k_is)
    (case a_check_order => k_is)
    (case l_check_order => k_is)
    (case c_check_order => k_is)
    (case k_check_order => k_is)
    (case a_are_results => k_is)
    (case l_are_results => k_is)
    (case c_are_results => k_is)
    (case k_are_results => k_is)
    (case a_row_text => k_is)
    (case l_row_text => k_is)
    (case c_row_text => k_is)
    (case k_row_text => k_is)
    (case a_suite_text => k_is)
    (case l_suite_text => k_is)
    (case c_suite_text => k_is)
    (case k_suite_text => k_is)
    (case a_check_text => k_is)
    (case l_check_text => k_is)
    (case c_check_text => k_is)
    (case k_check_text => k_is)
    (case a_row_in => k_is)
    (case l_row_in => k_is)
    (case c_row_in => k_is)
    (case k_row_in => k_is)
    (case a_parse_suite => k_is)
    (case l_parse_suite => k_is)
    (case c_parse_suite => k_is)
    (case k_parse_suite => k_is)
    (case a_written => k_is)
    (case l_written => k_is)
    (case c_written => k_is)
    (case k_written => k_is)
    (case a_run_text => k_is)
    (case l_run_text => k_is)
    (case c_run_text => k_is)
    (case k_run_text => k_is)
    (case a_read => k_is)
    (case l_read => k_is)
    (case c_read => k_is)
    (case k_read => k_is)
    (case a_parse_run => k_is)
    (case l_parse_run => k_is)
    (case c_parse_run => k_is)
    (case k_parse_run => k_is)
    (case a_law_cell => k_is)
    (case l_law_cell => k_is)
    (case c_law_cell => k_is)
    (case k_law_cell => k_is)
    (case a_law_drawn => k_is)
    (case l_law_drawn => k_is)
    (case c_law_drawn => k_is)
    (case k_law_drawn => k_is)
    (case a_law_roll => k_is)
    (case l_law_roll => k_is)
    (case c_law_roll => k_is)
    (case k_law_roll => k_is)
    (case a_law_rounds => k_is)
    (case l_law_rounds => k_is)
    (case c_law_rounds => k_is)
    (case k_law_rounds => k_is)
    (case a_law_term => k_is)
    (case l_law_term => k_is)
    (case c_law_term => k_is)
    (case k_law_term => k_is)
    (case a_law_told => k_is)
    (case l_law_told => k_is)
    (case c_law_told => k_is)
    (case k_law_told => k_is)
    (case a_law_any_suite => k_is)
    (case l_law_any_suite => k_is)
    (case c_law_any_suite => k_is)
    (case k_law_any_suite => k_is)
    (case a_law_orders => k_is)
    (case l_law_orders => k_is)
    (case c_law_orders => k_is)
    (case k_law_orders => k_is)
    (case a_law_any_order => k_is)
    (case l_law_any_order => k_is)
    (case c_law_any_order => k_is)
    (case k_law_any_order => k_is)
    (case a_law_spoilt => k_is)
    (case l_law_spoilt => k_is)
    (case c_law_spoilt => k_is)
    (case k_law_spoilt => k_is)
    (case a_law_far_texts => k_is)
    (case l_law_far_texts => k_is)
    (case c_law_far_texts => k_is)
    (case k_law_far_texts => k_is)
    (case a_law => k_is)
    (case l_law => k_is)
    (case c_law => k_is)
    (case k_law => k_is)
    (case a_BadOrder => k_is)
    (case x_BadOrder => k_exc)
    (case k_BadOrder => k_is)
    (case b_BadOrder => k_is)
    (case t_BadOrder => k_is)
    (case a_BadResults => k_is)
    (case x_BadResults => k_exc)
    (case k_BadResults => k_is)
    (case b_BadResults => k_is)
    (case t_BadResults => k_is)
    (case a_BadSuite => k_is)
    (case x_BadSuite => k_exc)
    (case k_BadSuite => k_is)
    (case b_BadSuite => k_is)
    (case t_BadSuite => k_is)
    (case a_BadText => k_is)
    (case x_BadText => k_exc)
    (case k_BadText => k_is)
    (case b_BadText => k_is)
    (case t_BadText => k_is)
    (case g_FIGURES => k_is)
    (case g_MOST => k_is)
    (case g_SIGNS => k_is)
    (case z_len => k_is)
    (case z_tuple => k_is)
    (case z_list => k_is)
    (case z_all => k_is)
    (case z_sum => k_is)
    (case z_int => k_is)
    (case z_max => k_is)
    (case z_min => k_is)
    (case z_isinstance => k_is)
    (case z_bool => k_is)
    (case z_str => k_is)
    (case z_range => k_is)
    (case z_enumerate => k_is)
    (case z_zip => k_is)
    (case z_set => k_is)
    (case z_sorted => k_is)
    (case z_ValueError => k_is)
    (case t13 => kernel_rfl)
    (case tb => kernel_rfl)
