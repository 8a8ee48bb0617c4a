import PyProof.Rows.All
import Wide.All
import OpenK.AllK
import Wide.FinOn
import PySem.Challenge.RW_rimseries_k05_whole_rows_divided_and_com
import HandS.ForMost
import HandS.SetFor
import HandS.Gcd
import HandS.Wide
import HandS.WideBits
import HandS.TupAny
import HandS.TupMul
import HandS.Style
import HandS.Flow
import HandS.Zip
import HandS.Rev
import HandS.IsInst
import HandS.Deep
import HandS.TryOnly
import KE.GoesEnum
import HandS.Star
import HandS.Ends
import HandS.HeadEnd
import HandS.HeadHook2
import HandS.Head0
import HandS.Head1
import HandS.Head2
import HandS.Head3
import HandS.Defaults
import HandS.EndBits
set_option Elab.async false
set_option linter.all false
set_option maxRecDepth 100000
set_option maxHeartbeats 4000000
/-! a small language, its meaning over data, and that a Python def means it -/
namespace EvL
open PySem PySem.Spec PyProof.Rows L2

abbrev D := PyData
/-- what a slot holds: nothing known; a value that never changes; a list of its own (b: lent by the caller) -/
inductive MV where
  | un | fz (d : D) | ow (b : Bool) (ds : List D) | oo (rss : List (List D)) | hid (ds : List D)
abbrev Ga := List MV
/-- a result: a value, or a list that nobody else knows -/
inductive RV where
  | fz (d : D) | ow (ds : List D) | oo (rss : List (List D))
def RV.d : RV → D
  | .fz d => d
  | .ow ds => .list ds
  | .oo rss => .list (rss.map .list)
def RV.low : RV → RV
  | .oo rss => .fz (.list (rss.map .list))
  | r => r
def RV.mv : RV → MV
  | .fz d => .fz d
  | .ow ds => .ow false ds
  | .oo rss => .oo rss
/-- what a def does: mt: its first parameter is a list that it may change -/
structure FnD where
  mt : Bool
  run : List D → Option (RV × List D)

inductive BOp where | add | sub | mul | fdiv | mod | pow
  deriving DecidableEq
inductive COp where | eq | ne | lt | le | gt | ge | is | isn | in_ | nin
  deriving DecidableEq
inductive BF where | len | abs | int | repr | divmod | max2 | min2 | tuple | list | gcd | all | any | sum | isint | isbool | istuple | islist | isstr | cnt
  deriving DecidableEq
inductive IK where | seq | rng1 | rng2 | rng3 | enum | zip | rev
  deriving DecidableEq
inductive Tg where
  | nm (i : Nat) | tp (ts : List Tg)
/-- an own list whose parts are own lists, too: MV.oo -/
inductive IE where
  | var (i : Nat) | cst (d : D) | tup (es : List IE) | lst (es : List IE)
  | bin (o : BOp) (a b : IE) | neg (a : IE) | not (a : IE)
  | cmp (o : COp) (a b : IE) | chn (o o' : COp) (a b c : IE)
  | and (a b : IE) | or (a b : IE) | ite (c a b : IE)
  | ix (a b : IE) | ixv (i : Nat) (b : IE) | lenv (i : Nat) | slc (l h : Bool) (a lo hi : IE) | rev (a : IE)
  | bi (f : BF) (es : List IE)
  | call (f : FnD) (pm : List D → List D) (es : List IE)
  | callm (f : FnD) (i : Nat) (es : List IE)
  | callt (f : FnD) (e : IE)
  | lc (vs : List Nat) (tg : Tg) (k : IK) (its : List IE) (ifs : List IE) (elt : IE)
  | cmv (o : COp) (a : IE) (i : Nat)
  | ixo (i : Nat) (a b : IE) | leno (i : Nat) | lco (vs : List Nat) (tg : Tg) (k : IK) (its : List IE) (elt : IE)

/-! ### operations on data -/
def mulOk (i j : Int) : Bool := decide (i.natAbs.log2 + j.natAbs.log2 < 60000000)
def divOk (i j : Int) : Bool := decide (j ≠ 0)
def lim : Nat := 1000000
def binD : BOp → D → D → Option RV
  | .add, .int i, .int j => some (.fz (.int (i + j)))
  | .add, .list xs, .list ys => if xs.length + ys.length ≤ lim then some (.ow (xs ++ ys)) else none
  | .add, .tuple xs, .tuple ys => if xs.length + ys.length ≤ lim then some (.fz (.tuple (xs ++ ys))) else none
  | .add, .str x, .str y => if x.length + y.length ≤ lim then some (.fz (.str (x ++ y))) else none
  | .sub, .int i, .int j => some (.fz (.int (i - j)))
  | .sub, .bool a, .bool b => some (.fz (.int ((if a then 1 else 0) - (if b then 1 else 0))))
  | .mul, .int i, .int j => if mulOk i j then some (.fz (.int (i * j))) else none
  | .mul, .list xs, .int k => if k ≤ 100000 ∧ -100000 ≤ k ∧ xs.length * k.toNat ≤ lim then some (.ow (List.replicate k.toNat xs).flatten) else none
  | .mul, .tuple xs, .int k => if k ≤ 1000 ∧ -1000 ≤ k ∧ xs.length ≤ 1000 then some (.fz (.tuple (List.replicate k.toNat xs).flatten)) else none
  | .fdiv, .int i, .int j => if divOk i j then some (.fz (.int (i.fdiv j))) else none
  | .mod, .int i, .int j => if j ≠ 0 then some (.fz (.int (i.fmod j))) else none
  | .pow, .int i, .int j => if 0 ≤ j ∧ j ≤ 1000 ∧ i.natAbs < 2 ^ 64 then some (.fz (.int (i ^ j.toNat))) else none
  | _, _, _ => none
def eqD (x y : D) : Option Bool := match x, y with
  | .str a, .str b => some (decide (a = b))
  | x, y => if SeqAt.shaped x && SeqAt.shaped y then some (PyData.eqv x y) else none
def cmpD : COp → D → D → Option Bool
  | .eq, x, y => eqD x y
  | .ne, x, y => (eqD x y).map fun b => !b
  | .lt, .int i, .int j => some (decide (i < j))
  | .le, .int i, .int j => some (decide (i ≤ j))
  | .gt, .int i, .int j => some (decide (j < i))
  | .ge, .int i, .int j => some (decide (j ≤ i))
  | .is, .none, .none => some true
  | .is, .bool _, .none => some false
  | .is, .int _, .none => some false
  | .is, .str _, .none => some false
  | .is, .list _, .none => some false
  | .is, .tuple _, .none => some false
  | .isn, .none, .none => some false
  | .isn, .bool _, .none => some true
  | .isn, .int _, .none => some true
  | .isn, .str _, .none => some true
  | .isn, .list _, .none => some true
  | .isn, .tuple _, .none => some true
  | .is, .bool a, .bool b => some (decide (a = b))
  | .isn, .bool a, .bool b => some (!decide (a = b))
  | .in_, x, .list ys => if SeqAt.shaped x && SeqAt.shaped (.list ys) then some (ys.any fun y => PyData.eqv y x) else none
  | .nin, x, .list ys => if SeqAt.shaped x && SeqAt.shaped (.list ys) then some (!ys.any fun y => PyData.eqv y x) else none
  | .in_, x, .tuple ys => if SeqAt.shaped x && SeqAt.shaped (.tuple ys) then some (ys.any fun y => PyData.eqv y x) else none
  | .nin, x, .tuple ys => if SeqAt.shaped x && SeqAt.shaped (.tuple ys) then some (!ys.any fun y => PyData.eqv y x) else none
  | _, _, _ => none
def trD : D → Option Bool
  | .none => some false
  | .bool b => some b
  | .int i => some (i != 0)
  | .str x => if x.length ≤ lim then some ((x.length : Int) != 0) else none
  | .list xs => some (!xs.isEmpty)
  | .tuple xs => some (!xs.isEmpty)
  | .dict _ => none
def ixD : D → D → Option D
  | .list xs, .int i => atI xs i
  | .tuple xs, .int i => atI xs i
  | _, _ => none
def cutD (xs : List D) (lo hi : Option Int) : List D := (xs.drop (HT.sIx xs.length 0 lo)).take (HT.sIx xs.length xs.length hi - HT.sIx xs.length 0 lo)
def optI : Bool → D → Option (Option Int)
  | false, _ => some none
  | true, .int i => some (some i)
  | true, _ => none
def slcD (x : D) (l h : Option Int) : Option RV := match x with
  | .list xs => some (.ow (cutD xs l h))
  | .tuple xs => some (.fz (.tuple (cutD xs l h)))
  | _ => none
def revD : D → Option RV
  | .list xs => some (.ow xs.reverse)
  | .tuple xs => some (.fz (.tuple xs.reverse))
  | _ => none
/-- repr: of showable things -/
def isAtom : D → Bool
  | .none | .bool _ | .int _ | .str _ => true
  | _ => false
def reprOk (d : D) : Bool := (isDisplay d || isAtom d) && d.showable && !d.hasDict && decide (d.depth ≤ 50) && decide (d.shown.length ≤ 10000000)
def allD : List D → Option Bool
  | [] => some true
  | .bool b :: r => (allD r).map fun c => b && c
  | _ => none
def anyD : List D → Option Bool
  | [] => some false
  | .bool b :: r => (anyD r).map fun c => b || c
  | _ => none
def sumD : List D → Option Int
  | [] => some 0
  | .int i :: r => (sumD r).map fun c => i + c
  | _ => none
def isD : BF → D → Bool
  | .isint, .int _ => true
  | .isint, .bool _ => true
  | .isbool, .bool _ => true
  | .istuple, .tuple _ => true
  | .islist, .list _ => true
  | .isstr, .str _ => true
  | _, _ => false
/-- whole numbers -/
def intsD : List D → Option (List Int)
  | [] => some []
  | .int i :: r => (intsD r).map fun c => i :: c
  | _ => none
def biD : BF → List D → Option RV
  | .len, [.list xs] => some (.fz (.int xs.length))
  | .len, [.tuple xs] => some (.fz (.int xs.length))
  | .abs, [.int i] => some (.fz (.int (if i < 0 then -i else i)))
  | .int, [.int i] => some (.fz (.int i))
  | .int, [.bool b] => some (.fz (.int (if b then 1 else 0)))
  | .repr, [d] => if reprOk d then some (.fz (.str d.shown)) else none
  | .divmod, [.int i, .int j] => if 0 < j ∧ j < 1073741824 then some (.fz (.tuple [.int (i / j), .int (i % j)])) else none
  | .max2, [.int i, .int j] => some (.fz (.int (if j > i then j else i)))
  | .min2, [.int i, .int j] => some (.fz (.int (if j < i then j else i)))
  | .tuple, [.list xs] => some (.fz (.tuple xs))
  | .tuple, [.tuple xs] => some (.fz (.tuple xs))
  | .list, [.list xs] => some (.ow xs)
  | .list, [.tuple xs] => some (.ow xs)
  | .gcd, [.int a, .int b] => some (.fz (.int ((Nat.gcd a.natAbs b.natAbs : Nat) : Int)))
  | .all, [.list xs] => (allD xs).map fun b => .fz (.bool b)
  | .any, [.list xs] => (anyD xs).map fun b => .fz (.bool b)
  | .sum, [.list xs] => (sumD xs).map fun i => .fz (.int i)
  | .cnt, [.list xs, .int k] => (intsD xs).map fun ns => .fz (.int (ns.count k : Nat))
  | .isint, [d] => some (.fz (.bool (isD .isint d)))
  | .isbool, [d] => some (.fz (.bool (isD .isbool d)))
  | .istuple, [d] => some (.fz (.bool (isD .istuple d)))
  | .islist, [d] => some (.fz (.bool (isD .islist d)))
  | .isstr, [d] => some (.fz (.bool (isD .isstr d)))
  | _, _ => none
def rngD (lo hi : Int) : List D := (List.range (hi - lo).toNat).map fun (k : Nat) => .int (lo + (k : Int))
def seqD : D → Option (List D)
  | .list xs => some xs
  | .tuple xs => some xs
  | _ => none
def smallI (i : Int) : Bool := decide (-1000000 ≤ i) && decide (i ≤ 1000000)
def itD : IK → List D → Option (List D)
  | .seq, [d] => seqD d
  | .rng1, [.int j] => if smallI j then some (rngD 0 j) else none
  | .rng2, [.int i, .int j] => if smallI i && smallI j then some (rngD i j) else none
  | .rng3, [.int i, .int j, .int st] => if smallI i && smallI j && smallI st && decide (st ≠ 0) && Builtin.Range.small i j st then some ((List.range (Builtin.Range.rangeSize i j st).toNat).map fun (k : Nat) => .int (i + (k : Int) * st)) else none
  | .enum, [d] => (seqD d).map fun xs => xs.mapIdx fun k x => .tuple [.int k, x]
  | .zip, [a, b] => (seqD a).bind fun xs => (seqD b).map fun ys => (xs.zip ys).map fun p => .tuple [p.1, p.2]
  | .rev, [d] => (seqD d).map fun xs => xs.reverse
  | _, _ => none

/-! ### slots -/
def getV (i : Nat) (Γ : Ga) : Option (D × Ga) :=
  match Γ[i]? with
  | some (.fz d) => some (d, Γ)
  | some (.ow false ds) => some (.list ds, Γ.set i (.fz (.list ds)))
  | some (.oo rss) => some (.list (rss.map .list), Γ.set i (.fz (.list (rss.map .list))))
  | _ => none
/-- a slot's data, nothing changes -/
def slotD (i : Nat) (Γ : Ga) : Option D :=
  match Γ[i]? with
  | some (.fz d) => some d
  | some (.ow _ ds) => some (.list ds)
  | _ => none
/-- own[a][b] -/
def getO (i : Nat) (a b : D) (Γ : Ga) : Option D :=
  match Γ[i]?, a, b with
  | some (.oo rss), .int k, .int j => (atI rss k).bind fun rs => atI rs j
  | _, _, _ => none
/-- the row own[a] -/
def rowO (i : Nat) (a : D) (Γ : Ga) : Option (List D) :=
  match Γ[i]?, a with
  | some (.oo rss), .int k => atI rss k
  | _, _ => none
def isOo (i : Nat) (Γ : Ga) : Bool := match Γ[i]? with
  | some (.oo _) => true
  | _ => false
mutual
def asg : Tg → D → Ga → Option Ga
  | .nm i, d, Γ => if i < Γ.length then some (Γ.set i (.fz d)) else none
  | .tp ts, .tuple ds, Γ => asgs ts ds Γ
  | .tp ts, .list ds, Γ => asgs ts ds Γ
  | .tp _, _, _ => none
def asgs : List Tg → List D → Ga → Option Ga
  | [], [], Γ => some Γ
  | t :: ts, d :: ds, Γ => (asg t d Γ).bind fun Γ => asgs ts ds Γ
  | _, _, _ => none
end
def wipeG (Γ : Ga) : List Nat → Ga
  | [] => Γ
  | v :: vs => (wipeG Γ vs).set v .un
/-- behind a comprehension its own names are what they were -/
def backG (Γ0 Γ : Ga) : List Nat → Ga
  | [] => Γ
  | v :: vs => (backG Γ0 Γ vs).set v (match Γ0[v]? with | some (.fz d) => .fz d | _ => .un)
/-- the turns of a comprehension -/
def lcLoop (f : D → Ga → Option (Option D × Ga)) : List D → Ga → Option (List D × Ga)
  | [], Γ => some ([], Γ)
  | x :: xs, Γ => (f x Γ).bind fun (o, Γ1) => (lcLoop f xs Γ1).map fun (ys, Γ2) => (match o with | some y => y :: ys | none => ys, Γ2)

def lcLoopO (f : D → Ga → Option (List D × Ga)) : List D → Ga → Option (List (List D) × Ga)
  | [], Γ => some ([], Γ)
  | x :: xs, Γ => (f x Γ).bind fun (y, Γ1) => (lcLoopO f xs Γ1).map fun (ys, Γ2) => (y :: ys, Γ2)
/-- an own list alone -/
def RV.own : RV → Option (List D)
  | .ow ds => some ds
  | _ => none

mutual
def evX : IE → Ga → Option (RV × Ga)
  | .var i, Γ => (getV i Γ).map fun (d, Γ) => (.fz d, Γ)
  | .cst d, Γ => some (.fz d, Γ)
  | .tup es, Γ => (evs es Γ).map fun (ds, Γ) => (.fz (.tuple ds), Γ)
  | .lst es, Γ => (evs es Γ).map fun (ds, Γ) => (.ow ds, Γ)
  | .bin o a b, Γ => (evX a Γ).bind fun (x, Γ) => (evX b Γ).bind fun (y, Γ) => (binD o x.d y.d).map fun r => (r, Γ)
  | .neg a, Γ => (evX a Γ).bind fun (x, Γ) => match x.d with | .int i => some (.fz (.int (-i)), Γ) | _ => none
  | .not a, Γ => (evX a Γ).bind fun (x, Γ) => (trD x.d).map fun c => (.fz (.bool (!c)), Γ)
  | .cmp o a b, Γ => (evX a Γ).bind fun (x, Γ) => (evX b Γ).bind fun (y, Γ) => (cmpD o x.d y.d).map fun r => (.fz (.bool r), Γ)
  | .chn o o' a b c, Γ => (evX a Γ).bind fun (x, Γ) => (evX b Γ).bind fun (y, Γ) => (cmpD o x.d y.d).bind fun r =>
      if r then (evX c Γ).bind fun (z, Γ) => (cmpD o' y.d z.d).map fun r => (.fz (.bool r), Γ) else some (.fz (.bool false), Γ)
  | .and a b, Γ => (evX a Γ).bind fun (x, Γ) => (trD x.d).bind fun c => if c then (evX b Γ).map fun (y, Γ) => (.fz y.d, Γ) else some (.fz x.d, Γ)
  | .or a b, Γ => (evX a Γ).bind fun (x, Γ) => (trD x.d).bind fun c => if c then some (.fz x.d, Γ) else (evX b Γ).map fun (y, Γ) => (.fz y.d, Γ)
  | .ite c a b, Γ => (evT c Γ).bind fun (t, Γ) => if t then (evX a Γ).map fun (y, Γ) => (.fz y.d, Γ) else (evX b Γ).map fun (y, Γ) => (.fz y.d, Γ)
  | .ix a b, Γ => (evX a Γ).bind fun (x, Γ) => (evX b Γ).bind fun (y, Γ) => (ixD x.d y.d).map fun r => (.fz r, Γ)
  | .ixv i b, Γ => (slotD i Γ).bind fun _ => (evX b Γ).bind fun (y, Γ) => (slotD i Γ).bind fun d => (ixD d y.d).map fun r => (.fz r, Γ)
  | .lenv i, Γ => (slotD i Γ).bind fun d => (biD .len [d]).map fun r => (r, Γ)
  | .slc l h a lo hi, Γ => (evX a Γ).bind fun (x, Γ) => (evX lo Γ).bind fun (u, Γ) => (optI l u.d).bind fun i => (evX hi Γ).bind fun (w, Γ) => (optI h w.d).bind fun j => (slcD x.d i j).map fun r => (r, Γ)
  | .rev a, Γ => (evX a Γ).bind fun (x, Γ) => (revD x.d).map fun r => (r, Γ)
  | .bi f es, Γ => (evs es Γ).bind fun (ds, Γ) => (biD f ds).map fun r => (r, Γ)
  | .call f pm es, Γ => (evs es Γ).bind fun (ds, Γ) => if f.mt then none else (f.run (pm ds)).map fun (r, _) => (r, Γ)
  | .callm f i es, Γ => match Γ[i]? with
      | some (.ow _ _) => (evs es Γ).bind fun (ds, Γ) => match Γ[i]? with
        | some (.ow b c) => if f.mt then (f.run (.list c :: ds)).map fun (r, c') => (r, Γ.set i (.ow b c')) else none
        | _ => none
      | _ => none
  | .callt f e, Γ => (evX e Γ).bind fun (x, Γ) => match x with
      | .ow c => if f.mt then (f.run [.list c]).map fun (r, _) => (r, Γ) else none
      | _ => none
  | .lc vs tg k its ifs elt, Γ => (evs its Γ).bind fun (ds, Γ1) => (itD k ds).bind fun xs =>
      if xs.length ≤ lim then
        (lcLoop (fun x Γ => (asg tg x (wipeG Γ vs)).bind fun Γ2 => (evIfs ifs Γ2).bind fun (c, Γ3) =>
          if c then (evX elt Γ3).map fun (y, Γ4) => (some y.d, Γ4) else some (none, Γ3)) xs (wipeG Γ1 vs)).map fun (ys, Γ5) => (.ow ys, backG Γ1 Γ5 vs)
      else none
  | .cmv o a i, Γ => (evX a Γ).bind fun (x, Γ) => (slotD i Γ).bind fun d => (cmpD o x.d d).map fun r => (.fz (.bool r), Γ)
  | .ixo i a b, Γ => if isOo i Γ then (evX a Γ).bind fun (x, Γ) => (rowO i x.d Γ).bind fun _ => (evX b Γ).bind fun (y, Γ) => (getO i x.d y.d Γ).map fun r => (.fz r, Γ) else none
  | .leno i, Γ => match Γ[i]? with
      | some (.oo rss) => some (.fz (.int rss.length), Γ)
      | _ => none
  | .lco vs tg k its elt, Γ => (evs its Γ).bind fun (ds, Γ1) => (itD k ds).bind fun xs =>
      if xs.length ≤ lim then
        (lcLoopO (fun x Γ => (asg tg x (wipeG Γ vs)).bind fun Γ2 => (evX elt Γ2).bind fun (y, Γ4) => y.own.map fun ds => (ds, Γ4)) xs (wipeG Γ1 vs)).map fun (ys, Γ5) => (.oo ys, backG Γ1 Γ5 vs)
      else none
def evs : List IE → Ga → Option (List D × Ga)
  | [], Γ => some ([], Γ)
  | e :: es, Γ => (evX e Γ).bind fun (x, Γ) => (evs es Γ).map fun (ds, Γ) => (x.d :: ds, Γ)
def evT : IE → Ga → Option (Bool × Ga)
  | .and a b, Γ => (evT a Γ).bind fun (c, Γ) => if c then evT b Γ else some (false, Γ)
  | .or a b, Γ => (evT a Γ).bind fun (c, Γ) => if c then some (true, Γ) else evT b Γ
  | .not a, Γ => (evT a Γ).map fun (c, Γ) => (!c, Γ)
  | .cmp o a b, Γ => (evX a Γ).bind fun (x, Γ) => (evX b Γ).bind fun (y, Γ) => (cmpD o x.d y.d).map fun r => (r, Γ)
  | .chn o o' a b c, Γ => (evX a Γ).bind fun (x, Γ) => (evX b Γ).bind fun (y, Γ) => (cmpD o x.d y.d).bind fun r =>
      if r then (evX c Γ).bind fun (z, Γ) => (cmpD o' y.d z.d).map fun r => (r, Γ) else some (false, Γ)
  | .cmv o a i, Γ => (evX a Γ).bind fun (x, Γ) => (slotD i Γ).bind fun d => (cmpD o x.d d).map fun r => (r, Γ)
  | .cst d, Γ => (trD d).map fun c => (c, Γ)
  | .var i, Γ => (slotD i Γ).bind fun d => (trD d).map fun c => (c, Γ)
  | .ixv i b, Γ => (slotD i Γ).bind fun _ => (evX b Γ).bind fun (y, Γ) => (slotD i Γ).bind fun d => (ixD d y.d).bind fun r => (trD r).map fun c => (c, Γ)
  | .lenv i, Γ => (slotD i Γ).bind fun d => (biD .len [d]).bind fun r => (trD r.d).map fun c => (c, Γ)
  | .bi f es, Γ => (evs es Γ).bind fun (ds, Γ) => (biD f ds).bind fun r => (trD r.d).map fun c => (c, Γ)
  | .call f pm es, Γ => (evs es Γ).bind fun (ds, Γ) => if f.mt then none else (f.run (pm ds)).bind fun (r, _) => (trD r.d).map fun c => (c, Γ)
  | .callm f i es, Γ => match Γ[i]? with
      | some (.ow _ _) => (evs es Γ).bind fun (ds, Γ) => match Γ[i]? with
        | some (.ow b c) => if f.mt then (f.run (.list c :: ds)).bind fun (r, c') => (trD r.d).map fun t => (t, Γ.set i (.ow b c')) else none
        | _ => none
      | _ => none
  | .ix a b, Γ => (evX a Γ).bind fun (x, Γ) => (evX b Γ).bind fun (y, Γ) => (ixD x.d y.d).bind fun r => (trD r).map fun c => (c, Γ)
  | .callt f e, Γ => (evX e Γ).bind fun (x, Γ) => match x with
      | .ow c => if f.mt then (f.run [.list c]).bind fun (r, _) => (trD r.d).map fun t => (t, Γ) else none
      | _ => none
  | _, _ => none
def evIfs : List IE → Ga → Option (Bool × Ga)
  | [], Γ => some (true, Γ)
  | e :: es, Γ => (evT e Γ).bind fun (c, Γ) => if c then evIfs es Γ else some (false, Γ)
end
end EvL

set_option Elab.async false
set_option linter.all false
set_option maxRecDepth 100000
set_option maxHeartbeats 4000000
namespace EvL
open PySem PySem.Spec PyProof.Rows L2

/-! ### data over a heap that grows -/
def Ext (H H' : Hp) : Prop := ∀ a o, H a = some o → H' a = some o
theorem Ext.rfl' {H : Hp} : Ext H H := fun _ _ h => h
theorem Ext.tr {H H1 H2 : Hp} (a : Ext H H1) (b : Ext H1 H2) : Ext H H2 := fun x o h => b x o (a x o h)
theorem Ext.new {H : Hp} {p : Addr} {o : HO} (h : H p = none) : Ext H (upd H p o) := fun a u e => by
  rw [upd_ne (ne_of_none e h)]; exact e
theorem Ext.upd {Hf H : Hp} {p : Addr} {o : HO} (e : Ext Hf H) (h : Hf p = none) : Ext Hf (upd H p o) := fun a u ha => by
  rw [upd_ne (ne_of_none ha h)]; exact e a u ha
theorem Ext.rd {H H' : Hp} {a : Addr} {u : HO} (e : Ext H H') (h : Rd H a u) : Rd H' a u := by
  rcases h with h | ⟨o, h⟩
  · exact .inl (e _ _ h)
  · exact .inr ⟨o, e _ _ h⟩
theorem Ext.sl {K : PySem.W.Frag} {H H' : Hp} {a : Addr} {xs : List V} (e : Ext H H') (h : SqL K H a xs) : SqL K H' a xs := by
  rcases h with h | h
  · exact .inl (e.rd h)
  · exact .inr h
theorem Ext.st {K : PySem.W.Frag} {H H' : Hp} {a : Addr} {xs : List V} (e : Ext H H') (h : SqT K H a xs) : SqT K H' a xs := by
  rcases h with h | h
  · exact .inl (e.rd h)
  · exact .inr h
theorem Ext.none {H H' : Hp} {a : Addr} (e : Ext H H') (h : H' a = none) : H a = none := by
  cases q : H a with
  | none => rfl
  | some o => rw [e a o q] at h; cases h
mutual
/-- a value stands for data -/
inductive Dq (K : PySem.W.Frag) (H : Hp) : V → D → Prop
  | non : Dq K H .non .none
  | bl (b : Bool) : Dq K H (.bl b) (.bool b)
  | int (i : Int) : Dq K H (.int i) (.int i)
  | str (x : Str) : Dq K H (.str x) (.str x)
  | lst {a : Addr} {xs : List V} {ds : List D} : Rd H a (.lst xs) → Dqs K H xs ds → Dq K H (.ref a) (.list ds)
  | tup {a : Addr} {xs : List V} {ds : List D} : SqT K H a xs → Dqs K H xs ds → Dq K H (.ref a) (.tuple ds)
inductive Dqs (K : PySem.W.Frag) (H : Hp) : List V → List D → Prop
  | nil : Dqs K H [] []
  | cons {v : V} {vs : List V} {d : D} {ds : List D} : Dq K H v d → Dqs K H vs ds → Dqs K H (v :: vs) (d :: ds)
end
section
variable {K : PySem.W.Frag} {H H' : Hp}
mutual
theorem Dq.dp : ∀ {v : V} {d : D}, Dq K H v d → Dp K H v d
  | _, _, .non => .non
  | _, _, .bl b => .bl b
  | _, _, .int i => .int i
  | _, _, .str x => .str x
  | _, _, .lst h q => .lst (.inl h) (Dqs.dp q)
  | _, _, .tup h q => .tup h (Dqs.dp q)
theorem Dqs.dp : ∀ {vs : List V} {ds : List D}, Dqs K H vs ds → DpAll K H vs ds
  | _, _, .nil => .nil
  | _, _, .cons h q => .cons (Dq.dp h) (Dqs.dp q)
end
mutual
theorem dpM (e : Ext H H') : ∀ {v : V} {d : D}, Dq K H v d → Dq K H' v d
  | _, _, .non => .non
  | _, _, .bl b => .bl b
  | _, _, .int i => .int i
  | _, _, .str x => .str x
  | _, _, .lst h q => .lst (e.rd h) (dpMs e q)
  | _, _, .tup h q => .tup (e.st h) (dpMs e q)
theorem dpMs (e : Ext H H') : ∀ {vs : List V} {ds : List D}, Dqs K H vs ds → Dqs K H' vs ds
  | _, _, .nil => .nil
  | _, _, .cons h q => .cons (dpM e h) (dpMs e q)
end
theorem dps_len : ∀ {vs : List V} {ds : List D}, Dqs K H vs ds → vs.length = ds.length
  | _, _, .nil => rfl
  | _, _, .cons _ q => by simp [dps_len q]
theorem dps_app : ∀ {vs ws : List V} {ds es : List D}, Dqs K H vs ds → Dqs K H ws es → Dqs K H (vs ++ ws) (ds ++ es)
  | _, _, _, _, .nil, q => q
  | _, _, _, _, .cons h t, q => .cons h (dps_app t q)
theorem dps_get : ∀ {vs : List V} {ds : List D} {i : Nat} {d : D}, Dqs K H vs ds → ds[i]? = some d → ∃ v, vs[i]? = some v ∧ Dq K H v d
  | _, _, 0, _, .cons h _, e => by simp at e; subst e; exact ⟨_, rfl, h⟩
  | _, _, i + 1, d, .cons _ t, e => by
    obtain ⟨v, h1, h2⟩ := dps_get (i := i) (d := d) t (by simpa using e)
    exact ⟨v, by simpa using h1, h2⟩
  | _, _, _, _, .nil, e => by simp at e
theorem dps_take : ∀ {vs : List V} {ds : List D} (n : Nat), Dqs K H vs ds → Dqs K H (vs.take n) (ds.take n)
  | _, _, 0, _ => by simp; exact .nil
  | _, _, _ + 1, .nil => by simp; exact .nil
  | _, _, n + 1, .cons h t => by simp; exact .cons h (dps_take n t)
theorem dps_drop : ∀ {vs : List V} {ds : List D} (n : Nat), Dqs K H vs ds → Dqs K H (vs.drop n) (ds.drop n)
  | _, _, 0, h => by simpa using h
  | _, _, _ + 1, .nil => by simp; exact .nil
  | _, _, n + 1, .cons h t => by simpa using dps_drop n t
theorem dps_set : ∀ {vs : List V} {ds : List D} (i : Nat) {v : V} {d : D}, Dqs K H vs ds → Dq K H v d → Dqs K H (vs.set i v) (ds.set i d)
  | _, _, _, _, _, .nil, _ => .nil
  | _, _, 0, _, _, .cons _ t, q => .cons q t
  | _, _, i + 1, _, _, .cons h t, q => .cons h (dps_set i t q)
theorem dps_rev {vs : List V} {ds : List D} (h : Dqs K H vs ds) : Dqs K H vs.reverse ds.reverse := by
  induction vs generalizing ds with
  | nil => cases h; exact .nil
  | cons v vs ih =>
    cases h with
    | cons h t =>
      simp only [List.reverse_cons]
      exact dps_app (ih t) (.cons h .nil)
theorem dps_rep {vs : List V} {ds : List D} (h : Dqs K H vs ds) : ∀ n : Nat, Dqs K H (List.replicate n vs).flatten (List.replicate n ds).flatten
  | 0 => by simp; exact .nil
  | n + 1 => by simp only [List.replicate_succ, List.flatten_cons]; exact dps_app h (dps_rep h n)
end

/-! ### the slots over a heap: Hf is the part that never changes -/
theorem map_ref_inj : ∀ {as bs : List Addr}, as.map V.ref = bs.map V.ref → as = bs
  | [], [], _ => rfl
  | a :: as, b :: bs, h => by
    simp only [List.map_cons, List.cons.injEq] at h
    obtain ⟨h1, h2⟩ := h
    cases h1
    rw [map_ref_inj h2]
  | [], _ :: _, h => by simp at h
  | _ :: _, [], h => by simp at h
/-- lists of one's own, one a row -/
inductive Rows (K : PySem.W.Frag) (Hf H : Hp) : List Addr → List (List D) → Prop
  | nil : Rows K Hf H [] []
  | cons {x : Addr} {vs : List V} {ds : List D} {as : List Addr} {rss : List (List D)} : Hf x = none → H x = some (.lst vs) → Dqs K Hf vs ds → Rows K Hf H as rss → Rows K Hf H (x :: as) (ds :: rss)
structure OO (K : PySem.W.Frag) (Hf H : Hp) (a : Addr) (as : List Addr) (rss : List (List D)) : Prop where
  hf : Hf a = none
  at_ : H a = some (.lst (as.map .ref))
  nd : (a :: as).Nodup
  rows : Rows K Hf H as rss
section
variable {K : PySem.W.Frag} {Hf H Hf1 H1 : Hp} {a : Addr} {as : List Addr} {rss : List (List D)}
theorem Rows.mem : ∀ {as : List Addr} {rss : List (List D)}, Rows K Hf H as rss → ∀ b ∈ as, Hf b = none ∧ ∃ vs, H b = some (.lst vs)
  | _, _, .nil, _, h => by cases h
  | _, _, .cons a b _ t, x, h => by
    rcases List.mem_cons.mp h with rfl | h
    · exact ⟨a, _, b⟩
    · exact Rows.mem t x h
theorem Rows.len : ∀ {as : List Addr} {rss : List (List D)}, Rows K Hf H as rss → as.length = rss.length
  | _, _, .nil => rfl
  | _, _, .cons _ _ _ t => by simp [Rows.len t]
theorem Rows.mono (e : Ext Hf Hf1) : ∀ {as : List Addr} {rss : List (List D)}, (∀ b ∈ as, Hf1 b = none) → (∀ b ∈ as, H1 b = H b) → Rows K Hf H as rss → Rows K Hf1 H1 as rss
  | _, _, _, _, .nil => .nil
  | _, _, h, k, .cons a b c t => .cons (h _ (List.mem_cons_self ..)) ((k _ (List.mem_cons_self ..)).trans b) (dpMs e c) (Rows.mono e (fun x hx => h x (List.mem_cons_of_mem _ hx)) (fun x hx => k x (List.mem_cons_of_mem _ hx)) t)
theorem Rows.get : ∀ {as : List Addr} {rss : List (List D)}, Rows K Hf H as rss → ∀ {i : Nat} {ds : List D}, rss[i]? = some ds → ∃ x vs, as[i]? = some x ∧ Hf x = none ∧ H x = some (.lst vs) ∧ Dqs K Hf vs ds
  | _, _, .nil, _, _, e => by simp at e
  | _, _, .cons a b c t, 0, _, e => by simp at e; subst e; exact ⟨_, _, rfl, a, b, c⟩
  | _, _, .cons a b c t, i + 1, ds, e => by
    obtain ⟨x, vs, g⟩ := Rows.get t (i := i) (ds := ds) (by simpa using e)
    exact ⟨x, vs, by simpa using g⟩
theorem OO.mem (o : OO K Hf H a as rss) : ∀ b ∈ a :: as, Hf b = none ∧ ∃ vs, H b = some (.lst vs) := fun b h => by
  rcases List.mem_cons.mp h with rfl | h
  · exact ⟨o.hf, _, o.at_⟩
  · exact o.rows.mem b h
theorem OO.mono (o : OO K Hf H a as rss) (e : Ext Hf Hf1) (h : ∀ b ∈ a :: as, Hf1 b = none) (k : ∀ b ∈ a :: as, H1 b = H b) : OO K Hf1 H1 a as rss :=
  ⟨h _ (List.mem_cons_self ..), (k _ (List.mem_cons_self ..)).trans o.at_, o.nd, o.rows.mono e (fun x hx => h x (List.mem_cons_of_mem _ hx)) (fun x hx => k x (List.mem_cons_of_mem _ hx))⟩
end
/-- the slot i owns what lies at b -/
def SO (σ : L2.St) (Γ : Ga) (H : Hp) (i : Nat) (q : Bool) (b : Addr) : Prop :=
  (∃ ds, Γ[i]? = some (.ow q ds) ∧ σ[i]? = some (some (.ref b))) ∨
  (q = false ∧ ∃ rss a as, Γ[i]? = some (.oo rss) ∧ σ[i]? = some (some (.ref a)) ∧ H a = some (.lst (as.map .ref)) ∧ b ∈ a :: as)
def OwnAt (σ : L2.St) (Γ : Ga) (H : Hp) (q : Bool) (b : Addr) : Prop := ∃ i, SO σ Γ H i q b
structure Rel (K : PySem.W.Frag) (Hf H : Hp) (σ : L2.St) (Γ : Ga) : Prop where
  len : Γ.length = σ.length
  sub : Ext Hf H
  fz : ∀ (i : Nat) (d : D), Γ[i]? = some (.fz d) → ∃ v, σ[i]? = some (some v) ∧ Dq K Hf v d
  own : ∀ (i : Nat) (q : Bool) (ds : List D), Γ[i]? = some (.ow q ds) → ∃ a vs, σ[i]? = some (some (.ref a)) ∧ Hf a = none ∧ H a = some (.lst vs) ∧ Dqs K Hf vs ds
  oo : ∀ (i : Nat) (rss : List (List D)), Γ[i]? = some (.oo rss) → ∃ a as, σ[i]? = some (some (.ref a)) ∧ OO K Hf H a as rss
  inj : ∀ (i j : Nat) (q q' : Bool) (b : Addr), SO σ Γ H i q b → SO σ Γ H j q' b → i = j
/-- what a piece of code may do -/
structure Step (σ : L2.St) (Γ : Ga) (Hf H : Hp) (σ' : L2.St) (Γ' : Ga) (Hf' H' : Hp) : Prop where
  ext : Ext Hf Hf'
  keep : ∀ b o, H b = some o → (∀ q, ¬ OwnAt σ Γ H q b) → H' b = some o
  live : ∀ b, H b ≠ none → H' b ≠ none
  newf : ∀ b, Hf' b ≠ none → Hf b ≠ none ∨ H b = none ∨ OwnAt σ Γ H false b
  newo : ∀ b, OwnAt σ' Γ' H' false b → OwnAt σ Γ H false b ∨ H b = none
  newb : ∀ b, OwnAt σ' Γ' H' true b → OwnAt σ Γ H true b
  hid : ∀ (i : Nat) (ds : List D), Γ'[i]? = some (.hid ds) → Γ[i]? = some (.hid ds) ∧ σ'[i]? = σ[i]?
section
variable {K : PySem.W.Frag} {σ σ1 σ2 : L2.St} {Γ Γ1 Γ2 : Ga} {Hf H Hf1 H1 Hf2 H2 : Hp}
theorem Rel.there (R : Rel K Hf H σ Γ) {q : Bool} {b : Addr} (h : OwnAt σ Γ H q b) : Hf b = none ∧ ∃ vs, H b = some (.lst vs) := by
  obtain ⟨i, ⟨ds, h1, h2⟩ | ⟨rfl, rss, a, as, h1, h2, h3, h4⟩⟩ := h
  · obtain ⟨a, vs, e, n, x, _⟩ := R.own i q ds h1
    rw [h2] at e; cases e
    exact ⟨n, vs, x⟩
  · obtain ⟨a', as', e, o⟩ := R.oo i rss h1
    rw [h2] at e; cases e
    have := o.at_
    rw [h3] at this
    injection this with this
    injection this with this
    rw [map_ref_inj this] at h4
    exact o.mem b h4
theorem Rel.fresh (R : Rel K Hf H σ Γ) {b : Addr} (h : H b = none) (q : Bool) : ¬ OwnAt σ Γ H q b := fun z => by
  obtain ⟨_, vs, e⟩ := R.there z
  rw [h] at e; cases e
theorem SO.oo {i : Nat} {rss : List (List D)} {a b : Addr} {as : List Addr} (h1 : Γ[i]? = some (.oo rss)) (h2 : σ[i]? = some (some (.ref a))) (o : OO K Hf H a as rss) (hb : b ∈ a :: as) : SO σ Γ H i false b :=
  .inr ⟨rfl, rss, a, as, h1, h2, o.at_, hb⟩
/-- over another heap that says the same of what is there -/
theorem SO.heap (R : Rel K Hf H σ Γ) {i : Nat} {q : Bool} {b : Addr} (k : ∀ a, OwnAt σ Γ H false a → H1 a = H a) (h : SO σ Γ H1 i q b) : SO σ Γ H i q b := by
  rcases h with h | ⟨rfl, rss, a, as, h1, h2, h3, h4⟩
  · exact .inl h
  · obtain ⟨a', as', e, o⟩ := R.oo i rss h1
    rw [h2] at e; cases e
    have := k a ⟨i, .oo h1 h2 o (List.mem_cons_self ..)⟩
    rw [this] at h3
    exact .inr ⟨rfl, rss, a, as, h1, h2, h3, h4⟩
theorem OwnAt.heap (R : Rel K Hf H σ Γ) {q : Bool} {b : Addr} (k : ∀ a, OwnAt σ Γ H false a → H1 a = H a) (h : OwnAt σ Γ H1 q b) : OwnAt σ Γ H q b := let ⟨i, h⟩ := h; ⟨i, h.heap R k⟩
theorem Step.rfl' : Step σ Γ Hf H σ Γ Hf H := ⟨Ext.rfl', fun _ _ h _ => h, fun _ h => h, fun _ h => .inl h, fun _ h => .inl h, fun _ h => h, fun _ _ h => ⟨h, rfl⟩⟩
theorem hid_set {σ σ' : L2.St} {Γ : Ga} {i : Nat} {m : MV} (hm : ∀ ds, m ≠ .hid ds) (hs : ∀ j, j ≠ i → σ'[j]? = σ[j]?) : ∀ (j : Nat) (ds : List D), (Γ.set i m)[j]? = some (.hid ds) → Γ[j]? = some (.hid ds) ∧ σ'[j]? = σ[j]? := fun j ds h => by
  rw [List.getElem?_set] at h
  split at h
  · split at h
    · cases h; exact absurd rfl (hm ds)
    · cases h
  · rename_i q
    exact ⟨h, hs j fun z => q z.symm⟩
theorem Step.tr (a : Step σ Γ Hf H σ1 Γ1 Hf1 H1) (b : Step σ1 Γ1 Hf1 H1 σ2 Γ2 Hf2 H2) : Step σ Γ Hf H σ2 Γ2 Hf2 H2 where
  ext := a.ext.tr b.ext
  keep := fun x o h n => b.keep x o (a.keep x o h n) fun q z => by
    cases q with
    | true => exact n true (a.newb x z)
    | false =>
      rcases a.newo x z with z | z
      · exact n false z
      · rw [z] at h; cases h
  live := fun x h => b.live x (a.live x h)
  newf := fun x h => by
    rcases b.newf x h with h | h | h
    · exact a.newf x h
    · refine .inr (.inl ?_)
      cases q : H x with
      | none => rfl
      | some o => exact absurd h (a.live x (by rw [q]; simp))
    · rcases a.newo x h with h | h
      · exact .inr (.inr h)
      · exact .inr (.inl h)
  newo := fun x h => by
    rcases b.newo x h with h | h
    · exact a.newo x h
    · refine .inr ?_
      cases q : H x with
      | none => rfl
      | some o => exact absurd h (a.live x (by rw [q]; simp))
  newb := fun x h => a.newb x (b.newb x h)
  hid := fun i ds h => let ⟨h1, e1⟩ := b.hid i ds h; let ⟨h2, e2⟩ := a.hid i ds h1; ⟨h2, e1.trans e2⟩
/-- an expression: no new list of its own at a slot -/
structure EStep (σ : L2.St) (Γ : Ga) (Hf H : Hp) (Γ' : Ga) (Hf' H' : Hp) : Prop extends Step σ Γ Hf H σ Γ' Hf' H' where
  shr : ∀ b, OwnAt σ Γ' H' false b → OwnAt σ Γ H false b
  oos : ∀ (i : Nat) (rss : List (List D)) (a : Addr), Γ'[i]? = some (.oo rss) → σ[i]? = some (some (.ref a)) → Γ[i]? = some (.oo rss) ∧ σ[i]? = some (some (.ref a)) ∧ H' a = H a
theorem EStep.rfl' : EStep σ Γ Hf H Γ Hf H := ⟨.rfl', fun _ h => h, fun _ _ _ h g => ⟨h, g, rfl⟩⟩
theorem EStep.tr (a : EStep σ Γ Hf H Γ1 Hf1 H1) (b : EStep σ Γ1 Hf1 H1 Γ2 Hf2 H2) : EStep σ Γ Hf H Γ2 Hf2 H2 :=
  ⟨a.toStep.tr b.toStep, fun x h => a.shr x (b.shr x h), fun i rss x h g => let ⟨h1, g1, e1⟩ := b.oos i rss x h g; let ⟨h2, g2, e2⟩ := a.oos i rss x h1 g1; ⟨h2, g2, e1.trans e2⟩⟩
/-- something new alone -/
structure Grow (Hf H Hf' H' : Hp) : Prop where
  ext : Ext Hf Hf'
  sub : Ext Hf' H'
  keep : Ext H H'
  newf : ∀ b, Hf' b ≠ none → Hf b ≠ none ∨ H b = none
theorem Ext.eq_at {H H1 : Hp} (e : Ext H H1) {b : Addr} {o : HO} (h : H b = some o) : H1 b = H b := (e b o h).trans h.symm
theorem Grow.nf (g : Grow Hf H Hf1 H1) {b : Addr} {o : HO} (h : Hf b = none) (k : H b = some o) : Hf1 b = none := by
  cases z : Hf1 b with
  | none => rfl
  | some u =>
    rcases g.newf b (by rw [z]; simp) with w | w
    · exact absurd h w
    · rw [w] at k; cases k
theorem Rel.keeps (R : Rel K Hf H σ Γ) (keep : Ext H H1) : ∀ a, OwnAt σ Γ H false a → H1 a = H a := fun a h => let ⟨_, vs, e⟩ := R.there h; keep.eq_at e
theorem Grow.rel (g : Grow Hf H Hf1 H1) (R : Rel K Hf H σ Γ) : Rel K Hf1 H1 σ Γ where
  len := R.len
  sub := g.sub
  fz := fun i d h => let ⟨v, a, b⟩ := R.fz i d h; ⟨v, a, dpM g.ext b⟩
  own := fun i q ds h => by
    obtain ⟨a, vs, e, n, x, y⟩ := R.own i q ds h
    exact ⟨a, vs, e, g.nf n x, g.keep _ _ x, dpMs g.ext y⟩
  oo := fun i rss h => by
    obtain ⟨a, as, e, o⟩ := R.oo i rss h
    exact ⟨a, as, e, o.mono g.ext (fun b hb => let ⟨n, vs, x⟩ := o.mem b hb; g.nf n x) (fun b hb => let ⟨n, vs, x⟩ := o.mem b hb; g.keep.eq_at x)⟩
  inj := fun i j q q' b h h' => R.inj i j q q' b (h.heap R (R.keeps g.keep)) (h'.heap R (R.keeps g.keep))
theorem Grow.live (g : Grow Hf H Hf1 H1) : ∀ b, H b ≠ none → H1 b ≠ none := fun b h z => h (g.keep.none z)
theorem Grow.step (g : Grow Hf H Hf1 H1) (R : Rel K Hf H σ Γ) : EStep σ Γ Hf H Γ Hf1 H1 :=
  ⟨⟨g.ext, fun b o h _ => g.keep b o h, g.live, fun b h => (g.newf b h).elim .inl fun z => .inr (.inl z), fun _ h => .inl (h.heap R (R.keeps g.keep)), fun _ h => h.heap R (R.keeps g.keep), fun _ _ h => ⟨h, rfl⟩⟩, fun _ h => h.heap R (R.keeps g.keep),
    fun i rss a h e => let ⟨a', as, e', o⟩ := R.oo i rss h; ⟨h, e, by rw [e] at e'; cases e'; exact g.keep.eq_at o.at_⟩⟩
theorem Grow.same (s : Ext Hf H) : Grow Hf H Hf H := ⟨Ext.rfl', s, Ext.rfl', fun _ h => .inl h⟩
theorem Grow.tup (s : Ext Hf H) {p : Addr} {o : HO} (h : H p = none) : Grow Hf H (upd Hf p o) (upd H p o) where
  ext := Ext.new (s.none h)
  sub := fun a u e => by
    by_cases hp : a = p
    · subst hp; rw [upd_same] at e ⊢; exact e
    · rw [upd_ne hp] at e ⊢; exact s a u e
  keep := Ext.new h
  newf := fun b e => by
    by_cases hp : b = p
    · subst hp; exact .inr h
    · rw [upd_ne hp] at e; exact .inl e
theorem Grow.lst (s : Ext Hf H) {p : Addr} {o : HO} (h : H p = none) : Grow Hf H Hf (upd H p o) := ⟨Ext.rfl', s.upd (s.none h), Ext.new h, fun _ e => .inl e⟩
theorem Grow.tr {Hf0 H0 : Hp} (a : Grow Hf0 H0 Hf H) (b : Grow Hf H Hf1 H1) : Grow Hf0 H0 Hf1 H1 :=
  ⟨a.ext.tr b.ext, b.sub, a.keep.tr b.keep, fun x h => by
    rcases b.newf x h with h | h
    · exact a.newf x h
    · exact .inr (a.keep.none h)⟩
/-- a result stands: H0 is the heap ahead -/
def RRel (K : PySem.W.Frag) (H0 Hf' H' : Hp) (v : V) : RV → Prop
  | .fz d => Dq K Hf' v d
  | .ow ds => ∃ p ws, v = .ref p ∧ H0 p = none ∧ Hf' p = none ∧ H' p = some (.lst ws) ∧ Dqs K Hf' ws ds
  | .oo rss => ∃ p as, v = .ref p ∧ (∀ b ∈ p :: as, H0 b = none) ∧ OO K Hf' H' p as rss
theorem RRel.back {H0 : Hp} {v : V} {r : RV} (h : RRel K H Hf1 H1 v r) (e : ∀ b, H b = none → H0 b = none) : RRel K H0 Hf1 H1 v r := by
  cases r with
  | fz d => exact h
  | ow ds =>
    obtain ⟨p, ws, a, b, c⟩ := h
    exact ⟨p, ws, a, e p b, c⟩
  | oo rss =>
    obtain ⟨p, as, a, b, c⟩ := h
    exact ⟨p, as, a, fun x hx => e x (b x hx), c⟩
theorem Step.dead (s : Step σ Γ Hf H σ1 Γ1 Hf1 H1) : ∀ b, H1 b = none → H b = none := fun b h => by
  cases q : H b with
  | none => rfl
  | some o => exact absurd h (s.live b (by rw [q]; simp))
/-- some objects more that never change -/
def frz (Hf H : Hp) (L : List Addr) : Hp := fun b => if b ∈ L then H b else Hf b
theorem frz_in {L : List Addr} {b : Addr} (h : b ∈ L) : frz Hf H L b = H b := if_pos h
theorem frz_out {L : List Addr} {b : Addr} (h : b ∉ L) : frz Hf H L b = Hf b := if_neg h
theorem frz_ext {L : List Addr} (h : ∀ b ∈ L, Hf b = none) : Ext Hf (frz Hf H L) := fun b o e => by
  rw [frz_out fun z => by rw [h b z] at e; cases e]; exact e
theorem frz_sub {L : List Addr} (s : Ext Hf H) : Ext (frz Hf H L) H := fun b o e => by
  by_cases hb : b ∈ L
  · rwa [frz_in hb] at e
  · rw [frz_out hb] at e; exact s b o e
theorem Rel.freezeL {L : List Addr} (R : Rel K Hf H σ Γ) (h : ∀ b ∈ L, Hf b = none) (no : ∀ b ∈ L, ∀ q, ¬ OwnAt σ Γ H q b) : Rel K (frz Hf H L) H σ Γ where
  len := R.len
  sub := frz_sub R.sub
  fz := fun i d e => let ⟨v, a, b⟩ := R.fz i d e; ⟨v, a, dpM (frz_ext h) b⟩
  own := fun i q ds e => by
    obtain ⟨a, vs, e1, n, x, y⟩ := R.own i q ds e
    exact ⟨a, vs, e1, by rw [frz_out fun z => no a z q ⟨i, .inl ⟨ds, e, e1⟩⟩]; exact n, x, dpMs (frz_ext h) y⟩
  oo := fun i rss e => by
    obtain ⟨a, as, e1, o⟩ := R.oo i rss e
    exact ⟨a, as, e1, o.mono (frz_ext h) (fun b hb => by rw [frz_out fun z => no b z false ⟨i, .oo e e1 o hb⟩]; exact (o.mem b hb).1) fun _ _ => rfl⟩
  inj := R.inj
theorem Rows.frozen (e : Ext Hf Hf1) : ∀ {as : List Addr} {rss : List (List D)}, (∀ b ∈ as, Hf1 b = H b) → Rows K Hf H as rss → Dqs K Hf1 (as.map .ref) (rss.map .list)
  | _, _, _, .nil => .nil
  | _, _, k, .cons a b c t => .cons (.lst (.inl ((k _ (List.mem_cons_self ..)).trans b)) (dpMs e c)) (Rows.frozen e (fun x hx => k x (List.mem_cons_of_mem _ hx)) t)
/-- .. its own addresses -/
theorem OO.frozen {p : Addr} {as : List Addr} {rss : List (List D)} (o : OO K Hf H p as rss) : Dq K (frz Hf H (p :: as)) (.ref p) (.list (rss.map .list)) :=
  .lst (.inl ((frz_in (List.mem_cons_self ..)).trans o.at_)) (o.rows.frozen (frz_ext fun b hb => (o.mem b hb).1) fun b hb => frz_in (List.mem_cons_of_mem _ hb))
/-- a list of its own becomes one that never changes -/
theorem freeze {v : V} {r : RV} (R : Rel K Hf1 H1 σ Γ1) (s : EStep σ Γ Hf H Γ1 Hf1 H1) (R0 : Rel K Hf H σ Γ) (h : RRel K H Hf1 H1 v r) :
    ∃ Hf2, Rel K Hf2 H1 σ Γ1 ∧ EStep σ Γ Hf H Γ1 Hf2 H1 ∧ Dq K Hf2 v r.d := by
  have hno : ∀ p, H p = none → ∀ q, ¬ OwnAt σ Γ1 H1 q p := fun p h0 q z => by
    cases q with
    | false => exact R0.fresh h0 false (s.shr p z)
    | true => exact R0.fresh h0 true (s.newb p z)
  have key : ∀ L : List Addr, (∀ b ∈ L, H b = none ∧ Hf1 b = none) → Rel K (frz Hf1 H1 L) H1 σ Γ1 ∧ EStep σ Γ Hf H Γ1 (frz Hf1 H1 L) H1 := fun L hL => by
    refine ⟨R.freezeL (fun b hb => (hL b hb).2) (fun b hb => hno b (hL b hb).1), ⟨⟨s.ext.tr (frz_ext fun b hb => (hL b hb).2), s.keep, s.live, fun b hb => ?_, s.newo, s.newb, s.hid⟩, s.shr, s.oos⟩⟩
    by_cases hp : b ∈ L
    · exact .inr (.inl (hL b hp).1)
    · rw [frz_out hp] at hb; exact s.newf b hb
  cases r with
  | fz d => exact ⟨Hf1, R, s, h⟩
  | ow ds =>
    obtain ⟨p, ws, rfl, h0, hf, h1, q⟩ := h
    obtain ⟨a, b⟩ := key [p] (fun b hb => by rw [List.mem_singleton.mp hb]; exact ⟨h0, hf⟩)
    exact ⟨_, a, b, .lst (.inl ((frz_in (List.mem_singleton.mpr rfl)).trans h1)) (dpMs (frz_ext fun b hb => by rw [List.mem_singleton.mp hb]; exact hf) q)⟩
  | oo rss =>
    obtain ⟨p, as, rfl, h0, o⟩ := h
    obtain ⟨a, b⟩ := key (p :: as) (fun b hb => ⟨h0 b hb, (o.mem b hb).1⟩)
    exact ⟨_, a, b, o.frozen⟩
end
end EvL

set_option Elab.async false
set_option linter.all false
set_option maxRecDepth 100000
set_option maxHeartbeats 4000000
namespace EvL
open PySem PySem.Spec PyProof.Rows L2

/-! ### readings over data -/
def tX (K : PySem.W.Frag) (f : Ga → Option (RV × Ga)) : TE := fun σ H Q => ∃ Γ Hf r Γ', Rel K Hf H σ Γ ∧ f Γ = some (r, Γ') ∧
  ∀ v H' Hf', Rel K Hf' H' σ Γ' → EStep σ Γ Hf H Γ' Hf' H' → RRel K H Hf' H' v r → Q v H'
/-- .. what comes out is made fast -/
def tE (K : PySem.W.Frag) (f : Ga → Option (RV × Ga)) : TE := fun σ H Q => ∃ Γ Hf r Γ', Rel K Hf H σ Γ ∧ f Γ = some (r, Γ') ∧
  ∀ v H' Hf', Rel K Hf' H' σ Γ' → EStep σ Γ Hf H Γ' Hf' H' → Dq K Hf' v r.d → Q v H'
def tT (K : PySem.W.Frag) (f : Ga → Option (Bool × Ga)) : TT := fun σ H Q => ∃ Γ Hf r Γ', Rel K Hf H σ Γ ∧ f Γ = some (r, Γ') ∧
  ∀ H' Hf', Rel K Hf' H' σ Γ' → EStep σ Γ Hf H Γ' Hf' H' → Q r H'
def tAs (K : PySem.W.Frag) (f : Ga → Option (List D × Ga)) : TA := fun σ H Q => ∃ Γ Hf r Γ', Rel K Hf H σ Γ ∧ f Γ = some (r, Γ') ∧
  ∀ vs H' Hf', Rel K Hf' H' σ Γ' → EStep σ Γ Hf H Γ' Hf' H' → Dqs K Hf' vs r → Q vs H'
section
variable {X : Cx} {e : Expr} {es : List Expr}
theorem _root_.L2.PE.imp {t t' : TE} (h : PE X e t) (k : ∀ σ H Q, t' σ H Q → t σ H Q) : PE X e t' := ⟨fun pins s σ H Q I q => h.run pins s σ H Q I (k σ H Q q)⟩
theorem _root_.L2.PT.imp {t t' : TT} (h : PT X e t) (k : ∀ σ H Q, t' σ H Q → t σ H Q) : PT X e t' := ⟨fun pins s σ H Q I q => h.run pins s σ H Q I (k σ H Q q)⟩
theorem _root_.L2.PW.imp {t t' : TT} (h : PW X e t) (k : ∀ σ H Q, t' σ H Q → t σ H Q) : PW X e t' := ⟨fun wh pins s σ H Q I q => h.run wh pins s σ H Q I (k σ H Q q)⟩
theorem _root_.L2.PA.imp {t t' : TA} (h : PA X es t) (k : ∀ σ H Q, t' σ H Q → t σ H Q) : PA X es t' := ⟨fun pos pins s σ H Q I q => h.run pos pins s σ H Q I (k σ H Q q)⟩
theorem pe_fast {f : Ga → Option (RV × Ga)} (h : PE X e (tX X.K f)) : PE X e (tE X.K f) := h.imp fun σ H Q ⟨Γ, Hf, r, Γ', R, ef, k⟩ => ⟨Γ, Hf, r, Γ', R, ef, fun v H' Hf' R' S' rr => by
  obtain ⟨Hf2, R2, S2, d⟩ := freeze R' S' R rr
  exact k v H' Hf2 R2 S2 d⟩
end
/-- after a fast value: a rule by data, without slots -/
def Post (K : PySem.W.Frag) (Hf H : Hp) (r : RV) (Q : VK) : Prop := ∀ v H' Hf', Grow Hf H Hf' H' → RRel K H Hf' H' v r → Q v H'
section
variable {K : PySem.W.Frag} {Hf H : Hp} {Q : VK}
theorem Post.val {v : V} {d : D} (p : Post K Hf H (.fz d) Q) (s : Ext Hf H) (h : Dq K Hf v d) : Q v H := p v H Hf (Grow.same s) h
theorem Post.tup {vs : List V} {ds : List D} (p : Post K Hf H (.fz (.tuple ds)) Q) (s : Ext Hf H) (h : Dqs K Hf vs ds) : ∀ q, H q = none → Q (.ref q) (upd H q (.tup vs)) := fun q hq =>
  p _ _ _ (Grow.tup s hq) (.tup (.inl (.inl upd_same)) (dpMs (Ext.new (s.none hq)) h))
theorem Post.lst {vs : List V} {ds : List D} (p : Post K Hf H (.ow ds) Q) (s : Ext Hf H) (h : Dqs K Hf vs ds) : ∀ q, H q = none → Q (.ref q) (upd H q (.lst vs)) := fun q hq =>
  p _ _ _ (Grow.lst s hq) ⟨q, vs, rfl, hq, s.none hq, upd_same, h⟩
theorem Post.fin {σ : L2.St} {Γ0 Γ : Ga} {Hf0 H0 : Hp} {r : RV} {Q : VK} (R : Rel K Hf H σ Γ) (S : EStep σ Γ0 Hf0 H0 Γ Hf H)
    (k : ∀ v H' Hf', Rel K Hf' H' σ Γ → EStep σ Γ0 Hf0 H0 Γ Hf' H' → RRel K H0 Hf' H' v r → Q v H') : Post K Hf H r Q := fun v H' Hf' g rr =>
  k v H' Hf' (g.rel R) (S.tr (g.step R)) (rr.back S.dead)
end

/-! ### what stands around: the table of defs, constants, the free built-ins -/
structure FnE where
  name : Str
  np : Nat
  kws : List Str
  f : FnD
  ar : List (Sum Nat Nat)
  dfs : List D
def arr {α : Type} (z : α) (ar : List (Sum Nat Nat)) (dfs xs : List α) : List α := ar.map fun
  | .inl i => xs.getD i z
  | .inr j => dfs.getD j z
def FnE.pm (E : FnE) (ds : List D) : List D := arr .none E.ar E.dfs ds
structure Ctx where
  N : List Str
  sc : Scope
  fns : List FnE
  consts : List (Str × D)
  gcd : Bool
  bl : List Str
/-- what a def's promise is, by its meaning over data -/
def spD (K : PySem.W.Frag) (f : FnD) : Sp := fun vs H Q _ => ∃ (Hf : Hp) (ds : List D) (r : RV) (c' : List D), Ext Hf H ∧ f.run ds = some (r, c') ∧
  match f.mt with
  | false => Dqs K Hf vs ds ∧ Post K Hf H r Q
  | true => ∃ (a : Addr) (vs0 ws : List V) (c ds0 : List D), vs = .ref a :: vs0 ∧ ds = .list c :: ds0 ∧ Hf a = none ∧ H a = some (.lst ws) ∧ Dqs K Hf ws c ∧ Dqs K Hf vs0 ds0 ∧
      ∀ v H' Hf' ws', Ext Hf Hf' → Ext Hf' H' → (∀ b o, b ≠ a → H b = some o → H' b = some o) → (∀ b, Hf' b ≠ none → Hf b ≠ none ∨ H b = none) →
        H' a = some (.lst ws') → Hf' a = none → Dqs K Hf' ws' c' → RRel K H Hf' H' v r → Q v H'
end EvL

set_option Elab.async false
set_option linter.all false
set_option maxRecDepth 100000
set_option maxHeartbeats 4000000
namespace EvL
open PySem PySem.Spec PyProof.Rows L2

/-! ### a def that keeps a promise where no repr is on its way -/
structure FnG (P : Program) (w : World) (K : PySem.W.Frag) (mg : Str → Option Value) (base : Heap) (k : Nat) (f : Addr) (fd : FuncData) (ps : List Str) (sp : Sp) : Prop where
  go : ∀ (A : Around) (outer : List Env) (s : Shared) (H : Hp) (args : Args) (us : List Value) (vs : List V) (Q : VK), Room (k + 40) A → A.guards = some [] → Env0 P w K mg base A outer s H →
    BindsTo s fd args (ps.zip us) → Vals vs us → vs.length = ps.length → sp vs H Q E0 → codeAny (model P w) A (.call (.ref f) args) (CR CX0 outer P w H s Q E0) s
section
variable {P : Program} {w : World} {K : PySem.W.Frag} {mg : Str → Option Value} {base : Heap} {k : Nat} {f : Addr} {fd : FuncData} {ps : List Str} {sp : Sp}
theorem FnG.up {j : Nat} (F : FnG P w K mg base j f fd ps sp) (h : j ≤ k) : FnG P w K mg base k f fd ps sp :=
  ⟨fun A outer s H args us vs Q hr => F.go A outer s H args us vs Q (hr.mono (by omega))⟩
/-- the rule of a def by its body, the guards told -/
theorem fnG_of {name qual : Str} {params : Arguments} {body : List Stmt} {scope : Scope} {dV kV doc pm cdv ct oc : Value} {an od : Option Addr} {osl : Array (Option Value)} {N : List Str}
    (lk : K.lookup f = some ⟨oc, od, .func (PySem.W.fnOf name qual params body scope dV kV doc pm an cdv ct), osl⟩) (hcd : PySem.W.codeIn K cdv qual = true) (S : FnScope N ps scope)
    (hb : ∀ (A : Around) (outer : List Env) (s : Shared) (H : Hp) (vs : List V) (Q : VK), Room (k + 40) (A.deeper (envOfC qual scope s.heap.objs.size f cdv)) → A.frames = some outer → A.guards = some [] → vs.length = ps.length → sp vs H Q E0 →
      ∃ t, PSs (cxOf CX0 P w K mg base N qual scope f cdv A outer s H E0).nox body t ∧ t { nx := fun _ H' => Q .non H', rt := Q } (start N vs) H) :
    FnG P w K mg base (k + 1) f (PySem.W.fnOf name qual params body scope dV kV doc pm an cdv ct) ps sp := by
  constructor
  intro A outer s H args us vs Q hr hg e0 hbind r hl hsp
  have inK : K.In s.heap := e0.mod.kin.keeps fun b o q => (e0.bs b o q).1
  have nolim : s.heap.NoLimit := e0.mod.nolimit.keeps fun b o q => (e0.bs b o q).1
  have kinds : ∀ y ∈ ps.zip us, scope.names.lookup y.1 = some .local ∨ (scope.names.lookup y.1 = some .cell ∧ ((cellsFrom (s.heap.objs.size + 1) scope.names []).lookup y.1).isSome = true) := by
    rintro ⟨n, v⟩ hy
    rcases S.par n (List.of_mem_zip hy).1 with q | q
    · left; exact q
    · right; exact ⟨q, PySem.W.cellsFrom_some _ _ _ (.inl q)⟩
  refine codeAny_call_function hr.depth (inK _ _ lk) rfl S.co S.gen rfl (PySem.W.codeRec_of inK hcd) (hbind _ _ _ _ (wpAny_newFunctionEnv_cells S.kind kinds ?_))
  intro env he s1 x
  subst he
  refine ⟨nolim.keeps x.toInCall.keep, codeAny_func ?_⟩
  obtain ⟨t, ht, hq⟩ := hb A outer s H vs Q (Room.deeper (k := k + 40) hr _) e0.frames hg hl hsp
  have J0 := inv_start (CX := CX0) (E := E0) S hr.hd e0 hl r x
  refine wpAny_mono (ht.nox.run [] s1 (start N vs) H _ J0 hq) ?_ (fun _ _ z => z)
  intro fl s' hs
  cases fl with
  | ret u =>
    obtain ⟨v, σ', H', J, rv, q⟩ := hs
    exact ⟨v, H', J.os, J.bare, J.base, J.hok, rv, q⟩
  | next =>
    obtain ⟨σ', H', J, q⟩ := hs
    exact ⟨V.non, H', J.os, J.bare, J.base, J.hok, rfl, q⟩
  | brk => obtain ⟨_, _, _, q⟩ := hs; exact q.elim
  | cont => obtain ⟨_, _, _, q⟩ := hs; exact q.elim
end
/-- where the table's def stands -/
structure FnAt (P : Program) (w : World) (K : PySem.W.Frag) (mg : Str → Option Value) (base : Heap) (k : Nat) (E : FnE) : Prop where
  at_ : ∃ (fa : Addr) (fd : FuncData) (ps : List Str) (dvs : List V) (dus : List Value), FnG P w K mg base k fa fd ps (spD K E.f) ∧ mg E.name = some (.ref fa) ∧ PySem.W.keepIn K (.ref fa) = true ∧
    Vals dvs dus ∧ (∀ H, Dqs K H dvs E.dfs) ∧ ps.length = E.ar.length ∧
    ∀ (s : Shared) (us ws : List Value), K.In s.heap → us.length = E.np → ws.length = E.kws.length → BindsTo s fd ⟨us, E.kws.zip ws⟩ (ps.zip (arr .none E.ar dus (us ++ ws)))
theorem FnAt.up {P : Program} {w : World} {K : PySem.W.Frag} {mg : Str → Option Value} {base : Heap} {j k : Nat} {E : FnE} (F : FnAt P w K mg base j E) (h : j ≤ k) : FnAt P w K mg base k E := by
  obtain ⟨fa, fd, ps, dvs, dus, a, b⟩ := F.at_
  exact ⟨fa, fd, ps, dvs, dus, a.up h, b⟩
theorem vals_getD : ∀ {vs : List V} {us : List Value}, Vals vs us → ∀ i : Nat, L2.RelV (vs.getD i .non) (us.getD i .none)
  | _, _, .nil, _ => by simp; rfl
  | _, _, .cons r _, 0 => by simpa using r
  | _, _, .cons _ t, i + 1 => by simpa using vals_getD t i
theorem vals_arr {vs dvs : List V} {us dus : List Value} (h : Vals vs us) (d : Vals dvs dus) : ∀ ar : List (Sum Nat Nat), Vals (arr .non ar dvs vs) (arr .none ar dus us)
  | [] => .nil
  | .inl i :: r => .cons (vals_getD h i) (vals_arr h d r)
  | .inr i :: r => .cons (vals_getD d i) (vals_arr h d r)
theorem dps_getD {K : PySem.W.Frag} {H : Hp} : ∀ {vs : List V} {ds : List D}, Dqs K H vs ds → ∀ i : Nat, Dq K H (vs.getD i .non) (ds.getD i .none)
  | _, _, .nil, _ => by simp; exact .non
  | _, _, .cons r _, 0 => by simpa using r
  | _, _, .cons _ t, i + 1 => by simpa using dps_getD t i
theorem dps_arr {K : PySem.W.Frag} {H : Hp} {vs dvs : List V} {ds dds : List D} (h : Dqs K H vs ds) (d : Dqs K H dvs dds) : ∀ ar : List (Sum Nat Nat), Dqs K H (arr .non ar dvs vs) (arr .none ar dds ds)
  | [] => .nil
  | .inl i :: r => .cons (dps_getD h i) (dps_arr h d r)
  | .inr i :: r => .cons (dps_getD d i) (dps_arr h d r)
/-! ### lists of expressions without a star -/
def unstar : Expr → Bool
  | .Starred _ _ => false
  | _ => true
theorem star_cons {e : Expr} {es : List Expr} {env : Env} (h : unstar e = true) : starEach (e :: es) env = (false, eval e env) :: starEach es env := by
  cases e <;> first | rfl | (exact absurd h (by simp [unstar]))
theorem star_plain {pos : Pos} {env : Env} : ∀ {es : List Expr}, es.all unstar = true → (backTo pos (starEach es env)).any (·.1) = false
  | [], _ => rfl
  | e :: es, h => by
    simp only [List.all_cons, Bool.and_eq_true] at h
    rw [star_cons h.1]
    show (false || (backTo pos (starEach es env)).any (·.1)) = false
    rw [star_plain h.2]; rfl
theorem kw_some {pos : Pos} {env : Env} : ∀ {kws : List Keyword} {ks : List Str}, kws.map (·.arg) = ks.map some →
    (backToKw pos (keywordEach kws env)).all (·.1.isSome) = true ∧ (backToKw pos (keywordEach kws env)).filterMap (·.1) = ks ∧ (backToKw pos (keywordEach kws env)).any (·.1.isNone) = false
  | [], [], _ => ⟨rfl, rfl, rfl⟩
  | [], _ :: _, h => by simp at h
  | _ :: _, [], h => by simp at h
  | ⟨nm, v, p⟩ :: kws, k :: ks, h => by
    simp only [List.map_cons, List.cons.injEq] at h
    obtain ⟨h1, h2⟩ := h
    obtain ⟨a, b, c⟩ := kw_some (pos := pos) (env := env) h2
    have h1' : nm = some k := h1
    subst h1'
    refine ⟨?_, ?_, ?_⟩
    · show (true && (backToKw pos (keywordEach kws env)).all (·.1.isSome)) = true
      rw [a]; rfl
    · show k :: (backToKw pos (keywordEach kws env)).filterMap (·.1) = k :: ks
      rw [b]
    · show (false || (backToKw pos (keywordEach kws env)).any (·.1.isNone)) = false
      rw [c]; rfl
section
variable {X : Cx} {k : Nat} {E : FnE} {es : List Expr} {kws : List Keyword} {p pos : Pos} {ta tk : TA}
theorem pe_callE (C : FnAt X.prog X.w X.K X.mg X.base k E) (hr : Room (k + 40) X.A) (hgd : X.A.guards = some []) (hg : Gl X E.name) (hdb : (E.name == ("__debug__" : Str)) = false)
    (hn : es.length = E.np) (hk : kws.map (·.arg) = E.kws.map some) (hu : es.all unstar = true) (hne : es ≠ []) (ha : PA X es ta) (hkw : PK X kws tk) :
    PE X (.Call (.Name E.name p) es kws pos) (fun σ H Q => ∀ dvs : List V, (∀ H, Dqs X.K H dvs E.dfs) →
      ta σ H fun vs H1 => tk σ H1 fun zs H2 => vs.length = E.np ∧ zs.length = E.kws.length ∧ spD X.K E.f (arr .non E.ar dvs (vs ++ zs)) H2 Q E0) := by
  obtain ⟨fa, fd, ps, dvs, dus, F, hm, hkp, hdv, hdf, hps, hbind⟩ := C.at_
  obtain ⟨k1, k2, k3⟩ := kw_some (pos := pos) (env := X.env) hk
  refine ⟨fun pins s σ H Q I h => ?_⟩
  have h := h dvs hdf
  refine wpAny_Call_Name_kw (ld_glob I hg hm ?_ hdb)
  have fin : ∀ (us ws : List Value) (vs zs : List V) (s2 : Shared) (H2 : Hp), Inv X pins σ H2 s2 → Vals vs us → Vals zs ws → vs.length = E.np → zs.length = E.kws.length →
      spD X.K E.f (arr .non E.ar dvs (vs ++ zs)) H2 Q E0 → wpAny (model X.prog X.w) X.A (call (.ref fa) us (E.kws.zip ws)) (EP X pins σ Q) X.xe s2 := by
    intro us ws vs zs s2 H2 I2 r1 r2 l1 l2 q
    refine wpAny_call (codeAny_mono (F.go X.A X.stack s2 H2 ⟨us, E.kws.zip ws⟩ _ _ Q hr hgd I2.env0 (hbind s2 us ws I2.kIn (r1.length ▸ l1) (r2.length ▸ l2)) (vals_arr (r1.append r2) hdv E.ar) (by rw [hps]; simp [arr]) q) fun r s3 hq => ?_)
    cases r with
    | error e => exact (show False from hq).elim
    | ok fl =>
      cases fl with
      | ret u => exact I2.after hq
      | next => exact False.elim hq
      | brk => exact False.elim hq
      | cont => exact False.elim hq
  cases es with
  | nil => exact absurd rfl hne
  | cons e es =>
    simp only [List.all_cons, Bool.and_eq_true] at hu
    refine PySem.W.callWith_KW (h₀ := X.base) I.ok.mod.kin hkp k1 (thn (ha.run pos pins s σ H _ I h) fun us s1 ⟨vs, H1, I1, r1, q1⟩ => ?_) (by rw [star_plain (es := e :: es) (by simp [hu.1, hu.2]), k3]; rfl) (star_cons hu.1)
    refine thn (hkw.run pos pins s1 σ H1 _ I1 q1) fun ws s2 ⟨zs, H2, I2, r2, l1, l2, q2⟩ => ⟨I2.kIn, ?_⟩
    rw [k2]
    exact fin us ws vs zs s2 H2 I2 r1 r2 l1 l2 q2
theorem pe_callE0 (C : FnAt X.prog X.w X.K X.mg X.base k E) (hr : Room (k + 40) X.A) (hgd : X.A.guards = some []) (hg : Gl X E.name) (hdb : (E.name == ("__debug__" : Str)) = false)
    (hn : 0 = E.np) (hk : kws.map (·.arg) = E.kws.map some) (hkw : PK X kws tk) :
    PE X (.Call (.Name E.name p) [] kws pos) (fun σ H Q => ∀ dvs : List V, (∀ H, Dqs X.K H dvs E.dfs) →
      tk σ H fun zs H2 => zs.length = E.kws.length ∧ spD X.K E.f (arr .non E.ar dvs zs) H2 Q E0) := by
  obtain ⟨fa, fd, ps, dvs, dus, F, hm, hkp, hdv, hdf, hps, hbind⟩ := C.at_
  obtain ⟨k1, k2, k3⟩ := kw_some (pos := pos) (env := X.env) hk
  refine ⟨fun pins s σ H Q I h => ?_⟩
  have h := h dvs hdf
  refine wpAny_Call_Name_kw (ld_glob I hg hm ?_ hdb)
  refine PySem.W.callWith_KW0 (h₀ := X.base) I.ok.mod.kin hkp k1 ?_ (by rw [k3]; rfl)
  refine thn (hkw.run pos pins s σ H _ I h) fun ws s2 ⟨zs, H2, I2, r2, l2, q⟩ => ⟨I2.kIn, ?_⟩
  rw [k2]
  refine wpAny_call (codeAny_mono (F.go X.A X.stack s2 H2 ⟨[], E.kws.zip ws⟩ _ _ Q hr hgd I2.env0 (hbind s2 [] ws I2.kIn hn (r2.length ▸ l2)) (vals_arr (.append .nil r2) hdv E.ar) (by rw [hps]; simp [arr]) q) fun r s3 hq => ?_)
  cases r with
  | error e => exact (show False from hq).elim
  | ok fl =>
    cases fl with
    | ret u => exact I2.after hq
    | next => exact False.elim hq
    | brk => exact False.elim hq
    | cont => exact False.elim hq
end
end EvL

set_option Elab.async false
set_option linter.all false
set_option maxRecDepth 100000
set_option maxHeartbeats 4000000
namespace EvL
open PySem PySem.Spec PyProof.Rows L2

theorem lim_le : lim ≤ sizeLine := by decide
theorem mulOk_ok {i j : Int} (h : mulOk i j = true) : IntMulOk i j := by
  have b : ∀ x : Int, Builtin.Int.intBits x ≤ x.natAbs.log2 + 1 := fun x => by
    unfold Builtin.Int.intBits; split <;> omega
  have h1 := b i
  have h2 := b j
  have h3 : i.natAbs.log2 + j.natAbs.log2 < 60000000 := of_decide_eq_true h
  have e : bitsLine = 134217728 := by decide
  intro z
  have z3 : Builtin.Int.intTooBig _ = true := (Bool.and_eq_true_iff.mp z).2
  unfold Builtin.Int.intTooBig at z3
  have z4 := of_decide_eq_true z3
  rw [e] at z4
  omega
/-- a two-place operation by data -/
def rB (K : PySem.W.Frag) (f : D → D → Option RV) : R2 := fun x y H Q => ∃ (Hf : Hp) (a b : D) (r : RV), Ext Hf H ∧ Dq K Hf x a ∧ Dq K Hf y b ∧ f a b = some r ∧ Post K Hf H r Q
section
variable {X : Cx} {pins : List (Addr × Obj)} {σ : L2.St} {H : Hp} {s : Shared}
theorem rd_list (I : Inv X pins σ H s) {a : Addr} {xs : List V} (h : Rd H a (.lst xs)) : ∃ (its : List Value) (n : Nat), Vals xs its ∧ xs.length = its.length ∧ xs.length ≤ sizeLine ∧ s.heap.get? a = some { cls := .type "list", data := .seq its.toArray n } := by
  obtain ⟨z, its, n, r, e⟩ := h.ok I.hok
  exact ⟨its, n, r, r.length, z, e⟩
theorem op_catR : OpR X (binaryOp .Add) (fun x y H Q => ∃ l b xs zs, x = .ref l ∧ y = .ref b ∧ Rd H l (.lst xs) ∧ Rd H b (.lst zs) ∧ xs.length + zs.length ≤ sizeLine ∧ ∀ p, H p = none → Q (.ref p) (upd H p (.lst (xs ++ zs)))) := by
  rintro pins s σ H x y v u Q I rx ry ⟨l, b, xs, zs, rfl, rfl, hl, hb, hz, q⟩
  cases rx; cases ry
  obtain ⟨i1, n1, r1, l1, _, e1⟩ := rd_list I hl
  obtain ⟨i2, n2, r2, l2, _, e2⟩ := rd_list I hb
  refine PySem.P.add_list e1 e2 ?_ (by simp only [List.size_toArray]; omega)
  rw [show i1.toArray ++ i2.toArray = (i1 ++ i2).toArray by simp]
  exact ⟨.ref _, _, I.lnew (t' := s.toks) (r1.append r2) (by simp only [List.length_append]; omega), rfl, q _ I.fresh⟩
theorem nn {r : RV} {P : Prop} (e : (none : Option RV) = some r) : P := nomatch e
theorem ifS {c : Prop} [Decidable c] {a r : RV} (e : (if c then some a else none) = some r) : c ∧ a = r := by
  split at e
  · cases e; exact ⟨by assumption, rfl⟩
  · cases e
theorem op_addD : OpR X (binaryOp .Add) (rB X.K (binD .add)) := by
  rintro pins s σ H x y v u Q I rx ry ⟨Hf, a, b, r, sub, ha, hb, e, p⟩
  cases ha with
  | int i => cases hb with
    | int j => cases e; exact op_add pins s σ H _ _ v u Q I rx ry ⟨_, _, rfl, rfl, p.val sub (.int _)⟩
    | _ => exact nn e
  | lst h1 q1 => cases hb with
    | lst h2 q2 =>
      obtain ⟨hl, rfl⟩ := ifS e
      refine op_catR pins s σ H _ _ v u Q I rx ry ⟨_, _, _, _, rfl, rfl, sub.rd h1, sub.rd h2, ?_, p.lst sub (dps_app q1 q2)⟩
      rw [dps_len q1, dps_len q2]; exact Nat.le_trans hl lim_le
    | _ => exact nn e
  | tup h1 q1 => cases hb with
    | tup h2 q2 =>
      obtain ⟨hl, rfl⟩ := ifS e
      refine op_catA pins s σ H _ _ v u Q I rx ry ⟨_, _, _, _, rfl, rfl, sub.st h1, sub.st h2, ?_, fun z => ?_, fun _ z => ?_, fun _ _ => p.tup sub (dps_app q1 q2)⟩
      · rw [dps_len q1, dps_len q2]; exact Nat.le_trans hl lim_le
      · subst z; cases q1; exact p.val sub (.tup h2 q2)
      · subst z; cases q2; rw [List.append_nil] at p; exact p.val sub (.tup h1 q1)
    | _ => exact nn e
  | str a => cases hb with
    | str b =>
      obtain ⟨hl, rfl⟩ := ifS e
      exact op_add_str pins s σ H _ _ v u Q I rx ry ⟨_, _, rfl, rfl, Nat.le_trans hl lim_le, p.val sub (.str _)⟩
    | _ => exact nn e
  | _ => exact nn e
theorem op_modD : OpR X (binaryOp .Mod) (rB X.K (binD .mod)) := by
  rintro pins s σ H x y v u Q I rx ry ⟨Hf, a, b, r, sub, ha, hb, e, p⟩
  cases ha with
  | int i => cases hb with
    | int j =>
      obtain ⟨hj, rfl⟩ := ifS e
      exact op_modN pins s σ H _ _ v u Q I rx ry ⟨_, _, rfl, rfl, hj, p.val sub (.int _)⟩
    | _ => exact nn e
  | _ => exact nn e
/-- room for a long division -/
def Pyl (X : Cx) : Prop := X.base.NoSeer ∧ ∀ s : Shared, s.heap.NoLimit → s.heap.NoSeer → PylongRoom (model X.prog X.w) X.A s
theorem op_fdivD (hp : Pyl X) : OpR X (binaryOp .FloorDiv) (rB X.K (binD .fdiv)) := by
  rintro pins s σ H x y v u Q I rx ry ⟨Hf, a, b, r, sub, ha, hb, e, p⟩
  cases ha with
  | int i => cases hb with
    | int j =>
      obtain ⟨hj, rfl⟩ := ifS e
      obtain ⟨t, rfl⟩ := rx
      obtain ⟨t', rfl⟩ := ry
      have hj : j ≠ 0 := of_decide_eq_true hj
      exact floordiv_int hj ⟨.int _, H, I.tok _, ⟨_, rfl⟩, p.val sub (.int _)⟩ (.inr (hp.2 s I.nolimit (hp.1.keeps I.bk)))
    | _ => exact nn e
  | _ => exact nn e
theorem op_powD : OpR X (binaryOp .Pow) (rB X.K (binD .pow)) := by
  rintro pins s σ H x y v u Q I rx ry ⟨Hf, a, b, r, sub, ha, hb, e, p⟩
  cases ha with
  | int i => cases hb with
    | int j =>
      obtain ⟨hj, rfl⟩ := ifS e
      exact op_pow pins s σ H _ _ v u Q I rx ry ⟨_, _, rfl, rfl, ⟨hj.1, by omega, hj.2.2⟩, p.val sub (.int _)⟩
    | _ => exact nn e
  | _ => exact nn e
theorem op_subD : OpR X (binaryOp .Sub) (rB X.K (binD .sub)) := by
  rintro pins s σ H x y v u Q I rx ry ⟨Hf, a, b, r, sub, ha, hb, e, p⟩
  cases ha with
  | int i => cases hb with
    | int j => cases e; exact op_sub pins s σ H _ _ v u Q I rx ry ⟨_, _, rfl, rfl, p.val sub (.int _)⟩
    | _ => exact nn e
  | bl i => cases hb with
    | bl j =>
      cases e
      cases rx; cases ry
      exact sub_bool ⟨.int _, H, I.tok _, ⟨_, rfl⟩, p.val sub (.int _)⟩
    | _ => exact nn e
  | _ => exact nn e
theorem rep_nil {α : Type} (n : Nat) : (List.replicate n ([] : List α)).flatten = [] := by
  induction n with
  | zero => rfl
  | succ n ih => rw [List.replicate_succ, List.flatten_cons, ih]; rfl
theorem rep_one {α : Type} (xs : List α) : (List.replicate (1 : Int).toNat xs).flatten = xs := by simp
theorem tuple_mul_self (l : Addr) (items : Array Value) (n : Nat) (dd : Option Addr) (sl : Array (Option Value)) (x : Int) (u : Tok) (c0 : (decide (x < -(2 ^ 63)) || decide (x ≥ 2 ^ 63)) = false) (c1 : (items.isEmpty || x == 1) = true) :
    Meets (Builtin.«tuple.__mul__» ⟨[.ref l, .int x u], []⟩) (fun _ R s => s.heap.get? l = some { cls := .type "tuple", dict := dd, data := .seq items n, slots := sl } ∧ R (.ok (.ret (Value.ref l))) s) :=
  .of_wp fun prog w A R s h => by
    obtain ⟨hp, g, d, tk, os⟩ := s
    obtain ⟨hl, h⟩ := h
    have f1 := AutoSeq1.idx_int
    wp_walk using wpAny_loadPart' hl
    repeat (first
      | (refine wpAny_ite_false (decide_eq_false (by rw [c0]; exact Bool.false_ne_true)) ?_; wp_walk using wpAny_loadPart' hl)
      | (refine wpAny_ite_true (decide_eq_true c1) ?_; wp_walk using wpAny_loadPart' hl))
    exact ⟨_, rfl, h⟩
theorem tuple_mul_none (l : Addr) (items : Array Value) (n : Nat) (dd : Option Addr) (sl : Array (Option Value)) (x : Int) (u : Tok) (c0 : (decide (x < -(2 ^ 63)) || decide (x ≥ 2 ^ 63)) = false) (c1 : (items.isEmpty || x == 1) = false)
    (c2 : (decide (x ≤ 0) || items.isEmpty) = true) :
    Meets (Builtin.«tuple.__mul__» ⟨[.ref l, .int x u], []⟩) (fun _ R s => s.heap.get? l = some { cls := .type "tuple", dict := dd, data := .seq items n, slots := sl } ∧
      R (.ok (.ret (Value.ref s.heap.objs.size))) { s with heap := s.heap.push { cls := Value.type "tuple", data := Data.seq #[] }, toks := s.toks }) :=
  .of_wp fun prog w A R s h => by
    obtain ⟨hp, g, d, tk, os⟩ := s
    obtain ⟨hl, h⟩ := h
    have f1 := AutoSeq1.idx_int
    wp_walk using wpAny_loadPart' hl
    repeat (first
      | (refine wpAny_ite_false (decide_eq_false (by rw [c0]; exact Bool.false_ne_true)) ?_; wp_walk using wpAny_loadPart' hl)
      | (refine wpAny_ite_false (decide_eq_false (by rw [c1]; exact Bool.false_ne_true)) ?_; wp_walk using wpAny_loadPart' hl)
      | (refine wpAny_ite_true (decide_eq_true c2) ?_; wp_walk using wpAny_loadPart' hl))
    exact ⟨_, rfl, h⟩
theorem op_repTA : OpR X (binaryOp .Mult) (fun x y H Q => ∃ l k xs, x = .ref l ∧ y = .int k ∧ SqT X.K H l xs ∧ -1000 ≤ k ∧ k ≤ 1000 ∧ xs.length ≤ 1000 ∧ (xs = [] ∨ k = 1 → Q (.ref l) H) ∧
    (xs ≠ [] → k ≠ 1 → ∀ p, H p = none → Q (.ref p) (upd H p (.tup (List.replicate k.toNat xs).flatten)))) := by
  rintro pins s σ H x y v u Q I rx ry ⟨l, k, xs, rfl, rfl, hT, h1, h2, hz, q1, q2⟩
  by_cases hs : xs = [] ∨ k = 1
  · cases rx
    obtain ⟨t, rfl⟩ := ry
    obtain ⟨its, r, ⟨⟨cls, dd, data, sl⟩, ho, hc, n, hd⟩, _⟩ := I.tuple hT
    simp only at hc hd
    subst hc hd
    have c1 : (its.toArray.isEmpty || k == 1) = true := by
      rcases hs with z | z
      · subst z; cases r; rfl
      · subst z; simp
    have c0 : (decide (k < -(2 ^ 63)) || decide (k ≥ 2 ^ 63)) = false := by
      rw [decide_eq_false (by omega), decide_eq_false (by omega)]; rfl
    exact wpAny_binaryOp_repeat_ref (T := "tuple") (U := "int") (by decide) ⟨_, ho, rfl⟩ (fun s' => typeIs_int s' k t) noFill_tuple_mul F.fills_int_mul F.slot_int_rmul repeat_tuple F.slot_int_index.lookup
      (call_meets F.slot_int_rmul (typeIs_int s k t) F.entry_int_rmul (F.args_int_rmul_2 _ _) (int_rmul_tuple k t l its.toArray n dd sl)
        ⟨ho, rfl, ⟨_, ho, rfl⟩, call_meets F.slot_tuple_mul ⟨_, ho, rfl⟩ F.entry_tuple_mul (F.args_tuple_mul_2 _ _) (tuple_mul_self l its.toArray n dd sl k t c0 c1) ⟨ho, .ref l, H, I, rfl, q1 hs⟩⟩)
  · have hne : xs ≠ [] := fun z => hs (.inl z)
    have hk : k ≠ 1 := fun z => hs (.inr z)
    by_cases h0 : k ≤ 0
    · cases rx
      obtain ⟨t, rfl⟩ := ry
      obtain ⟨its, r, ⟨⟨cls, dd, data, sl⟩, ho, hc, n, hd⟩, _⟩ := I.tuple hT
      simp only at hc hd
      subst hc hd
      have hi : its.toArray.isEmpty = false := by
        cases its with
        | nil => cases r; exact absurd rfl hne
        | cons a b => rfl
      have c1 : (its.toArray.isEmpty || k == 1) = false := by rw [hi, Bool.false_or]; exact beq_eq_false_iff_ne.mpr hk
      have c2 : (decide (k ≤ 0) || its.toArray.isEmpty) = true := by rw [decide_eq_true h0]; rfl
      have c0 : (decide (k < -(2 ^ 63)) || decide (k ≥ 2 ^ 63)) = false := by
        rw [decide_eq_false (by omega), decide_eq_false (by omega)]; rfl
      refine wpAny_binaryOp_repeat_ref (T := "tuple") (U := "int") (by decide) ⟨_, ho, rfl⟩ (fun s' => typeIs_int s' k t) noFill_tuple_mul F.fills_int_mul F.slot_int_rmul repeat_tuple F.slot_int_index.lookup
        (call_meets F.slot_int_rmul (typeIs_int s k t) F.entry_int_rmul (F.args_int_rmul_2 _ _) (int_rmul_tuple k t l its.toArray n dd sl)
          ⟨ho, rfl, ⟨_, ho, rfl⟩, call_meets F.slot_tuple_mul ⟨_, ho, rfl⟩ F.entry_tuple_mul (F.args_tuple_mul_2 _ _) (tuple_mul_none l its.toArray n dd sl k t c0 c1 c2) ⟨ho, ?_⟩⟩)
      have e0 : (List.replicate k.toNat xs).flatten = [] := by rw [Int.toNat_of_nonpos h0]; rfl
      have q3 := q2 hne hk s.heap.objs.size (I.hok.fresh (Nat.le_refl _))
      rw [e0] at q3
      refine ⟨.ref s.heap.objs.size, _, I.laid (t' := s.toks) (o := .tup []) (fun b ob q => Heap.get?_push_of_some _ q) (Nat.le_refl _) ?_, rfl, q3⟩
      exact ⟨Nat.zero_le _, [], .nil, IsTup.new _ _⟩
    · exact op_repT pins s σ H _ _ v u Q I rx ry ⟨l, k, xs, rfl, rfl, hT, hne, by omega, h2, hz, q2 hne hk⟩
theorem op_repR : OpR X (binaryOp .Mult) (fun x y H Q => ∃ l k xs, x = .ref l ∧ y = .int k ∧ Rd H l (.lst xs) ∧ -100000 ≤ k ∧ k ≤ 100000 ∧ xs.length * k.toNat ≤ sizeLine ∧
    ∀ p, H p = none → Q (.ref p) (upd H p (.lst (List.replicate k.toNat xs).flatten))) := by
  rintro pins s σ H x y v u Q I rx ry ⟨l, k, xs, rfl, rfl, hR, h1, h2, hz, q⟩
  cases rx
  obtain ⟨t, rfl⟩ := ry
  obtain ⟨its, n, r, hl, _, e⟩ := rd_list I hR
  have a1 : its.toArray.size * k.toNat ≤ sizeLine := by rw [List.size_toArray, ← hl]; exact hz
  have a2 : ¬ its.toArray.size * k.toNat > (2 ^ 63 - 1) / 8 := fun z => by
    have : (sizeLine : Nat) ≤ (2 ^ 63 - 1) / 8 := by decide
    omega
  have a3 : ¬ (!Builtin.List.listFitsIndex k) = true := by rw [fitsIndex_both (by omega) (by omega)]; exact Bool.false_ne_true
  have a4 : ¬ Builtin.List.listTooLong (its.toArray.size * k.toNat) = true := by rw [notLongL a1]; exact Bool.false_ne_true
  have a5 : List.foldl (fun x1 x2 => x1 ++ x2) #[] (List.replicate (if its.toArray.isEmpty = true then 0 else k.toNat) its.toArray) = (List.replicate k.toNat its).flatten.toArray := by
    rw [size_rep]
    cases its with
    | nil => simp
    | cons a b => rw [if_neg (by simp)]
  refine wpAny_binaryOp_repeat_ref (T := "list") (U := "int") (by decide) ⟨_, e, rfl⟩ (fun s' => typeIs_int s' k t) noFill_list_mul F.fills_int_mul F.slot_int_rmul repeat_list F.slot_int_index.lookup
    (call_meets F.slot_int_rmul (typeIs_int s k t) F.entry_int_rmul (F.args_int_rmul_2 _ _) (int___rmul___int_list k t l its.toArray n)
      ⟨e, rfl, ⟨_, e, rfl⟩, call_meets F.slot_list_mul ⟨_, e, rfl⟩ F.entry_list_mul (F.args_list_mul_2 _ _) (AutoListH.list___mul___list_int_3 l its.toArray n k t a3 a2 a4) ⟨e, ?_⟩⟩)
  rw [a5]
  exact ⟨.ref _, _, I.lnew (t' := s.toks) (r.rep k.toNat) (by rw [PyProof.Rows.lm_len_rep_flat, Nat.mul_comm]; exact hz), rfl, q _ I.fresh⟩
theorem op_mulD : OpR X (binaryOp .Mult) (rB X.K (binD .mul)) := by
  rintro pins s σ H x y v u Q I rx ry ⟨Hf, a, b, r, sub, ha, hb, e, p⟩
  cases ha with
  | int i => cases hb with
    | int j =>
      obtain ⟨hj, rfl⟩ := ifS e
      obtain ⟨t, rfl⟩ := rx
      obtain ⟨t', rfl⟩ := ry
      exact mul_int ⟨.int _, H, I.tok _, ⟨_, rfl⟩, p.val sub (.int _)⟩ (mulOk_ok hj)
    | _ => exact nn e
  | lst h1 q1 => cases hb with
    | int k =>
      obtain ⟨⟨c1, c2, c3⟩, rfl⟩ := ifS e
      rw [← dps_len q1] at c3
      exact op_repR pins s σ H _ _ v u Q I rx ry ⟨_, _, _, rfl, rfl, sub.rd h1, by omega, by omega, Nat.le_trans c3 lim_le, p.lst sub (dps_rep q1 _)⟩
    | _ => exact nn e
  | tup h1 q1 => cases hb with
    | int k =>
      obtain ⟨⟨c1, c2, c3⟩, rfl⟩ := ifS e
      rw [← dps_len q1] at c3
      exact op_repTA pins s σ H _ _ v u Q I rx ry ⟨_, _, _, rfl, rfl, sub.st h1, by omega, by omega, c3, fun z => by
        rcases z with z | z
        · subst z; cases q1; rw [rep_nil] at p; exact p.val sub (.tup h1 .nil)
        · subst z; rw [rep_one] at p; exact p.val sub (.tup h1 q1), fun _ _ => p.tup sub (dps_rep q1 _)⟩
    | _ => exact nn e
  | _ => exact nn e
end
end EvL

set_option Elab.async false
set_option linter.all false
set_option maxRecDepth 100000
set_option maxHeartbeats 4000000
namespace EvL
open PySem PySem.Spec PyProof.Rows L2

/-! ### comparisons, truth, places, slices, built-ins by data -/
def rC (K : PySem.W.Frag) (f : D → D → Option Bool) : R2 := fun x y H Q => ∃ (Hf : Hp) (a b : D) (r : Bool), Ext Hf H ∧ Dq K Hf x a ∧ Dq K Hf y b ∧ f a b = some r ∧ Q (.bl r) H
theorem nb {r : Bool} {P : Prop} (e : (none : Option Bool) = some r) : P := nomatch e
theorem nd {r : D} {P : Prop} (e : (none : Option D) = some r) : P := nomatch e
theorem ifB {c : Prop} [Decidable c] {a r : Bool} (e : (if c then some a else none) = some r) : c ∧ a = r := by
  split at e
  · cases e; exact ⟨by assumption, rfl⟩
  · cases e
section
variable {X : Cx}
theorem eqD_cases {x y : D} {r : Bool} (e : eqD x y = some r) : (∃ a b, x = .str a ∧ y = .str b ∧ r = decide (a = b)) ∨ (SeqAt.shaped x = true ∧ SeqAt.shaped y = true ∧ r = PyData.eqv x y) := by
  unfold eqD at e
  split at e
  · cases e; exact .inl ⟨_, _, rfl, rfl, rfl⟩
  · obtain ⟨hc, rfl⟩ := ifB e
    obtain ⟨h1, h2⟩ := Bool.and_eq_true_iff.mp hc
    exact .inr ⟨h1, h2, rfl⟩
theorem op_eqC (hu : X.A.units + 65 < cLine) : OpR X (compareOp .Eq) (rC X.K (cmpD .eq)) := by
  rintro pins s σ H x y v u Q I rx ry ⟨Hf, a, b, r, sub, ha, hb, e, q⟩
  rcases eqD_cases e with ⟨c, d, rfl, rfl, rfl⟩ | ⟨h1, h2, rfl⟩
  · cases ha; cases hb
    exact op_eq pins s σ H _ _ v u Q I rx ry ⟨rfl, by simpa using q⟩
  · exact op_eqD (by omega) pins s σ H x y v u Q I rx ry ⟨a, b, (dpM sub ha).dp, (dpM sub hb).dp, h1, h2, q⟩
theorem op_neC (hu : X.A.units + 65 < cLine) : OpR X (compareOp .NotEq) (rC X.K (cmpD .ne)) := by
  rintro pins s σ H x y v u Q I rx ry ⟨Hf, a, b, r, sub, ha, hb, e, q⟩
  have e : (eqD a b).map (fun b => !b) = some r := e
  cases e0 : eqD a b with
  | none => rw [e0] at e; cases e
  | some r0 =>
    rw [e0] at e
    cases e
    rcases eqD_cases e0 with ⟨c, d, rfl, rfl, rfl⟩ | ⟨h1, h2, rfl⟩
    · cases ha; cases hb
      exact op_ne pins s σ H _ _ v u Q I rx ry ⟨rfl, by simpa using q⟩
    · exact op_neD (by omega) pins s σ H x y v u Q I rx ry ⟨a, b, (dpM sub ha).dp, (dpM sub hb).dp, h1, h2, q⟩
theorem op_ltC : OpR X (compareOp .Lt) (rC X.K (cmpD .lt)) := by
  rintro pins s σ H x y v u Q I rx ry ⟨Hf, a, b, r, sub, ha, hb, e, q⟩
  cases ha with
  | int i => cases hb with
    | int j => cases e; exact op_lt pins s σ H _ _ v u Q I rx ry ⟨_, _, rfl, rfl, q⟩
    | _ => exact nb e
  | _ => exact nb e
theorem op_leC : OpR X (compareOp .LtE) (rC X.K (cmpD .le)) := by
  rintro pins s σ H x y v u Q I rx ry ⟨Hf, a, b, r, sub, ha, hb, e, q⟩
  cases ha with
  | int i => cases hb with
    | int j => cases e; exact op_le pins s σ H _ _ v u Q I rx ry ⟨_, _, rfl, rfl, q⟩
    | _ => exact nb e
  | _ => exact nb e
theorem op_gtC : OpR X (compareOp .Gt) (rC X.K (cmpD .gt)) := by
  rintro pins s σ H x y v u Q I rx ry ⟨Hf, a, b, r, sub, ha, hb, e, q⟩
  cases ha with
  | int i => cases hb with
    | int j => cases e; exact op_gt pins s σ H _ _ v u Q I rx ry ⟨_, _, rfl, rfl, q⟩
    | _ => exact nb e
  | _ => exact nb e
theorem op_geC : OpR X (compareOp .GtE) (rC X.K (cmpD .ge)) := by
  rintro pins s σ H x y v u Q I rx ry ⟨Hf, a, b, r, sub, ha, hb, e, q⟩
  cases ha with
  | int i => cases hb with
    | int j => cases e; exact op_ge pins s σ H _ _ v u Q I rx ry ⟨_, _, rfl, rfl, q⟩
    | _ => exact nb e
  | _ => exact nb e
theorem op_isC : OpR X (compareOp .Is) (rC X.K (cmpD .is)) := by
  rintro pins s σ H x y v u Q I rx ry ⟨Hf, a, b, r, sub, ha, hb, e, q⟩
  cases hb with
  | non =>
    cases ha <;> (cases e; exact op_isN pins s σ H _ _ v u Q I rx ry ⟨rfl, q⟩)
  | bl b => cases ha with
    | bl a => cases e; exact op_isBl pins s σ H _ _ v u Q I rx ry ⟨_, _, rfl, rfl, q⟩
    | _ => exact nb e
  | _ => cases ha <;> exact nb e
theorem op_isnC : OpR X (compareOp .IsNot) (rC X.K (cmpD .isn)) := by
  rintro pins s σ H x y v u Q I rx ry ⟨Hf, a, b, r, sub, ha, hb, e, q⟩
  cases hb with
  | non =>
    cases ha <;> (cases e; exact op_notN pins s σ H _ _ v u Q I rx ry ⟨rfl, q⟩)
  | bl b => cases ha with
    | bl a => cases e; exact op_notBl pins s σ H _ _ v u Q I rx ry ⟨_, _, rfl, rfl, q⟩
    | _ => exact nb e
  | _ => cases ha <;> exact nb e
theorem room_in {A : Around} {d : PyData} {n : Nat} (sd : SeqAt.shaped d = true) (hu : A.units + 65 < cLine) : A.units + 1 + min n d.depth < cLine := by
  have h1 := SeqAt.depth_of_shaped sd
  have h2 := Nat.min_le_right n d.depth
  omega
theorem op_inC (hu : X.A.units + 65 < cLine) : OpR X (compareOp .In) (rC X.K (cmpD .in_)) := by
  rintro pins s σ H x y v u Q I rx ry ⟨Hf, a, b, r, sub, ha, hb, e, q⟩
  obtain ⟨as, r1⟩ := Dp.reads I a x v (dpM sub ha).dp rx
  obtain ⟨bs, r2⟩ := Dp.reads I b y u (dpM sub hb).dp ry
  cases hb with
  | lst h1 q1 =>
    obtain ⟨hc, rfl⟩ := ifB e
    obtain ⟨h1, h2⟩ := Bool.and_eq_true_iff.mp hc
    exact SeqAt.in_list_reads r2 r1 (SeqAt.canLay_of_shaped h2) (SeqAt.canLay_of_shaped h1) (room_in h1 hu) ⟨.bl _, H, I, rfl, q⟩
  | tup h1 q1 =>
    obtain ⟨hc, rfl⟩ := ifB e
    obtain ⟨h1, h2⟩ := Bool.and_eq_true_iff.mp hc
    exact SeqAt.in_tuple_reads r2 r1 (SeqAt.canLay_of_shaped h2) (SeqAt.canLay_of_shaped h1) (room_in h1 hu) ⟨.bl _, H, I, rfl, q⟩
  | _ => exact nb e
theorem op_ninC (hu : X.A.units + 65 < cLine) : OpR X (compareOp .NotIn) (rC X.K (cmpD .nin)) := by
  rintro pins s σ H x y v u Q I rx ry ⟨Hf, a, b, r, sub, ha, hb, e, q⟩
  obtain ⟨as, r1⟩ := Dp.reads I a x v (dpM sub ha).dp rx
  obtain ⟨bs, r2⟩ := Dp.reads I b y u (dpM sub hb).dp ry
  cases hb with
  | lst h1 q1 =>
    obtain ⟨hc, rfl⟩ := ifB e
    obtain ⟨h1, h2⟩ := Bool.and_eq_true_iff.mp hc
    exact SeqAt.notIn_list_reads r2 r1 (SeqAt.canLay_of_shaped h2) (SeqAt.canLay_of_shaped h1) (room_in h1 hu) ⟨.bl _, H, I, rfl, q⟩
  | tup h1 q1 =>
    obtain ⟨hc, rfl⟩ := ifB e
    obtain ⟨h1, h2⟩ := Bool.and_eq_true_iff.mp hc
    exact SeqAt.notIn_tuple_reads r2 r1 (SeqAt.canLay_of_shaped h2) (SeqAt.canLay_of_shaped h1) (room_in h1 hu) ⟨.bl _, H, I, rfl, q⟩
  | _ => exact nb e
theorem isEmpty_dq {K : PySem.W.Frag} {H : Hp} {vs : List V} {ds : List D} (h : Dqs K H vs ds) : (!vs.isEmpty) = !ds.isEmpty := by
  cases h <;> rfl
theorem tr_V {K : PySem.W.Frag} {Hf H : Hp} {x : V} {d : D} {b : Bool} (sub : Ext Hf H) (h : Dq K Hf x d) (e : trD d = some b) : TruV K x H b := by
  cases h with
  | non => cases e; rfl
  | bl b => cases e; rfl
  | int i => cases e; rfl
  | str y => obtain ⟨hc, rfl⟩ := ifB e; exact ⟨Nat.le_trans hc lim_le, rfl⟩
  | lst h1 q1 => cases e; exact .inl ⟨_, .inl (sub.rd h1), (isEmpty_dq q1).symm⟩
  | tup h1 q1 => cases e; exact .inr (.inl ⟨_, sub.st h1, (isEmpty_dq q1).symm⟩)
theorem at_dq {K : PySem.W.Frag} {H : Hp} {vs : List V} {ds : List D} {i : Int} {d : D} (h : Dqs K H vs ds) (e : atI ds i = some d) : ∃ v, atI vs i = some v ∧ Dq K H v d := by
  unfold atI at e ⊢
  rw [dps_len h]
  cases hn : ixN ds.length i with
  | none => rw [hn] at e; cases e
  | some j =>
    rw [hn] at e
    exact dps_get h e
def rIxD (K : PySem.W.Frag) : R2 := fun x y H Q => ∃ (Hf : Hp) (a b r : D), Ext Hf H ∧ Dq K Hf x a ∧ Dq K Hf y b ∧ ixD a b = some r ∧ ∀ v, Dq K Hf v r → Q v H
theorem ix_D : IxR X (rIxD X.K) := by
  rintro value slice pins s σ H x y v u Q I rx ry ⟨Hf, a, b, r, sub, ha, hb, e, q⟩ hs
  cases ha with
  | lst h1 q1 => cases hb with
    | int i =>
      obtain ⟨z, e1, e2⟩ := at_dq q1 e
      exact ix_list value slice pins s σ H _ _ v u Q I rx ry ⟨_, _, _, z, rfl, rfl, .inl (sub.rd h1), e1, q z e2⟩ hs
    | _ => exact nd e
  | tup h1 q1 => cases hb with
    | int i =>
      obtain ⟨z, e1, e2⟩ := at_dq q1 e
      exact ix_tup value slice pins s σ H _ _ v u Q I rx ry ⟨_, _, _, z, rfl, rfl, sub.st h1, e1, q z e2⟩ hs
    | _ => exact nd e
  | _ => exact nd e
theorem cut_dq {K : PySem.W.Frag} {H : Hp} {vs : List V} {ds : List D} (h : Dqs K H vs ds) (lo hi : Option Int) : Dqs K H (cutV vs lo hi) (cutD ds lo hi) := by
  unfold cutV cutD
  rw [dps_len h]
  exact dps_take _ (dps_drop _ h)
def rSlD (K : PySem.W.Frag) : V → Option Int → Option Int → Hp → VK → Prop := fun x lo hi H Q => ∃ (Hf : Hp) (a : D), Ext Hf H ∧ Dq K Hf x a ∧
  ((∃ xs, a = .list xs ∧ Post K Hf H (.ow (cutD xs lo hi)) Q) ∨ ∃ xs, a = .tuple xs ∧ Post K Hf H (.fz (.tuple (cutD xs lo hi))) Q)
theorem sl_D : SlR X (rSlD X.K) := by
  rintro pins s σ H x v vl vu lo hi sl Q I rx hs pl pu ⟨Hf, a, sub, ha, h⟩
  rcases h with ⟨xs, rfl, p⟩ | ⟨xs, rfl, p⟩
  · cases ha with
    | lst h1 q1 => exact sl_list pins s σ H _ v vl vu lo hi sl Q I rx hs pl pu ⟨_, _, rfl, .inl (sub.rd h1), p.lst sub (cut_dq q1 lo hi)⟩
  · cases ha with
    | tup h1 q1 =>
      refine sl_tupA pins s σ H _ v vl vu lo hi sl Q I rx hs pl pu ⟨_, _, rfl, sub.st h1, fun z => ?_, fun _ => p.tup sub (cut_dq q1 lo hi)⟩
      rw [dps_len q1] at z
      have e0 : cutD xs lo hi = xs := by
        unfold cutD
        rw [z.1, z.2]; simp
      rw [e0] at p
      exact p.val sub (.tup h1 q1)
end
end EvL

set_option Elab.async false
set_option linter.all false
set_option maxRecDepth 100000
set_option maxHeartbeats 4000000
namespace EvL
open PySem PySem.Spec PyProof.Rows L2

def rK (K : PySem.W.Frag) (f : BF) : List V → Hp → VK → Prop := fun xs H Q => ∃ (Hf : Hp) (ds : List D) (r : RV), Ext Hf H ∧ Dqs K Hf xs ds ∧ biD f ds = some r ∧ Post K Hf H r Q
section
variable {X : Cx}
theorem ds1 {K : PySem.W.Frag} {H : Hp} {xs : List V} {d : D} (h : Dqs K H xs [d]) : ∃ x, xs = [x] ∧ Dq K H x d := by
  cases h with
  | cons h t => cases t; exact ⟨_, rfl, h⟩
theorem ds2 {K : PySem.W.Frag} {H : Hp} {xs : List V} {d e : D} (h : Dqs K H xs [d, e]) : ∃ x y, xs = [x, y] ∧ Dq K H x d ∧ Dq K H y e := by
  cases h with
  | cons h t =>
    obtain ⟨y, rfl, h2⟩ := ds1 t
    exact ⟨_, _, rfl, h, h2⟩
theorem biD1 {f : BF} {ds : List D} {r : RV} (hf : f ≠ .divmod ∧ f ≠ .max2 ∧ f ≠ .min2 ∧ f ≠ .gcd ∧ f ≠ .cnt) (e : biD f ds = some r) : ∃ d, ds = [d] := by
  cases ds with
  | nil => cases f <;> exact nn e
  | cons d ds =>
    cases ds with
    | nil => exact ⟨d, rfl⟩
    | cons d2 ds =>
      cases f <;> first | exact absurd rfl hf.1 | exact absurd rfl hf.2.1 | exact absurd rfl hf.2.2.1 | exact absurd rfl hf.2.2.2.1 | exact absurd rfl hf.2.2.2.2 | (cases d <;> exact nn e)
theorem biD2 {f : BF} {ds : List D} {r : RV} (hf : f = .divmod ∨ f = .max2 ∨ f = .min2 ∨ f = .gcd) (e : biD f ds = some r) : ∃ i j, ds = [.int i, .int j] := by
  cases ds with
  | nil => rcases hf with rfl | rfl | rfl | rfl <;> exact nn e
  | cons d ds =>
    cases ds with
    | nil => rcases hf with rfl | rfl | rfl | rfl <;> (cases d <;> exact nn e)
    | cons d2 ds =>
      cases ds with
      | nil => cases d <;> cases d2 <;> first | exact ⟨_, _, rfl⟩ | (rcases hf with rfl | rfl | rfl | rfl <;> exact nn e)
      | cons d3 ds => rcases hf with rfl | rfl | rfl | rfl <;> (cases d <;> first | exact nn e | (cases d2 <;> exact nn e))
theorem k_len : CallR X (.builtin "len") (rK X.K .len) := by
  rintro pins s σ H xs us Q I rx ⟨Hf, ds, r, sub, h, e, p⟩
  obtain ⟨d, rfl⟩ := biD1 (by decide) e
  obtain ⟨x, rfl, hx⟩ := ds1 h
  cases hx with
  | lst h1 q1 => cases e; rw [← dps_len q1] at p; exact call_len_seq pins s σ H _ us Q I rx ⟨_, _, rfl, .inl (.inl (sub.rd h1)), p.val sub (.int _)⟩
  | tup h1 q1 => cases e; rw [← dps_len q1] at p; exact call_len_seq pins s σ H _ us Q I rx ⟨_, _, rfl, .inr (sub.st h1), p.val sub (.int _)⟩
  | _ => exact nn e
theorem k_abs : CallR X (.builtin "abs") (rK X.K .abs) := by
  rintro pins s σ H xs us Q I rx ⟨Hf, ds, r, sub, h, e, p⟩
  obtain ⟨d, rfl⟩ := biD1 (by decide) e
  obtain ⟨x, rfl, hx⟩ := ds1 h
  cases hx with
  | int i => cases e; exact call_abs pins s σ H _ us Q I rx ⟨_, rfl, p.val sub (.int _)⟩
  | _ => exact nn e
theorem k_int : CallR X (.type "int") (rK X.K .int) := by
  rintro pins s σ H xs us Q I rx ⟨Hf, ds, r, sub, h, e, p⟩
  obtain ⟨d, rfl⟩ := biD1 (by decide) e
  obtain ⟨x, rfl, hx⟩ := ds1 h
  cases hx with
  | int i => cases e; exact call_int1 pins s σ H _ us Q I rx (.inl ⟨_, rfl, p.val sub (.int _)⟩)
  | bl b => cases e; exact call_int1 pins s σ H _ us Q I rx (.inr ⟨_, rfl, p.val sub (.int _)⟩)
  | _ => exact nn e
theorem k_repr (hg : X.A.guards = some []) (hu : X.A.units + 65 < cLine) : CallR X (.builtin "repr") (rK X.K .repr) := by
  rintro pins s σ H xs us Q I rx ⟨Hf, ds, r, sub, h, e, p⟩
  obtain ⟨d, rfl⟩ := biD1 (by decide) e
  obtain ⟨x, rfl, hx⟩ := ds1 h
  obtain ⟨hc, rfl⟩ := ifS e
  simp only [reprOk, Bool.and_eq_true, decide_eq_true_eq, Bool.not_eq_true'] at hc
  obtain ⟨⟨⟨⟨c1, c2⟩, c3⟩, c4⟩, c5⟩ := hc
  cases hx with
  | non =>
    obtain ⟨u, rfl, rfl⟩ := vals1 rx
    exact PySem.P.repr_of_none ⟨.str _, H, I.tok _, ⟨_, rfl⟩, p.val sub (.str _)⟩
  | bl b =>
    obtain ⟨u, rfl, rfl⟩ := vals1 rx
    exact PySem.P.repr_of_bool ⟨.str _, H, I.tok _, ⟨_, by cases b <;> rfl⟩, p.val sub (.str _)⟩
  | int i =>
    obtain ⟨u, rfl, t, rfl⟩ := vals1 rx
    exact PySem.P.repr_of_int (by simpa [PyData.showable] using c2) ⟨.str _, H, I.tok _, ⟨_, rfl⟩, p.val sub (.str _)⟩
  | str i =>
    obtain ⟨u, rfl, t, rfl⟩ := vals1 rx
    exact PySem.P.repr_of_str ⟨.str _, H, I.tok _, ⟨_, rfl⟩, p.val sub (.str _)⟩ (by simpa [PyData.shown] using Nat.le_trans c5 (by decide))
  | lst h1 h2 =>
    have hx : Dq X.K Hf (.ref _) (.list _) := .lst h1 h2
    obtain ⟨u, rfl, ru⟩ := vals1 rx
    obtain ⟨as, rd⟩ := Dp.reads I _ _ u (dpM sub hx).dp ru
    obtain ⟨a, rfl⟩ := isRef_of_reads rd rfl
    refine repr_of_reads' rd c2 (fun z => by rw [c3] at z; cases z) hg (by omega) (fun _ _ q => q) (fun h' t tk hk => ?_) (Nat.le_trans c5 (by decide))
    exact ⟨.str _, H, I.kept (t' := tk) hk, ⟨_, rfl⟩, p.val sub (.str _)⟩
  | tup h1 h2 =>
    have hx : Dq X.K Hf (.ref _) (.tuple _) := .tup h1 h2
    obtain ⟨u, rfl, ru⟩ := vals1 rx
    obtain ⟨as, rd⟩ := Dp.reads I _ _ u (dpM sub hx).dp ru
    obtain ⟨a, rfl⟩ := isRef_of_reads rd rfl
    refine repr_of_reads' rd c2 (fun z => by rw [c3] at z; cases z) hg (by omega) (fun _ _ q => q) (fun h' t tk hk => ?_) (Nat.le_trans c5 (by decide))
    exact ⟨.str _, H, I.kept (t' := tk) hk, ⟨_, rfl⟩, p.val sub (.str _)⟩
theorem k_divmod : CallR X (.builtin "divmod") (rK X.K .divmod) := by
  rintro pins s σ H xs us Q I rx ⟨Hf, ds, r, sub, h, e, p⟩
  obtain ⟨i, j, rfl⟩ := biD2 (.inl rfl) e
  obtain ⟨x, y, rfl, hx, hy⟩ := ds2 h
  cases hx; cases hy
  obtain ⟨hc, rfl⟩ := ifS e
  exact call_divmod pins s σ H _ us Q I rx ⟨_, _, rfl, hc, p.tup sub (.cons (.int _) (.cons (.int _) .nil))⟩
theorem k_max (hc : X.calm = true) : CallR X (.builtin "max") (rK X.K .max2) := by
  rintro pins s σ H xs us Q I rx ⟨Hf, ds, r, sub, h, e, p⟩
  obtain ⟨i, j, rfl⟩ := biD2 (.inr (.inl rfl)) e
  obtain ⟨x, y, rfl, hx, hy⟩ := ds2 h
  cases hx; cases hy; cases e
  exact call_max2 hc pins s σ H _ us Q I rx ⟨_, _, rfl, p.val sub (.int _)⟩
theorem k_min (hc : X.calm = true) : CallR X (.builtin "min") (rK X.K .min2) := by
  rintro pins s σ H xs us Q I rx ⟨Hf, ds, r, sub, h, e, p⟩
  obtain ⟨i, j, rfl⟩ := biD2 (.inr (.inr (.inl rfl))) e
  obtain ⟨x, y, rfl, hx, hy⟩ := ds2 h
  cases hx; cases hy; cases e
  exact call_min2 hc pins s σ H _ us Q I rx ⟨_, _, rfl, p.val sub (.int _)⟩
theorem k_gcd : CallR X (.builtin "math.gcd") (rK X.K .gcd) := by
  rintro pins s σ H xs us Q I rx ⟨Hf, ds, r, sub, h, e, p⟩
  obtain ⟨i, j, rfl⟩ := biD2 (.inr (.inr (.inr rfl))) e
  obtain ⟨x, y, rfl, hx, hy⟩ := ds2 h
  cases hx; cases hy; cases e
  exact cr_gcd pins s σ H _ us Q I rx ⟨_, _, rfl, p.val sub (.int _)⟩
theorem k_tuple : CallR X (.type "tuple") (rK X.K .tuple) := by
  rintro pins s σ H xs us Q I rx ⟨Hf, ds, r, sub, h, e, p⟩
  obtain ⟨d, rfl⟩ := biD1 (by decide) e
  obtain ⟨x, rfl, hx⟩ := ds1 h
  cases hx with
  | lst h1 q1 => cases e; exact call_tuple_of pins s σ H _ us Q I rx ⟨_, _, rfl, .inl ⟨.inl (sub.rd h1), p.tup sub q1⟩⟩
  | tup h1 q1 => cases e; exact call_tuple_of pins s σ H _ us Q I rx ⟨_, _, rfl, .inr ⟨sub.st h1, p.val sub (.tup h1 q1)⟩⟩
  | _ => exact nn e
theorem k_list : CallR X (.type "list") (rK X.K .list) := by
  rintro pins s σ H xs us Q I rx ⟨Hf, ds, r, sub, h, e, p⟩
  obtain ⟨d, rfl⟩ := biD1 (by decide) e
  obtain ⟨x, rfl, hx⟩ := ds1 h
  cases hx with
  | lst h1 q1 => cases e; exact call_list_of pins s σ H _ us Q I rx ⟨_, _, rfl, .inl (.inl (sub.rd h1)), p.lst sub q1⟩
  | tup h1 q1 => cases e; exact call_list_of pins s σ H _ us Q I rx ⟨_, _, rfl, .inr (sub.st h1), p.lst sub q1⟩
  | _ => exact nn e
theorem all_dq {K : PySem.W.Frag} {H : Hp} : ∀ {ds : List D} {vs : List V} {b : Bool}, Dqs K H vs ds → allD ds = some b → ∃ bs : List Bool, vs = bs.map V.bl ∧ bs.all id = b
  | [], _, _, h, e => by cases h; cases e; exact ⟨[], rfl, rfl⟩
  | d :: ds, _, b, h, e => by
    cases h with
    | cons h t =>
      cases h with
      | bl c =>
        cases q : allD ds with
        | none => rw [show allD (.bool c :: ds) = (allD ds).map fun b => c && b from rfl, q] at e; cases e
        | some b' =>
          rw [show allD (.bool c :: ds) = (allD ds).map fun b => c && b from rfl, q] at e
          cases e
          obtain ⟨bs, rfl, rfl⟩ := all_dq t q
          exact ⟨c :: bs, rfl, by simp⟩
      | _ => exact nb e
theorem any_dq {K : PySem.W.Frag} {H : Hp} : ∀ {ds : List D} {vs : List V} {b : Bool}, Dqs K H vs ds → anyD ds = some b → ∃ bs : List Bool, vs = bs.map V.bl ∧ bs.any id = b
  | [], _, _, h, e => by cases h; cases e; exact ⟨[], rfl, rfl⟩
  | d :: ds, _, b, h, e => by
    cases h with
    | cons h t =>
      cases h with
      | bl c =>
        cases q : anyD ds with
        | none => rw [show anyD (.bool c :: ds) = (anyD ds).map fun b => c || b from rfl, q] at e; cases e
        | some b' =>
          rw [show anyD (.bool c :: ds) = (anyD ds).map fun b => c || b from rfl, q] at e
          cases e
          obtain ⟨bs, rfl, rfl⟩ := any_dq t q
          exact ⟨c :: bs, rfl, by simp⟩
      | _ => exact nb e
theorem sum_dq {K : PySem.W.Frag} {H : Hp} : ∀ {ds : List D} {vs : List V} {b : Int}, Dqs K H vs ds → sumD ds = some b → ∃ bs : List Int, vs = bs.map V.int ∧ bs.sum = b
  | [], _, _, h, e => by cases h; cases e; exact ⟨[], rfl, rfl⟩
  | d :: ds, _, b, h, e => by
    cases h with
    | cons h t =>
      cases h with
      | int c =>
        cases q : sumD ds with
        | none => rw [show sumD (.int c :: ds) = (sumD ds).map fun b => c + b from rfl, q] at e; cases e
        | some b' =>
          rw [show sumD (.int c :: ds) = (sumD ds).map fun b => c + b from rfl, q] at e
          cases e
          obtain ⟨bs, rfl, rfl⟩ := sum_dq t q
          exact ⟨c :: bs, rfl, by simp⟩
      | _ => exact absurd (show (none : Option Int) = some b from e) (by simp)
theorem ints_dq {K : PySem.W.Frag} {H : Hp} : ∀ {ds : List D} {vs : List V} {ns : List Int}, Dqs K H vs ds → intsD ds = some ns → vs = ns.map V.int
  | [], _, _, h, e => by cases h; cases e; rfl
  | d :: ds, _, ns, h, e => by
    cases h with
    | cons h t =>
      cases h with
      | int c =>
        cases q : intsD ds with
        | none => rw [show intsD (.int c :: ds) = (intsD ds).map fun b => c :: b from rfl, q] at e; cases e
        | some b' =>
          rw [show intsD (.int c :: ds) = (intsD ds).map fun b => c :: b from rfl, q] at e
          cases e
          rw [ints_dq t q]; rfl
      | _ => exact absurd (show (none : Option (List Int)) = some ns from e) (by simp)
theorem mapS {α : Type} {o : Option α} {g : α → RV} {r : RV} (e : o.map g = some r) : ∃ a, o = some a ∧ g a = r := by
  cases o with
  | none => cases e
  | some a => exact ⟨a, rfl, Option.some.inj e⟩
theorem k_all (hc : X.calm = true) : CallR X (.builtin "all") (rK X.K .all) := by
  rintro pins s σ H xs us Q I rx ⟨Hf, ds, r, sub, h, e, p⟩
  obtain ⟨d, rfl⟩ := biD1 (by decide) e
  obtain ⟨x, rfl, hx⟩ := ds1 h
  cases hx with
  | lst h1 q1 =>
    obtain ⟨b, e1, rfl⟩ := mapS e
    obtain ⟨bs, rfl, rfl⟩ := all_dq q1 e1
    exact cr_all hc pins s σ H _ us Q I rx ⟨_, bs, rfl, .inl (sub.rd h1), p.val sub (.bl _)⟩
  | _ => exact nn e
theorem k_any (hc : X.calm = true) : CallR X (.builtin "any") (rK X.K .any) := by
  rintro pins s σ H xs us Q I rx ⟨Hf, ds, r, sub, h, e, p⟩
  obtain ⟨d, rfl⟩ := biD1 (by decide) e
  obtain ⟨x, rfl, hx⟩ := ds1 h
  cases hx with
  | lst h1 q1 =>
    obtain ⟨b, e1, rfl⟩ := mapS e
    obtain ⟨bs, rfl, rfl⟩ := any_dq q1 e1
    exact cr_any hc pins s σ H _ us Q I rx ⟨_, bs, rfl, .inl (sub.rd h1), p.val sub (.bl _)⟩
  | _ => exact nn e
theorem k_sum (hc : X.calm = true) : CallR X (.builtin "sum") (rK X.K .sum) := by
  rintro pins s σ H xs us Q I rx ⟨Hf, ds, r, sub, h, e, p⟩
  obtain ⟨d, rfl⟩ := biD1 (by decide) e
  obtain ⟨x, rfl, hx⟩ := ds1 h
  cases hx with
  | lst h1 q1 =>
    obtain ⟨b, e1, rfl⟩ := mapS e
    obtain ⟨bs, rfl, rfl⟩ := sum_dq q1 e1
    exact cr_sum hc pins s σ H _ us Q I rx ⟨_, bs, rfl, .inl (sub.rd h1), p.val sub (.int _)⟩
  | _ => exact nn e
/-! ### isinstance -/
def tyD : D → String
  | .none => "NoneType"
  | .bool _ => "bool"
  | .int _ => "int"
  | .str _ => "str"
  | .list _ => "list"
  | .tuple _ => "tuple"
  | .dict _ => "dict"
theorem ty_dq {K : PySem.W.Frag} {Hf H : Hp} {x : V} {d : D} (sub : Ext Hf H) (h : Dq K Hf x d) : TyX K H x (.type (tyD d)) := by
  cases h with
  | non => exact .base .non
  | bl b => exact .base (.bl b)
  | int i => exact .base (.int i)
  | str y => exact .base (.str y)
  | lst h1 q1 =>
    rcases sub.rd h1 with h | ⟨o, h⟩
    · exact .base (.lst h)
    · exact .base (.frz h)
  | tup h1 q1 =>
    rcases sub.st h1 with (h | ⟨o, h⟩) | ⟨o, its, n, h, c, _⟩
    · exact .base (.tup h)
    · exact .fTuple h
    · exact .kTuple h c
def tyName : BF → Option String
  | .isint => some "int"
  | .isbool => some "bool"
  | .istuple => some "tuple"
  | .islist => some "list"
  | .isstr => some "str"
  | _ => none
def isName (f : BF) (a : String) : Bool := match f with
  | .isint => a == "int" || a == "bool"
  | .isbool => a == "bool"
  | .istuple => a == "tuple"
  | .islist => a == "list"
  | .isstr => a == "str"
  | _ => false
theorem kit_all : (["NoneType", "bool", "int", "str", "list", "tuple"].all fun a => [BF.isint, .isbool, .istuple, .islist, .isstr].all fun f => kitB a ((tyName f).getD "") == some (isName f a)) = true := by decide +kernel
theorem isD_name (f : BF) (d : D) (h : (tyName f).isSome = true) : isD f d = isName f (tyD d) := by
  cases f <;> first | (cases h; done) | (cases d <;> rfl)
theorem isD_kit {K : PySem.W.Frag} {f : BF} {T : String} (h : tyName f = some T) (d : D) (hd : ∀ kvs, d ≠ .dict kvs) : PySem.W.kitOne K (.type (tyD d)) (.type T) = some (isD f d) := by
  have m1 : tyD d ∈ ["NoneType", "bool", "int", "str", "list", "tuple"] := by
    cases d <;> first | exact absurd rfl (hd _) | simp [tyD]
  have m2 : f ∈ [BF.isint, .isbool, .istuple, .islist, .isstr] := by
    cases f <;> first | (cases h; done) | simp
  have q := List.all_eq_true.mp (List.all_eq_true.mp kit_all _ m1) _ m2
  rw [h] at q
  rw [isD_name f d (by rw [h]; rfl)]
  exact kit_ty (beq_iff_eq.mp q)
def rIsi1 (K : PySem.W.Frag) (f : BF) : List V → Hp → VK → Prop := fun xs H Q => ∃ (Hf : Hp) (x : V) (T : String) (d : D), xs = [x, .ty T] ∧ tyName f = some T ∧ Ext Hf H ∧ Dq K Hf x d ∧ Q (.bl (isD f d)) H
theorem k_isi {f : BF} : CallR X (.builtin "isinstance") (rIsi1 X.K f) := by
  rintro pins s σ H xs us Q I rx ⟨Hf, x, T, d, rfl, hT, sub, hx, q⟩
  exact call_isi pins s σ H _ us Q I rx ⟨x, .ty T, _, _, _, rfl, .ty T, ty_dq sub hx, isD_kit hT d (fun kvs z => by subst z; cases hx), q⟩
end
end EvL

set_option Elab.async false
set_option linter.all false
set_option maxRecDepth 100000
set_option maxHeartbeats 4000000
namespace EvL
open PySem PySem.Spec PyProof.Rows L2

/-! ### the expressions, one by one -/
section
variable {K : PySem.W.Frag} {σ : L2.St} {Γ : Ga} {Hf H : Hp}
def NoOwn : MV → Prop
  | .un => True
  | .fz _ => True
  | _ => False
theorem get_set {i j : Nat} {m u : MV} (h : (Γ.set i m)[j]? = some u) : (j = i ∧ u = m ∧ i < Γ.length) ∨ (j ≠ i ∧ Γ[j]? = some u) := by
  rw [List.getElem?_set] at h
  split at h
  · rename_i hj
    split at h
    · rename_i hl
      exact .inl ⟨hj.symm, (Option.some.inj h).symm, hl⟩
    · cases h
  · rename_i hj
    exact .inr ⟨fun z => hj z.symm, h⟩
theorem so_set {i j : Nat} {m : MV} {q : Bool} {b : Addr} (hm : NoOwn m) (h : SO σ (Γ.set i m) H j q b) : j ≠ i ∧ SO σ Γ H j q b := by
  rcases h with ⟨ds, h1, h2⟩ | ⟨rfl, rss, a, as, h1, h2, h3, h4⟩
  · rcases get_set h1 with ⟨_, e, _⟩ | ⟨hj, e⟩
    · subst e; exact hm.elim
    · exact ⟨hj, .inl ⟨ds, e, h2⟩⟩
  · rcases get_set h1 with ⟨_, e, _⟩ | ⟨hj, e⟩
    · subst e; exact hm.elim
    · exact ⟨hj, .inr ⟨rfl, rss, a, as, e, h2, h3, h4⟩⟩
theorem own_set {i : Nat} {m : MV} {q : Bool} {b : Addr} (hm : NoOwn m) (h : OwnAt σ (Γ.set i m) H q b) : OwnAt σ Γ H q b := let ⟨j, h⟩ := h; ⟨j, (so_set hm h).2⟩
theorem freezeSlot {i : Nat} {d : D} {v : V} {L : List Addr} (R : Rel K Hf H σ Γ) (hi : i < Γ.length) (h2 : σ[i]? = some (some v)) (hL : ∀ b ∈ L, SO σ Γ H i false b) (hd : Dq K (frz Hf H L) v d) :
    Rel K (frz Hf H L) H σ (Γ.set i (.fz d)) ∧ EStep σ Γ Hf H (Γ.set i (.fz d)) (frz Hf H L) H := by
  have nf : ∀ b ∈ L, Hf b = none := fun b hb => (R.there ⟨i, hL b hb⟩).1
  have ext : Ext Hf (frz Hf H L) := frz_ext nf
  have out : ∀ {j : Nat} {q : Bool} {b : Addr}, j ≠ i → SO σ Γ H j q b → b ∉ L := fun {j q b} hj h z => hj (R.inj j i q false b h (hL b z))
  have nm : NoOwn (.fz d) := trivial
  refine ⟨⟨by rw [List.length_set]; exact R.len, frz_sub R.sub, fun j d' e => ?_, fun j q es e => ?_, fun j rss e => ?_, fun j j' q q' b h h' => R.inj j j' q q' b (so_set nm h).2 (so_set nm h').2⟩,
    ⟨⟨ext, fun _ _ h _ => h, fun _ h => h, fun b hb => ?_, fun b hb => .inl (own_set nm hb), fun b hb => own_set nm hb, hid_set (fun _ z => nomatch z) fun _ _ => rfl⟩, fun b hb => own_set nm hb, fun j rss a e g => ?_⟩⟩
  · rcases get_set e with ⟨rfl, e, _⟩ | ⟨hj, e⟩
    · cases e
      exact ⟨v, h2, hd⟩
    · obtain ⟨u, e1, e2⟩ := R.fz j d' e
      exact ⟨u, e1, dpM ext e2⟩
  · rcases get_set e with ⟨rfl, e, _⟩ | ⟨hj, e⟩
    · cases e
    · obtain ⟨b, ws, e1, e2, e3, e4⟩ := R.own j q es e
      exact ⟨b, ws, e1, by rw [frz_out (out hj (.inl ⟨es, e, e1⟩))]; exact e2, e3, dpMs ext e4⟩
  · rcases get_set e with ⟨rfl, e, _⟩ | ⟨hj, e⟩
    · cases e
    · obtain ⟨a, as, e1, o⟩ := R.oo j rss e
      exact ⟨a, as, e1, o.mono ext (fun b hb => by rw [frz_out (out hj (.oo e e1 o hb))]; exact (o.mem b hb).1) fun _ _ => rfl⟩
  · by_cases hb' : b ∈ L
    · exact .inr (.inr ⟨i, hL b hb'⟩)
    · rw [frz_out hb'] at hb; exact .inl hb
  · rcases get_set e with ⟨rfl, e, _⟩ | ⟨hj, e⟩
    · cases e
    · exact ⟨e, g, rfl⟩
theorem lt_of_get {α : Type} {xs : List α} {i : Nat} {x : α} (h : xs[i]? = some x) : i < xs.length := (List.getElem?_eq_some_iff.mp h).1
/-- reading a slot -/
theorem read_slot {i : Nat} {d : D} {Γ' : Ga} (R : Rel K Hf H σ Γ) (e : getV i Γ = some (d, Γ')) : ∃ v Hf', σ[i]? = some (some v) ∧ Rel K Hf' H σ Γ' ∧ EStep σ Γ Hf H Γ' Hf' H ∧ Dq K Hf' v d := by
  unfold getV at e
  split at e
  · rename_i d' h
    cases e
    obtain ⟨v, e1, e2⟩ := R.fz i d h
    exact ⟨v, Hf, e1, R, .rfl', e2⟩
  · rename_i ds h
    cases e
    obtain ⟨a, vs, e1, e2, e3, e4⟩ := R.own i false ds h
    have hd : Dq K (frz Hf H [a]) (.ref a) (.list ds) := .lst (.inl ((frz_in (List.mem_singleton.mpr rfl)).trans e3)) (dpMs (frz_ext fun b hb => by rw [List.mem_singleton.mp hb]; exact e2) e4)
    obtain ⟨R', S'⟩ := freezeSlot (L := [a]) R (lt_of_get h) e1 (fun b hb => by rw [List.mem_singleton.mp hb]; exact .inl ⟨ds, h, e1⟩) hd
    exact ⟨_, _, e1, R', S', hd⟩
  · rename_i rss h
    cases e
    obtain ⟨a, as, e1, o⟩ := R.oo i rss h
    obtain ⟨R', S'⟩ := freezeSlot (L := a :: as) R (lt_of_get h) e1 (fun b hb => .oo h e1 o hb) o.frozen
    exact ⟨_, _, e1, R', S', o.frozen⟩
  · cases e
theorem slot_read {i : Nat} {d : D} (R : Rel K Hf H σ Γ) (e : slotD i Γ = some d) : ∃ v, σ[i]? = some (some v) ∧ (Dq K Hf v d ∨ ∃ a vs ds, v = .ref a ∧ d = .list ds ∧ H a = some (.lst vs) ∧ Dqs K Hf vs ds) := by
  unfold slotD at e
  split at e
  · rename_i d' h
    cases e
    obtain ⟨v, e1, e2⟩ := R.fz i d h
    exact ⟨v, e1, .inl e2⟩
  · rename_i q ds h
    cases e
    obtain ⟨a, vs, e1, e2, e3, e4⟩ := R.own i q ds h
    exact ⟨_, e1, .inr ⟨a, vs, ds, rfl, rfl, e3, e4⟩⟩
  · cases e
end
theorem bindS {α β : Type} {o : Option α} {g : α → Option β} {r : β} (e : o.bind g = some r) : ∃ a, o = some a ∧ g a = some r := by
  cases o with
  | none => cases e
  | some a => exact ⟨a, rfl, e⟩
theorem mapS' {α β : Type} {o : Option α} {g : α → β} {r : β} (e : o.map g = some r) : ∃ a, o = some a ∧ g a = r := by
  cases o with
  | none => cases e
  | some a => exact ⟨a, rfl, Option.some.inj e⟩
abbrev FX := Ga → Option (RV × Ga)
section
variable {X : Cx} {a b c : Expr} {fa fb fc : FX} {pos : Pos}
theorem s_var {i : Nat} {x : Str} (hN : X.N[i]? = some x) (hv : Vis X.env.scope x) (hd : (x == ("__debug__" : Str)) = false) (hcd : (x == ("__classdict__" : Str)) = false) :
    PE X (.Name x pos) (tX X.K fun Γ => (getV i Γ).map fun (d, Γ) => (.fz d, Γ)) := (pe_var hN hv hd hcd).imp fun σ H Q ⟨Γ, Hf, r, Γ', R, e, k⟩ => by
  obtain ⟨⟨d, Γ1⟩, e1, e2⟩ := mapS' e
  cases e2
  obtain ⟨v, Hf', h1, h2, h3, h4⟩ := read_slot R e1
  exact ⟨v, h1, k v H Hf' h2 h3 h4⟩
theorem s_cst {v : V} {d : D} (h : PE X a (tC v)) (hd : ∀ H, Dq X.K H v d) : PE X a (tX X.K fun Γ => some (.fz d, Γ)) := h.imp fun σ H Q ⟨Γ, Hf, r, Γ', R, e, k⟩ => by
  cases e
  exact k v H Hf R .rfl' (hd Hf)
/-- two parts, from the left -/
theorem two {g : D → D → Ga → Option (RV × Ga)} {σ : L2.St} {H : Hp} {Q : VK} {R2' : V → V → Hp → Prop}
    (h : tX X.K (fun Γ => (fa Γ).bind fun (x, Γ) => (fb Γ).bind fun (y, Γ) => g x.d y.d Γ) σ H Q)
    (fin : ∀ Γ0 Hf0 x y dx dy Γ Hf H2 r Γ', Rel X.K Hf0 H σ Γ0 → Rel X.K Hf H2 σ Γ → EStep σ Γ0 Hf0 H Γ Hf H2 → Dq X.K Hf x dx → Dq X.K Hf y dy → g dx dy Γ = some (r, Γ') →
      (∀ v H' Hf', Rel X.K Hf' H' σ Γ' → EStep σ Γ0 Hf0 H Γ' Hf' H' → RRel X.K H Hf' H' v r → Q v H') → R2' x y H2) :
    tE X.K fa σ H fun x H1 => tE X.K fb σ H1 fun y H2 => R2' x y H2 := by
  obtain ⟨Γ, Hf, r, Γ', R, e, k⟩ := h
  obtain ⟨⟨rx, Γ1⟩, e1, e⟩ := bindS e
  obtain ⟨⟨ry, Γ2⟩, e2, e⟩ := bindS e
  refine ⟨Γ, Hf, rx, Γ1, R, e1, fun x H1 Hf1 R1 S1 d1 => ⟨Γ1, Hf1, ry, Γ2, R1, e2, fun y H2 Hf2 R2 S2 d2 => ?_⟩⟩
  exact fin Γ Hf x y rx.d ry.d Γ2 Hf2 H2 r Γ' R R2 (S1.tr S2) (dpM S2.ext d1) d2 e k
theorem s_bin {op : Operator} {o : BOp} (ho : OpR X (binaryOp op) (rB X.K (binD o))) (ha : PE X a (tX X.K fa)) (hb : PE X b (tX X.K fb)) :
    PE X (.BinOp a op b pos) (tX X.K fun Γ => (fa Γ).bind fun (x, Γ) => (fb Γ).bind fun (y, Γ) => (binD o x.d y.d).map fun r => (r, Γ)) :=
  (pe_op ho (pe_fast ha) (pe_fast hb)).imp fun σ H Q h => two (g := fun x y Γ => (binD o x y).map fun r => (r, Γ)) h fun Γ0 Hf0 x y dx dy Γ Hf H2 r Γ' R0 R S q1 q2 e k => by
    obtain ⟨r', e1, e2⟩ := mapS' e
    cases e2
    exact ⟨Hf, dx, dy, _, R.sub, q1, q2, e1, Post.fin R S k⟩
theorem s_cmp {op : CmpOp} {o : COp} (ho : OpR X (compareOp op) (rC X.K (cmpD o))) (ha : PE X a (tX X.K fa)) (hb : PE X b (tX X.K fb)) (hm : behindInMarks op b = false) :
    PE X (.Compare a [op] [b] pos) (tX X.K fun Γ => (fa Γ).bind fun (x, Γ) => (fb Γ).bind fun (y, Γ) => (cmpD o x.d y.d).map fun r => (.fz (.bool r), Γ)) :=
  (pe_cmpR ho (pe_fast ha) (pe_fast hb) hm).imp fun σ H Q h => two (g := fun x y Γ => (cmpD o x y).map fun r => (.fz (.bool r), Γ)) h fun Γ0 Hf0 x y dx dy Γ Hf H2 r Γ' R0 R S q1 q2 e k => by
    obtain ⟨r', e1, e2⟩ := mapS' e
    cases e2
    exact ⟨Hf, dx, dy, _, R.sub, q1, q2, e1, k _ _ Hf R S (.bl _)⟩
theorem t_cmp {op : CmpOp} {o : COp} (ho : OpR X (compareOp op) (rC X.K (cmpD o))) (ha : PE X a (tX X.K fa)) (hb : PE X b (tX X.K fb)) (hm : behindInMarks op b = false) :
    PT X (.Compare a [op] [b] pos) (tT X.K fun Γ => (fa Γ).bind fun (x, Γ) => (fb Γ).bind fun (y, Γ) => (cmpD o x.d y.d).map fun r => (r, Γ)) :=
  (pt_cmpR ho (pe_fast ha) (pe_fast hb) hm).imp fun σ H Q ⟨Γ, Hf, r, Γ', R, e, k⟩ => by
    obtain ⟨⟨rx, Γ1⟩, e1, e⟩ := bindS e
    obtain ⟨⟨ry, Γ2⟩, e2, e⟩ := bindS e
    obtain ⟨t, e3, e4⟩ := mapS' e
    cases e4
    exact ⟨Γ, Hf, rx, Γ1, R, e1, fun x H1 Hf1 R1 S1 d1 => ⟨_, Hf1, ry, _, R1, e2, fun y H2 Hf2 R2 S2 d2 => ⟨Hf2, _, _, _, R2.sub, dpM S2.ext d1, d2, e3, _, rfl, k _ _ R2 (S1.tr S2)⟩⟩⟩
theorem slot_any {i : Nat} {d : D} (R : Rel X.K Hf H σ Γ) (e : slotD i Γ = some d) : ∃ v, σ[i]? = some (some v) ∧ Dq X.K H v d := by
  obtain ⟨v, h1, h⟩ := slot_read R e
  refine ⟨v, h1, ?_⟩
  rcases h with h | ⟨a, vs, ds, rfl, rfl, hp, hq⟩
  · exact dpM R.sub h
  · exact .lst (.inl hp) (dpMs R.sub hq)
theorem s_cmv {op : CmpOp} {o : COp} {i : Nat} {x : Str} {p : Pos} (ho : OpR X (compareOp op) (rC X.K (cmpD o))) (ha : PE X a (tX X.K fa)) (hN : X.N[i]? = some x) (hv : Vis X.env.scope x) (hd : (x == ("__debug__" : Str)) = false) (hcd : (x == ("__classdict__" : Str)) = false) :
    PE X (.Compare a [op] [.Name x p] pos) (tX X.K fun Γ => (fa Γ).bind fun (x, Γ) => (slotD i Γ).bind fun d => (cmpD o x.d d).map fun r => (.fz (.bool r), Γ)) :=
  (pe_cmpR ho (pe_fast ha) (pe_var hN hv hd hcd) (by cases op <;> rfl)).imp fun σ H Q ⟨Γ, Hf, r, Γ', R, e, k⟩ => by
    obtain ⟨⟨rx, Γ1⟩, e1, e⟩ := bindS e
    obtain ⟨d, e2, e⟩ := bindS e
    obtain ⟨t, e3, e4⟩ := mapS' e
    cases e4
    refine ⟨Γ, Hf, rx, _, R, e1, fun x H1 Hf1 R1 S1 d1 => ?_⟩
    obtain ⟨v, g1, g2⟩ := slot_any R1 e2
    exact ⟨v, g1, H1, _, _, _, .rfl', dpM R1.sub d1, g2, e3, k _ _ Hf1 R1 S1 (.bl _)⟩
theorem t_cmv {op : CmpOp} {o : COp} {i : Nat} {x : Str} {p : Pos} (ho : OpR X (compareOp op) (rC X.K (cmpD o))) (ha : PE X a (tX X.K fa)) (hN : X.N[i]? = some x) (hv : Vis X.env.scope x) (hd : (x == ("__debug__" : Str)) = false) (hcd : (x == ("__classdict__" : Str)) = false) :
    PT X (.Compare a [op] [.Name x p] pos) (tT X.K fun Γ => (fa Γ).bind fun (x, Γ) => (slotD i Γ).bind fun d => (cmpD o x.d d).map fun r => (r, Γ)) :=
  (pt_cmpR ho (pe_fast ha) (pe_var hN hv hd hcd) (by cases op <;> rfl)).imp fun σ H Q ⟨Γ, Hf, r, Γ', R, e, k⟩ => by
    obtain ⟨⟨rx, Γ1⟩, e1, e⟩ := bindS e
    obtain ⟨d, e2, e⟩ := bindS e
    obtain ⟨t, e3, e4⟩ := mapS' e
    cases e4
    refine ⟨Γ, Hf, rx, _, R, e1, fun x H1 Hf1 R1 S1 d1 => ?_⟩
    obtain ⟨v, g1, g2⟩ := slot_any R1 e2
    exact ⟨v, g1, H1, _, _, _, .rfl', dpM R1.sub d1, g2, e3, _, rfl, k _ _ R1 S1⟩
theorem s_ix (ha : PE X a (tX X.K fa)) (hb : PE X b (tX X.K fb)) (hs : PlainIx b) :
    PE X (.Subscript a b pos) (tX X.K fun Γ => (fa Γ).bind fun (x, Γ) => (fb Γ).bind fun (y, Γ) => (ixD x.d y.d).map fun r => (.fz r, Γ)) :=
  (pe_ix ix_D (pe_fast ha) (pe_fast hb) hs).imp fun σ H Q h => two (g := fun x y Γ => (ixD x y).map fun r => (.fz r, Γ)) h fun Γ0 Hf0 x y dx dy Γ Hf H2 r Γ' R0 R S q1 q2 e k => by
    obtain ⟨r', e1, e2⟩ := mapS' e
    cases e2
    exact ⟨Hf, dx, dy, _, R.sub, q1, q2, e1, fun v hv => k _ _ Hf R S hv⟩
theorem s_ixv {i : Nat} {x : Str} {p : Pos} (hN : X.N[i]? = some x) (hv : Vis X.env.scope x) (hd : (x == ("__debug__" : Str)) = false) (hcd : (x == ("__classdict__" : Str)) = false) (hb : PE X b (tX X.K fb)) (hs : PlainIx b) :
    PE X (.Subscript (.Name x p) b pos) (tX X.K fun Γ => (slotD i Γ).bind fun _ => (fb Γ).bind fun (y, Γ) => (slotD i Γ).bind fun d => (ixD d y.d).map fun r => (.fz r, Γ)) :=
  (pe_ix (ix_D.or ix_list) (pe_var hN hv hd hcd) (pe_fast hb) hs).imp fun σ H Q ⟨Γ, Hf, r, Γ', R, e, k⟩ => by
    obtain ⟨d0, e0, e⟩ := bindS e
    obtain ⟨⟨y, Γ1⟩, e1, e⟩ := bindS e
    obtain ⟨d, e2, e⟩ := bindS e
    obtain ⟨r', e3, e4⟩ := mapS' e
    cases e4
    obtain ⟨v, hv', _⟩ := slot_read R e0
    refine ⟨v, hv', Γ, Hf, y, _, R, e1, fun w H1 Hf1 R1 S1 q => ?_⟩
    obtain ⟨v2, hv2, h⟩ := slot_read R1 e2
    rw [hv'] at hv2; cases hv2
    rcases h with h | ⟨a, vs, ds, rfl, rfl, hp, hq⟩
    · exact .inl ⟨Hf1, d, _, r', R1.sub, h, q, e3, fun z hz => k z H1 Hf1 R1 S1 hz⟩
    · cases hy : y.d with
      | int z =>
        rw [hy] at e3 q
        cases q
        obtain ⟨u, e5, q5⟩ := at_dq hq (show atI ds z = some r' from e3)
        exact .inr ⟨a, vs, z, u, rfl, rfl, .inl (.inl hp), e5, k u H1 Hf1 R1 S1 q5⟩
      | _ => rw [hy] at e3; cases e3
theorem t_var {i : Nat} {x : Str} {p : Pos} (hN : X.N[i]? = some x) (hv : Vis X.env.scope x) (hd : (x == ("__debug__" : Str)) = false) (hcd : (x == ("__classdict__" : Str)) = false)
    (he : ∀ whole, isTrue (.Name x p) X.env whole = (do let v ← whole; standAt (Expr.Name x p).pos; holding [v] (truthy v))) : PT X (.Name x p) (tT X.K fun Γ => (slotD i Γ).bind fun d => (trD d).map fun c => (c, Γ)) :=
  (pt_truth (pe_var hN hv hd hcd) he).imp fun σ H Q ⟨Γ, Hf, r, Γ', R, e, k⟩ => by
    obtain ⟨d, e0, e⟩ := bindS e
    obtain ⟨t, e2, e3⟩ := mapS' e
    cases e3
    obtain ⟨v, hv', h⟩ := slot_read R e0
    refine ⟨v, hv', r, ?_, k _ Hf R .rfl'⟩
    rcases h with h | ⟨a, vs, ds, rfl, rfl, hp, hq⟩
    · exact tr_V R.sub h e2
    · cases e2; exact .inl ⟨_, .inl (.inl hp), (isEmpty_dq hq).symm⟩
theorem s_neg (ha : PE X a (tX X.K fa)) : PE X (.UnaryOp .USub a pos) (tX X.K fun Γ => (fa Γ).bind fun (x, Γ) => match x.d with | .int i => some (.fz (.int (-i)), Γ) | _ => none) :=
  (pe_un un_neg (pe_fast ha)).imp fun σ H Q ⟨Γ, Hf, r, Γ', R, e, k⟩ => by
    obtain ⟨⟨rx, Γ1⟩, e1, e⟩ := bindS e
    refine ⟨Γ, Hf, rx, Γ1, R, e1, fun x H1 Hf1 R1 S1 d1 => ?_⟩
    have e : (match rx.d with | .int i => some (RV.fz (.int (-i)), Γ1) | _ => none) = some (r, Γ') := e
    split at e
    · rename_i i hi
      cases e
      rw [hi] at d1
      cases d1
      exact ⟨i, rfl, k _ _ Hf1 R1 S1 (.int _)⟩
    · cases e
theorem s_not (ha : PE X a (tX X.K fa)) : PE X (.UnaryOp .Not a pos) (tX X.K fun Γ => (fa Γ).bind fun (x, Γ) => (trD x.d).map fun c => (.fz (.bool (!c)), Γ)) :=
  (pe_notT (pe_fast ha)).imp fun σ H Q ⟨Γ, Hf, r, Γ', R, e, k⟩ => by
    obtain ⟨⟨rx, Γ1⟩, e1, e⟩ := bindS e
    obtain ⟨t, e2, e3⟩ := mapS' e
    cases e3
    exact ⟨Γ, Hf, rx, _, R, e1, fun x H1 Hf1 R1 S1 d1 => ⟨_, tr_V R1.sub d1 e2, k _ _ Hf1 R1 S1 (.bl _)⟩⟩
theorem t_not {f : Ga → Option (Bool × Ga)} (ha : PT X a (tT X.K f)) : PT X (.UnaryOp .Not a pos) (tT X.K fun Γ => (f Γ).map fun (c, Γ) => (!c, Γ)) :=
  (pt_not ha).imp fun σ H Q ⟨Γ, Hf, r, Γ', R, e, k⟩ => by
    obtain ⟨⟨t, Γ1⟩, e1, e⟩ := mapS' e
    cases e
    exact ⟨Γ, Hf, _, _, R, e1, fun H' Hf' R' S' => k _ _ R' S'⟩
/-- a test of a value -/
theorem t_val {f : Ga → Option (Bool × Ga)} (hf : ∀ Γ, f Γ = (fa Γ).bind fun (x, Γ) => (trD x.d).map fun c => (c, Γ)) (ha : PE X a (tX X.K fa))
    (he : ∀ whole, isTrue a X.env whole = (do let v ← whole; standAt a.pos; holding [v] (truthy v))) : PT X a (tT X.K f) :=
  (pt_truth (pe_fast ha) he).imp fun σ H Q ⟨Γ, Hf, r, Γ', R, e, k⟩ => by
    rw [hf] at e
    obtain ⟨⟨rx, Γ1⟩, e1, e⟩ := bindS e
    obtain ⟨t, e2, e3⟩ := mapS' e
    cases e3
    exact ⟨Γ, Hf, rx, _, R, e1, fun x H1 Hf1 R1 S1 d1 => ⟨_, tr_V R1.sub d1 e2, k _ Hf1 R1 S1⟩⟩
/-- what never comes -/
theorem t_none {f : Ga → Option (Bool × Ga)} (hf : ∀ Γ, f Γ = none) : PT X a (tT X.K f) := ⟨fun pins s σ H Q I ⟨Γ, Hf, r, Γ', R, e, k⟩ => by rw [hf] at e; cases e⟩
theorem s_ite {f : Ga → Option (Bool × Ga)} (hc : PT X c (tT X.K f)) (ha : PE X a (tX X.K fa)) (hb : PE X b (tX X.K fb)) :
    PE X (.IfExp c a b pos) (tX X.K fun Γ => (f Γ).bind fun (t, Γ) => if t then (fa Γ).map fun (y, Γ) => (.fz y.d, Γ) else (fb Γ).map fun (y, Γ) => (.fz y.d, Γ)) :=
  (pe_ifExp hc (pe_fast ha) (pe_fast hb)).imp fun σ H Q ⟨Γ, Hf, r, Γ', R, e, k⟩ => by
    obtain ⟨⟨t, Γ1⟩, e1, e⟩ := bindS e
    refine ⟨Γ, Hf, t, Γ1, R, e1, fun H1 Hf1 R1 S1 => ?_⟩
    cases t with
    | true =>
      obtain ⟨⟨ry, Γ2⟩, e2, e3⟩ := mapS' (show (fa Γ1).map (fun (y, Γ) => (RV.fz y.d, Γ)) = some (r, Γ') from e)
      cases e3
      exact ⟨Γ1, Hf1, ry, _, R1, e2, fun v H' Hf' R' S' d' => k _ _ Hf' R' (S1.tr S') d'⟩
    | false =>
      obtain ⟨⟨ry, Γ2⟩, e2, e3⟩ := mapS' (show (fb Γ1).map (fun (y, Γ) => (RV.fz y.d, Γ)) = some (r, Γ') from e)
      cases e3
      exact ⟨Γ1, Hf1, ry, _, R1, e2, fun v H' Hf' R' S' d' => k _ _ Hf' R' (S1.tr S') d'⟩
end
end EvL

set_option Elab.async false
set_option linter.all false
set_option maxRecDepth 100000
set_option maxHeartbeats 4000000
namespace EvL
open PySem PySem.Spec PyProof.Rows L2

abbrev FA := Ga → Option (List D × Ga)
section
variable {X : Cx} {a b c e : Expr} {es rest : List Expr} {fa fb fc : FX} {pos : Pos} {g : FA}
theorem s_nil : PA X [] (tAs X.K fun Γ => some ([], Γ)) := pa_nil.imp fun σ H Q ⟨Γ, Hf, r, Γ', R, ef, k⟩ => by
  cases ef
  exact k [] H Hf R .rfl' .nil
theorem s_cons (ha : PE X e (tX X.K fa)) (hr : PA X es (tAs X.K g)) (hu : unstar e = true) : PA X (e :: es) (tAs X.K fun Γ => (fa Γ).bind fun (x, Γ) => (g Γ).map fun (ds, Γ) => (x.d :: ds, Γ)) :=
  (pa_cons (pe_fast ha) hr (star_cons hu)).imp fun σ H Q ⟨Γ, Hf, r, Γ', R, ef, k⟩ => by
    obtain ⟨⟨rx, Γ1⟩, e1, ef⟩ := bindS ef
    obtain ⟨⟨ds, Γ2⟩, e2, e3⟩ := mapS' ef
    cases e3
    exact ⟨Γ, Hf, rx, Γ1, R, e1, fun x H1 Hf1 R1 S1 d1 => ⟨Γ1, Hf1, ds, _, R1, e2, fun vs H2 Hf2 R2 S2 d2 => k _ H2 Hf2 R2 (S1.tr S2) (.cons (dpM S2.ext d1) d2)⟩⟩
theorem k_nil : PK X [] (tAs X.K fun Γ => some ([], Γ)) := ⟨fun pos pins s σ H Q I ⟨Γ, Hf, r, Γ', R, ef, k⟩ => by
  cases ef
  exact pk_nil.run pos pins s σ H Q I (k [] H Hf R .rfl' .nil)⟩
theorem k_cons {kws : List Keyword} {nm : Option Str} {kp : Pos} (ha : PE X e (tX X.K fa)) (hr : PK X kws (tAs X.K g)) : PK X (⟨nm, e, kp⟩ :: kws) (tAs X.K fun Γ => (fa Γ).bind fun (x, Γ) => (g Γ).map fun (ds, Γ) => (x.d :: ds, Γ)) :=
  ⟨fun pos pins s σ H Q I ⟨Γ, Hf, r, Γ', R, ef, k⟩ => by
    obtain ⟨⟨rx, Γ1⟩, e1, ef⟩ := bindS ef
    obtain ⟨⟨ds, Γ2⟩, e2, e3⟩ := mapS' ef
    cases e3
    exact (pk_cons (pe_fast ha) hr).run pos pins s σ H Q I ⟨Γ, Hf, rx, Γ1, R, e1, fun x H1 Hf1 R1 S1 d1 => ⟨Γ1, Hf1, ds, _, R1, e2, fun vs H2 Hf2 R2 S2 d2 => k _ H2 Hf2 R2 (S1.tr S2) (.cons (dpM S2.ext d1) d2)⟩⟩⟩
theorem s_tup {k} (ha : PA X es (tAs X.K g)) (hl : ∀ Γ ds Γ', g Γ = some (ds, Γ') → ds.length ≤ 1000) : PE X (.Tuple es k pos) (tX X.K fun Γ => (g Γ).map fun (ds, Γ) => (.fz (.tuple ds), Γ)) :=
  (pe_tup ha).imp fun σ H Q ⟨Γ, Hf, r, Γ', R, ef, k⟩ => by
    obtain ⟨⟨ds, Γ1⟩, e1, e2⟩ := mapS' ef
    have hz := hl _ _ _ e1
    cases e2
    refine ⟨Γ, Hf, ds, _, R, e1, fun vs H1 Hf1 R1 S1 d1 => ⟨?_, (Post.fin R1 S1 k).tup R1.sub d1⟩⟩
    rw [dps_len d1]; exact Nat.le_trans hz (by decide)
theorem s_lst (ha : PA X es (tAs X.K g)) (hl : ∀ Γ ds Γ', g Γ = some (ds, Γ') → ds.length ≤ 1000) : PE X (.List es pos) (tX X.K fun Γ => (g Γ).map fun (ds, Γ) => (.ow ds, Γ)) :=
  (pe_lst ha).imp fun σ H Q ⟨Γ, Hf, r, Γ', R, ef, k⟩ => by
    obtain ⟨⟨ds, Γ1⟩, e1, e2⟩ := mapS' ef
    have hz := hl _ _ _ e1
    cases e2
    refine ⟨Γ, Hf, ds, _, R, e1, fun vs H1 Hf1 R1 S1 d1 => ⟨?_, (Post.fin R1 S1 k).lst R1.sub d1⟩⟩
    rw [dps_len d1]; exact Nat.le_trans hz (by decide)
theorem s_and (ha : PE X a (tX X.K fa)) (hb : PE X (.BoolOp .And (b :: rest) pos) (tX X.K fb)) : PE X (.BoolOp .And (a :: b :: rest) pos)
    (tX X.K fun Γ => (fa Γ).bind fun (x, Γ) => (trD x.d).bind fun c => if c then (fb Γ).map fun (y, Γ) => (.fz y.d, Γ) else some (.fz x.d, Γ)) :=
  (pe_andT (pe_fast ha) (pe_fast hb)).imp fun σ H Q ⟨Γ, Hf, r, Γ', R, ef, k⟩ => by
    obtain ⟨⟨rx, Γ1⟩, e1, ef⟩ := bindS ef
    obtain ⟨t, e2, ef⟩ := bindS ef
    refine ⟨Γ, Hf, rx, Γ1, R, e1, fun x H1 Hf1 R1 S1 d1 => ⟨t, tr_V R1.sub d1 e2, ?_⟩⟩
    cases t with
    | true =>
      obtain ⟨⟨ry, Γ2⟩, e3, e4⟩ := mapS' (show (fb Γ1).map (fun (y, Γ) => (RV.fz y.d, Γ)) = some (r, Γ') from ef)
      cases e4
      exact ⟨Γ1, Hf1, ry, _, R1, e3, fun v H' Hf' R' S' d' => k _ _ Hf' R' (S1.tr S') d'⟩
    | false =>
      cases (show some (RV.fz rx.d, Γ1) = some (r, Γ') from ef)
      exact k _ _ Hf1 R1 S1 d1
theorem s_or (ha : PE X a (tX X.K fa)) (hb : PE X (.BoolOp .Or (b :: rest) pos) (tX X.K fb)) : PE X (.BoolOp .Or (a :: b :: rest) pos)
    (tX X.K fun Γ => (fa Γ).bind fun (x, Γ) => (trD x.d).bind fun c => if c then some (.fz x.d, Γ) else (fb Γ).map fun (y, Γ) => (.fz y.d, Γ)) :=
  (pe_orT (pe_fast ha) (pe_fast hb)).imp fun σ H Q ⟨Γ, Hf, r, Γ', R, ef, k⟩ => by
    obtain ⟨⟨rx, Γ1⟩, e1, ef⟩ := bindS ef
    obtain ⟨t, e2, ef⟩ := bindS ef
    refine ⟨Γ, Hf, rx, Γ1, R, e1, fun x H1 Hf1 R1 S1 d1 => ⟨t, tr_V R1.sub d1 e2, ?_⟩⟩
    cases t with
    | false =>
      obtain ⟨⟨ry, Γ2⟩, e3, e4⟩ := mapS' (show (fb Γ1).map (fun (y, Γ) => (RV.fz y.d, Γ)) = some (r, Γ') from ef)
      cases e4
      exact ⟨Γ1, Hf1, ry, _, R1, e3, fun v H' Hf' R' S' d' => k _ _ Hf' R' (S1.tr S') d'⟩
    | true =>
      cases (show some (RV.fz rx.d, Γ1) = some (r, Γ') from ef)
      exact k _ _ Hf1 R1 S1 d1
variable {ta tb : Ga → Option (Bool × Ga)}
theorem t_and (ha : PT X a (tT X.K ta)) (hb : PW X (.BoolOp .And (b :: rest) pos) (tT X.K tb)) : PW X (.BoolOp .And (a :: b :: rest) pos)
    (tT X.K fun Γ => (ta Γ).bind fun (c, Γ) => if c then tb Γ else some (false, Γ)) := (pw_and ha hb).imp fun σ H Q ⟨Γ, Hf, r, Γ', R, ef, k⟩ => by
  obtain ⟨⟨t, Γ1⟩, e1, ef⟩ := bindS ef
  refine ⟨Γ, Hf, t, Γ1, R, e1, fun H1 Hf1 R1 S1 => ?_⟩
  cases t with
  | true => exact ⟨Γ1, Hf1, r, Γ', R1, ef, fun H' Hf' R' S' => k _ Hf' R' (S1.tr S')⟩
  | false =>
    cases (show some (false, Γ1) = some (r, Γ') from ef)
    exact k _ Hf1 R1 S1
theorem t_or (ha : PT X a (tT X.K ta)) (hb : PW X (.BoolOp .Or (b :: rest) pos) (tT X.K tb)) : PW X (.BoolOp .Or (a :: b :: rest) pos)
    (tT X.K fun Γ => (ta Γ).bind fun (c, Γ) => if c then some (true, Γ) else tb Γ) := (pw_or ha hb).imp fun σ H Q ⟨Γ, Hf, r, Γ', R, ef, k⟩ => by
  obtain ⟨⟨t, Γ1⟩, e1, ef⟩ := bindS ef
  refine ⟨Γ, Hf, t, Γ1, R, e1, fun H1 Hf1 R1 S1 => ?_⟩
  cases t with
  | false => exact ⟨Γ1, Hf1, r, Γ', R1, ef, fun H' Hf' R' S' => k _ Hf' R' (S1.tr S')⟩
  | true =>
    cases (show some (true, Γ1) = some (r, Γ') from ef)
    exact k _ Hf1 R1 S1
/-- a op b op' c -/
theorem chn {o o' : COp} {r r' : Bool → Ga → Option (RV × Ga)} {σ : L2.St} {H : Hp} {Q : VK} {op op' : CmpOp} (Q' : V → Hp → Prop)
    {f : Ga → Option (Bool × Ga)} {Γ Γ' : Ga} {Hf : Hp} {t : Bool} (R : Rel X.K Hf H σ Γ)
    (ef : ((fa Γ).bind fun (x, Γ) => (fb Γ).bind fun (y, Γ) => (cmpD o x.d y.d).bind fun r => if r then (fc Γ).bind fun (z, Γ) => (cmpD o' y.d z.d).map fun r => (r, Γ) else some (false, Γ)) = some (t, Γ'))
    (k : ∀ H' Hf', Rel X.K Hf' H' σ Γ' → EStep σ Γ Hf H Γ' Hf' H' → Q' (.bl t) H') :
    tChain (rC X.K (cmpD o)) (rC X.K (cmpD o')) (tE X.K fa) (tE X.K fb) (tE X.K fc) σ H Q' := by
  obtain ⟨⟨rx, Γ1⟩, e1, ef⟩ := bindS ef
  obtain ⟨⟨ry, Γ2⟩, e2, ef⟩ := bindS ef
  obtain ⟨u, e3, ef⟩ := bindS ef
  refine ⟨Γ, Hf, rx, Γ1, R, e1, fun x H1 Hf1 R1 S1 d1 => ⟨Γ1, Hf1, ry, Γ2, R1, e2, fun y H2 Hf2 R2 S2 d2 => ⟨Hf2, _, _, u, R2.sub, dpM S2.ext d1, d2, e3, u, rfl, ?_⟩⟩⟩
  cases u with
  | true =>
    rw [if_pos rfl]
    obtain ⟨⟨rz, Γ3⟩, e4, ef⟩ := bindS (show (fc Γ2).bind (fun (z, Γ) => (cmpD o' ry.d z.d).map fun r => (r, Γ)) = some (t, Γ') from ef)
    obtain ⟨w, e5, e6⟩ := mapS' ef
    cases e6
    exact ⟨Γ2, Hf2, rz, _, R2, e4, fun z H3 Hf3 R3 S3 d3 => ⟨Hf3, _, _, _, R3.sub, dpM S3.ext d2, d3, e5, k _ Hf3 R3 ((S1.tr S2).tr S3)⟩⟩
  | false =>
    cases (show some (false, Γ2) = some (t, Γ') from ef)
    rw [if_neg Bool.false_ne_true]
    exact k _ Hf2 R2 (S1.tr S2)
theorem s_chn {o o' : COp} {op op' : CmpOp} (h1 : OpR X (compareOp op) (rC X.K (cmpD o))) (h2 : OpR X (compareOp op') (rC X.K (cmpD o'))) (ha : PE X a (tX X.K fa)) (hb : PE X b (tX X.K fb)) (hc : PE X c (tX X.K fc))
    (hm : lastMarks [op, op'] [b, c] = false) : PE X (.Compare a [op, op'] [b, c] pos) (tX X.K fun Γ => (fa Γ).bind fun (x, Γ) => (fb Γ).bind fun (y, Γ) => (cmpD o x.d y.d).bind fun r =>
      if r then (fc Γ).bind fun (z, Γ) => (cmpD o' y.d z.d).map fun r => (.fz (.bool r), Γ) else some (.fz (.bool false), Γ)) :=
  (pe_chain h1 h2 (pe_fast ha) (pe_fast hb) (pe_fast hc) hm).imp fun σ H Q ⟨Γ, Hf, r, Γ', R, ef, k⟩ => by
    have : ∃ t, r = .fz (.bool t) ∧ ((fa Γ).bind fun (x, Γ) => (fb Γ).bind fun (y, Γ) => (cmpD o x.d y.d).bind fun r => if r then (fc Γ).bind fun (z, Γ) => (cmpD o' y.d z.d).map fun r => (r, Γ) else some (false, Γ)) = some (t, Γ') := by
      obtain ⟨⟨rx, Γ1⟩, e1, ef⟩ := bindS ef
      obtain ⟨⟨ry, Γ2⟩, e2, ef⟩ := bindS ef
      obtain ⟨u, e3, ef⟩ := bindS ef
      cases u with
      | true =>
        obtain ⟨⟨rz, Γ3⟩, e4, ef⟩ := bindS (show (fc Γ2).bind (fun (z, Γ) => (cmpD o' ry.d z.d).map fun r => (RV.fz (.bool r), Γ)) = some (r, Γ') from ef)
        obtain ⟨w, e5, e6⟩ := mapS' ef
        cases e6
        exact ⟨w, rfl, by simp [e1, e2, e3, e4, e5]⟩
      | false =>
        cases (show some (RV.fz (.bool false), Γ2) = some (r, Γ') from ef)
        exact ⟨false, rfl, by simp [e1, e2, e3]⟩
    obtain ⟨t, rfl, e2⟩ := this
    exact chn (r := fun _ _ => none) (r' := fun _ _ => none) (Q := Q) (op := op) (op' := op') (f := fun _ => none) Q R e2 fun H' Hf' R' S' => k _ _ Hf' R' S' (.bl _)
theorem t_chn {o o' : COp} {op op' : CmpOp} (h1 : OpR X (compareOp op) (rC X.K (cmpD o))) (h2 : OpR X (compareOp op') (rC X.K (cmpD o'))) (ha : PE X a (tX X.K fa)) (hb : PE X b (tX X.K fb)) (hc : PE X c (tX X.K fc))
    (hm : lastMarks [op, op'] [b, c] = false) : PT X (.Compare a [op, op'] [b, c] pos) (tT X.K fun Γ => (fa Γ).bind fun (x, Γ) => (fb Γ).bind fun (y, Γ) => (cmpD o x.d y.d).bind fun r =>
      if r then (fc Γ).bind fun (z, Γ) => (cmpD o' y.d z.d).map fun r => (r, Γ) else some (false, Γ)) :=
  (pt_chain h1 h2 (pe_fast ha) (pe_fast hb) (pe_fast hc) hm).imp fun σ H Q ⟨Γ, Hf, r, Γ', R, ef, k⟩ =>
    chn (r := fun _ _ => none) (r' := fun _ _ => none) (Q := fun _ _ => True) (op := op) (op' := op') (f := fun _ => none) (fun x H' => ∃ k, x = .bl k ∧ Q k H') R ef fun H' Hf' R' S' => ⟨r, rfl, k _ Hf' R' S'⟩
/-- the parts of a slice -/
def tP (K : PySem.W.Frag) (l : Bool) (f : FX) : TO := fun σ H Q => ∃ Γ Hf r Γ' i, Rel K Hf H σ Γ ∧ f Γ = some (r, Γ') ∧ optI l r.d = some i ∧ ∀ H' Hf', Rel K Hf' H' σ Γ' → EStep σ Γ Hf H Γ' Hf' H' → Q i H'
theorem p_none : PO X none (tP X.K false fun Γ => some (.fz .none, Γ)) := ⟨fun pins s σ H Q I ⟨Γ, Hf, r, Γ', i, R, ef, ei, k⟩ => by
  cases ef; cases ei
  exact po_none.run pins s σ H Q I (k H Hf R .rfl')⟩
theorem p_some (ha : PE X a (tX X.K fa)) : PO X (some a) (tP X.K true fa) := ⟨fun pins s σ H Q I ⟨Γ, Hf, r, Γ', i, R, ef, ei, k⟩ =>
  (po_some (pe_fast ha)).run pins s σ H Q I ⟨Γ, Hf, r, Γ', R, ef, fun v H1 Hf1 R1 S1 d1 => by
    cases hd : r.d with
    | int j => rw [hd] at ei d1; cases ei; cases d1; exact ⟨j, rfl, k _ Hf1 R1 S1⟩
    | _ => rw [hd] at ei; cases ei⟩⟩
theorem s_slc {lo hi : Option Expr} {l h : Bool} {p2 : Pos} (ha : PE X a (tX X.K fa)) (hl : PO X lo (tP X.K l fb)) (hh : PO X hi (tP X.K h fc)) : PE X (.Subscript a (.Slice lo hi none p2) pos)
    (tX X.K fun Γ => (fa Γ).bind fun (x, Γ) => (fb Γ).bind fun (u, Γ) => (optI l u.d).bind fun i => (fc Γ).bind fun (w, Γ) => (optI h w.d).bind fun j => (slcD x.d i j).map fun r => (r, Γ)) :=
  (pe_slice sl_D (pe_fast ha) hl hh).imp fun σ H Q ⟨Γ, Hf, r, Γ', R, ef, k⟩ => by
    obtain ⟨⟨rx, Γ1⟩, e1, ef⟩ := bindS ef
    obtain ⟨⟨ru, Γ2⟩, e2, ef⟩ := bindS ef
    obtain ⟨i, e3, ef⟩ := bindS ef
    obtain ⟨⟨rw', Γ3⟩, e4, ef⟩ := bindS ef
    obtain ⟨j, e5, ef⟩ := bindS ef
    obtain ⟨w, e6, e7⟩ := mapS' ef
    cases e7
    refine ⟨Γ, Hf, rx, Γ1, R, e1, fun x H1 Hf1 R1 S1 d1 => ⟨Γ1, Hf1, ru, Γ2, i, R1, e2, e3, fun H2 Hf2 R2 S2 => ⟨Γ2, Hf2, rw', _, j, R2, e4, e5, fun H3 Hf3 R3 S3 => ?_⟩⟩⟩
    have S := (S1.tr S2).tr S3
    refine ⟨Hf3, rx.d, R3.sub, dpM (S2.tr S3).ext d1, ?_⟩
    have p := Post.fin R3 S k
    unfold slcD at e6
    split at e6
    · cases e6; exact .inl ⟨_, by assumption, p⟩
    · cases e6; exact .inr ⟨_, by assumption, p⟩
    · cases e6
theorem s_bi {f : BF} {t : TA} (h : PE X e (tCB (rK X.K f) (tAs X.K g))) : PE X e (tX X.K fun Γ => (g Γ).bind fun (ds, Γ) => (biD f ds).map fun r => (r, Γ)) := h.imp fun σ H Q ⟨Γ, Hf, r, Γ', R, ef, k⟩ => by
  obtain ⟨⟨ds, Γ1⟩, e1, ef⟩ := bindS ef
  obtain ⟨w, e2, e3⟩ := mapS' ef
  cases e3
  exact ⟨Γ, Hf, ds, _, R, e1, fun vs H1 Hf1 R1 S1 d1 => ⟨Hf1, ds, _, R1.sub, d1, e2, Post.fin R1 S1 k⟩⟩
theorem s_cnt {x : Str} {px ap cp : Pos} {b : Expr} (ha : PE X (.Name x px) (tX X.K fa)) (hb : PE X b (tX X.K fb)) (hu : unstar b = true) (hline : (ap.endLine == cp.line) = true) :
    PE X (.Call (.Attribute (.Name x px) "count" ap) [b] [] cp) (tX X.K fun Γ => (fa Γ).bind fun (u, Γ) => (fb Γ).bind fun (w, Γ) => (biD .cnt [u.d, w.d]).map fun r => (r, Γ)) := by
  have hA : PA X [b] (tCons (tE X.K fb) tNil) := pa_cons (pe_fast hb) pa_nil (star_cons hu)
  have hp := pe_bm (cpos := cp) (apos := ap) PySem.F.plainAttrs_list PySem.F.slot_list_count PySem.F.type_list_count (mt_lcount (X := X)) (pe_fast ha) hA rfl (by rw [star_cons hu]; rfl) hline (star_cons hu) rfl
  refine hp.imp fun σ H Q ⟨Γ, Hf, r, Γ', R, ef, k⟩ => ?_
  obtain ⟨⟨ru, Γ1⟩, e1, ef⟩ := bindS ef
  obtain ⟨⟨rw', Γ2⟩, e2, ef⟩ := bindS ef
  obtain ⟨w, e3, e4⟩ := mapS' ef
  cases e4
  refine ⟨Γ, Hf, ru, Γ1, R, e1, fun v H1 Hf1 R1 S1 d1 => ?_⟩
  have e3' : biD .cnt [ru.d, rw'.d] = some r := e3
  generalize ru.d = du at d1 e3'
  cases d1 with
  | lst h1 q1 =>
    refine ⟨.inl ⟨rfl, _, .inl (R1.sub.rd h1)⟩, Γ1, Hf1, rw', _, R1, e2, fun y H2 Hf2 R2 S2 d2 => ?_⟩
    generalize rw'.d = dw at d2 e3'
    cases d2 with
    | int c =>
      obtain ⟨ns, e5, e6⟩ := mapS' (show (intsD _).map (fun ns => RV.fz (.int (ns.count c : Nat))) = some r from e3')
      subst e6
      have d3 := dpM S2.ext (Dq.lst h1 q1)
      cases d3 with
      | lst h3 q3 =>
        have q2 := ints_dq q3 e5
        subst q2
        exact ⟨_, ns, c, rfl, rfl, .inl (R2.sub.rd h3), k _ _ Hf2 R2 (S1.tr S2) (.int _)⟩
    | _ => exact nn e3'
  | _ => exact nn e3'
theorem s_lenv {i : Nat} {y : Str} {p py : Pos} (hN : X.N[i]? = some y) (hv : Vis X.env.scope y) (hd : (y == ("__debug__" : Str)) = false) (hcd : (y == ("__classdict__" : Str)) = false) (hg : Gl X "len") (hm : X.mg "len" = none) :
    PE X (.Call (.Name "len" p) [.Name y py] [] pos) (tX X.K fun Γ => (slotD i Γ).bind fun d => (biD .len [d]).map fun r => (r, Γ)) :=
  (pe_callB call_len_seq hg hm PySem.boot_len (pa_cons (pe_var hN hv hd hcd) pa_nil (star_cons rfl))).imp fun σ H Q ⟨Γ, Hf, r, Γ', R, e, k⟩ => by
    obtain ⟨d, e0, e⟩ := bindS e
    obtain ⟨r', e2, e3⟩ := mapS' e
    cases e3
    obtain ⟨v, hv', h⟩ := slot_read R e0
    refine ⟨v, hv', ?_⟩
    rcases h with h | ⟨a, vs, ds, rfl, rfl, hp, hq⟩
    · cases h with
      | lst h1 q1 => cases e2; exact ⟨_, _, rfl, .inl (.inl (R.sub.rd h1)), k _ _ Hf R .rfl' (by rw [dps_len q1]; exact .int _)⟩
      | tup h1 q1 => cases e2; exact ⟨_, _, rfl, .inr (R.sub.st h1), k _ _ Hf R .rfl' (by rw [dps_len q1]; exact .int _)⟩
      | _ => exact nn e2
    · cases e2
      exact ⟨_, _, rfl, .inl (.inl (.inl hp)), k _ _ Hf R .rfl' (by rw [dps_len hq]; exact .int _)⟩
/-! ### rows of one's own -/
theorem isOo_ref {K : PySem.W.Frag} {σ : L2.St} {Γ : Ga} {Hf H : Hp} {i : Nat} (R : Rel K Hf H σ Γ) (h : isOo i Γ = true) : ∃ rss a as, Γ[i]? = some (.oo rss) ∧ σ[i]? = some (some (.ref a)) ∧ OO K Hf H a as rss := by
  unfold isOo at h
  split at h
  · rename_i rss h1
    obtain ⟨a, as, e, o⟩ := R.oo i rss h1
    exact ⟨rss, a, as, h1, e, o⟩
  · cases h
theorem at_map {α β : Type} (f : α → β) (xs : List α) (i : Int) : atI (xs.map f) i = (atI xs i).map f := by
  unfold atI
  rw [List.length_map]
  cases ixN xs.length i with
  | none => rfl
  | some j => show (xs.map f)[j]? = (xs[j]?).map f; rw [List.getElem?_map]
/-- the row at a place -/
theorem row_ref {K : PySem.W.Frag} {σ : L2.St} {Γ : Ga} {Hf H : Hp} {i : Nat} {x : V} {d : D} {rs : List D} {a : Addr} (R : Rel K Hf H σ Γ) (ha : σ[i]? = some (some (.ref a))) (hx : Dq K Hf x d) (h : rowO i d Γ = some rs) :
    ∃ rss as k j r vs, Γ[i]? = some (.oo rss) ∧ OO K Hf H a as rss ∧ d = .int k ∧ x = .int k ∧ ixN as.length k = some j ∧ as[j]? = some r ∧ rss[j]? = some rs ∧ atI (as.map V.ref) k = some (.ref r) ∧ H r = some (.lst vs) ∧ Hf r = none ∧ Dqs K Hf vs rs := by
  unfold rowO at h
  split at h
  · rename_i rss k h1
    obtain ⟨a', as, e, o⟩ := R.oo i rss h1
    rw [ha] at e; cases e
    cases hx
    have h : (match ixN rss.length k with | some j => rss[j]? | none => none) = some rs := by
      unfold atI at h
      cases q : ixN rss.length k with
      | none => rw [q] at h; cases h
      | some j => rw [q] at h; exact h
    cases q : ixN rss.length k with
    | none => rw [q] at h; cases h
    | some j =>
      rw [q] at h
      obtain ⟨r, vs, e1, e2, e3, e4⟩ := o.rows.get (i := j) h
      refine ⟨rss, as, k, j, r, vs, h1, o, rfl, rfl, by rw [o.rows.len]; exact q, e1, h, ?_, e3, e2, e4⟩
      rw [at_map]
      unfold atI
      rw [o.rows.len, q]
      show (as[j]?).map V.ref = _
      rw [e1]; rfl
  · cases h
theorem s_ixo {i : Nat} {x : Str} {p pos1 : Pos} (hN : X.N[i]? = some x) (hv : Vis X.env.scope x) (hd : (x == ("__debug__" : Str)) = false) (hcd : (x == ("__classdict__" : Str)) = false) (ha : PE X a (tX X.K fa)) (hb : PE X b (tX X.K fb)) (hs1 : PlainIx a) (hs : PlainIx b) :
    PE X (.Subscript (.Subscript (.Name x p) a pos1) b pos) (tX X.K fun Γ => if isOo i Γ then (fa Γ).bind fun (x, Γ) => (rowO i x.d Γ).bind fun _ => (fb Γ).bind fun (y, Γ) => (getO i x.d y.d Γ).map fun r => (.fz r, Γ) else none) :=
  (pe_ix ix_list (pe_ix ix_list (pe_var hN hv hd hcd) (pe_fast ha) hs1) (pe_fast hb) hs).imp fun σ H Q ⟨Γ, Hf, r, Γ', R, e, k⟩ => by
    simp only at e
    cases h0 : isOo i Γ with
    | false => rw [h0] at e; cases e
    | true =>
      rw [h0, if_pos rfl] at e
      obtain ⟨⟨rx, Γ1⟩, e1, e⟩ := bindS e
      obtain ⟨rs, e2, e⟩ := bindS e
      obtain ⟨⟨ry, Γ2⟩, e3, e⟩ := bindS e
      obtain ⟨r', e4, e5⟩ := mapS' e
      cases e5
      obtain ⟨_, A, _, _, hA, _⟩ := isOo_ref R h0
      refine ⟨_, hA, Γ, Hf, rx, Γ1, R, e1, fun vx H1 Hf1 R1 S1 d1 => ?_⟩
      obtain ⟨rss, as, kk, j, r, vs, g1, o, gd, rfl, g2, g3, g4, g5, g6, g7, g8⟩ := row_ref R1 hA d1 e2
      refine ⟨A, _, kk, .ref r, rfl, rfl, .inl (.inl o.at_), g5, Γ1, Hf1, ry, _, R1, e3, fun vy H2 Hf2 R2 S2 d2 => ?_⟩
      unfold getO at e4
      split at e4
      · rename_i rss2 k2 j2 q1 q2 q3
        obtain ⟨t1, t2, t3⟩ := S2.oos i rss2 A q1 hA
        rw [g1] at t1; cases t1
        obtain ⟨A', as2, t4, o2⟩ := R2.oo i rss q1
        rw [hA] at t4; cases t4
        have t5 := o2.at_
        rw [t3, o.at_] at t5
        injection t5 with t5
        injection t5 with t5
        obtain rfl := map_ref_inj t5
        rw [gd] at q2; cases q2
        obtain ⟨rs2, u1, u2⟩ := bindS e4
        have u3 : rss[j]? = some rs2 := by
          unfold atI at u1
          rw [← o.rows.len, g2] at u1
          exact u1
        rw [g4] at u3; cases u3
        obtain ⟨r2, vs2, w1, w2, w3, w4⟩ := o2.rows.get g4
        rw [g3] at w1; cases w1
        rw [q3] at d2; cases d2
        obtain ⟨u, u4, u5⟩ := at_dq w4 u2
        exact ⟨r, vs2, j2, u, rfl, rfl, .inl (.inl w3), u4, k u H2 Hf2 R2 (S1.tr S2) u5⟩
      · cases e4
end
end EvL

set_option Elab.async false
set_option linter.all false
set_option maxRecDepth 100000
set_option maxHeartbeats 4000000
namespace EvL
open PySem PySem.Spec PyProof.Rows L2

/-! ### calls of the table's defs -/
theorem evs_app : ∀ (es fs : List IE) (Γ : Ga), evs (es ++ fs) Γ = (evs es Γ).bind fun (ds, Γ) => (evs fs Γ).map fun (xs, Γ) => (ds ++ xs, Γ)
  | [], fs, Γ => by simp [evs]
  | e :: es, fs, Γ => by
    rw [List.cons_append, evs, evs]
    cases evX e Γ with
    | none => rfl
    | some p =>
      obtain ⟨x, Γ1⟩ := p
      simp only [Option.bind_some]
      rw [evs_app es fs Γ1]
      cases evs es Γ1 with
      | none => rfl
      | some q =>
        obtain ⟨ds, Γ2⟩ := q
        simp only [Option.map_some, Option.bind_some]
        cases evs fs Γ2 with
        | none => rfl
        | some q => rfl
theorem evs_len : ∀ {es : List IE} {Γ Γ' : Ga} {ds : List D}, evs es Γ = some (ds, Γ') → ds.length = es.length
  | [], _, _, _, h => by rw [evs] at h; cases h; rfl
  | e :: es, Γ, Γ', ds, h => by
    rw [evs] at h
    obtain ⟨⟨x, Γ1⟩, _, h⟩ := bindS h
    obtain ⟨⟨xs, Γ2⟩, h2, h3⟩ := mapS' h
    cases h3
    simp [evs_len h2]
theorem arr_id {α : Type} (z : α) (dfs : List α) : ∀ (xs : List α), arr z ((List.range xs.length).map Sum.inl) dfs xs = xs := fun xs => by
  unfold arr
  rw [List.map_map]
  refine List.ext_getElem (by simp) fun i h1 h2 => ?_
  simp at h1
  simp [h1]
section
variable {X : Cx} {k : Nat} {E : FnE} {e : Expr} {es : List Expr} {kws : List Keyword} {p pos : Pos} {fa : FX} {g1 g2 : FA}
theorem spD_f {K : PySem.W.Frag} {f : FnD} {vs : List V} {ds : List D} {Hf H : Hp} {Q : VK} {r : RV} {c : List D} (hmt : f.mt = false) (sub : Ext Hf H) (e : f.run ds = some (r, c)) (h : Dqs K Hf vs ds) (p : Post K Hf H r Q) : spD K f vs H Q E0 := by
  refine ⟨Hf, ds, r, c, sub, e, ?_⟩
  rw [hmt]
  exact ⟨h, p⟩
theorem s_call (C : FnAt X.prog X.w X.K X.mg X.base k E) (hr : Room (k + 40) X.A) (hgd : X.A.guards = some []) (hg : Gl X E.name) (hdb : (E.name == ("__debug__" : Str)) = false)
    (hn : es.length = E.np) (hk : kws.map (·.arg) = E.kws.map some) (hu : es.all unstar = true) (ha : PA X es (tAs X.K g1)) (hkw : PK X kws (tAs X.K g2))
    (l1 : ∀ Γ ds Γ', g1 Γ = some (ds, Γ') → ds.length = E.np) (l2 : ∀ Γ ds Γ', g2 Γ = some (ds, Γ') → ds.length = E.kws.length) (h0 : es = [] → g1 = fun Γ => some ([], Γ)) :
    PE X (.Call (.Name E.name p) es kws pos) (tX X.K fun Γ => (g1 Γ).bind fun (ds, Γ) => (g2 Γ).bind fun (xs, Γ) => if E.f.mt then none else (E.f.run (E.pm (ds ++ xs))).map fun (r, _) => (r, Γ)) := by
  have core : ∀ {σ : L2.St} {H : Hp} {Q : VK} {Γ0 Γ Γ' : Ga} {Hf0 Hf H2 : Hp} {r : RV} {vs : List V} {ds : List D} {dvs : List V}, Rel X.K Hf0 H σ Γ0 → Rel X.K Hf H2 σ Γ → EStep σ Γ0 Hf0 H Γ Hf H2 →
      (∀ v H' Hf', Rel X.K Hf' H' σ Γ' → EStep σ Γ0 Hf0 H Γ' Hf' H' → RRel X.K H Hf' H' v r → Q v H') → (∀ H, Dqs X.K H dvs E.dfs) → Dqs X.K Hf vs ds →
      (if E.f.mt then none else (E.f.run (E.pm ds)).map fun (r, _) => (r, Γ)) = some (r, Γ') → spD X.K E.f (arr .non E.ar dvs vs) H2 Q E0 := by
    intro σ H Q Γ0 Γ Γ' Hf0 Hf H2 r vs ds dvs R0 R S k hd d e
    cases hm : E.f.mt with
    | true => rw [hm] at e; cases e
    | false =>
      rw [hm, if_neg Bool.false_ne_true] at e
      obtain ⟨⟨r', c'⟩, e1, e2⟩ := mapS' e
      cases e2
      exact spD_f hm R.sub e1 (dps_arr d (hd Hf) E.ar) (Post.fin R S k)
  by_cases hne : es = []
  · have g0 := h0 hne
    subst hne g0
    refine (pe_callE0 C hr hgd hg hdb hn hk hkw).imp fun σ H Q ⟨Γ, Hf, r, Γ', R, ef, k⟩ dvs hd => ?_
    obtain ⟨⟨ds, Γ1⟩, e1, ef⟩ := bindS ef
    cases e1
    obtain ⟨⟨xs, Γ2⟩, e2, ef⟩ := bindS ef
    refine ⟨Γ, Hf, xs, Γ2, R, e2, fun zs H2 Hf2 R2 S2 d2 => ⟨by rw [dps_len d2]; exact l2 _ _ _ e2, core R R2 S2 k hd (by simpa using d2) ef⟩⟩
  · refine (pe_callE C hr hgd hg hdb hn hk hu hne ha hkw).imp fun σ H Q ⟨Γ, Hf, r, Γ', R, ef, k⟩ dvs hd => ?_
    obtain ⟨⟨ds, Γ1⟩, e1, ef⟩ := bindS ef
    obtain ⟨⟨xs, Γ2⟩, e2, ef⟩ := bindS ef
    refine ⟨Γ, Hf, ds, Γ1, R, e1, fun vs H1 Hf1 R1 S1 d1 => ⟨Γ1, Hf1, xs, Γ2, R1, e2, fun zs H2 Hf2 R2 S2 d2 => ⟨by rw [dps_len d1]; exact l1 _ _ _ e1, by rw [dps_len d2]; exact l2 _ _ _ e2, ?_⟩⟩⟩
    exact core R R2 (S1.tr S2) k hd (dps_app (dpMs S2.ext d1) d2) ef
/-- what a slot's list is behind a call that changed it -/
theorem lent {K : PySem.W.Frag} {σ : L2.St} {Γ : Ga} {Hf H Hf' H' : Hp} {i : Nat} {b : Bool} {c c' : List D} {a : Addr} {ws' : List V} (R : Rel K Hf H σ Γ) (h1 : Γ[i]? = some (.ow b c)) (h2 : σ[i]? = some (some (.ref a)))
    (ext : Ext Hf Hf') (sub : Ext Hf' H') (keep : ∀ x o, x ≠ a → H x = some o → H' x = some o) (newf : ∀ x, Hf' x ≠ none → Hf x ≠ none ∨ H x = none) (ha : H' a = some (.lst ws')) (hf : Hf' a = none) (hd : Dqs K Hf' ws' c') :
    Rel K Hf' H' σ (Γ.set i (.ow b c')) ∧ EStep σ Γ Hf H (Γ.set i (.ow b c')) Hf' H' := by
  have hi : i < Γ.length := (List.getElem?_eq_some_iff.mp h1).1
  have mine : SO σ Γ H i b a := .inl ⟨c, h1, h2⟩
  have nf : ∀ {x : Addr} {o : HO}, Hf x = none → H x = some o → Hf' x = none := fun {x o} e2 e3 => by
    cases z : Hf' x with
    | none => rfl
    | some o =>
      rcases newf x (by rw [z]; simp) with w | w
      · exact absurd e2 w
      · rw [w] at e3; cases e3
  have other : ∀ {j : Nat} {q : Bool} {x : Addr}, j ≠ i → SO σ Γ H j q x → x ≠ a := fun {j q x} hj h z => hj (by subst z; exact R.inj j i q b x h mine)
  have ooH : ∀ {j : Nat} {rss : List (List D)} {x : Addr} {as : List Addr}, j ≠ i → Γ[j]? = some (.oo rss) → σ[j]? = some (some (.ref x)) → OO K Hf H x as rss → ∀ y ∈ x :: as, H' y = H y ∧ Hf' y = none := fun {j rss x as} hj e1 e2 o y hy => by
    obtain ⟨n, vs, e⟩ := o.mem y hy
    exact ⟨(keep y _ (other hj (.oo e1 e2 o hy)) e).trans e.symm, nf n e⟩
  have so : ∀ {j : Nat} {q : Bool} {x : Addr}, SO σ (Γ.set i (.ow b c')) H' j q x → SO σ Γ H j q x := fun {j q x} h => by
    rcases h with ⟨ds, e1, e2⟩ | ⟨rfl, rss, y, as, e1, e2, e3, e4⟩
    · rcases get_set e1 with ⟨rfl, e, _⟩ | ⟨hj, e⟩
      · cases e; exact .inl ⟨c, h1, e2⟩
      · exact .inl ⟨ds, e, e2⟩
    · rcases get_set e1 with ⟨rfl, e, _⟩ | ⟨hj, e⟩
      · cases e
      · obtain ⟨y', as', g, o⟩ := R.oo j rss e
        rw [e2] at g; cases g
        rw [(ooH hj e e2 o y (List.mem_cons_self ..)).1] at e3
        exact .inr ⟨rfl, rss, y, as, e, e2, e3, e4⟩
  have ownAt : ∀ q x, OwnAt σ (Γ.set i (.ow b c')) H' q x → OwnAt σ Γ H q x := fun q x ⟨j, h⟩ => ⟨j, so h⟩
  refine ⟨⟨by rw [List.length_set]; exact R.len, sub, fun j d e => ?_, fun j q ds e => ?_, fun j rss e => ?_, fun j j' q q' x h h' => R.inj j j' q q' x (so h) (so h')⟩,
    ⟨⟨ext, fun x o h n => keep x o (fun z => n b (by subst z; exact ⟨i, mine⟩)) h, fun x h z => ?_, fun x h => (newf x h).elim .inl fun z => .inr (.inl z), fun x h => .inl (ownAt _ _ h), fun x h => ownAt _ _ h, hid_set (fun _ z => nomatch z) fun _ _ => rfl⟩, fun x h => ownAt _ _ h, fun j rss x e g => ?_⟩⟩
  · rcases get_set e with ⟨rfl, e, _⟩ | ⟨hj, e⟩
    · cases e
    · obtain ⟨v, e1, e2⟩ := R.fz j d e
      exact ⟨v, e1, dpM ext e2⟩
  · rcases get_set e with ⟨rfl, e, _⟩ | ⟨hj, e⟩
    · cases e
      exact ⟨a, ws', h2, hf, ha, hd⟩
    · obtain ⟨x, ws, e1, e2, e3, e4⟩ := R.own j q ds e
      exact ⟨x, ws, e1, nf e2 e3, keep x _ (other hj (.inl ⟨ds, e, e1⟩)) e3, dpMs ext e4⟩
  · rcases get_set e with ⟨rfl, e, _⟩ | ⟨hj, e⟩
    · cases e
    · obtain ⟨x, as, e1, o⟩ := R.oo j rss e
      exact ⟨x, as, e1, o.mono ext (fun y hy => (ooH hj e e1 o y hy).2) fun y hy => (ooH hj e e1 o y hy).1⟩
  · by_cases hx : x = a
    · subst hx; rw [ha] at z; cases z
    · cases q : H x with
      | none => exact h q
      | some o => rw [keep x o hx q] at z; cases z
  · rcases get_set e with ⟨rfl, e, _⟩ | ⟨hj, e⟩
    · cases e
    · obtain ⟨y', as', e1, o⟩ := R.oo j rss e
      rw [g] at e1; cases e1
      exact ⟨e, g, (ooH hj e g o x (List.mem_cons_self ..)).1⟩
/-- what lies at an address that no slot owns may change -/
theorem Rel.beside {K : PySem.W.Frag} {σ : L2.St} {Γ : Ga} {Hf H Hf' H' : Hp} {a : Addr} (R : Rel K Hf H σ Γ) (no : ∀ q, ¬ OwnAt σ Γ H q a) (q1 : Ext Hf Hf') (q2 : Ext Hf' H') (q3 : ∀ x o, x ≠ a → H x = some o → H' x = some o) (q4 : ∀ x, Hf' x ≠ none → Hf x ≠ none ∨ H x = none) :
    Rel K Hf' H' σ Γ ∧ (∀ x, OwnAt σ Γ H false x → H' x = H x) ∧ ∀ q x, OwnAt σ Γ H' q x → OwnAt σ Γ H q x := by
  have nf : ∀ {x : Addr} {o : HO}, Hf x = none → H x = some o → Hf' x = none := fun {x o} e2 e3 => by
    cases z : Hf' x with
    | none => rfl
    | some o =>
      rcases q4 x (by rw [z]; simp) with w | w
      · exact absurd e2 w
      · rw [w] at e3; cases e3
  have ne : ∀ {q : Bool} {x : Addr}, OwnAt σ Γ H q x → x ≠ a := fun {q x} h z => no q (z ▸ h)
  have same : ∀ x, OwnAt σ Γ H false x → H' x = H x := fun x h => by
    obtain ⟨_, vs, e⟩ := R.there h
    exact (q3 x _ (ne h) e).trans e.symm
  refine ⟨⟨R.len, q2, fun i d h => let ⟨v, e1, e2⟩ := R.fz i d h; ⟨v, e1, dpM q1 e2⟩, fun i q ds h => ?_, fun i rss h => ?_, fun i j q q' b h h' => R.inj i j q q' b (h.heap R same) (h'.heap R same)⟩, same, fun q x h => h.heap R same⟩
  · obtain ⟨b, us, f1, f2, f3, f4⟩ := R.own i q ds h
    exact ⟨b, us, f1, nf f2 f3, q3 b _ (ne ⟨i, .inl ⟨ds, h, f1⟩⟩) f3, dpMs q1 f4⟩
  · obtain ⟨b, as, f1, o⟩ := R.oo i rss h
    exact ⟨b, as, f1, o.mono q1 (fun y hy => let ⟨n, vs, e⟩ := o.mem y hy; nf n e) fun y hy => same y ⟨i, .oo h f1 o hy⟩⟩
theorem spD_t {K : PySem.W.Frag} {f : FnD} {a : Addr} {vs ws : List V} {c ds c' : List D} {Hf H : Hp} {Q : VK} {r : RV} (hmt : f.mt = true) (sub : Ext Hf H) (e : f.run (.list c :: ds) = some (r, c'))
    (h1 : Hf a = none) (h2 : H a = some (.lst ws)) (h3 : Dqs K Hf ws c) (h4 : Dqs K Hf vs ds)
    (k : ∀ v H' Hf' ws', Ext Hf Hf' → Ext Hf' H' → (∀ b o, b ≠ a → H b = some o → H' b = some o) → (∀ b, Hf' b ≠ none → Hf b ≠ none ∨ H b = none) →
        H' a = some (.lst ws') → Hf' a = none → Dqs K Hf' ws' c' → RRel K H Hf' H' v r → Q v H') : spD K f (.ref a :: vs) H Q E0 := by
  refine ⟨Hf, _, r, c', sub, e, ?_⟩
  rw [hmt]
  exact ⟨a, vs, ws, c, ds, rfl, rfl, h1, h2, h3, h4, k⟩
theorem s_callm {x : Str} {px : Pos} {i : Nat} (C : FnAt X.prog X.w X.K X.mg X.base k E) (hr : Room (k + 40) X.A) (hgd : X.A.guards = some []) (hg : Gl X E.name) (hdb : (E.name == ("__debug__" : Str)) = false)
    (hN : X.N[i]? = some x) (hv : Vis X.env.scope x) (hd : (x == ("__debug__" : Str)) = false) (hcd : (x == ("__classdict__" : Str)) = false)
    (hn : es.length + 1 = E.np) (hk0 : E.kws = []) (har : E.ar = (List.range E.np).map Sum.inl) (hu : es.all unstar = true) (ha : PA X es (tAs X.K g1)) (l1 : ∀ Γ ds Γ', g1 Γ = some (ds, Γ') → ds.length = es.length) :
    PE X (.Call (.Name E.name p) (.Name x px :: es) [] pos) (tX X.K fun Γ => match Γ[i]? with
      | some (.ow _ _) => (g1 Γ).bind fun (ds, Γ) => match Γ[i]? with
        | some (.ow b c) => if E.f.mt then (E.f.run (.list c :: ds)).map fun (r, c') => (r, Γ.set i (.ow b c')) else none
        | _ => none
      | _ => none) := by
  have hA : PA X (.Name x px :: es) (tCons (tVar i) (tAs X.K g1)) := pa_cons (pe_var hN hv hd hcd) ha (star_cons rfl)
  refine (pe_callE (kws := []) C hr hgd hg hdb (by simpa using hn) (by rw [hk0]; rfl) (by simp only [List.all_cons, hu]; rfl) (by simp) hA pk_nil).imp fun σ H Q ⟨Γ, Hf, r, Γ', R, ef, k⟩ dvs hd => ?_
  simp only at ef
  split at ef
  · rename_i b0 c0 h0
    obtain ⟨⟨ds, Γ1⟩, e1, ef⟩ := bindS ef
    simp only at ef
    split at ef
    · rename_i b c h1
      cases hm : E.f.mt with
      | false => rw [hm, if_neg Bool.false_ne_true] at ef; cases ef
      | true =>
        rw [hm, if_pos rfl] at ef
        obtain ⟨⟨r', c'⟩, e2, e3⟩ := mapS' ef
        cases e3
        obtain ⟨a, vs0, s1, _, _, _⟩ := R.own i _ _ h0
        refine ⟨.ref a, s1, Γ, Hf, ds, Γ1, R, e1, fun vs H1 Hf1 R1 S1 d1 => ?_⟩
        obtain ⟨a', ws, s1', s2, s3, s4⟩ := R1.own i _ _ h1
        rw [s1] at s1'; cases s1'
        have hl : (V.ref a :: vs).length = E.np := by rw [List.length_cons, dps_len d1, l1 _ _ _ e1]; exact hn
        refine ⟨hl, by rw [hk0]; rfl, ?_⟩
        rw [List.append_nil, har, ← hl, arr_id]
        refine spD_t hm R1.sub e2 s2 s3 s4 d1 fun v H' Hf' ws' q1 q2 q3 q4 q5 q6 q7 q8 => ?_
        obtain ⟨R2, S2⟩ := lent R1 h1 s1 q1 q2 q3 q4 q5 q6 q7
        exact k v H' Hf' R2 (S1.tr S2) (q8.back S1.dead)
    · cases ef
  · cases ef
theorem s_callt (C : FnAt X.prog X.w X.K X.mg X.base k E) (hr : Room (k + 40) X.A) (hgd : X.A.guards = some []) (hg : Gl X E.name) (hdb : (E.name == ("__debug__" : Str)) = false)
    (hn : 1 = E.np) (hk0 : E.kws = []) (har : E.ar = (List.range E.np).map Sum.inl) (hu : unstar e = true) (ha : PE X e (tX X.K fa)) :
    PE X (.Call (.Name E.name p) [e] [] pos) (tX X.K fun Γ => (fa Γ).bind fun (x, Γ) => match x with
      | .ow c => if E.f.mt then (E.f.run [.list c]).map fun (r, _) => (r, Γ) else none
      | _ => none) := by
  have hA : PA X [e] (tCons (tX X.K fa) tNil) := pa_cons ha pa_nil (star_cons hu)
  refine (pe_callE (kws := []) (es := [e]) C hr hgd hg hdb hn (by rw [hk0]; rfl) (by simp [hu]) (by simp) hA pk_nil).imp fun σ H Q ⟨Γ, Hf, r, Γ', R, ef, k⟩ dvs hd => ?_
  obtain ⟨⟨rx, Γ1⟩, e1, ef⟩ := bindS ef
  refine ⟨Γ, Hf, rx, Γ1, R, e1, fun v H1 Hf1 R1 S1 d1 => ?_⟩
  cases rx with
  | fz d => cases ef
  | oo rss => cases ef
  | ow c =>
    cases hm : E.f.mt with
    | false => simp [hm] at ef
    | true =>
      simp only [hm, if_true] at ef
      obtain ⟨⟨r', c'⟩, e2, e3⟩ := mapS' ef
      cases e3
      obtain ⟨a, ws, rfl, s0, s1, s2, s3⟩ := d1
      refine ⟨hn, by rw [hk0]; rfl, ?_⟩
      rw [List.append_nil, har, ← hn, show (1 : Nat) = [V.ref a].length from rfl, arr_id]
      refine spD_t hm R1.sub e2 s1 s2 s3 .nil fun v H' Hf' ws' q1 q2 q3 q4 q5 q6 q7 q8 => ?_
      have nown : ∀ q, ¬ OwnAt σ Γ' H1 q a := fun q z => by
        cases q with
        | false => exact R.fresh s0 false (S1.shr a z)
        | true => exact R.fresh s0 true (S1.newb a z)
      obtain ⟨R2, same, back⟩ := R1.beside nown q1 q2 q3 q4
      have S2 : EStep σ Γ Hf H Γ' Hf' H' := by
        refine ⟨⟨S1.ext.tr q1, fun b o h n => q3 b o (fun z => by subst z; rw [s0] at h; cases h) (S1.keep b o h n), fun b h z => ?_, fun b h => ?_, fun b h => S1.newo b (back _ _ h), fun b h => S1.newb b (back _ _ h), S1.hid⟩, fun b h => S1.shr b (back _ _ h), fun i rss b h g => ?_⟩
        · by_cases hb : b = a
          · subst hb; exact h s0
          · cases w : H1 b with
            | none => exact S1.live b h w
            | some o => rw [q3 b o hb w] at z; cases z
        · rcases q4 b h with w | w
          · exact S1.newf b w
          · exact .inr (.inl (S1.dead b w))
        · obtain ⟨b', as, e1, o⟩ := R1.oo i rss h
          rw [g] at e1; cases e1
          obtain ⟨h1, g1, e1⟩ := S1.oos i rss b h g
          exact ⟨h1, g1, (same b ⟨i, .oo h g o (List.mem_cons_self ..)⟩).trans e1⟩
      exact k v H' Hf' R2 S2 (q8.back S1.dead)
end
end EvL

set_option Elab.async false
set_option linter.all false
set_option maxRecDepth 100000
set_option maxHeartbeats 4000000
namespace EvL
open PySem PySem.Spec PyProof.Rows L2

/-! ### what is walked -/
structure Wk (K : PySem.W.Frag) (J : It) (Hf : Hp) (xs : List D) : Prop where
  go : ∀ i H, Ext Hf H → i < xs.length → J.go i H
  stop : ∀ i H, Ext Hf H → xs.length ≤ i → J.stop i H
  yld : ∀ i H Hc x H' d, Ext Hf Hc → Ext Hc H → xs[i]? = some d → J.yld i H x H' → ∃ Hc', Grow Hc H Hc' H' ∧ Dq K Hc' x d
section
variable {K : PySem.W.Frag} {Hf : Hp}
theorem wk_list {a : Addr} {vs : List V} {xs : List D} (h : Rd Hf a (.lst vs)) (q : Dqs K Hf vs xs) : Wk K (Itl K a) Hf xs where
  go := fun i H s l => ⟨vs, vs[i]'(by rw [dps_len q]; exact l), .inl (s.rd h), List.getElem?_eq_getElem _⟩
  stop := fun i H s l => ⟨vs, .inl (s.rd h), by rw [dps_len q]; exact l⟩
  yld := fun i H Hc x H' d s1 s2 e ⟨e1, e2⟩ => by
    subst e1
    obtain ⟨v, g1, g2⟩ := dps_get q e
    have := e2 vs (.inl ((s1.tr s2).rd h))
    rw [g1] at this; cases this
    exact ⟨Hc, Grow.same s2, dpM s1 g2⟩
theorem wk_tup {a : Addr} {vs : List V} {xs : List D} (h : SqT K Hf a vs) (q : Dqs K Hf vs xs) : Wk K (Itt K a) Hf xs where
  go := fun i H s l => ⟨vs, vs[i]'(by rw [dps_len q]; exact l), s.st h, List.getElem?_eq_getElem _⟩
  stop := fun i H s l => ⟨vs, s.st h, by rw [dps_len q]; exact l⟩
  yld := fun i H Hc x H' d s1 s2 e ⟨e1, e2⟩ => by
    subst e1
    obtain ⟨v, g1, g2⟩ := dps_get q e
    have := e2 vs ((s1.tr s2).st h)
    rw [g1] at this; cases this
    exact ⟨Hc, Grow.same s2, dpM s1 g2⟩
theorem rngD_get {lo hi : Int} {i : Nat} {d : D} (e : (rngD lo hi)[i]? = some d) : d = .int (lo + i) := by
  unfold rngD at e
  rw [List.getElem?_map] at e
  cases h : (List.range (hi - lo).toNat)[i]? with
  | none => rw [h] at e; cases e
  | some j =>
    rw [h] at e; cases e
    have := List.getElem?_eq_some_iff.mp h
    obtain ⟨_, h2⟩ := this
    rw [List.getElem_range] at h2
    rw [h2]
theorem rngD_len (lo hi : Int) : (rngD lo hi).length = (hi - lo).toNat := by simp [rngD]
theorem wk_rng {lo hi : Int} : Wk K (Itr lo (hi - lo).toNat) Hf (rngD lo hi) where
  go := fun i H s l => by rw [rngD_len] at l; exact l
  stop := fun i H s l => by rw [rngD_len] at l; exact l
  yld := fun i H Hc x H' d s1 s2 e ⟨e1, e2⟩ => by
    subst e1 e2
    rw [rngD_get e]
    exact ⟨Hc, Grow.same s2, .int _⟩
theorem rng3_get {lo st : Int} {n i : Nat} {d : D} (e : ((List.range n).map fun (k : Nat) => PyData.int (lo + (k : Int) * st))[i]? = some d) : d = .int (lo + (i : Int) * st) := by
  rw [List.getElem?_map] at e
  cases h : (List.range n)[i]? with
  | none => rw [h] at e; cases e
  | some j =>
    rw [h] at e; cases e
    obtain ⟨_, h2⟩ := List.getElem?_eq_some_iff.mp h
    rw [List.getElem_range] at h2
    rw [h2]
theorem wk_rng3 {lo st : Int} {n : Nat} : Wk K (Itc lo st n) Hf ((List.range n).map fun (k : Nat) => PyData.int (lo + (k : Int) * st)) where
  go := fun i H s l => by show i < n; simpa using l
  stop := fun i H s l => by show n ≤ i; simpa using l
  yld := fun i H Hc x H' d s1 s2 e ⟨e1, e2⟩ => by
    subst e1 e2
    rw [rng3_get e]
    exact ⟨Hc, Grow.same s2, .int _⟩
theorem wk_rev {a : Addr} {vs : List V} {xs : List D} (h : Rd Hf a (.lst vs)) (q : Dqs K Hf vs xs) : Wk K (Itv K a vs.length) Hf xs.reverse where
  go := fun i H s l => by
    have l' : i < vs.length := by rw [dps_len q]; simpa using l
    exact ⟨l', vs, vs[vs.length - 1 - i]'(by omega), .inl (s.rd h), List.getElem?_eq_getElem _⟩
  stop := fun i H s l => by show vs.length ≤ i; rw [dps_len q]; simpa using l
  yld := fun i H Hc x H' d s1 s2 e ⟨e1, e2⟩ => by
    subst e1
    have l : i < xs.length := by simpa using (List.getElem?_eq_some_iff.mp e).1
    rw [List.getElem?_reverse l] at e
    obtain ⟨v, g1, g2⟩ := dps_get q e
    have := e2 vs (.inl ((s1.tr s2).rd h))
    rw [dps_len q] at this
    rw [g1] at this; cases this
    exact ⟨Hc, Grow.same s2, dpM s1 g2⟩
theorem wk_revT {a : Addr} {vs : List V} {xs : List D} (h : SqT K Hf a vs) (q : Dqs K Hf vs xs) : Wk K (RT.ItvT K a vs.length) Hf xs.reverse where
  go := fun i H s l => by
    have l' : i < vs.length := by rw [dps_len q]; simpa using l
    exact ⟨l', vs, vs[vs.length - 1 - i]'(by omega), s.st h, List.getElem?_eq_getElem _⟩
  stop := fun i H s l => by show vs.length ≤ i; rw [dps_len q]; simpa using l
  yld := fun i H Hc x H' d s1 s2 e ⟨e1, e2⟩ => by
    subst e1
    have l : i < xs.length := by simpa using (List.getElem?_eq_some_iff.mp e).1
    rw [List.getElem?_reverse l] at e
    obtain ⟨v, g1, g2⟩ := dps_get q e
    have := e2 vs ((s1.tr s2).st h)
    rw [dps_len q] at this
    rw [g1] at this; cases this
    exact ⟨Hc, Grow.same s2, dpM s1 g2⟩
end
def tI (K : PySem.W.Frag) (k : IK) (g : FA) : TI := fun σ H R => ∃ Γ Hf ds Γ' xs, Rel K Hf H σ Γ ∧ g Γ = some (ds, Γ') ∧ itD k ds = some xs ∧
  ∀ J H' Hf', Rel K Hf' H' σ Γ' → EStep σ Γ Hf H Γ' Hf' H' → Wk K J Hf' xs → R J H'
theorem nl {α : Type} {xs : List α} {P : Prop} (e : (none : Option (List α)) = some xs) : P := nomatch e
section
variable {X : Cx} {tg e e2 e3 : Expr} {fa : FX} {p pos : Pos} {g : FA}
/-- one argument's value, as a list of one -/
theorem i_seq (ha : PE X e (tX X.K fa)) : PI X tg e (tI X.K .seq fun Γ => (fa Γ).bind fun (x, Γ) => some ([x.d], Γ)) :=
  ⟨fun pins s σ H R I ⟨Γ, Hf, ds, Γ', xs, R0, eg, ei, k⟩ => by
    obtain ⟨⟨rx, Γ1⟩, e1, eg⟩ := bindS eg
    cases eg
    have e0 : seqD rx.d = some xs := ei
    cases hd : rx.d with
    | list ys =>
      rw [hd] at e0; cases e0
      exact (pi_list (pe_fast ha)).run pins s σ H R I ⟨Γ, Hf, rx, _, R0, e1, fun v H1 Hf1 R1 S1 d1 => by
        rw [hd] at d1
        cases d1 with
        | lst h q => exact ⟨_, rfl, ⟨_, .inl (R1.sub.rd h)⟩, k _ _ Hf1 R1 S1 (wk_list h q)⟩⟩
    | tuple ys =>
      rw [hd] at e0; cases e0
      exact (pi_tup (pe_fast ha)).run pins s σ H R I ⟨Γ, Hf, rx, _, R0, e1, fun v H1 Hf1 R1 S1 d1 => by
        rw [hd] at d1
        cases d1 with
        | tup h q => exact ⟨_, rfl, ⟨_, R1.sub.st h⟩, k _ _ Hf1 R1 S1 (wk_tup h q)⟩⟩
    | _ => rw [hd] at e0; exact nl e0⟩
theorem smallI_62 {j : Int} (h : smallI j = true) : -(2 ^ 62) ≤ j ∧ j < 2 ^ 62 := by
  simp only [smallI, Bool.and_eq_true, decide_eq_true_eq] at h
  omega
theorem i_rng1 (hg : Gl X "range") (hm : X.mg "range" = none) (ha : PA X [e] (tAs X.K g)) (hu : unstar e = true) : PI X tg (.Call (.Name "range" p) [e] [] pos) (tI X.K .rng1 g) :=
  ⟨fun pins s σ H R I ⟨Γ, Hf, ds, Γ', xs, R0, eg, ei, k⟩ => by
    refine (pi_range1 hg hm ha (star_cons hu)).run pins s σ H R I ⟨Γ, Hf, ds, Γ', R0, eg, fun vs H1 Hf1 R1 S1 d1 => ?_⟩
    unfold itD at ei
    split at ei
    all_goals (try (cases ‹IK.rng1 = _›))
    · rename_i j
      split at ei
      · rename_i hj
        cases ei
        obtain ⟨x, rfl, hx⟩ := ds1 d1
        cases hx
        obtain ⟨q1, q2⟩ := smallI_62 hj
        refine ⟨j, rfl, q1, q2, k _ _ Hf1 R1 S1 ?_⟩
        have := wk_rng (K := X.K) (Hf := Hf1) (lo := 0) (hi := j)
        rwa [Int.sub_zero] at this
      · exact nl ei
    · exact nl ei⟩
theorem ifL {c : Prop} [Decidable c] {a r : List D} (e : (if c then some a else none) = some r) : c ∧ a = r := by
  split at e
  · cases e; exact ⟨by assumption, rfl⟩
  · cases e
theorem it_ints {k : IK} {n : Nat} {ds xs : List D} (hk : (k = .rng1 ∧ n = 1) ∨ (k = .rng2 ∧ n = 2) ∨ (k = .rng3 ∧ n = 3)) (e : itD k ds = some xs) : ∃ ns : List Int, ds = ns.map PyData.int ∧ ns.length = n := by
  rcases hk with ⟨rfl, rfl⟩ | ⟨rfl, rfl⟩ | ⟨rfl, rfl⟩
  · cases ds with
    | nil => exact nl e
    | cons d ds => cases ds with
      | nil => cases d <;> first | exact ⟨[_], rfl, rfl⟩ | exact nl e
      | cons => cases d <;> exact nl e
  · cases ds with
    | nil => exact nl e
    | cons d ds => cases ds with
      | nil => cases d <;> exact nl e
      | cons d2 ds => cases ds with
        | nil => cases d <;> cases d2 <;> first | exact ⟨[_, _], rfl, rfl⟩ | exact nl e
        | cons => cases d <;> first | exact nl e | (cases d2 <;> exact nl e)
  · cases ds with
    | nil => exact nl e
    | cons d ds => cases ds with
      | nil => cases d <;> exact nl e
      | cons d2 ds => cases ds with
        | nil => cases d <;> first | exact nl e | (cases d2 <;> exact nl e)
        | cons d3 ds => cases ds with
          | nil => cases d <;> cases d2 <;> cases d3 <;> first | exact ⟨[_, _, _], rfl, rfl⟩ | exact nl e
          | cons => cases d <;> first | exact nl e | (cases d2 <;> first | exact nl e | (cases d3 <;> exact nl e))
theorem i_rng2 (hg : Gl X "range") (hm : X.mg "range" = none) (ha : PA X [e, e2] (tAs X.K g)) (hu : unstar e = true) (hu2 : unstar e2 = true) : PI X tg (.Call (.Name "range" p) [e, e2] [] pos) (tI X.K .rng2 g) :=
  ⟨fun pins s σ H R I ⟨Γ, Hf, ds, Γ', xs, R0, eg, ei, k⟩ => by
    have s2 : starEach [e2] X.env = [(false, eval e2 X.env)] := star_cons hu2
    refine (pi_range2 hg hm ha (by rw [star_cons hu, s2]) s2).run pins s σ H R I ⟨Γ, Hf, ds, Γ', R0, eg, fun vs H1 Hf1 R1 S1 d1 => ?_⟩
    obtain ⟨ns, rfl, hl⟩ := it_ints (.inr (.inl ⟨rfl, rfl⟩)) ei
    match ns, hl with
    | [i, j], _ =>
      obtain ⟨hj, rfl⟩ := ifL ei
      obtain ⟨x, y, rfl, hx, hy⟩ := ds2 d1
      cases hx; cases hy
      obtain ⟨h1, h2⟩ := Bool.and_eq_true_iff.mp hj
      obtain ⟨q1, q2⟩ := smallI_62 h1
      obtain ⟨q3, q4⟩ := smallI_62 h2
      exact ⟨i, j, rfl, ⟨q1, q2, q3, q4⟩, k _ _ Hf1 R1 S1 wk_rng⟩⟩
theorem i_rng3 (hg : Gl X "range") (hm : X.mg "range" = none) (ha : PA X [e, e2, e3] (tAs X.K g)) (hu : unstar e = true) (hu2 : [e2, e3].all unstar = true) : PI X tg (.Call (.Name "range" p) [e, e2, e3] [] pos) (tI X.K .rng3 g) :=
  ⟨fun pins s σ H R I ⟨Γ, Hf, ds, Γ', xs, R0, eg, ei, k⟩ => by
    refine (pi_range3 hg hm ha (star_cons hu) (star_plain hu2)).run pins s σ H R I ⟨Γ, Hf, ds, Γ', R0, eg, fun vs H1 Hf1 R1 S1 d1 => ?_⟩
    obtain ⟨ns, rfl, hl⟩ := it_ints (.inr (.inr ⟨rfl, rfl⟩)) ei
    match ns, hl with
    | [i, j, st], _ =>
      obtain ⟨hj, rfl⟩ := ifL ei
      cases d1 with
      | cons hx d1 =>
        obtain ⟨y, z, rfl, hy, hz⟩ := ds2 d1
        cases hx; cases hy; cases hz
        simp only [Bool.and_eq_true, decide_eq_true_eq] at hj
        obtain ⟨⟨⟨⟨h1, h2⟩, h3⟩, h4⟩, h5⟩ := hj
        have h6 : 0 ≤ Builtin.Range.rangeSize i j st := by
          unfold Builtin.Range.rangeSize
          split
          · split
            · have : 0 ≤ (j - i - 1) / st := Int.ediv_nonneg (by omega) (by omega)
              omega
            · omega
          · split
            · have : 0 ≤ (i - j - 1) / (-st) := Int.ediv_nonneg (by omega) (by omega)
              omega
            · omega
        refine ⟨i, j, st, (Builtin.Range.rangeSize i j st).toNat, rfl, ⟨h4, ?_, h5, (Int.toNat_of_nonneg h6).symm⟩, k _ _ Hf1 R1 S1 wk_rng3⟩
        simp only [smallI, Bool.and_eq_true, decide_eq_true_eq] at h3
        omega⟩
theorem i_rev (hg : Gl X "reversed") (hm : X.mg "reversed" = none) (ha : PE X e (tX X.K fa)) (hu : unstar e = true) : PI X tg (.Call (.Name "reversed" p) [e] [] pos) (tI X.K .rev fun Γ => (fa Γ).bind fun (x, Γ) => some ([x.d], Γ)) :=
  ⟨fun pins s σ H R I ⟨Γ, Hf, ds, Γ', xs, R0, eg, ei, k⟩ => by
    obtain ⟨⟨rx, Γ1⟩, e1, eg⟩ := bindS eg
    cases eg
    have e0 : (seqD rx.d).map (fun xs => xs.reverse) = some xs := ei
    refine (RT.pi_revA hg hm (pe_fast ha) (star_cons hu)).run pins s σ H R I ⟨Γ, Hf, rx, _, R0, e1, fun v H1 Hf1 R1 S1 d1 => ?_⟩
    cases hd : rx.d with
    | list ys =>
      rw [hd] at e0 d1; cases e0
      cases d1 with
      | lst h q => exact ⟨_, _, rfl, .inl ⟨.inl (R1.sub.rd h), k _ _ Hf1 R1 S1 (wk_rev h q)⟩⟩
    | tuple ys =>
      rw [hd] at e0 d1; cases e0
      cases d1 with
      | tup h q => exact ⟨_, _, rfl, .inr ⟨R1.sub.st h, k _ _ Hf1 R1 S1 (wk_revT h q)⟩⟩
    | _ => rw [hd] at e0; exact nl e0⟩
end
end EvL

set_option Elab.async false
set_option linter.all false
set_option maxRecDepth 100000
set_option maxHeartbeats 4000000
namespace EvL
open PySem PySem.Spec PyProof.Rows L2

/-! ### targets -/
/-- as EStep, the slots may turn -/
structure XStep (σ : L2.St) (Γ : Ga) (Hf H : Hp) (σ' : L2.St) (Γ' : Ga) (Hf' H' : Hp) : Prop extends Step σ Γ Hf H σ' Γ' Hf' H' where
  shr : ∀ b, OwnAt σ' Γ' H' false b → OwnAt σ Γ H false b
  oos : ∀ (i : Nat) (rss : List (List D)) (a : Addr), Γ'[i]? = some (.oo rss) → σ'[i]? = some (some (.ref a)) → Γ[i]? = some (.oo rss) ∧ σ[i]? = some (some (.ref a)) ∧ H' a = H a
section
variable {K : PySem.W.Frag} {σ σ1 σ2 : L2.St} {Γ Γ1 Γ2 : Ga} {Hf H Hf1 H1 Hf2 H2 : Hp}
theorem XStep.rfl' : XStep σ Γ Hf H σ Γ Hf H := ⟨.rfl', fun _ h => h, fun _ _ _ h g => ⟨h, g, rfl⟩⟩
theorem XStep.tr (a : XStep σ Γ Hf H σ1 Γ1 Hf1 H1) (b : XStep σ1 Γ1 Hf1 H1 σ2 Γ2 Hf2 H2) : XStep σ Γ Hf H σ2 Γ2 Hf2 H2 := ⟨a.toStep.tr b.toStep, fun x h => a.shr x (b.shr x h),
  fun i rss x h g => let ⟨h1, g1, e1⟩ := b.oos i rss x h g; let ⟨h2, g2, e2⟩ := a.oos i rss x h1 g1; ⟨h2, g2, e1.trans e2⟩⟩
theorem EStep.x (a : EStep σ Γ Hf H Γ1 Hf1 H1) : XStep σ Γ Hf H σ Γ1 Hf1 H1 := ⟨a.toStep, a.shr, a.oos⟩
theorem XStep.e (a : XStep σ Γ Hf H σ Γ1 Hf1 H1) : EStep σ Γ Hf H Γ1 Hf1 H1 := ⟨a.toStep, a.shr, a.oos⟩
/-- slots set, nothing owned there behind -/
theorem so_put {i j : Nat} {v : V} {m : MV} {q : Bool} {b : Addr} (hm : NoOwn m) (h : SO (σ.set i (some v)) (Γ.set i m) H j q b) : j ≠ i ∧ SO σ Γ H j q b := by
  have sne : ∀ {j : Nat}, j ≠ i → (σ.set i (some v))[j]? = σ[j]? := fun {j} hj => by rw [List.getElem?_set, if_neg (fun z => hj z.symm)]
  rcases h with ⟨ds, h1, h2⟩ | ⟨rfl, rss, a, as, h1, h2, h3, h4⟩
  · rcases get_set h1 with ⟨_, e, _⟩ | ⟨hj, e⟩
    · subst e; exact hm.elim
    · rw [sne hj] at h2; exact ⟨hj, .inl ⟨ds, e, h2⟩⟩
  · rcases get_set h1 with ⟨_, e, _⟩ | ⟨hj, e⟩
    · subst e; exact hm.elim
    · rw [sne hj] at h2; exact ⟨hj, .inr ⟨rfl, rss, a, as, e, h2, h3, h4⟩⟩
/-- a value stored -/
theorem Rel.put {i : Nat} {v : V} {d : D} (R : Rel K Hf H σ Γ) (h : Dq K Hf v d) (hi : i < Γ.length) : Rel K Hf H (σ.set i (some v)) (Γ.set i (.fz d)) ∧ XStep σ Γ Hf H (σ.set i (some v)) (Γ.set i (.fz d)) Hf H := by
  have hs : i < σ.length := by rw [← R.len]; exact hi
  have sne : ∀ {j : Nat}, j ≠ i → (σ.set i (some v))[j]? = σ[j]? := fun {j} hj => by rw [List.getElem?_set, if_neg (fun z => hj z.symm)]
  have nm : NoOwn (.fz d) := trivial
  have ownAt : ∀ q x, OwnAt (σ.set i (some v)) (Γ.set i (.fz d)) H q x → OwnAt σ Γ H q x := fun q x ⟨j, h⟩ => ⟨j, (so_put nm h).2⟩
  refine ⟨⟨by simp [R.len], R.sub, fun j d' e => ?_, fun j q ds e => ?_, fun j rss e => ?_, fun j j' q q' b h h' => R.inj j j' q q' b (so_put nm h).2 (so_put nm h').2⟩,
    ⟨⟨Ext.rfl', fun _ _ h _ => h, fun _ h => h, fun _ h => .inl h, fun b h => .inl (ownAt _ _ h), fun b h => ownAt _ _ h, hid_set (fun _ z => nomatch z) fun j hj => sne hj⟩, fun b h => ownAt _ _ h, fun j rss a e g => ?_⟩⟩
  · rcases get_set e with ⟨rfl, e, _⟩ | ⟨hj, e⟩
    · cases e
      exact ⟨v, by rw [List.getElem?_set, if_pos rfl, if_pos hs], h⟩
    · rw [sne hj]
      exact R.fz j d' e
  · rcases get_set e with ⟨rfl, e, _⟩ | ⟨hj, e⟩
    · cases e
    · rw [sne hj]
      exact R.own j q ds e
  · rcases get_set e with ⟨rfl, e, _⟩ | ⟨hj, e⟩
    · cases e
    · rw [sne hj]
      exact R.oo j rss e
  · rcases get_set e with ⟨rfl, e, _⟩ | ⟨hj, e⟩
    · cases e
    · rw [sne hj] at g
      exact ⟨e, g, rfl⟩
end
mutual
def tgIx : Tg → List Nat
  | .nm i => [i]
  | .tp ts => tgsIx ts
def tgsIx : List Tg → List Nat
  | [] => []
  | t :: ts => tgIx t ++ tgsIx ts
end
def tG (K : PySem.W.Frag) (t : Tg) : TG := fun v σ H Q => ∃ Γ Hf d Γ', Rel K Hf H σ Γ ∧ Dq K Hf v d ∧ asg t d Γ = some Γ' ∧
  ∀ σ', Rel K Hf H σ' Γ' → XStep σ Γ Hf H σ' Γ' Hf H → (∀ j, j ∉ tgIx t → σ'[j]? = σ[j]?) → σ'.length = σ.length → Q σ' H
def tGs (K : PySem.W.Frag) (ts : List Tg) : TGs := fun vs σ H Q => ∃ Γ Hf ds Γ', Rel K Hf H σ Γ ∧ Dqs K Hf vs ds ∧ asgs ts ds Γ = some Γ' ∧
  ∀ σ', Rel K Hf H σ' Γ' → XStep σ Γ Hf H σ' Γ' Hf H → (∀ j, j ∉ tgsIx ts → σ'[j]? = σ[j]?) → σ'.length = σ.length → Q σ' H
theorem ng {Γ : Ga} {P : Prop} (e : (none : Option Ga) = some Γ) : P := nomatch e
section
variable {X : Cx} {e : Expr} {es : List Expr} {pos : Pos}
theorem PG_imp {t t' : TG} (h : PG X e t) (k : ∀ v σ H Q, t' v σ H Q → t v σ H Q) : PG X e t' := ⟨fun pins s σ H v u Q I r q => h.run pins s σ H v u Q I r (k v σ H Q q)⟩
theorem PGs_imp {t t' : TGs} (h : PGs X es t) (k : ∀ vs σ H Q, t' vs σ H Q → t vs σ H Q) : PGs X es t' := ⟨fun pins s σ H vs us Q I r q => h.run pins s σ H vs us Q I r (k vs σ H Q q)⟩
theorem g_nm {i : Nat} {x : Str} (hN : X.N.Nodup) (hi : X.N[i]? = some x) (hx : Loc X.env.scope x) (hf : X.fn x = true ∨ X.env.scope.names.lookup x = some .local) : PG X (.Name x pos) (tG X.K (.nm i)) :=
  PG_imp (pg_name hN hi hx hf) fun v σ H Q ⟨Γ, Hf, d, Γ', R, h, e, k⟩ => by
    unfold asg at e
    split at e
    · rename_i hl
      cases e
      obtain ⟨R', S'⟩ := R.put h hl
      refine k _ R' S' (fun j hj => ?_) (by simp)
      have : i ≠ j := fun z => hj (by subst z; simp [tgIx])
      rw [List.getElem?_set, if_neg this]
    · exact ng e
theorem g_nil : PGs X [] (tGs X.K []) := PGs_imp pgs_nil fun vs σ H Q ⟨Γ, Hf, ds, Γ', R, h, e, k⟩ => by
  cases ds with
  | nil =>
    cases h
    cases (show some Γ = some Γ' from e)
    exact ⟨rfl, k σ R .rfl' (fun _ _ => rfl) rfl⟩
  | cons => exact ng e
theorem asg_cons {env : Env} (h : unstar e = true) : assignEach (e :: es) env = (false, assign e env) :: assignEach es env := by
  cases e <;> first | rfl | (cases h; done)
theorem asg_len {env : Env} : ∀ {es : List Expr}, es.all unstar = true → (assignEach es env).length = es.length ∧ (assignEach es env).findIdx? (·.1) = none
  | [], _ => ⟨rfl, rfl⟩
  | e :: es, h => by
    simp only [List.all_cons, Bool.and_eq_true] at h
    obtain ⟨a, b⟩ := asg_len (env := env) h.2
    rw [asg_cons h.1]
    exact ⟨by simp [a], by rw [List.findIdx?_cons]; simp [b]⟩
theorem g_cons {t : Tg} {ts : List Tg} (h1 : PG X e (tG X.K t)) (h2 : PGs X es (tGs X.K ts)) (hu : unstar e = true) : PGs X (e :: es) (tGs X.K (t :: ts)) :=
  PGs_imp (pgs_cons h1 h2 (by rw [asg_cons hu]; rfl)) fun vs σ H Q ⟨Γ, Hf, ds, Γ', R, h, e, k⟩ => by
    cases ds with
    | nil => exact ng e
    | cons d ds =>
      cases h with
      | cons hv hs =>
        obtain ⟨Γ1, e1, e2⟩ := bindS (show (asg t d Γ).bind (fun Γ => asgs ts ds Γ) = some Γ' from e)
        refine ⟨_, _, rfl, Γ, Hf, d, Γ1, R, hv, e1, fun σ' R' S' f' l' => ⟨Γ1, Hf, ds, Γ', R', hs, e2, fun σ2 R2 S2 f2 l2 => k σ2 R2 (S'.tr S2) (fun j hj => ?_) (l2.trans l')⟩⟩
        rw [tgsIx, List.mem_append, not_or] at hj
        rw [f2 j hj.2, f' j hj.1]
theorem asgs_len : ∀ {ts : List Tg} {ds : List D} {Γ Γ' : Ga}, asgs ts ds Γ = some Γ' → ds.length = ts.length
  | [], [], _, _, _ => rfl
  | [], _ :: _, _, _, e => ng e
  | _ :: _, [], _, _, e => ng e
  | t :: ts, d :: ds, Γ, Γ', e => by
    obtain ⟨Γ1, _, e2⟩ := bindS (show (asg t d Γ).bind (fun Γ => asgs ts ds Γ) = some Γ' from e)
    simp [asgs_len e2]
theorem g_tp {k : Nat} {ts : List Tg} (hc : X.calm = true) (hl : es.length = ts.length) (hu : es.all unstar = true) (h : PGs X es (tGs X.K ts)) : PG X (.Tuple es k pos) (tG X.K (.tp ts)) :=
  ⟨fun pins s σ H v u Q I r ⟨Γ, Hf, d, Γ', R, hv, e, kk⟩ => by
    cases hv with
    | tup hs hq =>
      have e : asgs ts _ Γ = some Γ' := e
      exact (pg_tup hc h (asg_len hu).1 (asg_len hu).2).run pins s σ H _ u Q I r ⟨_, _, rfl, R.sub.st hs, by rw [dps_len hq, asgs_len e, hl], Γ, Hf, _, Γ', R, hq, e, kk⟩
    | lst hs hq =>
      have e : asgs ts _ Γ = some Γ' := e
      exact (pg_lst hc h (asg_len hu).1 (asg_len hu).2).run pins s σ H _ u Q I r ⟨_, _, rfl, .inl (R.sub.rd hs), by rw [dps_len hq, asgs_len e, hl], Γ, Hf, _, Γ', R, hq, e, kk⟩
    | _ => exact ng e⟩
end
end EvL

set_option Elab.async false
set_option linter.all false
set_option maxRecDepth 100000
set_option maxHeartbeats 4000000
namespace EvL
open PySem PySem.Spec PyProof.Rows L2

/-! ### comprehensions -/
theorem wipe_at {σ : L2.St} {i : Nat} : ∀ {vs : List Nat}, i ∈ vs → i < σ.length → (wipe σ vs)[i]? = some none
  | [], h, _ => by cases h
  | v :: vs, h, hl => by
    unfold wipe
    by_cases hv : v = i
    · subst hv
      rw [List.getElem?_set, if_pos rfl, if_pos (by rw [wipe_length]; exact hl)]
    · rw [List.getElem?_set, if_neg hv]
      exact wipe_at ((List.mem_cons.mp h).resolve_left fun z => hv z.symm) hl
theorem wipeG_len (Γ : Ga) : ∀ vs : List Nat, (wipeG Γ vs).length = Γ.length
  | [] => rfl
  | v :: vs => by unfold wipeG; rw [List.length_set, wipeG_len Γ vs]
theorem wipeG_out {Γ : Ga} {i : Nat} : ∀ {vs : List Nat}, i ∉ vs → (wipeG Γ vs)[i]? = Γ[i]?
  | [], _ => rfl
  | v :: vs, h => by
    rw [List.mem_cons, not_or] at h
    unfold wipeG
    rw [List.getElem?_set, if_neg (fun z => h.1 z.symm)]
    exact wipeG_out h.2
theorem wipeG_at {Γ : Ga} {i : Nat} {m : MV} : ∀ {vs : List Nat}, i ∈ vs → (wipeG Γ vs)[i]? = some m → m = .un
  | [], h, _ => by cases h
  | v :: vs, h, e => by
    unfold wipeG at e
    by_cases hv : v = i
    · subst hv
      rw [List.getElem?_set, if_pos rfl] at e
      split at e
      · cases e; rfl
      · cases e
    · rw [List.getElem?_set, if_neg hv] at e
      exact wipeG_at ((List.mem_cons.mp h).resolve_left fun z => hv z.symm) e
theorem backG_len (Γ0 Γ : Ga) : ∀ vs : List Nat, (backG Γ0 Γ vs).length = Γ.length
  | [] => rfl
  | v :: vs => by unfold backG; rw [List.length_set, backG_len Γ0 Γ vs]
theorem backG_out {Γ0 Γ : Ga} {i : Nat} : ∀ {vs : List Nat}, i ∉ vs → (backG Γ0 Γ vs)[i]? = Γ[i]?
  | [], _ => rfl
  | v :: vs, h => by
    rw [List.mem_cons, not_or] at h
    unfold backG
    rw [List.getElem?_set, if_neg (fun z => h.1 z.symm)]
    exact backG_out h.2
theorem backG_at {Γ0 Γ : Ga} {i : Nat} {m : MV} : ∀ {vs : List Nat}, i ∈ vs → (backG Γ0 Γ vs)[i]? = some m → m = .un ∨ ∃ d, m = .fz d ∧ Γ0[i]? = some (.fz d)
  | [], h, _ => by cases h
  | v :: vs, h, e => by
    unfold backG at e
    by_cases hv : v = i
    · subst hv
      rw [List.getElem?_set, if_pos rfl] at e
      split at e
      · have e := Option.some.inj e
        subst e
        split
        · rename_i d h0; exact .inr ⟨d, rfl, h0⟩
        · exact .inl rfl
      · cases e
    · rw [List.getElem?_set, if_neg hv] at e
      exact backG_at ((List.mem_cons.mp h).resolve_left fun z => hv z.symm) e
section
variable {K : PySem.W.Frag} {σ σ' : L2.St} {Γ Γ1 Γ5 : Ga} {Hf H Hf1 H1 : Hp} {vs : List Nat}
theorem so_wipe {i : Nat} {q : Bool} {b : Addr} (h : SO (wipe σ vs) (wipeG Γ vs) H i q b) : i ∉ vs ∧ SO σ Γ H i q b := by
  by_cases hi : i ∈ vs
  · rcases h with ⟨ds, h1, h2⟩ | ⟨rfl, rss, a, as, h1, h2, h3, h4⟩
    · cases wipeG_at hi h1
    · cases wipeG_at hi h1
  · refine ⟨hi, ?_⟩
    unfold SO at h
    rw [wipeG_out hi, wipe_out hi] at h
    exact h
theorem own_wipe {q : Bool} {b : Addr} (h : OwnAt (wipe σ vs) (wipeG Γ vs) H q b) : OwnAt σ Γ H q b := let ⟨i, h⟩ := h; ⟨i, (so_wipe h).2⟩
theorem Rel.wipe (R : Rel K Hf H σ Γ) : Rel K Hf H (wipe σ vs) (wipeG Γ vs) where
  len := by rw [wipeG_len, wipe_length]; exact R.len
  sub := R.sub
  fz := fun i d h => by
    by_cases hi : i ∈ vs
    · cases wipeG_at hi h
    · rw [wipeG_out hi] at h
      rw [wipe_out hi]
      exact R.fz i d h
  own := fun i q ds h => by
    by_cases hi : i ∈ vs
    · cases wipeG_at hi h
    · rw [wipeG_out hi] at h
      rw [wipe_out hi]
      exact R.own i q ds h
  oo := fun i rss h => by
    by_cases hi : i ∈ vs
    · cases wipeG_at hi h
    · rw [wipeG_out hi] at h
      rw [wipe_out hi]
      exact R.oo i rss h
  inj := fun i j q q' b h h' => R.inj i j q q' b (so_wipe h).2 (so_wipe h').2
theorem xwipe : XStep σ Γ Hf H (L2.wipe σ vs) (wipeG Γ vs) Hf H :=
  ⟨⟨Ext.rfl', fun _ _ h _ => h, fun _ h => h, fun _ h => .inl h, fun b h => .inl (own_wipe h), fun b h => own_wipe h, fun i ds h => by
    by_cases hi : i ∈ vs
    · cases wipeG_at hi h
    · rw [wipeG_out hi] at h
      exact ⟨h, wipe_out hi⟩⟩, fun b h => own_wipe h, fun i rss a h g => by
    by_cases hi : i ∈ vs
    · cases wipeG_at hi h
    · rw [wipeG_out hi] at h
      rw [wipe_out hi] at g
      exact ⟨h, g, rfl⟩⟩
/-- behind the loop: σ again -/
theorem so_back {i : Nat} {q : Bool} {b : Addr} (h : SO σ (backG Γ1 Γ5 vs) H i q b) : i ∉ vs ∧ SO (L2.wipe σ vs) (wipeG Γ5 vs) H i q b := by
  by_cases hi : i ∈ vs
  · rcases h with ⟨ds, h1, h2⟩ | ⟨rfl, rss, a, as, h1, h2, h3, h4⟩
    · rcases backG_at hi h1 with z | ⟨d', z, h0⟩ <;> cases z
    · rcases backG_at hi h1 with z | ⟨d', z, h0⟩ <;> cases z
  · refine ⟨hi, ?_⟩
    unfold SO at h ⊢
    rw [wipeG_out hi, wipe_out hi]
    rw [backG_out hi] at h
    exact h
theorem Rel.back (R1 : Rel K Hf1 H1 σ Γ1) (R : Rel K Hf H (L2.wipe σ vs) (wipeG Γ5 vs)) (ext : Ext Hf1 Hf) : Rel K Hf H σ (backG Γ1 Γ5 vs) where
  len := by rw [backG_len]; have := R.len; rw [wipeG_len, wipe_length] at this; exact this
  sub := R.sub
  fz := fun i d h => by
    by_cases hi : i ∈ vs
    · rcases backG_at hi h with z | ⟨d', z, h0⟩
      · cases z
      · cases z
        obtain ⟨v, e1, e2⟩ := R1.fz i d h0
        exact ⟨v, e1, dpM ext e2⟩
    · rw [backG_out hi] at h
      have := R.fz i d (by rw [wipeG_out hi]; exact h)
      rwa [wipe_out hi] at this
  own := fun i q ds h => by
    by_cases hi : i ∈ vs
    · rcases backG_at hi h with z | ⟨d', z, h0⟩ <;> cases z
    · rw [backG_out hi] at h
      have := R.own i q ds (by rw [wipeG_out hi]; exact h)
      rwa [wipe_out hi] at this
  oo := fun i rss h => by
    by_cases hi : i ∈ vs
    · rcases backG_at hi h with z | ⟨d', z, h0⟩ <;> cases z
    · rw [backG_out hi] at h
      have := R.oo i rss (by rw [wipeG_out hi]; exact h)
      rwa [wipe_out hi] at this
  inj := fun i j q q' b h h' => R.inj i j q q' b (so_back h).2 (so_back h').2
theorem own_back {q : Bool} {b : Addr} (h : OwnAt σ (backG Γ1 Γ5 vs) H q b) : OwnAt (L2.wipe σ vs) (wipeG Γ5 vs) H q b := let ⟨i, h⟩ := h; ⟨i, (so_back h).2⟩
theorem xback : XStep (L2.wipe σ vs) (wipeG Γ5 vs) Hf H σ (backG Γ1 Γ5 vs) Hf H :=
  ⟨⟨Ext.rfl', fun _ _ h _ => h, fun _ h => h, fun _ h => .inl h, fun b h => .inl (own_back h), fun b h => own_back h, fun i ds h => by
    by_cases hi : i ∈ vs
    · rcases backG_at hi h with z | ⟨d', z, h0⟩ <;> cases z
    · rw [backG_out hi] at h
      exact ⟨by rw [wipeG_out hi]; exact h, (wipe_out hi).symm⟩⟩, fun b h => own_back h, fun i rss a h g => by
    by_cases hi : i ∈ vs
    · rcases backG_at hi h with z | ⟨d', z, h0⟩ <;> cases z
    · rw [backG_out hi] at h
      exact ⟨by rw [wipeG_out hi]; exact h, by rw [wipe_out hi]; exact g, rfl⟩⟩
end
end EvL

set_option Elab.async false
set_option linter.all false
set_option maxRecDepth 100000
set_option maxHeartbeats 4000000
namespace EvL
open PySem PySem.Spec PyProof.Rows L2

def lcF (tg : Tg) (vs : List Nat) (fIf : Ga → Option (Bool × Ga)) (fE : FX) : D → Ga → Option (Option D × Ga) := fun x Γ =>
  (asg tg x (wipeG Γ vs)).bind fun Γ2 => (fIf Γ2).bind fun (c, Γ3) => if c then (fE Γ3).map fun (y, Γ4) => (some y.d, Γ4) else some (none, Γ3)
def lcX (k : IK) (gI : FA) (tg : Tg) (vs : List Nat) (fIf : Ga → Option (Bool × Ga)) (fE : FX) : FX := fun Γ => (gI Γ).bind fun (ds, Γ1) => (itD k ds).bind fun xs =>
  if xs.length ≤ lim then (lcLoop (lcF tg vs fIf fE) xs (wipeG Γ1 vs)).map fun (ys, Γ5) => (.ow ys, backG Γ1 Γ5 vs) else none
theorem wipe_wipe (σ : L2.St) (vs : List Nat) : wipe (wipe σ vs) vs = wipe σ vs := by
  refine List.ext_getElem? fun i => ?_
  by_cases hi : i ∈ vs
  · by_cases hl : i < σ.length
    · rw [wipe_at hi (by rw [wipe_length]; exact hl), wipe_at hi hl]
    · rw [List.getElem?_eq_none (by rw [wipe_length, wipe_length]; omega), List.getElem?_eq_none (by rw [wipe_length]; omega)]
  · rw [wipe_out hi]
theorem wipe_same {σ σ' : L2.St} {vs : List Nat} (h : ∀ j, j ∉ vs → σ'[j]? = σ[j]?) (hl : σ'.length = σ.length) : wipe σ' vs = wipe σ vs := by
  refine List.ext_getElem? fun i => ?_
  by_cases hi : i ∈ vs
  · by_cases hl' : i < σ.length
    · rw [wipe_at hi (by rw [hl]; exact hl'), wipe_at hi hl']
    · rw [List.getElem?_eq_none (by rw [wipe_length]; omega), List.getElem?_eq_none (by rw [wipe_length]; omega)]
  · rw [wipe_out hi, wipe_out hi, h i hi]
theorem wipeG_wipeG (Γ : Ga) (vs : List Nat) : wipeG (wipeG Γ vs) vs = wipeG Γ vs := by
  have at_ : ∀ {Γ : Ga} {vs : List Nat} {i : Nat}, i ∈ vs → i < Γ.length → (wipeG Γ vs)[i]? = some .un := fun {Γ vs i} h hl => by
    have h1 : i < (wipeG Γ vs).length := by rw [wipeG_len]; exact hl
    have h2 := List.getElem?_eq_getElem h1
    rw [h2, wipeG_at h h2]
  refine List.ext_getElem? fun i => ?_
  by_cases hi : i ∈ vs
  · by_cases hl : i < Γ.length
    · rw [at_ hi (by rw [wipeG_len]; exact hl), at_ hi hl]
    · rw [List.getElem?_eq_none (by rw [wipeG_len, wipeG_len]; omega), List.getElem?_eq_none (by rw [wipeG_len]; omega)]
  · rw [wipeG_out hi]
/-- a temporary list beside everything grows -/
theorem temp_set {K : PySem.W.Frag} {σ0 σ : L2.St} {Γ0 Γ : Ga} {Hf0 H0 Hf H : Hp} {p : Addr} {ws : List V} (R : Rel K Hf H σ Γ) (S : XStep σ0 Γ0 Hf0 H0 σ Γ Hf H) (R0 : Rel K Hf0 H0 σ0 Γ0) (h0 : H0 p = none) (hf : Hf p = none) :
    Rel K Hf (upd H p (.lst ws)) σ Γ ∧ XStep σ0 Γ0 Hf0 H0 σ Γ Hf (upd H p (.lst ws)) := by
  have no : ∀ q, ¬ OwnAt σ Γ H q p := fun q z => by
    cases q with
    | false => exact R0.fresh h0 false (S.shr p z)
    | true => exact R0.fresh h0 true (S.newb p z)
  obtain ⟨R2, same, back⟩ := R.beside (H' := upd H p (.lst ws)) no Ext.rfl' (R.sub.upd hf) (fun x o hx e => by rw [upd_ne hx]; exact e) (fun x h => .inl h)
  refine ⟨R2, ⟨⟨S.ext, fun b o h n => ?_, fun b h => ?_, S.newf, fun b h => S.newo b (back _ _ h), fun b h => S.newb b (back _ _ h), S.hid⟩, fun b h => S.shr b (back _ _ h), fun i rss a h g => ?_⟩⟩
  · have : b ≠ p := fun z => by subst z; rw [h0] at h; cases h
    rw [upd_ne this]; exact S.keep b o h n
  · by_cases hb : b = p
    · subst hb; rw [upd_same]; simp
    · rw [upd_ne hb]; exact S.live b h
  · obtain ⟨a', as, e1, o⟩ := R.oo i rss h
    rw [g] at e1; cases e1
    obtain ⟨h1, g1, e1⟩ := S.oos i rss a h g
    exact ⟨h1, g1, (same a ⟨i, .oo h g o (List.mem_cons_self ..)⟩).trans e1⟩
theorem temp_keep {K : PySem.W.Frag} {σ0 σ σ' : L2.St} {Γ0 Γ Γ' : Ga} {Hf0 H0 Hf H Hf' H' : Hp} {p : Addr} {ws : List V} (S : XStep σ0 Γ0 Hf0 H0 σ Γ Hf H) (R0 : Rel K Hf0 H0 σ0 Γ0) (h0 : H0 p = none) (hf : Hf p = none) (hp : H p = some (.lst ws))
    (T : XStep σ Γ Hf H σ' Γ' Hf' H') : H' p = some (.lst ws) ∧ Hf' p = none := by
  have no : ∀ q, ¬ OwnAt σ Γ H q p := fun q z => by
    cases q with
    | false => exact R0.fresh h0 false (S.shr p z)
    | true => exact R0.fresh h0 true (S.newb p z)
  refine ⟨T.keep p _ hp no, ?_⟩
  cases q : Hf' p with
  | none => rfl
  | some o =>
    rcases T.newf p (by rw [q]; simp) with z | z | z
    · exact absurd hf z
    · rw [hp] at z; cases z
    · exact absurd z (no false)
theorem lc_read {K : PySem.W.Frag} {k : IK} {gI : FA} {tg : Tg} {fIf : Ga → Option (Bool × Ga)} {fE : FX} {vs : List Nat} (hvs : ∀ j ∈ tgIx tg, j ∈ vs) {σ : L2.St} {H : Hp} {Q : VK}
    (h : tX K (lcX k gI tg vs fIf fE) σ H Q) : tLc (tI K k gI) (tG K tg) (tT K fIf) (tE K fE) vs σ H Q := by
  obtain ⟨Γ, Hf, r, Γ', R, ef, kk⟩ := h
  obtain ⟨⟨ds, Γ1⟩, e1, ef⟩ := bindS ef
  obtain ⟨xs, e2, ef⟩ := bindS ef
  have hlim : xs.length ≤ lim := by
    by_cases hl : xs.length ≤ lim
    · exact hl
    · simp only [hl, if_false] at ef; cases ef
  simp only [hlim, if_true] at ef
  obtain ⟨⟨ys, Γ5⟩, e3, e4⟩ := mapS' ef
  cases e4
  refine ⟨Γ, Hf, ds, Γ1, xs, R, e1, e2, fun J H1 Hf1 R1 S1 wk D hD => ?_⟩
  have hD0 : H D = none := S1.dead D hD
  have Rw : Rel K Hf1 H1 (wipe σ vs) (wipeG Γ1 vs) := R1.wipe
  have hDf : Hf1 D = none := R1.sub.none hD
  refine ⟨fun i m Hi => m = xs.length - i ∧ i ≤ xs.length ∧ ∃ Γi Hfi acc da rest, Rel K Hfi Hi (wipe σ vs) (wipeG Γi vs) ∧ XStep (wipe σ vs) (wipeG Γ1 vs) Hf1 H1 (wipe σ vs) (wipeG Γi vs) Hfi Hi ∧
      Hi D = some (.lst acc) ∧ Hfi D = none ∧ Dqs K Hfi acc da ∧ acc.length ≤ i ∧ lcLoop (lcF tg vs fIf fE) (xs.drop i) Γi = some (rest, Γ5) ∧ ys = da ++ rest, ⟨xs.length, by simp, Nat.zero_le _, ?_⟩, ?_⟩
  · obtain ⟨Ra, Sa⟩ := temp_set (ws := []) Rw .rfl' Rw hD hDf
    exact ⟨wipeG Γ1 vs, Hf1, [], [], ys, by rw [wipeG_wipeG]; exact Ra, by rw [wipeG_wipeG]; exact Sa, upd_same, hDf, .nil, Nat.le_refl _, e3, rfl⟩
  · rintro i m Hi ⟨rfl, hi, Γi, Hfi, acc, da, rest, Ri, Si, d1, d2, d3, d4, el, ey⟩
    by_cases hlt : i < xs.length
    · refine .inr ⟨wk.go i Hi (Si.ext.tr Ri.sub) hlt, fun Hn => ∃ m', m' < xs.length - i ∧ (m' = xs.length - (i + 1) ∧ i + 1 ≤ xs.length ∧ ∃ Γi Hfi acc da rest, Rel K Hfi Hn (wipe σ vs) (wipeG Γi vs) ∧ XStep (wipe σ vs) (wipeG Γ1 vs) Hf1 H1 (wipe σ vs) (wipeG Γi vs) Hfi Hn ∧
        Hn D = some (.lst acc) ∧ Hfi D = none ∧ Dqs K Hfi acc da ∧ acc.length ≤ i + 1 ∧ lcLoop (lcF tg vs fIf fE) (xs.drop (i + 1)) Γi = some (rest, Γ5) ∧ ys = da ++ rest), fun Hn h => h, fun x Hy hy => ?_⟩
      have hx : xs[i]? = some xs[i] := List.getElem?_eq_getElem hlt
      obtain ⟨Hfy, gy, dx⟩ := wk.yld i Hi Hfi x Hy _ Si.ext Ri.sub hx hy
      have Ry := gy.rel Ri
      have Sy : XStep (wipe σ vs) (wipeG Γ1 vs) Hf1 H1 (wipe σ vs) (wipeG Γi vs) Hfy Hy := Si.tr (gy.step Ri).x
      have dy1 : Hy D = some (.lst acc) := gy.keep _ _ d1
      have dy2 : Hfy D = none := by
        cases q : Hfy D with
        | none => rfl
        | some o =>
          rcases gy.newf D (by rw [q]; simp) with z | z
          · exact absurd d2 z
          · rw [d1] at z; cases z
      rw [List.drop_eq_getElem_cons hlt] at el
      obtain ⟨⟨o, Γ4⟩, el1, el⟩ := bindS (show (lcF tg vs fIf fE xs[i] Γi).bind (fun (o, Γ1) => (lcLoop (lcF tg vs fIf fE) (xs.drop (i + 1)) Γ1).map fun (ys, Γ2) => (match o with | some y => y :: ys | none => ys, Γ2)) = some (rest, Γ5) from el)
      obtain ⟨⟨ys', Γ5'⟩, el2, el3⟩ := mapS' el
      obtain ⟨Γ2, t1, el1⟩ := bindS el1
      obtain ⟨⟨c, Γ3⟩, t2, el1⟩ := bindS el1
      refine ⟨wipeG Γi vs, Hfy, xs[i], Γ2, Ry, dx, t1, fun σ2 R2 S2 f2 l2 => ?_⟩
      have hw : wipe σ2 vs = wipe σ vs := by
        rw [wipe_same (σ := wipe σ vs) (σ' := σ2) (fun j hj => f2 j fun z => hj (hvs j z)) l2, wipe_wipe]
      refine ⟨hw, Γ2, Hfy, c, Γ3, R2, t2, fun H3 Hf3 R3 S3 => ?_⟩
      have S03 := (Sy.tr S2).tr S3.x
      obtain ⟨k1, k2⟩ := temp_keep Sy Rw hD dy2 dy1 (S2.tr S3.x)
      have acc3 := dpMs (gy.ext.tr S3.ext) d3
      cases c with
      | true =>
        refine iteT ?_
        obtain ⟨⟨y, Γ4'⟩, t3, t4⟩ := mapS' (show (fE Γ3).map (fun (y, Γ4) => (some y.d, Γ4)) = some (o, Γ4) from el1)
        cases t4
        refine ⟨Γ3, Hf3, y, _, R3, t3, fun v H4 Hf4 R4 S4 d => ?_⟩
        obtain ⟨j1, j2⟩ := temp_keep S03 Rw hD k2 k1 S4.x
        have S04 : XStep (wipe σ vs) (wipeG Γ1 vs) Hf1 H1 (wipe σ vs) (wipeG Γ4 vs) Hf4 H4 := by
          have := (S03.tr S4.x).tr (xwipe (vs := vs))
          rwa [hw] at this
        have R4' : Rel K Hf4 H4 (wipe σ vs) (wipeG Γ4 vs) := by
          have := R4.wipe (vs := vs)
          rwa [hw] at this
        obtain ⟨R5, S5⟩ := temp_set (ws := acc ++ [v]) R4' S04 Rw hD j2
        have hz : acc.length < sizeLine := Nat.lt_of_lt_of_le (Nat.lt_of_le_of_lt d4 hlt) (Nat.le_trans hlim lim_le)
        refine ⟨acc, j1, hz, xs.length - (i + 1), by omega, rfl, hlt, Γ4, Hf4, acc ++ [v], da ++ [y.d], ys', R5, S5, upd_same, j2, dps_app (dpMs S4.ext acc3) (.cons d .nil), by simp; omega, ?_, ?_⟩
        · cases el3; exact el2
        · cases el3; rw [ey]; simp
      | false =>
        refine iteF ?_
        cases (show some ((none : Option PyData), Γ3) = some (o, Γ4) from el1)
        have S04 : XStep (wipe σ vs) (wipeG Γ1 vs) Hf1 H1 (wipe σ vs) (wipeG Γ4 vs) Hf3 H3 := by
          have := S03.tr (xwipe (vs := vs))
          rwa [hw] at this
        have R4' : Rel K Hf3 H3 (wipe σ vs) (wipeG Γ4 vs) := by
          have := R3.wipe (vs := vs)
          rwa [hw] at this
        refine ⟨xs.length - (i + 1), by omega, rfl, hlt, Γ4, Hf3, acc, da, ys', R4', S04, k1, k2, acc3, by omega, ?_, ?_⟩
        · cases el3; exact el2
        · cases el3; exact ey
    · have hie : i = xs.length := by omega
      subst hie
      rw [List.drop_length] at el
      cases (show some (([] : List PyData), Γi) = some (rest, Γ5) from el)
      refine .inl ⟨wk.stop _ Hi (Si.ext.tr Ri.sub) (Nat.le_refl _), ?_⟩
      have R6 : Rel K Hfi Hi σ (backG Γ1 Γ5 vs) := R1.back Ri Si.ext
      have S6 : EStep σ Γ1 Hf1 H1 (backG Γ1 Γ5 vs) Hfi Hi := (((xwipe (vs := vs) (σ := σ) (Γ := Γ1) (Hf := Hf1) (H := H1)).tr Si).tr (xback (Γ1 := Γ1))).e
      refine kk _ Hi Hfi R6 (S1.tr S6) ⟨D, acc, rfl, hD0, d2, d1, ?_⟩
      rw [ey, List.append_nil]
      exact d3
/-! ### comprehensions whose parts are lists of one's own -/
def lcFO (tg : Tg) (vs : List Nat) (fE : FX) : D → Ga → Option (List D × Ga) := fun x Γ =>
  (asg tg x (wipeG Γ vs)).bind fun Γ2 => (fE Γ2).bind fun (y, Γ4) => y.own.map fun ds => (ds, Γ4)
def lcXO (k : IK) (gI : FA) (tg : Tg) (vs : List Nat) (fE : FX) : FX := fun Γ => (gI Γ).bind fun (ds, Γ1) => (itD k ds).bind fun xs =>
  if xs.length ≤ lim then (lcLoopO (lcFO tg vs fE) xs (wipeG Γ1 vs)).map fun (ys, Γ5) => (.oo ys, backG Γ1 Γ5 vs) else none
theorem rows_keep {K : PySem.W.Frag} {σ0 σ σ' : L2.St} {Γ0 Γ Γ' : Ga} {Hf0 H0 Hf H Hf' H' : Hp} (S : XStep σ0 Γ0 Hf0 H0 σ Γ Hf H) (R0 : Rel K Hf0 H0 σ0 Γ0) (T : XStep σ Γ Hf H σ' Γ' Hf' H') :
    ∀ {ps : List Addr} {da : List (List D)}, (∀ b ∈ ps, H0 b = none) → Rows K Hf H ps da → Rows K Hf' H' ps da
  | _, _, _, .nil => .nil
  | _, _, h, .cons a b c t => by
    obtain ⟨e1, e2⟩ := temp_keep S R0 (h _ (List.mem_cons_self ..)) a b T
    exact .cons e2 e1 (dpMs T.ext c) (rows_keep S R0 T (fun x hx => h x (List.mem_cons_of_mem _ hx)) t)
theorem Rows.app {K : PySem.W.Frag} {Hf H : Hp} : ∀ {ps qs : List Addr} {da db : List (List D)}, Rows K Hf H ps da → Rows K Hf H qs db → Rows K Hf H (ps ++ qs) (da ++ db)
  | _, _, _, _, .nil, q => q
  | _, _, _, _, .cons a b c t, q => .cons a b c (Rows.app t q)
theorem own_some {r : RV} {ds : List D} (h : r.own = some ds) : r = .ow ds := by
  cases r with
  | ow es => cases h; rfl
  | _ => cases h
theorem lc_readO {K : PySem.W.Frag} {k : IK} {gI : FA} {tg : Tg} {fE : FX} {vs : List Nat} (hvs : ∀ j ∈ tgIx tg, j ∈ vs) {σ : L2.St} {H : Hp} {Q : VK}
    (h : tX K (lcXO k gI tg vs fE) σ H Q) : tLc (tI K k gI) (tG K tg) (tT K fun Γ => some (true, Γ)) (tX K fE) vs σ H Q := by
  obtain ⟨Γ, Hf, r, Γ', R, ef, kk⟩ := h
  obtain ⟨⟨ds, Γ1⟩, e1, ef⟩ := bindS ef
  obtain ⟨xs, e2, ef⟩ := bindS ef
  have hlim : xs.length ≤ lim := by
    by_cases hl : xs.length ≤ lim
    · exact hl
    · simp only [hl, if_false] at ef; cases ef
  simp only [hlim, if_true] at ef
  obtain ⟨⟨ys, Γ5⟩, e3, e4⟩ := mapS' ef
  cases e4
  refine ⟨Γ, Hf, ds, Γ1, xs, R, e1, e2, fun J H1 Hf1 R1 S1 wk D hD => ?_⟩
  have hD0 : H D = none := S1.dead D hD
  have Rw : Rel K Hf1 H1 (wipe σ vs) (wipeG Γ1 vs) := R1.wipe
  have hDf : Hf1 D = none := R1.sub.none hD
  refine ⟨fun i m Hi => m = xs.length - i ∧ i ≤ xs.length ∧ ∃ Γi Hfi ps da rest, Rel K Hfi Hi (wipe σ vs) (wipeG Γi vs) ∧ XStep (wipe σ vs) (wipeG Γ1 vs) Hf1 H1 (wipe σ vs) (wipeG Γi vs) Hfi Hi ∧
      Hi D = some (.lst (ps.map .ref)) ∧ Hfi D = none ∧ Rows K Hfi Hi ps da ∧ (∀ b ∈ ps, H1 b = none) ∧ (D :: ps).Nodup ∧ ps.length ≤ i ∧ lcLoopO (lcFO tg vs fE) (xs.drop i) Γi = some (rest, Γ5) ∧ ys = da ++ rest, ⟨xs.length, by simp, Nat.zero_le _, ?_⟩, ?_⟩
  · obtain ⟨Ra, Sa⟩ := temp_set (ws := []) Rw .rfl' Rw hD hDf
    exact ⟨wipeG Γ1 vs, Hf1, [], [], ys, by rw [wipeG_wipeG]; exact Ra, by rw [wipeG_wipeG]; exact Sa, upd_same, hDf, .nil, (fun _ z => by cases z), by simp, Nat.le_refl _, e3, rfl⟩
  · rintro i m Hi ⟨rfl, hi, Γi, Hfi, ps, da, rest, Ri, Si, d1, d2, d3, dn, nd, d4, el, ey⟩
    by_cases hlt : i < xs.length
    · refine .inr ⟨wk.go i Hi (Si.ext.tr Ri.sub) hlt, fun Hn => ∃ m', m' < xs.length - i ∧ (m' = xs.length - (i + 1) ∧ i + 1 ≤ xs.length ∧ ∃ Γi Hfi ps da rest, Rel K Hfi Hn (wipe σ vs) (wipeG Γi vs) ∧ XStep (wipe σ vs) (wipeG Γ1 vs) Hf1 H1 (wipe σ vs) (wipeG Γi vs) Hfi Hn ∧
        Hn D = some (.lst (ps.map .ref)) ∧ Hfi D = none ∧ Rows K Hfi Hn ps da ∧ (∀ b ∈ ps, H1 b = none) ∧ (D :: ps).Nodup ∧ ps.length ≤ i + 1 ∧ lcLoopO (lcFO tg vs fE) (xs.drop (i + 1)) Γi = some (rest, Γ5) ∧ ys = da ++ rest), fun Hn h => h, fun x Hy hy => ?_⟩
      have hx : xs[i]? = some xs[i] := List.getElem?_eq_getElem hlt
      obtain ⟨Hfy, gy, dx⟩ := wk.yld i Hi Hfi x Hy _ Si.ext Ri.sub hx hy
      have Ry := gy.rel Ri
      have Sy : XStep (wipe σ vs) (wipeG Γ1 vs) Hf1 H1 (wipe σ vs) (wipeG Γi vs) Hfy Hy := Si.tr (gy.step Ri).x
      have dy1 : Hy D = some (.lst (ps.map .ref)) := gy.keep _ _ d1
      have dy2 : Hfy D = none := gy.nf d2 d1
      have dy3 : Rows K Hfy Hy ps da := rows_keep Si Rw (gy.step Ri).x dn d3
      rw [List.drop_eq_getElem_cons hlt] at el
      obtain ⟨⟨o, Γ4⟩, el1, el⟩ := bindS (show (lcFO tg vs fE xs[i] Γi).bind (fun (y, Γ1) => (lcLoopO (lcFO tg vs fE) (xs.drop (i + 1)) Γ1).map fun (ys, Γ2) => (y :: ys, Γ2)) = some (rest, Γ5) from el)
      obtain ⟨⟨ys', Γ5'⟩, el2, el3⟩ := mapS' el
      obtain ⟨Γ2, t1, el1⟩ := bindS el1
      obtain ⟨⟨y, Γ4'⟩, t3, el1⟩ := bindS el1
      obtain ⟨o', t4, t5⟩ := mapS' el1
      have ho := own_some t4
      subst ho
      cases t5
      refine ⟨wipeG Γi vs, Hfy, xs[i], Γ2, Ry, dx, t1, fun σ2 R2 S2 f2 l2 => ?_⟩
      have hw : wipe σ2 vs = wipe σ vs := by
        rw [wipe_same (σ := wipe σ vs) (σ' := σ2) (fun j hj => f2 j fun z => hj (hvs j z)) l2, wipe_wipe]
      refine ⟨hw, Γ2, Hfy, true, Γ2, R2, rfl, fun H3 Hf3 R3 S3 => ?_⟩
      have S03 := (Sy.tr S2).tr S3.x
      obtain ⟨k1, k2⟩ := temp_keep Sy Rw hD dy2 dy1 (S2.tr S3.x)
      have acc3 := rows_keep Sy Rw (S2.tr S3.x) dn dy3
      refine iteT ?_
      refine ⟨Γ2, Hf3, .ow o, _, R3, t3, fun v H4 Hf4 R4 S4 rr => ?_⟩
      obtain ⟨p, ws, rfl, p0, pf, p1, pq⟩ := rr
      obtain ⟨j1, j2⟩ := temp_keep S03 Rw hD k2 k1 S4.x
      have acc4 := rows_keep S03 Rw S4.x dn acc3
      have hpH1 : H1 p = none := S03.dead p p0
      have hpD : p ≠ D := fun z => by subst z; rw [k1] at p0; cases p0
      have hpps : p ∉ ps := fun z => by
        obtain ⟨_, vs', e⟩ := acc3.mem p z
        rw [p0] at e; cases e
      have hDps : D ∉ ps := (List.nodup_cons.mp nd).1
      have hw2 : wipe (wipe σ vs) vs = wipe σ vs := wipe_wipe σ vs
      have S04 : XStep (wipe σ vs) (wipeG Γ1 vs) Hf1 H1 (wipe σ vs) (wipeG Γ4 vs) Hf4 H4 := by
        have := (S03.tr S4.x).tr (xwipe (vs := vs))
        rwa [hw] at this
      have R4' : Rel K Hf4 H4 (wipe σ vs) (wipeG Γ4 vs) := by
        have := R4.wipe (vs := vs)
        rwa [hw] at this
      obtain ⟨R5, S5⟩ := temp_set (ws := (ps ++ [p]).map .ref) R4' S04 Rw hD j2
      have hz : (ps.map V.ref).length < sizeLine := by rw [List.length_map]; exact Nat.lt_of_lt_of_le (Nat.lt_of_le_of_lt d4 hlt) (Nat.le_trans hlim lim_le)
      refine ⟨ps.map .ref, j1, hz, xs.length - (i + 1), by omega, rfl, hlt, Γ4, Hf4, ps ++ [p], da ++ [o], ys', ?_, ?_, ?_, j2, ?_, ?_, ?_, by simp; omega, ?_, ?_⟩
      · rw [List.map_append] at R5; exact R5
      · rw [List.map_append] at S5; exact S5
      · rw [List.map_append]; exact upd_same
      · refine Rows.mono (Hf := Hf4) (H := H4) Ext.rfl' (fun b hb => ?_) (fun b hb => ?_) (acc4.app (.cons pf p1 pq .nil))
        · rcases List.mem_append.mp hb with hb | hb
          · exact (acc4.mem b hb).1
          · rw [List.mem_singleton.mp hb]; exact pf
        · have hbD : b ≠ D := fun z => by
            subst z
            rcases List.mem_append.mp hb with hb | hb
            · exact hDps hb
            · exact hpD (List.mem_singleton.mp hb).symm
          exact upd_ne hbD
      · intro b hb
        rcases List.mem_append.mp hb with hb | hb
        · exact dn b hb
        · rw [List.mem_singleton.mp hb]; exact hpH1
      · refine List.nodup_cons.mpr ⟨fun z => ?_, List.nodup_append.mpr ⟨(List.nodup_cons.mp nd).2, by simp, fun a ha b hb z => ?_⟩⟩
        · rcases List.mem_append.mp z with z | z
          · exact hDps z
          · exact hpD (List.mem_singleton.mp z).symm
        · rw [List.mem_singleton.mp hb] at z
          subst z; exact hpps ha
      · cases el3; exact el2
      · cases el3; rw [ey]; simp
    · have hie : i = xs.length := by omega
      subst hie
      rw [List.drop_length] at el
      cases (show some (([] : List (List PyData)), Γi) = some (rest, Γ5) from el)
      refine .inl ⟨wk.stop _ Hi (Si.ext.tr Ri.sub) (Nat.le_refl _), ?_⟩
      have R6 : Rel K Hfi Hi σ (backG Γ1 Γ5 vs) := R1.back Ri Si.ext
      have S6 : EStep σ Γ1 Hf1 H1 (backG Γ1 Γ5 vs) Hfi Hi := (((xwipe (vs := vs) (σ := σ) (Γ := Γ1) (Hf := Hf1) (H := H1)).tr Si).tr (xback (Γ1 := Γ1))).e
      refine kk _ Hi Hfi R6 (S1.tr S6) ⟨D, ps, rfl, fun b hb => ?_, ⟨d2, d1, nd, ?_⟩⟩
      · rcases List.mem_cons.mp hb with rfl | hb
        · exact hD0
        · exact S1.dead b (dn b hb)
      · rw [ey, List.append_nil]; exact d3
end EvL

set_option Elab.async false
set_option linter.all false
set_option maxRecDepth 100000
set_option maxHeartbeats 8000000
namespace EvL
open PySem PySem.Spec PyProof.Rows L2

/-! ### from the model's syntax to the small language -/
structure Cc extends Ctx where
  fnC : List Str
  oo : List Str := []
  fo : List Str := []
def okName (x : Str) : Bool := !(x == ("__debug__" : Str)) && !(x == ("__classdict__" : Str)) && decide (x ≠ "__name__")
def visK (sc : Scope) (x : Str) : Bool := match sc.names.lookup x with
  | some .local => true | some .cell => true | some .free => true | _ => false
def gloK (sc : Scope) (x : Str) : Bool := match sc.names.lookup x with
  | some .globalImplicit => true | _ => false
def locK (c : Cc) (x : Str) : Bool := match c.sc.names.lookup x with
  | some .local => true | some .cell => c.fnC.contains x | _ => false
def ixOf (N : List Str) (x : Str) : Option Nat := (N.findIdx? fun y => decide (y = x))
theorem ixOf_get {N : List Str} {x : Str} {i : Nat} (h : ixOf N x = some i) : N[i]? = some x := by
  unfold ixOf at h
  obtain ⟨hl, h1, _⟩ := List.findIdx?_eq_some_iff_getElem.mp h
  rw [List.getElem?_eq_getElem hl]
  simp only [decide_eq_true_eq] at h1
  rw [h1]
def plainE : Expr → Bool
  | .Starred .. => false | .Slice .. => false | .Set .. => false | _ => true
def lookC (l : List (Str × D)) (x : Str) : Option D := (l.find? fun p => decide (p.1 = x)).map (·.2)
def compL (f : Expr → Option IE) : List Expr → Option (List IE)
  | [] => some []
  | e :: es => (f e).bind fun x => (compL f es).map fun xs => x :: xs
def hasStar (es : List Expr) : Bool := es.any fun e => !unstar e
/-- a display with starred parts -/
def compSt (f : Expr → Option IE) : List Expr → Option IE
  | [] => some (.lst [])
  | .Starred e _ :: es => (f e).bind fun x => (compSt f es).map fun r => .bin .add (.bi .list [x]) r
  | e :: es => (f e).bind fun x => (compSt f es).map fun r => .bin .add (.lst [x]) r
def binOf : Operator → Option BOp
  | .Add => some .add | .Sub => some .sub | .Mult => some .mul | .FloorDiv => some .fdiv | .Mod => some .mod | .Pow => some .pow | _ => none
def cmpOf : CmpOp → Option COp
  | .Eq => some .eq | .NotEq => some .ne | .Lt => some .lt | .LtE => some .le | .Gt => some .gt | .GtE => some .ge | .Is => some .is | .IsNot => some .isn | .In => some .in_ | .NotIn => some .nin
def tyBF (T : Str) : Option BF := if T = "int" then some .isint else if T = "bool" then some .isbool else if T = "tuple" then some .istuple else if T = "list" then some .islist else if T = "str" then some .isstr else none
/-- the built-ins by name: and whether it is a type -/
def biOf (f : Str) (n : Nat) : Option BF :=
  if n = 1 then (if f = "len" then some .len else if f = "abs" then some .abs else if f = "int" then some .int else if f = "repr" then some .repr else if f = "tuple" then some .tuple else if f = "list" then some .list
    else if f = "all" then some .all else if f = "any" then some .any else if f = "sum" then some .sum else none)
  else if n = 2 then (if f = "divmod" then some .divmod else if f = "max" then some .max2 else if f = "min" then some .min2 else none) else none
def mkB : BoolOp → IE → IE → IE
  | .And, x, y => .and x y
  | .Or, x, y => .or x y
def compBool (f : Expr → Option IE) (op : BoolOp) : List Expr → Option IE
  | [] => none
  | [e] => f e
  | e :: es => (f e).bind fun x => (compBool f op es).map fun y => mkB op x y
def lenArg (c : Cc) (x : Str) (es : List Expr) (kws : List Keyword) : Option Nat := if decide (x = "len") && c.bl.contains x && kws.isEmpty then match es with
    | [.Name y _] => if okName y && visK c.sc y then ixOf c.N y else none
    | _ => none
  else none
def isTup : Expr → Bool
  | .Tuple .. => true | _ => false
def compIx (f : Expr → Option IE) (c : Cc) (a b : Expr) : Option IE := match a with
  | .Name x _ => if okName x && visK c.sc x then (ixOf c.N x).bind fun i => (f b).map fun y => .ixv i y else (f a).bind fun x => (f b).map fun y => .ix x y
  | .Subscript (.Name x _) a1 _ => if okName x && visK c.sc x && c.oo.contains x && plainE a1 && !isTup a1 then (ixOf c.N x).bind fun i => (f a1).bind fun y => (f b).map fun z => .ixo i y z else (f a).bind fun x => (f b).map fun y => .ix x y
  | _ => (f a).bind fun x => (f b).map fun y => .ix x y
def isIn : COp → Bool
  | .in_ => true | .nin => true | _ => false
def compCmp (f : Expr → Option IE) (c : Cc) (o : COp) (a b : Expr) : Option IE := match b with
  | .Name x _ => if isIn o && okName x && visK c.sc x then (ixOf c.N x).bind fun i => (f a).map fun y => .cmv o y i else (f a).bind fun x => (f b).map fun y => .cmp o x y
  | _ => (f a).bind fun x => (f b).map fun y => .cmp o x y
def compCall (f : Expr → Option IE) (c : Cc) (x : Str) (es : List Expr) (kws : List Keyword) : Option IE :=
  if okName x && gloK c.sc x && es.all unstar then
    if x = "isinstance" then match es, kws with
      | [a, .Name T _], [] => if c.bl.contains x && c.bl.contains T && gloK c.sc T && okName T then (tyBF T).bind fun b => (f a).map fun a' => .bi b [a'] else none
      | _, _ => none
    else if x = "gcd" then (if c.gcd && kws.isEmpty && decide (es.length = 2) then (compL f es).map (.bi .gcd) else none)
    else match lenArg c x es kws with
      | some i => some (.lenv i)
      | none => match biOf x es.length with
      | some b => if c.bl.contains x && kws.isEmpty then (compL f es).map (.bi b) else none
      | none => match c.fns.find? (fun E => decide (E.name = x) && decide (E.np = es.length) && decide (kws.map (·.arg) = E.kws.map some)) with
        | none => none
        | some E =>
          if E.f.mt then
            if decide (E.kws = []) && decide (E.ar = (List.range E.np).map Sum.inl) then match es with
              | [] => none
              | .Name y _ :: rest => if okName y && visK c.sc y then (ixOf c.N y).bind fun i => (compL f rest).map fun r => .callm E.f i r else none
              | [e] => (f e).map fun r => .callt E.f r
              | _ => none
            else none
          else (compL f es).bind fun a => (compL f (kws.map (·.value))).map fun b => .call E.f E.pm (a ++ b)
  else none
def compI (f : Expr → Option IE) (c : Cc) (tg : Expr) (e : Expr) : Option (IK × List IE) :=
  let seq : Option (IK × List IE) := (f e).map fun a => (.seq, [a])
  match e with
  | .Call (.Name x _) es [] _ =>
    if okName x && gloK c.sc x && c.bl.contains x && es.all unstar then
      if x = "range" then match es with
        | [a] => (f a).map fun a => (.rng1, [a])
        | [a, b] => (f a).bind fun a => (f b).map fun b => (.rng2, [a, b])
        | [a, b, d] => (f a).bind fun a => (f b).bind fun b => (f d).map fun d => (.rng3, [a, b, d])
        | _ => none
      else if x = "reversed" then match es with
        | [a] => (f a).map fun a => (.rev, [a])
        | _ => none
      else if x = "enumerate" then match es with
        | [a] => if isTup tg then (f a).map fun a => (.enum, [a]) else none
        | _ => none
      else if x = "zip" then match es with
        | [a, b] => if isTup tg then (f a).bind fun a => (f b).map fun b => (.zip, [a, b]) else none
        | _ => none
      else seq
    else seq
  | _ => seq
def compTs (f : Expr → Option Tg) : List Expr → Option (List Tg)
  | [] => some []
  | e :: es => if unstar e then (f e).bind fun x => (compTs f es).map fun xs => x :: xs else none
def compT : Nat → Cc → Expr → Option Tg
  | 0, _, _ => none
  | _ + 1, c, .Name x _ => if okName x && locK c x then (ixOf c.N x).map .nm else none
  | n + 1, c, .Tuple es _ _ => (compTs (compT n c) es).map .tp
  | _, _, _ => none
def blkCc (c : Cc) (scope : Scope) : Cc := { c with sc := relS scope c.sc, fnC := (scope.names.filter fun y => scope.names.lookup y.1 == some .cell).map (·.1) }
def ownOf (N : List Str) (scope : Scope) : List (Str × Nat) := (scope.names.filter fun y => decide (y.2 = .local) || decide (y.2 = .cell)).filterMap fun y => (ixOf N y.1).map fun i => (y.1, i)
def compE : Nat → Cc → Expr → Option IE
  | 0, _, _ => none
  | n + 1, c, e => if plainE e then match e with
    | .Name x _ => if okName x then (if visK c.sc x then (ixOf c.N x).map .var else if gloK c.sc x then (lookC c.consts x).map .cst else none) else none
    | .Constant (.int i) _ _ => some (.cst (.int i))
    | .Constant (.bool b) _ _ => some (.cst (.bool b))
    | .Constant .none _ _ => some (.cst .none)
    | .Constant (.str x) _ _ => some (.cst (.str x))
    | .Tuple es _ _ => if es.length ≤ 1000 then (if hasStar es then (compSt (compE n c) es).map fun r => .bi .tuple [r] else (compL (compE n c) es).map .tup) else none
    | .List es _ => if es.length ≤ 1000 then (if hasStar es then compSt (compE n c) es else (compL (compE n c) es).map .lst) else none
    | .BinOp a op b _ => (binOf op).bind fun o => (compE n c a).bind fun x => (compE n c b).map fun y => .bin o x y
    | .UnaryOp .USub a _ => (compE n c a).map .neg
    | .UnaryOp .Not a _ => (compE n c a).map .not
    | .Compare a [op] [b] _ => (cmpOf op).bind fun o => compCmp (compE n c) c o a b
    | .Compare a [op, op'] [b, d] _ => (cmpOf op).bind fun o => (cmpOf op').bind fun o' => (compE n c a).bind fun x => (compE n c b).bind fun y => (compE n c d).map fun z => .chn o o' x y z
    | .BoolOp op vs _ => compBool (compE n c) op vs
    | .IfExp t a b _ => (compE n c t).bind fun t => (compE n c a).bind fun x => (compE n c b).map fun y => .ite t x y
    | .Subscript a (.Slice none none (some (.UnaryOp .USub (.Constant (.int 1) _ _) _)) _) _ => (compE n c a).map .rev
    | .Subscript a (.Slice none none none _) _ => (compE n c a).map fun x => .slc false false x (.cst .none) (.cst .none)
    | .Subscript a (.Slice (some l) none none _) _ => (compE n c a).bind fun x => (compE n c l).map fun l => .slc true false x l (.cst .none)
    | .Subscript a (.Slice none (some h) none _) _ => (compE n c a).bind fun x => (compE n c h).map fun h => .slc false true x (.cst .none) h
    | .Subscript a (.Slice (some l) (some h) none _) _ => (compE n c a).bind fun x => (compE n c l).bind fun l => (compE n c h).map fun h => .slc true true x l h
    | .Subscript a b _ => if plainE b && !isTup b then compIx (compE n c) c a b else none
    | .Call (.Name x _) es kws _ => compCall (compE n c) c x es kws
    | .Call (.Attribute (.Name x px) nm ap) [e] [] cp => if decide (nm = "count") && decide (ap.endLine = cp.line) then (compE n c (.Name x px)).bind fun a => (compE n c e).map fun b => .bi .cnt [a, b] else none
    | .ListComp elt [⟨tg, iter, ifs, 0⟩] scope _ =>
      if blkC c.N c.sc scope (ownOf c.N scope) && plainE iter && decide (ifs.length ≤ 1) then
        (compT n (blkCc c scope) tg).bind fun t => (compI (compE n c) c tg iter).bind fun p => (compL (compE n (blkCc c scope)) ifs).bind fun fs => (compE n (blkCc c scope) elt).bind fun el =>
          if (tgIx t).all (fun j => (((ownOf c.N scope).map (·.2)).contains j)) then some (.lc ((ownOf c.N scope).map (·.2)) t p.1 p.2 fs el) else none
      else none
    | _ => none
  else none
/-- a comprehension whose parts stay lists of one's own -/
def compLco (n : Nat) (c : Cc) : Expr → Option IE
  | .ListComp elt [⟨tg, iter, [], 0⟩] scope _ =>
      if blkC c.N c.sc scope (ownOf c.N scope) && plainE iter then
        (compT n (blkCc c scope) tg).bind fun t => (compI (compE n c) c tg iter).bind fun p => (compE n (blkCc c scope) elt).bind fun el =>
          if (tgIx t).all (fun j => (((ownOf c.N scope).map (·.2)).contains j)) then some (.lco ((ownOf c.N scope).map (·.2)) t p.1 p.2 el) else none
      else none
  | _ => none
/-- what stands around -/
structure EOk (k : Nat) (c : Cc) (X : Cx) : Prop where
  hN : X.N = c.N
  nd : X.N.Nodup
  sc : X.env.scope = c.sc
  calm : X.calm = true
  gd : X.A.guards = some []
  rm : Room (k + 40) X.A
  pyl : Pyl X
  fns : ∀ E ∈ c.fns, FnAt X.prog X.w X.K X.mg X.base k E
  cst : ∀ p ∈ c.consts, ∃ v u, X.mg p.1 = some u ∧ L2.RelV v u ∧ ∀ H, Dq X.K H v p.2
  gcd : c.gcd = true → X.mg "gcd" = some (.builtin "math.gcd")
  bl : ∀ x ∈ c.bl, X.mg x = none
  fnC : ∀ x ∈ c.fnC, X.fn x = true
theorem EOk.un {k : Nat} {c : Cc} {X : Cx} (h : EOk k c X) : X.A.units + 65 < cLine := by have := h.rm.un; omega
theorem EOk.blk {k : Nat} {c : Cc} {X : Cx} (h : EOk k c X) (scope : Scope) (s : Shared) (H : Hp) (C : Addr) (cl : List (Str × Addr)) (fp : List Addr) : EOk k (blkCc c scope) (X.blk s H scope (compEnvC scope cl C X.env) fp) where
  hN := h.hN
  nd := h.nd
  sc := by show relS scope X.env.scope = relS scope c.sc; rw [h.sc]
  calm := h.calm
  gd := h.gd
  rm := h.rm
  pyl := h.pyl
  fns := h.fns
  cst := h.cst
  gcd := h.gcd
  bl := h.bl
  fnC := fun x hx => by
    obtain ⟨y, hy, rfl⟩ := List.mem_map.mp hx
    exact (List.mem_filter.mp hy).2
end EvL

set_option Elab.async false
set_option linter.all false
set_option maxRecDepth 100000
set_option maxHeartbeats 8000000
namespace EvL
open PySem PySem.Spec PyProof.Rows L2

/-! ### zip of two things, each one a list or a tuple -/
/-- what is said of some objects alone -/
def Firm (S : List Addr) (P : Heap → Prop) : Prop := ∀ g g' : Heap, (∀ b ∈ S, ∀ o, g.get? b = some o → g'.get? b = some o) → P g → P g'
def Gives (prog : Program) (w : World) (it : Addr) (P P' : Heap → Prop) (x : Value) : Prop :=
  ∀ (A : Around) (E : Value → Shared → Prop) (s : Shared) (Q : Value → Shared → Prop), P s.heap → (∀ g, P' g → Heap.SameBut it s.heap g → Q x { s with heap := g }) → wpAny (model prog w) A (Builtin.SmallTypes.nextOf (.ref it)) Q E s
def Ends_ (prog : Program) (w : World) (it : Addr) (P : Heap → Prop) : Prop :=
  ∀ (A : Around) (E : Value → Shared → Prop) (s : Shared) (Q : Value → Shared → Prop), A.handled = none → P s.heap → (∀ g e, Heap.ExtBut it s.heap g → (∃ o, g.get? e = some o ∧ o.cls = .type "StopIteration") → E (.ref e) { s with heap := g }) →
    wpAny (model prog w) A (Builtin.SmallTypes.nextOf (.ref it)) Q E s
/-- a kind: tuples (true), lists (false) -/
def KSq (k : Bool) (g : Heap) (l : Addr) (xs : Array Value) : Prop := match k with
  | true => g.IsTuple l xs
  | false => g.IsList l xs
def KIt (k : Bool) (g : Heap) (it l : Addr) (i : Nat) : Prop := match k with
  | true => g.IsTupleIter it l i
  | false => g.IsListIter it l i
def KP (k : Bool) (it l : Addr) (xs : Array Value) (i : Nat) (g : Heap) : Prop := KIt k g it l i ∧ KSq k g l xs
theorem kit_firm {k : Bool} {it l : Addr} {i : Nat} : Firm [it] fun g => KIt k g it l i := fun g g' e h => by
  cases k with
  | true => exact Heap.IsTupleIter.at (show g.IsTupleIter it l i from h) fun o q => e it (by simp) o q
  | false => exact Heap.IsListIter.at (show g.IsListIter it l i from h) fun o q => e it (by simp) o q
theorem ksq_firm {k : Bool} {l : Addr} {xs : Array Value} : Firm [l] fun g => KSq k g l xs := fun g g' e h => by
  cases k with
  | true => obtain ⟨o, q, r⟩ := (show g.IsTuple l xs from h); exact (show g'.IsTuple l xs from ⟨o, e l (by simp) o q, r⟩)
  | false => exact (show g'.IsList l xs from Heap.IsList.at (show g.IsList l xs from h) fun o q => e l (by simp) o q)
theorem kp_firm {k : Bool} {it l : Addr} {xs : Array Value} {i : Nat} : Firm [it, l] (KP k it l xs i) := fun g g' e h =>
  ⟨kit_firm g g' (fun b hb => e b (by simp at hb ⊢; exact .inl hb)) h.1, ksq_firm g g' (fun b hb => e b (by simp at hb ⊢; exact .inr hb)) h.2⟩
theorem kit_lt {k : Bool} {g : Heap} {it l : Addr} {i : Nat} (h : KIt k g it l i) : it < g.objs.size := by
  cases k with
  | true => obtain ⟨_, e, _⟩ := (show g.IsTupleIter it l i from h); exact Heap.lt_size e
  | false => obtain ⟨_, e, _⟩ := (show g.IsListIter it l i from h); exact Heap.lt_size e
section
variable {prog : Program} {w : World}
theorem kp_gives {k : Bool} {it l : Addr} {xs : Array Value} {i : Nat} {x : Value} (hl : l ≠ it) (hx : xs[i]? = some x) : Gives prog w it (KP k it l xs i) (KP k it l xs (i + 1)) x := fun A E s Q ⟨h1, h2⟩ q => by
  have keepL : ∀ g, Heap.SameBut it s.heap g → KSq k g l xs := fun g sb => ksq_firm _ _ (fun b hb o e => by
    rw [List.mem_singleton.mp hb] at e ⊢
    exact sb.extBut _ _ hl e) h2
  cases k with
  | true => exact RZ.nextOf_tuple_item h1 h2 hx fun g a b => q g ⟨a, keepL g b⟩ b
  | false => exact wpAny_nextOf_list_item h1 h2 hx fun g a b => q g ⟨a, keepL g b⟩ b
theorem kp_ends {k : Bool} {it l : Addr} {xs : Array Value} {i : Nat} (hx : xs[i]? = none) : Ends_ prog w it (KP k it l xs i) := fun A E s Q hh ⟨h1, h2⟩ q => by
  cases k with
  | true => exact RZ.nextOf_tuple_end hh h1 h2 hx q
  | false => exact wpAny_nextOf_list_end hh h1 h2 hx q
variable {A : Around} {E : Value → Shared → Prop} {s : Shared} {z ti to_ i1 i2 l1 l2 : Addr} {P1 P1' P2 P2' : Heap → Prop} {a b : Value}
theorem firm_but {S : List Addr} {P : Heap → Prop} (f : Firm S P) {c : Addr} {g g' : Heap} (e : Heap.ExtBut c g g') (hc : ∀ b ∈ S, b ≠ c) (h : P g) : P g' := f g g' (fun b hb o q => e b o (hc b hb) q) h
/-- what comes of the two -/
inductive Both (prog : Program) (w : World) (i1 i2 : Addr) (P1 P1' P2 P2' : Heap → Prop) : Option (Value × Value) → Prop
  | both {x y : Value} : Gives prog w i1 P1 P1' x → Gives prog w i2 P2 P2' y → Both prog w i1 i2 P1 P1' P2 P2' (some (x, y))
  | fst : Ends_ prog w i1 P1 → Both prog w i1 i2 P1 P1' P2 P2' none
  | snd {x : Value} : Gives prog w i1 P1 P1' x → Ends_ prog w i2 P2 → Both prog w i1 i2 P1 P1' P2 P2' none
/-- the heap behind an item -/
structure Behind (z ti to_ i1 i2 T : Addr) (P1' P2' : Heap → Prop) (x y : Value) (g g' : Heap) : Prop where
  iz : IsZip g' z ti to_ (rawInt T)
  io : IsPair g' to_ x y
  p1 : P1' g'
  p2 : P2' g'
  new : IsPair g' T x y
  size : g'.objs.size = g.objs.size + 1
  keep : ∀ c o, c ≠ z → c ≠ to_ → c ≠ i1 → c ≠ i2 → g.get? c = some o → g'.get? c = some o
theorem zipN_next {r : Option (Value × Value)} {Q : Value → Shared → Prop} (hh : A.handled = none) (D : ZipApart z ti to_ i1 i2 l1 l2) (hz : IsZip s.heap z ti to_ .none) (hI : IsPair s.heap ti (.ref i1) (.ref i2)) (hO : IsPair s.heap to_ a b)
    (F1 : Firm [i1, l1] P1) (F1' : Firm [i1, l1] P1') (F2 : Firm [i2, l2] P2) (F2' : Firm [i2, l2] P2') (p1 : P1 s.heap) (p2 : P2 s.heap) (hb : Both prog w i1 i2 P1 P1' P2 P2' r)
    (hQ : ∀ x y, r = some (x, y) → ∀ g, Behind z ti to_ i1 i2 s.heap.objs.size P1' P2' x y s.heap g → Q (.ref s.heap.objs.size) { s with heap := g })
    (hE : r = none → ∀ g e, (∀ c o, c ≠ z → c ≠ to_ → c ≠ i1 → c ≠ i2 → s.heap.get? c = some o → g.get? c = some o) → (∃ o, g.get? e = some o ∧ o.cls = .type "StopIteration") → E (.ref e) { s with heap := g }) :
    wpAny (model prog w) A (Builtin.«zip.__next__» ⟨[.ref z], []⟩) (fun fin s' => ∃ v, fin = .done (.ret v) ∧ Q v s') E s := by
  have a1 : ∀ b ∈ [i1, l1], b ≠ z := by simp [D.i1z, D.l1z]
  have a2 : ∀ b ∈ [i2, l2], b ≠ z := by simp [D.i2z, D.l2z]
  have c1 : ∀ b ∈ [i1, l1], b ≠ to_ := by simp [D.TOi1.symm, D.l1TO]
  have c2 : ∀ b ∈ [i2, l2], b ≠ to_ := by simp [D.TOi2.symm, D.l2TO]
  have d1 : ∀ b ∈ [i1, l1], b ≠ i2 := by simp [D.i12, D.l1i2]
  have d2 : ∀ b ∈ [i2, l2], b ≠ i1 := by simp [D.i12.symm, D.l2i1]
  show wpAny _ _ (field (.ref z) 2 >>= _) _ _ _
  refine wpAny_bind (wpAny_field (x := .bool false) hz rfl rfl ?_); show wpAny _ _ (field (.ref z) 3 >>= _) _ _ _
  refine wpAny_bind (wpAny_field (x := .ref ti) hz rfl rfl ?_); refine wpAny_bind (wpAny_seqItems hI rfl ?_)
  show wpAny _ _ (Builtin.SmallTypes.ownedTupleIsFree (.ref z) >>= _) _ _ _
  refine wpAny_bind ?_; unfold Builtin.SmallTypes.ownedTupleIsFree; refine wpAny_bind (wpAny_field (x := .none) hz rfl rfl (wpAny_pure ?_)); simp only [if_true]
  refine wpAny_bind (wpAny_rule (wpAny_bind (wpAny_field (x := .ref to_) hz rfl rfl ?_)))
  refine wpAny_bind (wpAny_setField_rec hz (by simp) fun g1 w1 k1 => ?_)
  have w1 : IsZip g1 z ti to_ .ellipsis := w1
  simp only [List.zipIdx_cons, List.zipIdx_nil, List.forIn_cons, List.forIn_nil]; refine wpAny_bind ?_
  have p1a : P1 g1 := firm_but F1 k1.extBut a1 p1
  have p2a : P2 g1 := firm_but F2 k1.extBut a2 p2
  have hOa : IsPair g1 to_ a b := k1.extBut _ _ D.TOz hO
  refine wpAny_bind (wpAny_bind (wpAny_onRaise ?_)); show wpAny _ _ (Builtin.SmallTypes.nextOf (.ref i1) >>= _) _ _ _
  cases hb with
  | fst e1 =>
    refine wpAny_bind (e1 _ _ _ _ hh p1a fun g2 e k2 he => ?_)
    obtain ⟨oe, he1, he2⟩ := he
    have w2 : IsZip g2 z ti to_ .ellipsis := k2 _ _ D.i1z.symm w1
    have ez : e ≠ z := fun q => by subst q; rw [w2] at he1; cases he1; simp at he2
    refine wpAny_setField_rec w2 (by simp) fun g3 _ k3 => hE rfl g3 e (fun c o q1 _ q3 _ q => k3.extBut _ _ q1 (k2 _ _ q3 (k1.extBut _ _ q1 q))) ⟨oe, k3.extBut _ _ ez he1, he2⟩
  | snd n1 e2 =>
    refine wpAny_bind (n1 _ _ _ _ p1a fun g2 r2 k2 => wpAny_pure ?_)
    have hOb : IsPair g2 to_ a b := k2.extBut _ _ D.TOi1 hOa
    refine wpAny_bind (wpAny_seqItems hOb rfl (wpAny_bind (wpAny_updateSeq_pair hOb fun g3 v3 k3 => wpAny_bind (wpAny_letGo (wpAny_pure ?_)))))
    refine wpAny_bind (wpAny_bind (wpAny_onRaise ?_)); show wpAny _ _ (Builtin.SmallTypes.nextOf (.ref i2) >>= _) _ _ _
    have p2c : P2 g3 := firm_but F2 k3.extBut c2 (firm_but F2 k2.extBut d2 p2a)
    refine wpAny_bind (e2 _ _ _ _ hh p2c fun g4 e k4 he => ?_)
    obtain ⟨oe, he1, he2⟩ := he
    have w4 : IsZip g4 z ti to_ .ellipsis := k4 _ _ D.i2z.symm (k3.extBut _ _ D.TOz.symm (k2.extBut _ _ D.i1z.symm w1))
    have ez : e ≠ z := fun q => by subst q; rw [w4] at he1; cases he1; simp at he2
    refine wpAny_setField_rec w4 (by simp) fun g5 _ k5 => hE rfl g5 e (fun c o q1 q2 q3 q4 q => k5.extBut _ _ q1 (k4 _ _ q4 (k3.extBut _ _ q2 (k2.extBut _ _ q3 (k1.extBut _ _ q1 q))))) ⟨oe, k5.extBut _ _ ez he1, he2⟩
  | both n1 n2 =>
    rename_i x y
    refine wpAny_bind (n1 _ _ _ _ p1a fun g2 r2 k2 => wpAny_pure ?_)
    have hOb : IsPair g2 to_ a b := k2.extBut _ _ D.TOi1 hOa
    refine wpAny_bind (wpAny_seqItems hOb rfl (wpAny_bind (wpAny_updateSeq_pair hOb fun g3 v3 k3 => wpAny_bind (wpAny_letGo (wpAny_pure ?_)))))
    have v3 : IsPair g3 to_ x b := v3
    refine wpAny_bind (wpAny_bind (wpAny_onRaise ?_)); show wpAny _ _ (Builtin.SmallTypes.nextOf (.ref i2) >>= _) _ _ _
    have p2c : P2 g3 := firm_but F2 k3.extBut c2 (firm_but F2 k2.extBut d2 p2a)
    refine wpAny_bind (n2 _ _ _ _ p2c fun g4 r4 k4 => wpAny_pure ?_)
    have v4 : IsPair g4 to_ x b := k4.extBut _ _ D.TOi2 v3
    refine wpAny_bind (wpAny_seqItems v4 rfl (wpAny_bind (wpAny_updateSeq_pair v4 fun g5 v5 k5 => wpAny_bind (wpAny_letGo (wpAny_pure (wpAny_pure ?_))))))
    have v5 : IsPair g5 to_ x y := v5
    have sz : g5.objs.size = s.heap.objs.size := by rw [k5.1, k4.1, k3.1, k2.1, k1.1]
    have w5 : IsZip g5 z ti to_ .ellipsis := k5.extBut _ _ D.TOz.symm (k4.extBut _ _ D.i2z.symm (k3.extBut _ _ D.TOz.symm (k2.extBut _ _ D.i1z.symm w1)))
    have q1 : P1' g5 := firm_but F1' k5.extBut c1 (firm_but F1' k4.extBut d1 (firm_but F1' k3.extBut c1 r2))
    have q2 : P2' g5 := firm_but F2' k5.extBut c2 r4
    have kk : ∀ c o, c ≠ z → c ≠ to_ → c ≠ i1 → c ≠ i2 → s.heap.get? c = some o → g5.get? c = some o := fun c o u1 u2 u3 u4 q =>
      k5.extBut _ _ u2 (k4.extBut _ _ u4 (k3.extBut _ _ u2 (k2.extBut _ _ u3 (k1.extBut _ _ u1 q))))
    refine wpAny_bind (wpAny_seqItems v5 rfl (wpAny_bind (wpAny_newTuple ?_)))
    have zl : z < g5.objs.size := Heap.lt_size w5
    show wpAny _ _ (Builtin.SmallTypes.ownedTupleHandOut (.ref z) (.ref g5.objs.size) >>= _) _ _ _
    have w6 : IsZip (g5.push { cls := .type "tuple", data := .seq #[x, y] }) z ti to_ .ellipsis := Heap.get?_push_of_some _ w5
    refine wpAny_bind ?_; unfold Builtin.SmallTypes.ownedTupleHandOut; refine wpAny_bind (wpAny_setField_rec w6 (by simp) fun g7 w7 k7 => ?_)
    have w7 : IsZip g7 z ti to_ (rawInt g5.objs.size) := w7
    refine wpAny_setField_rec w7 (by simp) fun g8 w8 k8 => ?_
    have w8 : IsZip g8 z ti to_ (rawInt g5.objs.size) := w8
    have up : ∀ c o, c ≠ z → g5.get? c = some o → g8.get? c = some o := fun c o u q => k8.extBut _ _ u (k7.extBut _ _ u (Heap.get?_push_of_some _ q))
    have t8 : IsPair g8 g5.objs.size x y := k8.extBut _ _ (Nat.ne_of_gt zl) (k7.extBut _ _ (Nat.ne_of_gt zl) (Heap.get?_push_size _ rfl))
    have s8 : g8.objs.size = g5.objs.size + 1 := by rw [k8.1, k7.1, Heap.size_push]
    refine wpAny_pure ⟨_, rfl, ?_⟩
    show Q (.ref g5.objs.size) _
    rw [sz] at w8 t8 s8 ⊢
    exact hQ x y rfl g8 ⟨w8, up _ _ D.TOz v5, F1' _ _ (fun b hb o q => up b o (a1 b hb) q) q1, F2' _ _ (fun b hb o q => up b o (a2 b hb) q) q2, t8, s8, fun c o u1 u2 u3 u4 q => up c o u1 (kk c o u1 u2 u3 u4 q)⟩
theorem zipN_py {r : Option (Value × Value)} {Q : Option Value → Shared → Prop} (hh : A.handled = none) (D : ZipApart z ti to_ i1 i2 l1 l2) (hz : IsZip s.heap z ti to_ .none) (hI : IsPair s.heap ti (.ref i1) (.ref i2)) (hO : IsPair s.heap to_ a b)
    (F1 : Firm [i1, l1] P1) (F1' : Firm [i1, l1] P1') (F2 : Firm [i2, l2] P2) (F2' : Firm [i2, l2] P2') (p1 : P1 s.heap) (p2 : P2 s.heap) (hb : Both prog w i1 i2 P1 P1' P2 P2' r)
    (hQ : ∀ x y, r = some (x, y) → ∀ g, Behind z ti to_ i1 i2 s.heap.objs.size P1' P2' x y s.heap g → Q (some (.ref s.heap.objs.size)) { s with heap := g })
    (hE : r = none → ∀ g, (∀ c o, c ≠ z → c ≠ to_ → c ≠ i1 → c ≠ i2 → s.heap.get? c = some o → g.get? c = some o) → Q none { s with heap := g }) : wpAny (model prog w) A (pyNext (.ref z)) Q E s := by
  have ty : s.TypeIs (.ref z) "zip" := ⟨_, hz, rfl⟩
  unfold pyNext
  refine wpAny_bind (wpAny_attempt (wpAny_callSpecial?_slot (name := Str.ofString "__next__") ty F.slot_zip_next (wpAny_call_entry F.slot_zip_next ty F.entry_zip_next
    (zipN_next hh D hz hI hO F1 F1' F2 F2' p1 p2 hb (Q := fun v s' => wpAny (model prog w) A _ Q E s') (fun x y e g B => ?_) fun e g ex k hx => ?_) (F.args_zip_next_1 _))))
  · exact wpAny_pure (hQ x y e g B)
  · obtain ⟨ox, ho, hc⟩ := hx
    exact wpAny_bind (wpAny_isInstance (T := "StopIteration") (b := true) ⟨ox, ho, hc⟩ isSubtype_stop (wpAny_pure (hE e g k)))
end
def itObj (k : Bool) (l : Addr) : Obj := match k with
  | true => { cls := .type "tuple_iterator", data := .fields #[.ref l, .int 0 0] }
  | false => { cls := .type "list_iterator", data := .fields #[.ref l, .int 0 0] }
theorem itObj_it (k : Bool) (l : Addr) {g : Heap} {p : Addr} (h : g.get? p = some (itObj k l)) : KIt k g p l 0 := by
  cases k with
  | true => exact (show g.IsTupleIter p l 0 from ⟨_, h, rfl, rfl⟩)
  | false => exact (show g.IsListIter p l 0 from ⟨_, h, rfl, rfl⟩)
theorem itObj_free (k : Bool) (l : Addr) : (itObj k l).isFreed = false := by cases k <;> rfl
section
variable {prog : Program} {w : World} {A : Around} {E : Value → Shared → Prop} {s : Shared}
abbrev zk1 (k1 : Bool) (g : Heap) (l1 : Addr) : Heap := g.push (itObj k1 l1)
abbrev zk2 (k1 k2 : Bool) (g : Heap) (l1 l2 : Addr) : Heap := (zk1 k1 g l1).push (itObj k2 l2)
abbrev zk3 (k1 k2 : Bool) (g : Heap) (l1 l2 : Addr) : Heap := (zk2 k1 k2 g l1 l2).push { cls := .type "tuple", data := .seq #[.ref g.objs.size, .ref (zk1 k1 g l1).objs.size] }
abbrev zk4 (k1 k2 : Bool) (g : Heap) (l1 l2 : Addr) : Heap := (zk3 k1 k2 g l1 l2).push { cls := .type "tuple", data := .seq #[.none, .none] }
abbrev zk5 (k1 k2 : Bool) (g : Heap) (l1 l2 : Addr) : Heap := (zk4 k1 k2 g l1 l2).push { cls := .type "zip", data := .fields #[.none, .bool false, .bool false, .ref (zk2 k1 k2 g l1 l2).objs.size, .ref (zk3 k1 k2 g l1 l2).objs.size] }
theorem zk_tl (l1 l2 : Addr) (xs ys : Array Value) :
    Meets (Builtin.«zip.__new__» ⟨[.type "zip", .ref l1, .ref l2], []⟩) (fun _ R s => s.heap.IsTuple l1 xs ∧ s.heap.IsList l2 ys ∧ R (.ok (.ret (.ref (zk4 true false s.heap l1 l2).objs.size))) { s with heap := zk5 true false s.heap l1 l2 }) :=
  .of_wp fun prog w A R s h => by
    obtain ⟨hp, g, d, tk, os⟩ := s
    obtain ⟨h1, h2, h⟩ := h
    have sub := sub_zip
    have m1 : Heap.IsTuple (Shared.heap ⟨hp, g, d, tk, os⟩) l1 xs := h1
    have m2 : Heap.IsList (Shared.heap ⟨hp.push { cls := .type "tuple_iterator", data := .fields #[.ref l1, .int 0 0] }, g, d, tk, os⟩) l2 ys := Heap.IsList.push h2 _
    wp_walk using wpAny_pyIter_tuple m1, wpAny_pyIter_list m2
    exact ⟨_, rfl, h⟩
theorem zk_lt (l1 l2 : Addr) (xs ys : Array Value) :
    Meets (Builtin.«zip.__new__» ⟨[.type "zip", .ref l1, .ref l2], []⟩) (fun _ R s => s.heap.IsList l1 xs ∧ s.heap.IsTuple l2 ys ∧ R (.ok (.ret (.ref (zk4 false true s.heap l1 l2).objs.size))) { s with heap := zk5 false true s.heap l1 l2 }) :=
  .of_wp fun prog w A R s h => by
    obtain ⟨hp, g, d, tk, os⟩ := s
    obtain ⟨h1, h2, h⟩ := h
    have sub := sub_zip
    have m1 : Heap.IsList (Shared.heap ⟨hp, g, d, tk, os⟩) l1 xs := h1
    have m2 : Heap.IsTuple (Shared.heap ⟨hp.push { cls := .type "list_iterator", data := .fields #[.ref l1, .int 0 0] }, g, d, tk, os⟩) l2 ys := Heap.IsTuple.push h2 _
    wp_walk using wpAny_pyIter_list m1, wpAny_pyIter_tuple m2
    exact ⟨_, rfl, h⟩
theorem zk_meets (k1 k2 : Bool) (l1 l2 : Addr) (xs ys : Array Value) :
    Meets (Builtin.«zip.__new__» ⟨[.type "zip", .ref l1, .ref l2], []⟩) (fun _ R s => KSq k1 s.heap l1 xs ∧ KSq k2 s.heap l2 ys ∧ R (.ok (.ret (.ref (zk4 k1 k2 s.heap l1 l2).objs.size))) { s with heap := zk5 k1 k2 s.heap l1 l2 }) :=
  match k1, k2 with
  | true, true => RZ.meets_zipT_new l1 l2 xs ys
  | true, false => zk_tl l1 l2 xs ys
  | false, true => zk_lt l1 l2 xs ys
  | false, false => meets_zip_new l1 l2 xs ys
theorem zk_call {k1 k2 : Bool} {l1 l2 : Addr} {xs ys : Array Value} {Q : Value → Shared → Prop} (h1 : KSq k1 s.heap l1 xs) (h2 : KSq k2 s.heap l2 ys)
    (h : ∀ g, IsZip g (s.heap.objs.size + 4) (s.heap.objs.size + 2) (s.heap.objs.size + 3) .none → IsPair g (s.heap.objs.size + 2) (.ref s.heap.objs.size) (.ref (s.heap.objs.size + 1)) → IsPair g (s.heap.objs.size + 3) .none .none →
      KIt k1 g s.heap.objs.size l1 0 → KIt k2 g (s.heap.objs.size + 1) l2 0 → (∀ c o, s.heap.get? c = some o → g.get? c = some o) → Q (.ref (s.heap.objs.size + 4)) { s with heap := g }) : wpAny (model prog w) A (call (.type "zip") [.ref l1, .ref l2]) Q E s := by
  refine callType_new F.called_zip (by decide) (F.typeCall_zip_2 _ _) (F.newCall_zip_2 _ _) (fun obj => F.args_object_init_3 obj _ _) F.entry_zip_new (zk_meets k1 k2 l1 l2 xs ys) ⟨h1, h2, ?_⟩
  have e1 : (zk1 k1 s.heap l1).objs.size = s.heap.objs.size + 1 := Heap.size_push ..
  have e2 : (zk2 k1 k2 s.heap l1 l2).objs.size = s.heap.objs.size + 2 := by rw [Heap.size_push, e1]
  have e3 : (zk3 k1 k2 s.heap l1 l2).objs.size = s.heap.objs.size + 3 := by rw [Heap.size_push, e2]
  have e4 : (zk4 k1 k2 s.heap l1 l2).objs.size = s.heap.objs.size + 4 := by rw [Heap.size_push, e3]
  have up : ∀ {g : Heap} {o : Obj} {c : Addr} {u : Obj}, g.get? c = some u → (g.push o).get? c = some u := fun q => Heap.get?_push_of_some _ q
  have f5 : (zk5 k1 k2 s.heap l1 l2).get? (zk4 k1 k2 s.heap l1 l2).objs.size = some _ := Heap.get?_push_size _ rfl
  have f4 : (zk5 k1 k2 s.heap l1 l2).get? (zk3 k1 k2 s.heap l1 l2).objs.size = some _ := up (Heap.get?_push_size _ rfl)
  have f3 : (zk5 k1 k2 s.heap l1 l2).get? (zk2 k1 k2 s.heap l1 l2).objs.size = some _ := up (up (Heap.get?_push_size _ rfl))
  have f2 : (zk5 k1 k2 s.heap l1 l2).get? (zk1 k1 s.heap l1).objs.size = some _ := up (up (up (Heap.get?_push_size _ (itObj_free _ _))))
  have f1 : (zk5 k1 k2 s.heap l1 l2).get? s.heap.objs.size = some _ := up (up (up (up (Heap.get?_push_size _ (itObj_free _ _)))))
  show _ ∧ _
  rw [e2, e3, e4] at f5; rw [e1, e2] at f3; rw [e3] at f4; rw [e1] at f2; rw [e4]
  exact ⟨⟨_, f5, rfl⟩, h _ f5 f3 f4 (itObj_it _ _ f1) (itObj_it _ _ f2) fun c o q => up (up (up (up (up q))))⟩
end
/-! ### .. at the layer of values -/
def SqK (k : Bool) (K : PySem.W.Frag) (H : Hp) (a : Addr) (xs : List V) : Prop := match k with
  | true => SqT K H a xs
  | false => SqL K H a xs
section
variable {X : Cx} {pins : List (Addr × Obj)} {σ : L2.St} {H : Hp} {s : Shared}
theorem sqk_at (I : Inv X pins σ H s) {k : Bool} {a : Addr} {xs : List V} (h : SqK k X.K H a xs) : ∃ its, Vals xs its ∧ KSq k s.heap a its.toArray ∧ a < s.heap.objs.size := by
  cases k with
  | true =>
    obtain ⟨its, rv, p, _⟩ := I.tuple (show SqT X.K H a xs from h)
    obtain ⟨o, ho, r⟩ := id p
    exact ⟨its, rv, p, Heap.lt_size ho⟩
  | false =>
    obtain ⟨its, rv, p, _⟩ := I.list (show SqL X.K H a xs from h)
    exact ⟨its, rv, p.isList, p.lt⟩
theorem sqk_inj (I : Inv X pins σ H s) {k : Bool} {a : Addr} {xs ys : List V} (h : SqK k X.K H a xs) (g : SqK k X.K H a ys) : xs = ys := by
  cases k with
  | true => exact I.tuple_inj h g
  | false => exact I.list_inj h g
end
/-- both as they stand at each turn, the items in new pairs -/
def ItK (k1 k2 : Bool) (K : PySem.W.Frag) (a b : Addr) : It :=
  ⟨fun i H => ∃ (xs ys : List V) (x y : V), SqK k1 K H a xs ∧ SqK k2 K H b ys ∧ xs[i]? = some x ∧ ys[i]? = some y,
    fun i H v H' => ∃ p x y, v = .ref p ∧ H p = none ∧ H' = upd H p (.tup [x, y]) ∧ (∀ xs, SqK k1 K H a xs → xs[i]? = some x) ∧ ∀ ys, SqK k2 K H b ys → ys[i]? = some y,
    fun i H => ∃ xs ys : List V, SqK k1 K H a xs ∧ SqK k2 K H b ys ∧ (xs.length ≤ i ∨ ys.length ≤ i)⟩
def TnK (k1 k2 : Bool) (z ti to_ i1 i2 a b : Addr) (i : Nat) (g : Heap) : Prop := IsZip g z ti to_ .none ∧ IsPair g ti (.ref i1) (.ref i2) ∧ (∃ x y, IsPair g to_ x y) ∧ KIt k1 g i1 a i ∧ KIt k2 g i2 b i
theorem kit_obj {k : Bool} {g : Heap} {it l : Addr} {i : Nat} (h : KIt k g it l i) : ∃ o, g.get? it = some o ∧ ∀ v, o.data ≠ .cell v := by
  cases k with
  | true => obtain ⟨o, e, _, d⟩ := (show g.IsTupleIter it l i from h); exact ⟨o, e, fun v q => by rw [d] at q; cases q⟩
  | false => obtain ⟨o, e, _, d⟩ := (show g.IsListIter it l i from h); exact ⟨o, e, fun v q => by rw [d] at q; cases q⟩
theorem five {z ti to_ i1 i2 c : Addr} {P : Prop} (h : c ∈ [z, ti, to_, i1, i2]) (h1 : c = z → P) (h2 : c = ti → P) (h3 : c = to_ → P) (h4 : c = i1 → P) (h5 : c = i2 → P) : P := by
  simp only [List.mem_cons, List.not_mem_nil, or_false] at h
  rcases h with h | h | h | h | h
  · exact h1 h
  · exact h2 h
  · exact h3 h
  · exact h4 h
  · exact h5 h
theorem not5 {z ti to_ i1 i2 c : Addr} (h : c ∉ [z, ti, to_, i1, i2]) : c ≠ z ∧ c ≠ ti ∧ c ≠ to_ ∧ c ≠ i1 ∧ c ≠ i2 := by simpa using h
theorem turn_K {k1 k2 : Bool} {P : Program} {w : World} {K : PySem.W.Frag} {elts : List Expr} {kk : Nat} {tpos : Pos} {a b z ti to_ i1 i2 : Addr} (D : ZipApart z ti to_ i1 i2 a b) :
    Turn P w K (.Tuple elts kk tpos) (ItK k1 k2 K a b) [z, ti, to_, i1, i2] z (TnK k1 k2 z ti to_ i1 i2 a b) where
  mem := by simp
  obj := fun i g ⟨hz, hI, ⟨x, y, hO⟩, h1, h2⟩ c hc => five hc (fun e => by rw [e]; exact ⟨_, hz, fun v q => nomatch q⟩) (fun e => by rw [e]; exact ⟨_, hI, fun v q => nomatch q⟩) (fun e => by rw [e]; exact ⟨_, hO, fun v q => nomatch q⟩)
    (fun e => by rw [e]; exact kit_obj h1) (fun e => by rw [e]; exact kit_obj h2)
  keep := fun i g g' ⟨hz, hI, ⟨x, y, hO⟩, h1, h2⟩ k => ⟨k z (by simp) _ hz, k ti (by simp) _ hI, ⟨x, y, k to_ (by simp) _ hO⟩, kit_firm g g' (fun b hb o q => by rw [List.mem_singleton.mp hb] at q ⊢; exact k i1 (by simp) o q) h1,
    kit_firm g g' (fun b hb o q => by rw [List.mem_singleton.mp hb] at q ⊢; exact k i2 (by simp) o q) h2⟩
  item := by
    intro X hP hw hK hc i pins s σ H E I hf ⟨hz, hI, ⟨x0, y0, hO⟩, h1, h2⟩ ⟨xs, ys, x, y, qx, qy, hx, hy⟩
    subst hP hw hK
    obtain ⟨is1, v1, s1, _⟩ := sqk_at I qx
    obtain ⟨is2, v2, s2, _⟩ := sqk_at I qy
    obtain ⟨u1, hu1, r1⟩ := v1.get hx
    obtain ⟨u2, hu2, r2⟩ := v2.get hy
    have lz : z < s.heap.objs.size := Heap.lt_size hz
    refine zipN_py (I.ok.hd hc) D hz hI hO kp_firm kp_firm kp_firm kp_firm (show KP k1 i1 a is1.toArray i s.heap from ⟨h1, s1⟩) (show KP k2 i2 b is2.toArray i s.heap from ⟨h2, s2⟩) (.both (kp_gives D.l1i1 (x := u1) (by simpa using hu1)) (kp_gives D.l2i2 (x := u2) (by simpa using hu2)))
      (fun xx yy exy g B => ?_) (fun e => nomatch e)
    cases exy
    refine ⟨_, rfl, wpAny_letOwnedTupleGo_zip (s := { s with heap := g }) B.iz fun g2 z2 sb => ?_⟩
    have t2 : g2.get? s.heap.objs.size = some { cls := .type "tuple", data := .seq #[u1, u2] } := (sb.2 _ (Nat.ne_of_gt lz)).trans B.new
    have fresh : ObjOk X.prog X.w (upd H s.heap.objs.size (.tup [x, y])) g2 s.heap.objs.size (.tup [x, y]) := ⟨by show 2 ≤ sizeLine; decide, [u1, u2], .cons r1 (.cons r2 .nil), ⟨_, t2, rfl, _, rfl⟩⟩
    have I2 : Inv X pins σ (upd H s.heap.objs.size (.tup [x, y])) { s with heap := g2 } := I.turnedNew (t' := s.toks) (ch := [z, ti, to_, i1, i2]) (fun c o hb q => by
      obtain ⟨n1, n2, n3, n4, n5⟩ := not5 hb
      exact (sb.2 c n1).trans (B.keep c o n1 n3 n4 n5 q)) hf (Nat.le_refl _) fresh
    have keep2 : ∀ c o, c ≠ z → g.get? c = some o → g2.get? c = some o := fun c o n q => (sb.2 c n).trans q
    refine ⟨.ref s.heap.objs.size, _, I2, rfl, ⟨_, x, y, rfl, I.hok.fresh (Nat.le_refl _), rfl, fun l hl => by rw [sqk_inj I hl qx]; exact hx, fun l hl => by rw [sqk_inj I hl qy]; exact hy⟩,
      ⟨z2, keep2 _ _ D.TIz (B.keep _ _ D.TIz D.TITO D.TIi1 D.TIi2 hI), ⟨u1, u2, keep2 _ _ D.TOz B.io⟩, kit_firm _ _ (fun b hb o q => by rw [List.mem_singleton.mp hb] at q ⊢; exact keep2 _ o D.i1z q) B.p1.1,
        kit_firm _ _ (fun b hb o q => by rw [List.mem_singleton.mp hb] at q ⊢; exact keep2 _ o D.i2z q) B.p2.1⟩, fun c hcm => ?_⟩
    have lc : c < s.heap.objs.size := five hcm (fun e => by rw [e]; exact lz) (fun e => by rw [e]; exact Heap.lt_size hI) (fun e => by rw [e]; exact Heap.lt_size hO) (fun e => by rw [e]; exact kit_lt h1) (fun e => by rw [e]; exact kit_lt h2)
    rw [upd_ne (Nat.ne_of_lt lc)]; exact (hf c hcm).1
  done := by
    intro X hP hw hK hc i pins s σ H E I hf ⟨hz, hI, ⟨x0, y0, hO⟩, h1, h2⟩ ⟨xs, ys, qx, qy, hend⟩
    subst hP hw hK
    obtain ⟨is1, v1, s1, _⟩ := sqk_at I qx
    obtain ⟨is2, v2, s2, _⟩ := sqk_at I qy
    have n1 := v1.length
    have n2 := v2.length
    have both : Both X.prog X.w i1 i2 (KP k1 i1 a is1.toArray i) (KP k1 i1 a is1.toArray (i + 1)) (KP k2 i2 b is2.toArray i) (KP k2 i2 b is2.toArray (i + 1)) none := by
      cases q1 : is1.toArray[i]? with
      | none => exact .fst (kp_ends q1)
      | some u =>
        refine .snd (kp_gives D.l1i1 q1) (kp_ends ?_)
        have l1 : i < is1.length := by
          have := (Array.getElem?_eq_some_iff.mp q1).1
          simpa using this
        have : is2.length ≤ i := by omega
        simp [this]
    exact zipN_py (I.ok.hd hc) D hz hI hO kp_firm kp_firm kp_firm kp_firm ⟨h1, s1⟩ ⟨h2, s2⟩ both (fun xx yy exy => nomatch exy)
      (fun _ g k => ⟨rfl, I.turnedL (t' := s.toks) (ch := [z, ti, to_, i1, i2]) (fun c o hb q => by
        obtain ⟨n1, n2, n3, n4, n5⟩ := not5 hb
        exact k c o n1 n3 n4 n5 q) hf⟩)
  self := fun A i s Q E st h => wpAny_pyIter_zip st.1 h
def iZipK (K : PySem.W.Frag) (ta : TA) : TI := fun σ H R => ta σ H fun vs H1 => ∃ k1 k2 a b xs ys, vs = [.ref a, .ref b] ∧ SqK k1 K H1 a xs ∧ SqK k2 K H1 b ys ∧ R (ItK k1 k2 K a b) H1
theorem pi_zipK {X : Cx} {e e2 : Expr} {ta : TA} {p pos tpos : Pos} {elts : List Expr} {kk : Nat} (hg : Gl X "zip") (hm : X.mg "zip" = none) (ha : PA X [e, e2] ta) (hs : starEach [e, e2] X.env = (false, eval e X.env) :: starEach [e2] X.env) (hpl : (backTo pos (starEach [e2] X.env)).any (·.1) = false) :
    PI X (.Tuple elts kk tpos) (.Call (.Name "zip" p) [e, e2] [] pos) (iZipK X.K ta) := ⟨fun pins s σ H R I h => by
  refine Call_ (ld_blt I hg hm PyProof.Rows.boot_zip (PyProof.Rows.callWith_type1 (thn (ha.run pos pins s σ H _ I h) fun us s1 ⟨vs, H1, I1, r1, q1⟩ => ?_) hs hpl))
  obtain ⟨k1, k2, a, b, xs, ys, ex, qx, qy, q⟩ := q1
  subst ex
  obtain ⟨is1, v1, s1', la⟩ := sqk_at I1 qx
  obtain ⟨is2, v2, s2', lb⟩ := sqk_at I1 qy
  have ge : ∀ c ∈ [s1.heap.objs.size + 4, s1.heap.objs.size + 2, s1.heap.objs.size + 3, s1.heap.objs.size, s1.heap.objs.size + 1], s1.heap.objs.size ≤ c := fun c hc =>
    five hc (fun e => e ▸ Nat.le_add_right _ _) (fun e => e ▸ Nat.le_add_right _ _) (fun e => e ▸ Nat.le_add_right _ _) (fun e => e ▸ Nat.le_refl _) (fun e => e ▸ Nat.le_add_right _ _)
  cases r1 with
  | cons ra r1 =>
    cases r1 with
    | cons rb r1 =>
      cases r1; cases ra; cases rb
      refine zk_call s1' s2' fun g hz hI hO h1 h2 hk => wpAny_pyIter_zip hz ?_
      exact ⟨s1.heap.objs.size + 4, [s1.heap.objs.size + 4, s1.heap.objs.size + 2, s1.heap.objs.size + 3, s1.heap.objs.size, s1.heap.objs.size + 1], _, _, H1, rfl, I1.kept (t' := s1.toks) hk, turn_K (PySem.W.ktu_apart s1.heap.objs.size a b la lb), ⟨hz, hI, ⟨_, _, hO⟩, h1, h2⟩,
        fun c hc => I1.fpOk (ge c hc) (I1.hok.fresh (ge c hc)), q⟩⟩
end EvL

set_option Elab.async false
set_option linter.all false
set_option maxRecDepth 100000
set_option maxHeartbeats 8000000
namespace EvL
open PySem PySem.Spec PyProof.Rows L2

/-! ### enumerate of a tuple; zip -/
theorem enum1_meets {v : Value} {o : Obj} {P : Heap → Prop} (B : PySem.Begins v o P) :
    Meets (Builtin.«enumerate.__new__» ⟨[.type "enumerate", v], []⟩) (fun _ R s => P s.heap ∧
      R (.ok (.ret (.ref (s.heap.push o).objs.size))) { s with heap := (s.heap.push o).push { cls := .type "enumerate", data := .fields #[.none, .bool false, .ref s.heap.objs.size, rawInt 0, .none, .none] } }) :=
  .of_wp fun prog w A R s h => by
    obtain ⟨hp, g, d, tk, os⟩ := s
    obtain ⟨h1, h⟩ := h
    have hsub := sub_enumerate
    have it : ∀ {A' : Around} {E : Value → Shared → Prop} {Q : Value → Shared → Prop}, Q (.ref hp.objs.size) ⟨hp.push o, g, d, tk, os⟩ → wpAny (model prog w) A' (pyIter v) Q E ⟨hp, g, d, tk, os⟩ :=
      fun q => B.iter prog w _ _ ⟨hp, g, d, tk, os⟩ _ h1 q
    wp_walk using it
    refine wpAny_stack_any fun st => wpAny_pure ?_
    split
    · rename_i c _ _ _ _ _
      cases (c == Value.type "enumerate") <;> (wp_walk using it; exact ⟨_, rfl, h⟩)
    · wp_walk using it
      exact ⟨_, rfl, h⟩
theorem enum1_call {prog : Program} {w : World} {A : Around} {E : Value → Shared → Prop} {s : Shared} {v : Value} {o : Obj} {P : Heap → Prop} {Q : Value → Shared → Prop} (B : PySem.Begins v o P) (h1 : P s.heap)
    (h : ∀ h', IsEnum h' (s.heap.objs.size + 1) s.heap.objs.size 0 .none → h'.get? s.heap.objs.size = some o → (∀ b o, s.heap.get? b = some o → h'.get? b = some o) → Q (.ref (s.heap.objs.size + 1)) { s with heap := h' }) :
    wpAny (model prog w) A (call (.type "enumerate") [v]) Q E s := by
  refine callType_new F.called_enumerate (by decide) (F.typeCall_enumerate_1 _) (F.newCall_enumerate_1 _) (fun obj => F.args_object_init_2 obj _) F.entry_enumerate_new (enum1_meets B) ⟨h1, ?_⟩
  have hz : (s.heap.push o).objs.size = s.heap.objs.size + 1 := Heap.size_push ..
  show _ ∧ _
  rw [hz]
  have he := Heap.get?_push_size (s.heap.push o) (o := { cls := .type "enumerate", data := .fields #[.none, .bool false, .ref s.heap.objs.size, rawInt 0, .none, .none] }) rfl
  rw [hz] at he
  exact ⟨⟨_, he, rfl⟩, h _ he (Heap.get?_push_of_some _ (Heap.get?_push_size _ B.free)) fun b ob x => Heap.get?_push_of_some _ (Heap.get?_push_of_some _ x)⟩
/-- the tuple at a, each item in a new pair -/
def IteT (K : PySem.W.Frag) (a : Addr) (n : Nat) : It :=
  ⟨fun i H => i < n ∧ ∃ xs : List V, SqT K H a xs ∧ xs.length = n, fun i H v H' => ∃ T x, v = .ref T ∧ H T = none ∧ H' = upd H T (.tup [.int (i : Nat), x]) ∧ ∀ xs, SqT K H a xs → xs[i]? = some x,
   fun i H => n ≤ i ∧ ∃ xs : List V, SqT K H a xs ∧ xs.length = n⟩
theorem turn_enumT {P : Program} {w : World} {K : PySem.W.Frag} {elts : List Expr} {kk n : Nat} {tpos : Pos} (a e it : Addr) :
    Turn P w K (.Tuple elts kk tpos) (IteT K a n) [e, it] e (fun i h => (∃ old, IsEnum h e it ((i : Nat) : Int) old) ∧ h.IsTupleIter it a i ∧ e ≠ it ∧ a ≠ it ∧ a ≠ e ∧ i ≤ n) where
  mem := by simp
  obj := fun i h st b hb => by
    obtain ⟨⟨old, he⟩, ⟨o, ho, hc, hd⟩, _⟩ := st
    rcases (by simpa using hb : b = e ∨ b = it) with z | z
    · subst z; exact ⟨_, he, fun v q => nomatch q⟩
    · subst z; exact ⟨o, ho, fun v q => by rw [hd] at q; cases q⟩
  keep := fun i h h' st k => ⟨let ⟨old, he⟩ := st.1; ⟨old, k e (by simp) _ he⟩, st.2.1.at fun o q => k it (by simp) o q, st.2.2⟩
  item := by
    intro X hP hw hK hc i pins s σ H E I hf st hg
    subst hP hw hK
    obtain ⟨⟨old, he⟩, hit, hne, hai, hae, hin⟩ := st
    obtain ⟨hlt, xs, hq, hl⟩ := hg
    obtain ⟨its, rv, p, hz⟩ := I.tuple hq
    have hx : xs[i]? = some (xs[i]'(by omega)) := List.getElem?_eq_getElem _
    have hsz : its.toArray.size = n := by rw [List.size_toArray, ← rv.length, hl]
    have hel : e < s.heap.objs.size := Heap.lt_size he
    have hil : it < s.heap.objs.size := by obtain ⟨_, q, _⟩ := hit; exact Heap.lt_size q
    refine wpAny_pyNext_enum_itemD (Draws.tuple (A := X.A.in1) (I.ok.hd hc) it a hai its.toArray) he ⟨hit, p⟩ (by rw [hsz]; exact hlt) hne (by simp [hne, Ne.symm hae]) fun u h' tk hu ho hst' hT hsz' hk => ?_
    obtain ⟨u', hu', ru⟩ := rv.get hx
    have eu : u = u' := by
      have : its[i]? = some u := by simpa using hu
      rw [this] at hu'; exact Option.some.inj hu'
    subst eu
    refine ⟨_, rfl, wpAny_letOwnedTupleGo_enum (s := { s with heap := h', toks := tk + 1 }) ho fun h'' he' sb => ?_⟩
    have hT2 : h''.get? s.heap.objs.size = some { cls := .type "tuple", data := .seq #[.int i tk, u] } := (sb.2 _ (Nat.ne_of_gt hel)).trans hT
    have new : ObjOk X.prog X.w (upd H s.heap.objs.size (.tup [.int (i : Nat), xs[i]'(by omega)])) h'' s.heap.objs.size (.tup [.int (i : Nat), xs[i]'(by omega)]) :=
      ⟨by show 2 ≤ sizeLine; decide, [.int i tk, u], .cons ⟨_, rfl⟩ (.cons ru .nil), ⟨_, hT2, rfl, _, rfl⟩⟩
    have I1 : Inv X pins σ (upd H s.heap.objs.size (.tup [.int (i : Nat), xs[i]'(by omega)])) { s with heap := h'', toks := tk + 1 } :=
      I.turnedNew (ch := [e, it]) (fun b ob hb q => (sb.2 b (fun z => hb (by simp [z]))).trans (hk b ob (fun z => hb (by simp [z])) (fun z => hb (by simp [z])) q)) hf (Nat.le_refl _) new
    refine ⟨.ref s.heap.objs.size, _, I1, rfl, ⟨_, _, rfl, I.hok.fresh (Nat.le_refl _), rfl, fun ys hy => by rw [I.tuple_inj hy hq]; exact hx⟩, ⟨⟨u, ?_⟩, hst'.1.at fun o q => (sb.2 it (Ne.symm hne)).trans q, hne, hai, hae, hlt⟩, fun b hb => ?_⟩
    · have e1 : ((i + 1 : Nat) : Int) = (i : Int) + 1 := by omega
      rw [e1]; exact he'
    · have hb' : b < s.heap.objs.size := by
        rcases (by simpa using hb : b = e ∨ b = it) with z | z
        · subst z; exact hel
        · subst z; exact hil
      rw [upd_ne (Nat.ne_of_lt hb')]
      exact (hf b hb).1
  done := by
    intro X hP hw hK hc i pins s σ H E I hf st hg
    subst hP hw hK
    obtain ⟨⟨old, he⟩, hit, hne, hai, hae, hin⟩ := st
    obtain ⟨hle, xs, hq, hl⟩ := hg
    obtain ⟨its, rv, p, hz⟩ := I.tuple hq
    have hsz : its.toArray.size = n := by rw [List.size_toArray, ← rv.length, hl]
    have hi : i = its.toArray.size := by omega
    obtain ⟨f0, f1, f2, f3, f4, f5⟩ := hf it (by simp)
    exact wpAny_pyNext_enum_endD (Draws.tuple (A := X.A.in1) (I.ok.hd hc) it a hai its.toArray) he ⟨by rw [← hi]; exact hit, p⟩ fun h' eb => ⟨rfl, I.turned (t' := s.toks) (fun b o hb q => eb b o hb q) f0 f1 f3 f4 f5⟩
  self := fun A i s Q E st h => let ⟨⟨_, he⟩, _⟩ := st; wpAny_pyIter_enum he h
section
variable {X : Cx} {e e2 : Expr} {fa : FX} {p pos tpos : Pos} {g : FA} {elts : List Expr} {kk : Nat}
theorem pi_enumT {te : TE} (hg : Gl X "enumerate") (hm : X.mg "enumerate" = none) (he : PE X e te) (hu : unstar e = true) :
    PI X (.Tuple elts kk tpos) (.Call (.Name "enumerate" p) [e] [] pos) (fun σ H R => te σ H fun v H1 => ∃ a xs, v = .ref a ∧ SqT X.K H1 a xs ∧ R (IteT X.K a xs.length) H1) := by
  refine ⟨fun pins s σ H R I h => ?_⟩
  have hs : starEach [e] X.env = [(false, eval e X.env)] := star_cons hu
  have ha : PA X [e] (tCons te tNil) := pa_cons he pa_nil (star_cons hu)
  refine Call_ (ld_blt I hg hm boot_enumerate (PyProof.Rows.callWith_type1 (thn (ha.run pos pins s σ H (fun vs H1 => match vs with | [v] => (∃ a xs, v = .ref a ∧ SqT X.K H1 a xs ∧ R (IteT X.K a xs.length) H1) | _ => False) I h) fun us s1 ⟨vs, H1, I1, r1, q1⟩ => ?_) hs rfl))
  match vs, r1, q1 with
  | [v], r1, q1 =>
    obtain ⟨a, xs, ex, hq, q⟩ := q1
    subst ex
    obtain ⟨u, rfl, ru⟩ := vals1 r1
    cases ru
    obtain ⟨its, rv, p', hz⟩ := I1.tuple hq
    have hal : a < s1.heap.objs.size := p'.lt
    refine enum1_call (PySem.begins_tuple a its.toArray) p' fun h' he' hit hk => wpAny_pyIter_enum he' ?_
    have I2 : Inv X pins σ H1 { s1 with heap := h' } := I1.kept (t' := s1.toks) hk
    refine ⟨s1.heap.objs.size + 1, [s1.heap.objs.size + 1, s1.heap.objs.size], _, _, H1, rfl, I2, turn_enumT a (s1.heap.objs.size + 1) s1.heap.objs.size, ⟨⟨.none, he'⟩, ⟨_, hit, rfl, rfl⟩, Nat.succ_ne_self _, Nat.ne_of_lt hal, Nat.ne_of_lt (Nat.lt_succ_of_lt hal), Nat.zero_le _⟩, fun b hb => ?_, q⟩
    have hle : s1.heap.objs.size ≤ b := by
      rcases (by simpa using hb : b = s1.heap.objs.size + 1 ∨ b = s1.heap.objs.size) with z | z <;> subst z
      · exact Nat.le_add_right _ _
      · exact Nat.le_refl _
    exact I1.fpOk hle (I1.hok.fresh hle)
end
end EvL

set_option Elab.async false
set_option linter.all false
set_option maxRecDepth 100000
set_option maxHeartbeats 8000000
namespace EvL
open PySem PySem.Spec PyProof.Rows L2

section
variable {K : PySem.W.Frag} {Hf : Hp}
theorem idx_get {xs : List D} {i : Nat} {d : D} (e : (xs.mapIdx fun k x => PyData.tuple [.int (k : Nat), x])[i]? = some d) : ∃ x, xs[i]? = some x ∧ d = .tuple [.int (i : Nat), x] := by
  rw [List.getElem?_mapIdx] at e
  cases h : xs[i]? with
  | none => rw [h] at e; cases e
  | some x => rw [h] at e; cases e; exact ⟨x, rfl, rfl⟩
theorem grow_pair {H Hc : Hp} {T : Addr} {x : V} {y : V} {d d' : D} (s : Ext Hc H) (hT : H T = none) (h1 : Dq K Hc x d) (h2 : Dq K Hc y d') : ∃ Hc', Grow Hc H Hc' (upd H T (.tup [x, y])) ∧ Dq K Hc' (.ref T) (.tuple [d, d']) :=
  ⟨_, Grow.tup s hT, .tup (.inl (.inl upd_same)) (dpMs (Ext.new (s.none hT)) (.cons h1 (.cons h2 .nil)))⟩
theorem wk_enum {a : Addr} {vs : List V} {xs : List D} (h : Rd Hf a (.lst vs)) (q : Dqs K Hf vs xs) : Wk K (Ite K a) Hf (xs.mapIdx fun k x => .tuple [.int (k : Nat), x]) where
  go := fun i H s l => by
    have l' : i < vs.length := by rw [dps_len q]; simpa using l
    exact ⟨vs, vs[i], .inl (s.rd h), List.getElem?_eq_getElem _⟩
  stop := fun i H s l => ⟨vs, .inl (s.rd h), by rw [dps_len q]; simpa using l⟩
  yld := fun i H Hc v H' d s1 s2 e ⟨T, x, e1, e2, e3, e4⟩ => by
    subst e1 e3
    obtain ⟨y, g1, rfl⟩ := idx_get e
    obtain ⟨w, g2, g3⟩ := dps_get q g1
    have := e4 vs (.inl ((s1.tr s2).rd h))
    rw [g2] at this; cases this
    exact grow_pair s2 e2 (.int _) (dpM s1 g3)
theorem wk_enumT {a : Addr} {vs : List V} {xs : List D} (h : SqT K Hf a vs) (q : Dqs K Hf vs xs) : Wk K (IteT K a vs.length) Hf (xs.mapIdx fun k x => .tuple [.int (k : Nat), x]) where
  go := fun i H s l => by
    have l' : i < vs.length := by rw [dps_len q]; simpa using l
    exact ⟨l', vs, s.st h, rfl⟩
  stop := fun i H s l => ⟨by rw [dps_len q]; simpa using l, vs, s.st h, rfl⟩
  yld := fun i H Hc v H' d s1 s2 e ⟨T, x, e1, e2, e3, e4⟩ => by
    subst e1 e3
    obtain ⟨y, g1, rfl⟩ := idx_get e
    obtain ⟨w, g2, g3⟩ := dps_get q g1
    have := e4 vs ((s1.tr s2).st h)
    rw [g2] at this; cases this
    exact grow_pair s2 e2 (.int _) (dpM s1 g3)
theorem zip_get {xs ys : List D} {i : Nat} {d : D} (e : ((xs.zip ys).map fun p => PyData.tuple [p.1, p.2])[i]? = some d) : ∃ x y, xs[i]? = some x ∧ ys[i]? = some y ∧ d = .tuple [x, y] := by
  rw [List.getElem?_map] at e
  cases h : (xs.zip ys)[i]? with
  | none => rw [h] at e; cases e
  | some p =>
    rw [h] at e; cases e
    obtain ⟨h1, h2⟩ := List.getElem?_zip_eq_some.mp h
    exact ⟨_, _, h1, h2, rfl⟩
/-- a value that stands for a list or a tuple -/
theorem dq_seq {v : V} {d : D} {xs : List D} (h : Dq K Hf v d) (e : seqD d = some xs) : ∃ k a vs, v = .ref a ∧ Dqs K Hf vs xs ∧ ∀ H, Ext Hf H → SqK k K H a vs := by
  cases h with
  | lst h q => cases e; exact ⟨false, _, _, rfl, q, fun H s => (show SqL K H _ _ from .inl (s.rd h))⟩
  | tup h q => cases e; exact ⟨true, _, _, rfl, q, fun H s => (show SqT K H _ _ from s.st h)⟩
  | _ => cases e
theorem wk_K {k1 k2 : Bool} {a b : Addr} {vs ws : List V} {xs ys : List D} (h : ∀ H, Ext Hf H → SqK k1 K H a vs) (q : Dqs K Hf vs xs) (h2 : ∀ H, Ext Hf H → SqK k2 K H b ws) (q2 : Dqs K Hf ws ys) : Wk K (ItK k1 k2 K a b) Hf ((xs.zip ys).map fun p => .tuple [p.1, p.2]) where
  go := fun i H s l => by
    have l' : i < min xs.length ys.length := by simpa using l
    have l1 : i < vs.length := by rw [dps_len q]; omega
    have l2 : i < ws.length := by rw [dps_len q2]; omega
    exact ⟨vs, ws, vs[i], ws[i], h H s, h2 H s, List.getElem?_eq_getElem _, List.getElem?_eq_getElem _⟩
  stop := fun i H s l => by
    have l' : min xs.length ys.length ≤ i := by rw [List.length_map, List.length_zip] at l; exact l
    exact ⟨vs, ws, h H s, h2 H s, by rw [dps_len q, dps_len q2]; omega⟩
  yld := fun i H Hc v H' d s1 s2 e ⟨T, x, y, e1, e2, e3, e4, e5⟩ => by
    subst e1 e3
    obtain ⟨x', y', g1, g2, rfl⟩ := zip_get e
    obtain ⟨w, k1, k2⟩ := dps_get q g1
    obtain ⟨w', k3, k4⟩ := dps_get q2 g2
    have t1 := e4 vs (h _ (s1.tr s2))
    rw [k1] at t1; cases t1
    have t2 := e5 ws (h2 _ (s1.tr s2))
    rw [k3] at t2; cases t2
    exact grow_pair s2 e2 (dpM s1 k2) (dpM s1 k4)
end
section
variable {X : Cx} {e e2 : Expr} {fa : FX} {p pos tpos : Pos} {g : FA} {elts : List Expr} {kk : Nat}
theorem i_enum (hg : Gl X "enumerate") (hm : X.mg "enumerate" = none) (ha : PE X e (tX X.K fa)) (hu : unstar e = true) : PI X (.Tuple elts kk tpos) (.Call (.Name "enumerate" p) [e] [] pos) (tI X.K .enum fun Γ => (fa Γ).bind fun (x, Γ) => some ([x.d], Γ)) :=
  ⟨fun pins s σ H R I ⟨Γ, Hf, ds, Γ', xs, R0, eg, ei, k⟩ => by
    obtain ⟨⟨rx, Γ1⟩, e1, eg⟩ := bindS eg
    cases eg
    have e0 : (seqD rx.d).map (fun xs => xs.mapIdx fun k x => PyData.tuple [.int k, x]) = some xs := ei
    cases hd : rx.d with
    | list ys =>
      rw [hd] at e0; cases e0
      exact (pi_enum hg hm (pa_cons (pe_fast ha) pa_nil (star_cons hu)) (star_cons hu)).run pins s σ H R I ⟨Γ, Hf, rx, _, R0, e1, fun v H1 Hf1 R1 S1 d1 => by
        rw [hd] at d1
        cases d1 with
        | lst h q => exact ⟨_, _, rfl, .inl (R1.sub.rd h), k _ _ Hf1 R1 S1 (wk_enum h q)⟩⟩
    | tuple ys =>
      rw [hd] at e0; cases e0
      exact (pi_enumT hg hm (pe_fast ha) hu).run pins s σ H R I ⟨Γ, Hf, rx, _, R0, e1, fun v H1 Hf1 R1 S1 d1 => by
        rw [hd] at d1
        cases d1 with
        | tup h q => exact ⟨_, _, rfl, R1.sub.st h, k _ _ Hf1 R1 S1 (wk_enumT h q)⟩⟩
    | _ => rw [hd] at e0; exact nl e0⟩
theorem zip_ds {ds xs : List D} (e : itD .zip ds = some xs) : ∃ a b ys zs, ds = [a, b] ∧ seqD a = some ys ∧ seqD b = some zs ∧ xs = (ys.zip zs).map fun p => .tuple [p.1, p.2] := by
  match ds, e with
  | [], e => exact nl e
  | [d], e => cases d <;> exact nl e
  | [a, b], e =>
    have e : (seqD a).bind (fun xs => (seqD b).map fun ys => (xs.zip ys).map fun p => PyData.tuple [p.1, p.2]) = some xs := e
    obtain ⟨ys, h1, e⟩ := bindS e
    obtain ⟨zs, h2, e⟩ := mapS' e
    exact ⟨a, b, ys, zs, rfl, h1, h2, e.symm⟩
  | a :: b :: c :: r, e => cases a <;> first | exact nl e | (cases b <;> first | exact nl e | (cases c <;> exact nl e))
theorem i_zip (hg : Gl X "zip") (hm : X.mg "zip" = none) (ha : PA X [e, e2] (tAs X.K g)) (hu : unstar e = true) (hu2 : unstar e2 = true) : PI X (.Tuple elts kk tpos) (.Call (.Name "zip" p) [e, e2] [] pos) (tI X.K .zip g) :=
  ⟨fun pins s σ H R I ⟨Γ, Hf, ds, Γ', xs, R0, eg, ei, k⟩ => by
    refine (pi_zipK hg hm ha (star_cons hu) (star_plain (by simp [hu2]))).run pins s σ H R I ⟨Γ, Hf, ds, Γ', R0, eg, fun vs H1 Hf1 R1 S1 d1 => ?_⟩
    obtain ⟨a, b, ys, zs, rfl, h1, h2, rfl⟩ := zip_ds ei
    obtain ⟨x, y, rfl, hx, hy⟩ := ds2 d1
    obtain ⟨k1, p1, v1, rfl, q1, s1⟩ := dq_seq hx h1
    obtain ⟨k2, p2, v2, rfl, q2, s2⟩ := dq_seq hy h2
    exact ⟨k1, k2, p1, p2, v1, v2, rfl, s1 _ R1.sub, s2 _ R1.sub, k _ _ Hf1 R1 S1 (wk_K s1 q1 s2 q2)⟩⟩
end
end EvL

set_option Elab.async false
set_option linter.all false
set_option maxRecDepth 100000
set_option maxHeartbeats 8000000
namespace EvL
open PySem PySem.Spec PyProof.Rows L2

/-! ### the small language tells what the model's expressions do -/
def isBoolOp : Expr → Bool
  | .BoolOp .. => true | _ => false
structure Snd (X : Cx) (e : Expr) (ir : IE) : Prop where
  pe : PE X e (tX X.K (evX ir))
  pt : PT X e (tT X.K (evT ir))
  pw : isBoolOp e = true → PW X e (tT X.K (evT ir))
  pl : plainE e = true
theorem plain_unstar {e : Expr} (h : plainE e = true) : unstar e = true := by cases e <;> first | rfl | (cases h; done)
theorem plain_ix {e : Expr} (h : plainE e = true) (h2 : isTup e = false) : PlainIx e := by cases e <;> first | (intro o i; rfl) | (cases h; done) | (cases h2; done)
theorem plain_fold {e : Expr} {env : Env} (h : plainE e = true) : ∀ x, foldedSetIterable e env x = pure x := by cases e <;> first | (intro x; rfl) | (cases h; done)
theorem plain_marks {e : Expr} {op : CmpOp} (h : plainE e = true) : behindInMarks op e = false := by cases e <;> first | rfl | (cases h; done)
def plainT : Expr → Bool
  | .UnaryOp .Not _ _ => false | .BoolOp .. => false | .IfExp .. => false | .Compare .. => false | _ => true
theorem plain_test {e : Expr} {env : Env} (h : plainT e = true) : ∀ whole, isTrue e env whole = (do let v ← whole; standAt e.pos; holding [v] (truthy v)) := by
  cases e <;> first | (intro w; rfl) | (cases h; done) | skip
  rename_i op a p
  cases op <;> first | (intro w; rfl) | (cases h; done)
section
variable {X : Cx} {k : Nat} {c : Cc}
theorem vis_of (h : EOk k c X) {x : Str} (hv : visK c.sc x = true) : Vis X.env.scope x := by
  unfold visK at hv
  rw [← h.sc] at hv
  split at hv
  · exact .inl ‹_›
  · exact .inr (.inl ‹_›)
  · exact .inr (.inr ‹_›)
  · cases hv
theorem glo_of (h : EOk k c X) {x : Str} (hv : gloK c.sc x = true) : Gl X x := by
  unfold gloK at hv
  rw [← h.sc] at hv
  split at hv
  · assumption
  · cases hv
theorem ok_names {x : Str} (h : okName x = true) : (x == ("__debug__" : Str)) = false ∧ (x == ("__classdict__" : Str)) = false ∧ x ≠ "__name__" := by
  simp only [okName, Bool.and_eq_true, Bool.not_eq_true', decide_eq_true_eq] at h
  exact ⟨h.1.1, h.1.2, h.2⟩
theorem bl_of (h : EOk k c X) {x : Str} (hb : c.bl.contains x = true) : X.mg x = none := h.bl x (List.contains_iff_mem.mp hb)
theorem lookC_mem {l : List (Str × D)} {x : Str} {d : D} (h : lookC l x = some d) : (x, d) ∈ l := by
  unfold lookC at h
  obtain ⟨p, h1, h2⟩ := mapS' h
  have h3 := List.find?_some h1
  have h4 := List.mem_of_find?_eq_some h1
  obtain ⟨a, b⟩ := p
  simp only [decide_eq_true_eq] at h3
  subst h3 h2
  exact h4
/-- a value as a test, where the small language has one -/
theorem mk (e : Expr) (ir : IE) (hp : plainE e = true) (ht : plainT e = true) (h : PE X e (tX X.K (evX ir))) (hf : (∀ Γ, evT ir Γ = (evX ir Γ).bind fun (x, Γ) => (trD x.d).map fun c => (c, Γ)) ∨ ∀ Γ, evT ir Γ = none) : Snd X e ir where
  pe := h
  pt := by
    rcases hf with hf | hf
    · exact t_val hf h (plain_test ht)
    · exact t_none hf
  pw := fun hb => by cases e <;> first | (cases hb; done) | (cases ht; done)
  pl := hp
theorem compL_sound {f : Expr → Option IE} {X : Cx} (hf : ∀ e ir, f e = some ir → Snd X e ir) : ∀ {es : List Expr} {irs : List IE}, compL f es = some irs → PA X es (tAs X.K (evs irs)) ∧ es.all unstar = true ∧ irs.length = es.length
  | [], irs, h => by
    cases (show some [] = some irs from h)
    exact ⟨by have := s_nil (X := X); rwa [show evs [] = fun Γ => some ([], Γ) from by funext Γ; rw [evs]], rfl, rfl⟩
  | e :: es, irs, h => by
    obtain ⟨x, h1, h⟩ := bindS (show (f e).bind (fun x => (compL f es).map fun xs => x :: xs) = some irs from h)
    obtain ⟨xs, h2, rfl⟩ := mapS' h
    obtain ⟨a, b, l⟩ := compL_sound hf h2
    have q := hf e x h1
    refine ⟨?_, by simp [plain_unstar q.pl, b], by simp [l]⟩
    have := s_cons q.pe a (plain_unstar q.pl)
    rwa [show evs (x :: xs) = fun Γ => (evX x Γ).bind fun (y, Γ) => (evs xs Γ).map fun (ds, Γ) => (y.d :: ds, Γ) from by funext Γ; rw [evs]]
theorem compK_sound {f : Expr → Option IE} {X : Cx} (hf : ∀ e ir, f e = some ir → Snd X e ir) : ∀ {kws : List Keyword} {irs : List IE}, compL f (kws.map (·.value)) = some irs → PK X kws (tAs X.K (evs irs)) ∧ irs.length = kws.length
  | [], irs, h => by
    cases (show some [] = some irs from h)
    exact ⟨by have := k_nil (X := X); rwa [show evs [] = fun Γ => some ([], Γ) from by funext Γ; rw [evs]], rfl⟩
  | ⟨nm, e, p⟩ :: kws, irs, h => by
    obtain ⟨x, h1, h⟩ := bindS (show (f e).bind (fun x => (compL f (kws.map (·.value))).map fun xs => x :: xs) = some irs from h)
    obtain ⟨xs, h2, rfl⟩ := mapS' h
    obtain ⟨a, l⟩ := compK_sound hf h2
    refine ⟨?_, by simp [l]⟩
    have := k_cons (nm := nm) (kp := p) (hf e x h1).pe a
    rwa [show evs (x :: xs) = fun Γ => (evX x Γ).bind fun (y, Γ) => (evs xs Γ).map fun (ds, Γ) => (y.d :: ds, Γ) from by funext Γ; rw [evs]]
theorem compBool_sound {f : Expr → Option IE} {X : Cx} (hf : ∀ e ir, f e = some ir → Snd X e ir) (op : BoolOp) (pos : Pos) : ∀ {es : List Expr} {ir : IE}, compBool f op es = some ir → Snd X (.BoolOp op es pos) ir
  | [], _, h => by cases h
  | [e], ir, h => by
    have q := hf e ir h
    have w : PW X (.BoolOp op [e] pos) (tT X.K (evT ir)) := by
      cases op with
      | And => exact pw_and1 q.pt
      | Or => exact pw_or1 q.pt
    exact ⟨pe_one q.pe, w.pt, fun _ => w, rfl⟩
  | a :: b :: es, ir, h => by
    obtain ⟨x, h1, h⟩ := bindS (show (f a).bind (fun x => (compBool f op (b :: es)).map fun y => mkB op x y) = some ir from h)
    obtain ⟨y, h2, h3⟩ := mapS' h
    have qa := hf a x h1
    have qb := compBool_sound hf op pos h2
    cases op with
    | And =>
      cases h3
      have e1 : evX (.and x y) = fun Γ => (evX x Γ).bind fun (x, Γ) => (trD x.d).bind fun c => if c then (evX y Γ).map fun (y, Γ) => (.fz y.d, Γ) else some (.fz x.d, Γ) := by funext Γ; rw [evX]
      have e2 : evT (.and x y) = fun Γ => (evT x Γ).bind fun (c, Γ) => if c then evT y Γ else some (false, Γ) := by funext Γ; rw [evT]
      have w := t_and qa.pt (qb.pw rfl)
      rw [← e2] at w
      exact ⟨by show PE X _ (tX X.K (evX (IE.and x y))); rw [e1]; exact s_and qa.pe qb.pe, w.pt, fun _ => w, rfl⟩
    | Or =>
      cases h3
      have e1 : evX (.or x y) = fun Γ => (evX x Γ).bind fun (x, Γ) => (trD x.d).bind fun c => if c then some (.fz x.d, Γ) else (evX y Γ).map fun (y, Γ) => (.fz y.d, Γ) := by funext Γ; rw [evX]
      have e2 : evT (.or x y) = fun Γ => (evT x Γ).bind fun (c, Γ) => if c then some (true, Γ) else evT y Γ := by funext Γ; rw [evT]
      have w := t_or qa.pt (qb.pw rfl)
      rw [← e2] at w
      exact ⟨by show PE X _ (tX X.K (evX (IE.or x y))); rw [e1]; exact s_or qa.pe qb.pe, w.pt, fun _ => w, rfl⟩
theorem bin_sound (hp : Pyl X) (op : Operator) (o : BOp) (h : binOf op = some o) : OpR X (binaryOp op) (rB X.K (binD o)) := by
  cases op <;> cases h
  · exact op_addD
  · exact op_subD
  · exact op_mulD
  · exact op_modD
  · exact op_powD
  · exact op_fdivD hp
theorem cmp_sound (hu : X.A.units + 65 < cLine) (op : CmpOp) (o : COp) (h : cmpOf op = some o) : OpR X (compareOp op) (rC X.K (cmpD o)) := by
  cases op <;> cases h
  · exact op_eqC hu
  · exact op_neC hu
  · exact op_ltC
  · exact op_leC
  · exact op_gtC
  · exact op_geC
  · exact op_isC
  · exact op_isnC
  · exact op_inC hu
  · exact op_ninC hu
theorem bi_callB {id : String} {f : BF} {x : Str} {es : List Expr} {g : FA} {p pos : Pos} (h : EOk k c X) (hc : CallR X (.builtin id) (rK X.K f)) (hg : Gl X x) (hm : X.mg x = none) (hv : bootBuiltins x = some (.builtin id)) (ha : PA X es (tAs X.K g)) (hu : es.all unstar = true) (hne : es ≠ []) (hx : okName x = true) :
    PE X (.Call (.Name x p) es [] pos) (tX X.K fun Γ => (g Γ).bind fun (ds, Γ) => (biD f ds).map fun r => (r, Γ)) := by
  obtain ⟨n1, n2, n3⟩ := ok_names hx
  cases es with
  | nil => exact absurd rfl hne
  | cons e es =>
    simp only [List.all_cons, Bool.and_eq_true] at hu
    exact s_bi (t := tAs X.K g) (pe_callB hc hg hm hv ha n3 n1 (star_cons hu.1) (star_plain hu.2))
theorem bi_callT {T : String} {f : BF} {x : Str} {es : List Expr} {g : FA} {p pos : Pos} (h : EOk k c X) (hc : CallR X (.type T) (rK X.K f)) (hg : Gl X x) (hm : X.mg x = none) (hv : bootBuiltins x = some (.type T)) (ha : PA X es (tAs X.K g)) (hu : es.all unstar = true) (hne : es ≠ []) (hx : okName x = true) :
    PE X (.Call (.Name x p) es [] pos) (tX X.K fun Γ => (g Γ).bind fun (ds, Γ) => (biD f ds).map fun r => (r, Γ)) := by
  obtain ⟨n1, n2, n3⟩ := ok_names hx
  cases es with
  | nil => exact absurd rfl hne
  | cons e es =>
    simp only [List.all_cons, Bool.and_eq_true] at hu
    exact s_bi (t := tAs X.K g) (pe_callTy hc hg hm hv ha n3 n1 (star_cons hu.1) (star_plain hu.2))
theorem biOf_sound {x : Str} {es : List Expr} {f : BF} {g : FA} {p pos : Pos} (h : EOk k c X) (hb : biOf x es.length = some f) (hg : Gl X x) (hm : X.mg x = none) (ha : PA X es (tAs X.K g)) (hu : es.all unstar = true) (hx : okName x = true) :
    PE X (.Call (.Name x p) es [] pos) (tX X.K fun Γ => (g Γ).bind fun (ds, Γ) => (biD f ds).map fun r => (r, Γ)) := by
  have hne : es ≠ [] := fun z => by subst z; simp [biOf] at hb
  unfold biOf at hb
  repeat' (split at hb)
  all_goals (first | (cases hb; done) | skip)
  all_goals (cases hb; subst_vars)
  · exact bi_callB h k_len hg hm PySem.boot_len ha hu hne hx
  · exact bi_callB h k_abs hg hm PyProof.Rows.boot_abs ha hu hne hx
  · exact bi_callT h k_int hg hm PyProof.Rows.boot_int ha hu hne hx
  · exact bi_callB h (k_repr h.gd h.un) hg hm PyProof.Rows.boot_repr ha hu hne hx
  · exact bi_callT h k_tuple hg hm PyProof.Rows.boot_tuple ha hu hne hx
  · exact bi_callT h k_list hg hm PyProof.Rows.boot_list ha hu hne hx
  · exact bi_callB h (k_all h.calm) hg hm PyProof.Rows.boot_all ha hu hne hx
  · exact bi_callB h (k_any h.calm) hg hm PyProof.Rows.boot_any ha hu hne hx
  · exact bi_callB h (k_sum h.calm) hg hm PyProof.Rows.boot_sum ha hu hne hx
  · exact bi_callB h k_divmod hg hm PyProof.Rows.boot_divmod ha hu hne hx
  · exact bi_callB h (k_max h.calm) hg hm PyProof.Rows.boot_max ha hu hne hx
  · exact bi_callB h (k_min h.calm) hg hm PyProof.Rows.boot_min ha hu hne hx
end
end EvL
namespace EvL
open PySem PySem.Spec PyProof.Rows L2
section
variable {X : Cx} {e : Expr} {es : List Expr} {fa : FX} {g g' : FA}
theorem s_star {p : Pos} (ha : PE X e (tX X.K fa)) (hr : PA X es (tAs X.K g)) : PA X (.Starred e p :: es) (tAs X.K fun Γ => (fa Γ).bind fun (x, Γ) => (seqD x.d).bind fun xs => (g Γ).map fun (ds, Γ) => (xs ++ ds, Γ)) :=
  (StX.pa_star (pe_fast ha) hr).imp fun σ H Q ⟨Γ, Hf, r, Γ', R, ef, k⟩ => by
    obtain ⟨⟨rx, Γ1⟩, e1, ef⟩ := bindS ef
    obtain ⟨xs, e2, ef⟩ := bindS ef
    obtain ⟨⟨ds, Γ2⟩, e3, e4⟩ := mapS' ef
    cases e4
    refine ⟨Γ, Hf, rx, Γ1, R, e1, fun x H1 Hf1 R1 S1 d1 => ?_⟩
    obtain ⟨kk, a, vs, rfl, d2, sq⟩ := dq_seq d1 e2
    refine ⟨a, vs, rfl, ?_, Γ1, Hf1, ds, _, R1, e3, fun ws H2 Hf2 R2 S2 d3 => k _ H2 Hf2 R2 (S1.tr S2) (dps_app (dpMs S2.ext d2) d3)⟩
    have z := sq H1 R1.sub
    cases kk with
    | true => exact .inl z
    | false => exact .inr z
theorem tAs_mono (h : ∀ Γ r, g' Γ = some r → g Γ = some r) (a : PA X es (tAs X.K g)) : PA X es (tAs X.K g') := a.imp fun σ H Q ⟨Γ, Hf, r, Γ', R, ef, k⟩ => ⟨Γ, Hf, r, Γ', R, h _ _ ef, k⟩
theorem bi_list {d : D} {r : RV} (h : biD .list [d] = some r) : ∃ xs, seqD d = some xs ∧ r = .ow xs := by
  cases d <;> first | (cases h; done) | (cases h; exact ⟨_, rfl, rfl⟩)
theorem evs_one {x : IE} {Γ Γ' : Ga} {us : List D} (h : evs [x] Γ = some (us, Γ')) : ∃ d, evX x Γ = some (d, Γ') ∧ us = [d.d] := by
  rw [evs] at h
  obtain ⟨⟨d, Γ1⟩, e1, e2⟩ := bindS h
  simp only [evs, Option.map_some] at e2
  cases e2
  exact ⟨d, e1, rfl⟩
/-- a list that nobody else knows -/
def owF (ir : IE) : FA := fun Γ => (evX ir Γ).bind fun (r, Γ) => r.own.map fun ds => (ds, Γ)
theorem add_own {xs ds : List D} {r : RV} (h : binD .add (.list xs) (.list ds) = some r) : r = .ow (xs ++ ds) ∧ (xs ++ ds).length ≤ lim := by
  have h' : (if xs.length + ds.length ≤ lim then some (RV.ow (xs ++ ds)) else none) = some r := h
  split at h'
  · rename_i hl
    cases h'
    exact ⟨rfl, by rw [List.length_append]; exact hl⟩
  · cases h'
theorem compSt_sound {f : Expr → Option IE} (hf : ∀ e ir, f e = some ir → Snd X e ir) : ∀ {es : List Expr} {ir : IE}, compSt f es = some ir →
    PA X es (tAs X.K (owF ir)) ∧ ∀ Γ r Γ', evX ir Γ = some (r, Γ') → ∃ ds, r = .ow ds ∧ ds.length ≤ lim
  | [], ir, h => by
    cases (show some (IE.lst []) = some ir from h)
    refine ⟨tAs_mono (fun Γ r h => ?_) (s_nil (X := X)), fun Γ r Γ' h => ?_⟩
    · simp only [owF] at h
      rw [evX, evs] at h
      exact h
    · rw [evX, evs] at h
      cases h
      exact ⟨[], rfl, Nat.zero_le _⟩
  | e :: es, ir, h => by
    have key : ∃ x r, (compSt f es) = some r ∧ ((∃ e' p, e = .Starred e' p ∧ f e' = some x ∧ ir = .bin .add (.bi .list [x]) r) ∨ (f e = some x ∧ ir = .bin .add (.lst [x]) r)) := by
      by_cases hst : ∃ e' p, e = .Starred e' p
      · obtain ⟨e', p, rfl⟩ := hst
        obtain ⟨x, h1, h⟩ := bindS (show (f e').bind (fun x => (compSt f es).map fun r => .bin .add (.bi .list [x]) r) = some ir from h)
        obtain ⟨r, h2, rfl⟩ := mapS' h
        exact ⟨x, r, h2, .inl ⟨e', p, rfl, h1, rfl⟩⟩
      · have h : (f e).bind (fun x => (compSt f es).map fun r => .bin .add (.lst [x]) r) = some ir := by
          cases e <;> first | exact h | exact absurd ⟨_, _, rfl⟩ hst
        obtain ⟨x, h1, h⟩ := bindS h
        obtain ⟨r, h2, rfl⟩ := mapS' h
        exact ⟨x, r, h2, .inr ⟨h1, rfl⟩⟩
    obtain ⟨x, r, h2, hh⟩ := key
    obtain ⟨a, b⟩ := compSt_sound hf h2
    rcases hh with ⟨e', p, rfl, h1, rfl⟩ | ⟨h1, rfl⟩
    · have ex : ∀ {Γ q Γ'}, evX (.bin .add (.bi .list [x]) r) Γ = some (q, Γ') → ∃ d Γ1 xs ds, evX x Γ = some (d, Γ1) ∧ seqD d.d = some xs ∧ evX r Γ1 = some (.ow ds, Γ') ∧ q = .ow (xs ++ ds) ∧ (xs ++ ds).length ≤ lim := by
        intro Γ q Γ' h
        rw [evX] at h
        obtain ⟨⟨u, Γ1⟩, e1, h⟩ := bindS h
        rw [evX] at e1
        obtain ⟨⟨us, Γ1'⟩, e2, e1⟩ := bindS e1
        obtain ⟨d, e3, rfl⟩ := evs_one e2
        obtain ⟨u', e4, e5⟩ := mapS' e1
        cases e5
        obtain ⟨xs, e6, rfl⟩ := bi_list e4
        obtain ⟨⟨w, Γ2⟩, e7, h⟩ := bindS h
        obtain ⟨ds, rfl, hl⟩ := b _ _ _ e7
        obtain ⟨z, e8, e9⟩ := mapS' h
        cases e9
        obtain ⟨rfl, hl2⟩ := add_own e8
        exact ⟨d, Γ1, xs, ds, e3, e6, e7, rfl, hl2⟩
      refine ⟨tAs_mono (fun Γ q h => ?_) (s_star (p := p) (hf _ _ h1).pe a), fun Γ q Γ' h => ?_⟩
      · obtain ⟨⟨q1, Γ'⟩, e1, e2⟩ := bindS h
        obtain ⟨d, Γ1, xs, ds, e3, e6, e7, rfl, _⟩ := ex e1
        cases e2
        simp only [e3, Option.bind_some, e6, owF, e7, RV.own, Option.map_some]
      · obtain ⟨d, Γ1, xs, ds, e3, e6, e7, rfl, hl⟩ := ex h
        exact ⟨_, rfl, hl⟩
    · have ex : ∀ {Γ q Γ'}, evX (.bin .add (.lst [x]) r) Γ = some (q, Γ') → ∃ d Γ1 ds, evX x Γ = some (d, Γ1) ∧ evX r Γ1 = some (.ow ds, Γ') ∧ q = .ow (d.d :: ds) ∧ (d.d :: ds).length ≤ lim := by
        intro Γ q Γ' h
        rw [evX] at h
        obtain ⟨⟨u, Γ1⟩, e1, h⟩ := bindS h
        rw [evX] at e1
        obtain ⟨⟨us, Γ1'⟩, e2, e1⟩ := mapS' e1
        obtain ⟨d, e3, rfl⟩ := evs_one e2
        cases e1
        obtain ⟨⟨w, Γ2⟩, e7, h⟩ := bindS h
        obtain ⟨ds, rfl, hl⟩ := b _ _ _ e7
        obtain ⟨z, e8, e9⟩ := mapS' h
        cases e9
        obtain ⟨rfl, hl2⟩ := add_own (xs := [d.d]) e8
        exact ⟨d, Γ1, ds, e3, e7, rfl, hl2⟩
      refine ⟨tAs_mono (fun Γ q h => ?_) (s_cons (hf _ _ h1).pe a (plain_unstar (hf _ _ h1).pl)), fun Γ q Γ' h => ?_⟩
      · obtain ⟨⟨q1, Γ'⟩, e1, e2⟩ := bindS h
        obtain ⟨d, Γ1, ds, e3, e7, rfl, _⟩ := ex e1
        cases e2
        simp only [e3, Option.bind_some, owF, e7, RV.own, Option.map_some]
      · obtain ⟨d, Γ1, ds, e3, e7, rfl, hl⟩ := ex h
        exact ⟨_, rfl, hl⟩
/-- .. as a list -/
theorem pe_owF {ir : IE} {pos : Pos} (ha : PA X es (tAs X.K (owF ir))) (hl : ∀ Γ r Γ', evX ir Γ = some (r, Γ') → ∃ ds, r = .ow ds ∧ ds.length ≤ lim) : PE X (.List es pos) (tX X.K (evX ir)) :=
  (pe_lst ha).imp fun σ H Q ⟨Γ, Hf, r, Γ', R, ef, k⟩ => by
    obtain ⟨ds, rfl, hz⟩ := hl _ _ _ ef
    refine ⟨Γ, Hf, ds, _, R, by rw [owF, ef]; rfl, fun vs H1 Hf1 R1 S1 d1 => ⟨?_, (Post.fin R1 S1 k).lst R1.sub d1⟩⟩
    rw [dps_len d1]; exact Nat.le_trans hz lim_le
/-- .. as a tuple -/
theorem pe_owT {ir : IE} {pos : Pos} {kk} (ha : PA X es (tAs X.K (owF ir))) (hl : ∀ Γ r Γ', evX ir Γ = some (r, Γ') → ∃ ds, r = .ow ds ∧ ds.length ≤ lim) : PE X (.Tuple es kk pos) (tX X.K (evX (.bi .tuple [ir]))) :=
  (pe_tup ha).imp fun σ H Q ⟨Γ, Hf, r, Γ', R, ef, k⟩ => by
    rw [evX] at ef
    obtain ⟨⟨us, Γ1⟩, e2, ef⟩ := bindS ef
    obtain ⟨d, e3, rfl⟩ := evs_one e2
    obtain ⟨ds, rfl, hz⟩ := hl _ _ _ e3
    obtain ⟨u', e4, e5⟩ := mapS' ef
    cases e5
    cases (show some (RV.fz (.tuple ds)) = some _ from e4)
    refine ⟨Γ, Hf, ds, _, R, by rw [owF, e3]; rfl, fun vs H1 Hf1 R1 S1 d1 => ⟨?_, (Post.fin R1 S1 k).tup R1.sub d1⟩⟩
    rw [dps_len d1]; exact Nat.le_trans hz lim_le
end
end EvL

set_option Elab.async false
set_option linter.all false
set_option maxRecDepth 100000
set_option maxHeartbeats 8000000
namespace EvL
open PySem PySem.Spec PyProof.Rows L2

section
variable {X : Cx} {k : Nat} {c : Cc}
theorem compCall_sound {f : Expr → Option IE} (h : EOk k c X) (hf : ∀ e ir, f e = some ir → Snd X e ir) {x : Str} {es : List Expr} {kws : List Keyword} {p pos : Pos} {ir : IE} (hc : compCall f c x es kws = some ir) : Snd X (.Call (.Name x p) es kws pos) ir := by
  unfold compCall at hc
  split at hc
  case isFalse => cases hc
  rename_i h0
  simp only [Bool.and_eq_true] at h0
  obtain ⟨⟨hx, hgl⟩, hu⟩ := h0
  have hg := glo_of h hgl
  obtain ⟨n1, n2, n3⟩ := ok_names hx
  split at hc
  · -- isinstance
    rename_i hxi
    subst hxi
    split at hc
    · rename_i a T tp
      split at hc
      · rename_i hh
        simp only [Bool.and_eq_true] at hh
        obtain ⟨⟨⟨b1, b2⟩, b3⟩, b4⟩ := hh
        obtain ⟨bf, t1, hc⟩ := bindS hc
        obtain ⟨a', t2, rfl⟩ := mapS' hc
        have q := hf a a' t2
        obtain ⟨m1, m2, m3⟩ := ok_names b4
        have hT : ∃ n : String, bootBuiltins T = some (.type n) ∧ tyName bf = some n := by
          unfold tyBF at t1
          repeat' (split at t1)
          all_goals (first | (cases t1; done) | skip)
          all_goals (cases t1; subst_vars)
          · exact ⟨_, PyProof.Rows.boot_int, rfl⟩
          · exact ⟨"bool", by decide +kernel, rfl⟩
          · exact ⟨_, PyProof.Rows.boot_tuple, rfl⟩
          · exact ⟨_, PyProof.Rows.boot_list, rfl⟩
          · exact ⟨"str", by decide +kernel, rfl⟩
        obtain ⟨n, hb, hn⟩ := hT
        have pT : PE X (.Name T tp) (tC (.ty n)) := pe_bltn (glo_of h b3) (bl_of h b2) hb rfl m3 m1
        have key : PE X (.Call (.Name "isinstance" p) [a, .Name T tp] [] pos) (tX X.K (evX (.bi bf [a']))) := by
          refine (pe_callB (k_isi (f := bf)) hg (bl_of h b1) PyProof.Rows.boot_isinstance (pa_cons (pe_fast q.pe) (pa_cons pT pa_nil (star_cons rfl)) (star_cons (plain_unstar q.pl))) n3 n1 (star_cons (plain_unstar q.pl)) (star_plain rfl)).imp fun σ H Q ⟨Γ, Hf, r, Γ', R, ef, kk⟩ => ?_
          rw [evX] at ef
          obtain ⟨⟨ds, Γ1⟩, e1, ef⟩ := bindS ef
          rw [evs] at e1
          obtain ⟨⟨rx, Γ2⟩, e2, e1⟩ := bindS e1
          obtain ⟨⟨ds', Γ3⟩, e2', e1⟩ := mapS' e1
          rw [evs] at e2'
          cases e2'
          cases e1
          obtain ⟨w, e3, e4⟩ := mapS' ef
          cases e4
          have e5 : r = .fz (.bool (isD bf rx.d)) := by
            cases bf <;> first | (cases hn; done) | (cases e3; rfl)
          subst e5
          exact ⟨Γ, Hf, rx, _, R, e2, fun v H1 Hf1 R1 S1 d1 => ⟨Hf1, v, n, rx.d, rfl, hn, R1.sub, d1, kk _ _ Hf1 R1 S1 (.bl _)⟩⟩
        exact mk _ _ rfl rfl key (.inl fun Γ => by
          rw [evX, evT]
          cases evs [a'] Γ with
          | none => rfl
          | some p => obtain ⟨ds, Γ1⟩ := p; simp only [Option.bind_some]; cases biD bf ds <;> rfl)
      · cases hc
    · cases hc
  · have fin : ∀ (bf : BF) (irs : List IE), PE X (.Call (.Name x p) es [] pos) (tX X.K fun Γ => (evs irs Γ).bind fun (ds, Γ) => (biD bf ds).map fun r => (r, Γ)) → Snd X (.Call (.Name x p) es [] pos) (.bi bf irs) := fun bf irs q =>
      mk _ _ rfl rfl (by rwa [show evX (.bi bf irs) = fun Γ => (evs irs Γ).bind fun (ds, Γ) => (biD bf ds).map fun r => (r, Γ) from by funext Γ; rw [evX]]) (.inl fun Γ => by
        rw [evX, evT]
        cases evs irs Γ with
        | none => rfl
        | some p => obtain ⟨ds, Γ1⟩ := p; simp only [Option.bind_some]; cases biD bf ds <;> rfl)
    split at hc
    · -- gcd
      rename_i _ hxg
      subst hxg
      split at hc
      · rename_i hh
        simp only [Bool.and_eq_true, decide_eq_true_eq] at hh
        obtain ⟨⟨g1, g2⟩, g3⟩ := hh
        obtain ⟨irs, t1, rfl⟩ := mapS' hc
        cases kws with
        | cons => cases g2
        | nil =>
          obtain ⟨a, _, _⟩ := compL_sound hf t1
          cases es with
          | nil => cases g3
          | cons e es =>
            simp only [List.all_cons, Bool.and_eq_true] at hu
            exact fin .gcd irs (s_bi (t := tAs X.K (evs irs)) (pe_callBfun k_gcd hg (h.gcd g1) a n1 (star_cons hu.1) (star_plain hu.2)))
      · cases hc
    · split at hc
      · -- len of a slot
        rename_i i hi
        cases hc
        unfold lenArg at hi
        split at hi
        case isFalse => cases hi
        rename_i h1
        simp only [Bool.and_eq_true, decide_eq_true_eq] at h1
        obtain ⟨⟨q1, q2⟩, q3⟩ := h1
        subst q1
        split at hi
        case h_2 => cases hi
        split at hi
        case isFalse => cases hi
        rename_i y p2 h2
        simp only [Bool.and_eq_true] at h2
        have hix := ixOf_get hi
        rw [← h.hN] at hix
        obtain ⟨m1, m2, _⟩ := ok_names h2.1
        cases kws with
        | cons => cases q3
        | nil =>
          have key := s_lenv (pos := pos) (p := p) (py := p2) hix (vis_of h h2.2) m1 m2 hg (bl_of h q2)
          refine mk _ _ rfl rfl ?_ (.inl fun Γ => ?_)
          · rwa [show evX (.lenv i) = fun Γ => (slotD i Γ).bind fun d => (biD .len [d]).map fun r => (r, Γ) from by funext Γ; rw [evX]]
          · rw [evX, evT]
            cases slotD i Γ with
            | none => rfl
            | some d => simp only [Option.bind_some]; cases biD .len [d] <;> rfl
      · split at hc
        · -- a built-in
          rename_i bf hb
          split at hc
          · rename_i hh
            simp only [Bool.and_eq_true] at hh
            obtain ⟨irs, t1, rfl⟩ := mapS' hc
            cases kws with
            | cons => cases hh.2
            | nil =>
              obtain ⟨a, _, _⟩ := compL_sound hf t1
              exact fin bf irs (biOf_sound h hb hg (bl_of h hh.1) a hu hx)
          · cases hc
        · -- the table
          split at hc
          · cases hc
          · rename_i E hE
            have h3 := List.find?_some hE
            have h4 := List.mem_of_find?_eq_some hE
            simp only [Bool.and_eq_true, decide_eq_true_eq] at h3
            obtain ⟨⟨d1, d2⟩, d3⟩ := h3
            subst d1
            have C := h.fns E h4
            split at hc
            · rename_i hmt
              split at hc
              · rename_i hh
                simp only [Bool.and_eq_true, decide_eq_true_eq] at hh
                obtain ⟨k1, k2⟩ := hh
                have hkw : kws = [] := by
                  rw [k1] at d3
                  cases kws with
                  | nil => rfl
                  | cons => simp at d3
                subst hkw
                split at hc
                · cases hc
                · rename_i y py rest hlen hbn
                  split at hc
                  · rename_i hy
                    simp only [Bool.and_eq_true] at hy
                    obtain ⟨i, t1, hc⟩ := bindS hc
                    obtain ⟨irs, t2, rfl⟩ := mapS' hc
                    obtain ⟨a, u2, l2⟩ := compL_sound hf t2
                    obtain ⟨m1, m2, m3⟩ := ok_names hy.1
                    have hi := ixOf_get t1
                    rw [← h.hN] at hi
                    have key := s_callm (p := p) (pos := pos) (px := py) C h.rm h.gd hg n1 hi (vis_of h hy.2) m1 m2 (by simpa using d2.symm) k1 k2 u2 a (fun Γ ds Γ' e => (evs_len e).trans l2)
                    refine mk _ _ rfl rfl ?_ (.inl fun Γ => ?_)
                    · rwa [show evX (.callm E.f i irs) = _ from by funext Γ; rw [evX]]
                    · rw [evX, evT]
                      split
                      · cases evs irs Γ with
                        | none => rfl
                        | some p =>
                          obtain ⟨ds, Γ1⟩ := p
                          simp only [Option.bind_some]
                          split
                          · rename_i b cc _
                            simp only [hmt, if_true]
                            cases E.f.run (.list cc :: ds) <;> rfl
                          · rfl
                      · rfl
                  · cases hc
                · rename_i e hne hlen hbn
                  obtain ⟨r, t1, rfl⟩ := mapS' hc
                  have q := hf e r t1
                  have key := s_callt (p := p) (pos := pos) C h.rm h.gd hg n1 (by simpa using d2.symm) k1 k2 (plain_unstar q.pl) q.pe
                  refine mk _ _ rfl rfl ?_ (.inl fun Γ => ?_)
                  · rwa [show evX (.callt E.f r) = _ from by funext Γ; rw [evX]]
                  · rw [evX, evT]
                    cases evX r Γ with
                    | none => rfl
                    | some p =>
                      obtain ⟨x, Γ1⟩ := p
                      cases x with
                      | fz d => rfl
                      | oo rss => rfl
                      | ow cc =>
                        simp only [Option.bind_some, hmt, if_true]
                        cases E.f.run [.list cc] <;> rfl
                · cases hc
              · cases hc
            · rename_i hmt
              obtain ⟨as, t1, hc⟩ := bindS hc
              obtain ⟨bs, t2, rfl⟩ := mapS' hc
              obtain ⟨a, u2, l2⟩ := compL_sound hf t1
              obtain ⟨b, l3⟩ := compK_sound hf t2
              have l4 : kws.length = E.kws.length := by have := congrArg List.length d3; simpa using this
              have key := s_call (p := p) (pos := pos) C h.rm h.gd hg n1 d2.symm d3 u2 a b (fun Γ ds Γ' e => by rw [evs_len e, l2, d2]) (fun Γ ds Γ' e => by rw [evs_len e, l3, l4])
                (fun z => by subst z; cases (show some [] = some as from t1); funext Γ; rw [evs])
              have ee : ∀ Γ, evX (.call E.f E.pm (as ++ bs)) Γ = ((evs as Γ).bind fun (ds, Γ) => (evs bs Γ).bind fun (xs, Γ) => if E.f.mt then none else (E.f.run (E.pm (ds ++ xs))).map fun (r, _) => (r, Γ)) := fun Γ => by
                rw [evX, evs_app]
                cases evs as Γ with
                | none => rfl
                | some p =>
                  obtain ⟨ds, Γ1⟩ := p
                  simp only [Option.bind_some]
                  cases evs bs Γ1 with
                  | none => rfl
                  | some p => rfl
              refine mk _ _ rfl rfl ?_ (.inl fun Γ => ?_)
              · rwa [show evX (.call E.f E.pm (as ++ bs)) = _ from funext ee]
              · rw [evX, evT]
                cases evs (as ++ bs) Γ with
                | none => rfl
                | some p =>
                  obtain ⟨ds, Γ1⟩ := p
                  simp only [Option.bind_some]
                  split
                  · rfl
                  · cases E.f.run (E.pm ds) <;> rfl
theorem evs1 (a : IE) : evs [a] = fun Γ => (evX a Γ).bind fun (x, Γ) => some ([x.d], Γ) := by
  funext Γ
  rw [evs]
  cases evX a Γ with
  | none => rfl
  | some p => obtain ⟨x, Γ1⟩ := p; simp only [Option.bind_some]; rw [evs]; rfl
theorem compI_sound {f : Expr → Option IE} (h : EOk k c X) (hf : ∀ e ir, f e = some ir → Snd X e ir) {tg e : Expr} {kk : IK} {irs : List IE} (hc : compI f c tg e = some (kk, irs)) : PI X tg e (tI X.K kk (evs irs)) := by
  have seq : ∀ {e : Expr}, ((f e).map fun a => ((IK.seq, [a]) : IK × List IE)) = some (kk, irs) → PI X tg e (tI X.K kk (evs irs)) := fun {e} hc => by
    obtain ⟨a, t1, t2⟩ := mapS' hc
    cases t2
    rw [evs1]
    exact i_seq (hf e a t1).pe
  have pa : ∀ {es : List Expr} {irs : List IE}, compL f es = some irs → PA X es (tAs X.K (evs irs)) := fun h => (compL_sound hf h).1
  unfold compI at hc
  simp only at hc
  split at hc
  · rename_i x p es pos
    split at hc
    · rename_i h0
      simp only [Bool.and_eq_true] at h0
      obtain ⟨⟨⟨hx, hgl⟩, hb⟩, hu⟩ := h0
      have hg := glo_of h hgl
      have hm := bl_of h hb
      split at hc
      · rename_i hxr
        subst hxr
        split at hc
        · obtain ⟨a, t1, t2⟩ := mapS' hc
          cases t2
          exact i_rng1 hg hm (pa (show compL f _ = some [a] by simp [compL, t1])) (plain_unstar (hf _ _ t1).pl)
        · obtain ⟨a, t1, hc⟩ := bindS hc
          obtain ⟨b, t2, t3⟩ := mapS' hc
          cases t3
          exact i_rng2 hg hm (pa (show compL f _ = some [a, b] by simp [compL, t1, t2])) (plain_unstar (hf _ _ t1).pl) (plain_unstar (hf _ _ t2).pl)
        · obtain ⟨a, t1, hc⟩ := bindS hc
          obtain ⟨b, t2, hc⟩ := bindS hc
          obtain ⟨d, t3, t4⟩ := mapS' hc
          cases t4
          exact i_rng3 hg hm (pa (show compL f _ = some [a, b, d] by simp [compL, t1, t2, t3])) (plain_unstar (hf _ _ t1).pl) (by simp [plain_unstar (hf _ _ t2).pl, plain_unstar (hf _ _ t3).pl])
        · cases hc
      · split at hc
        · rename_i hxr
          subst hxr
          split at hc
          · obtain ⟨a, t1, t2⟩ := mapS' hc
            cases t2
            rw [evs1]
            exact i_rev hg hm (hf _ _ t1).pe (plain_unstar (hf _ _ t1).pl)
          · cases hc
        · split at hc
          · rename_i hxr
            subst hxr
            split at hc
            · split at hc
              · rename_i ht
                obtain ⟨a, t1, t2⟩ := mapS' hc
                cases t2
                rw [evs1]
                cases tg <;> first | (cases ht; done) | exact i_enum hg hm (hf _ _ t1).pe (plain_unstar (hf _ _ t1).pl)
              · cases hc
            · cases hc
          · split at hc
            · rename_i hxr
              subst hxr
              split at hc
              · split at hc
                · rename_i ht
                  obtain ⟨a, t1, hc⟩ := bindS hc
                  obtain ⟨b, t2, t3⟩ := mapS' hc
                  cases t3
                  cases tg <;> first | (cases ht; done) | exact i_zip hg hm (pa (show compL f _ = some [a, b] by simp [compL, t1, t2])) (plain_unstar (hf _ _ t1).pl) (plain_unstar (hf _ _ t2).pl)
                · cases hc
              · cases hc
            · exact seq hc
    · exact seq hc
  · exact seq hc
theorem compTs_sound {f : Expr → Option Tg} (hf : ∀ e t, f e = some t → PG X e (tG X.K t)) : ∀ {es : List Expr} {ts : List Tg}, compTs f es = some ts → PGs X es (tGs X.K ts) ∧ es.all unstar = true ∧ es.length = ts.length
  | [], ts, h => by
    cases (show some [] = some ts from h)
    exact ⟨g_nil, rfl, rfl⟩
  | e :: es, ts, h => by
    unfold compTs at h
    split at h
    · rename_i hu
      obtain ⟨x, h1, h⟩ := bindS h
      obtain ⟨xs, h2, rfl⟩ := mapS' h
      obtain ⟨a, b, l⟩ := compTs_sound hf h2
      exact ⟨g_cons (hf e x h1) a hu, by simp [hu, b], by simp [l]⟩
    · cases h
theorem compT_sound (h : EOk k c X) (n : Nat) : ∀ (e : Expr) (t : Tg), compT n c e = some t → PG X e (tG X.K t) := by
  induction n with
  | zero => intro e t hc; cases hc
  | succ n ih =>
    intro e t hc
    unfold compT at hc
    split at hc
    · cases ‹_ = 0›
    · rename_i x p _
      split at hc
      · rename_i hh
        simp only [Bool.and_eq_true] at hh
        obtain ⟨i, t1, rfl⟩ := mapS' hc
        have hi := ixOf_get t1
        rw [← h.hN] at hi
        have hl := hh.2
        unfold locK at hl
        rw [← h.sc] at hl
        split at hl
        · exact g_nm h.nd hi (.inl ‹_›) (.inr ‹_›)
        · exact g_nm h.nd hi (.inr ‹_›) (.inl (h.fnC _ (List.contains_iff_mem.mp hl)))
        · cases hl
      · cases hc
    · rename_i m es kk p e0
      cases e0
      obtain ⟨ts, t1, rfl⟩ := mapS' hc
      obtain ⟨a, b, l⟩ := compTs_sound ih t1
      exact g_tp h.calm l b a
    · cases hc
end
end EvL

set_option Elab.async false
set_option linter.all false
set_option maxRecDepth 100000
set_option maxHeartbeats 16000000
namespace EvL
open PySem PySem.Spec PyProof.Rows L2

/-! ### xs[::-1] -/
theorem fm_map {α β : Type} (f : α → Option β) (g : α → β) : ∀ xs : List α, (∀ x ∈ xs, f x = some (g x)) → xs.filterMap f = xs.map g
  | [], _ => rfl
  | x :: xs, h => by
    rw [List.filterMap_cons, h x List.mem_cons_self, List.map_cons]
    simp only
    rw [fm_map f g xs fun y hy => h y (List.mem_cons_of_mem _ hy)]
section
variable {prog : Program} {w : World} {A : Around} {E : Value → Shared → Prop} {s : Shared}
theorem pick_rev (items : Array Value) : ((List.range items.size).filterMap fun (m : Nat) => items[((items.size : Int) - 1 + (m : Int) * -1).toNat]?).toArray = items.toList.reverse.toArray := by
  congr 1
  refine List.ext_getElem? fun i => ?_
  have e : (List.range items.size).filterMap (fun (m : Nat) => items[((items.size : Int) - 1 + (m : Int) * -1).toNat]?) = (List.range items.size).map fun m => items.toList.reverse.getD m .none := by
    refine fm_map _ _ _ fun m hm => ?_
    have hm := List.mem_range.mp hm
    have h1 : ((items.size : Int) - 1 + (m : Int) * -1).toNat = items.size - 1 - m := by omega
    rw [h1]
    have h2 : items.size - 1 - m < items.size := by omega
    rw [Array.getElem?_eq_getElem h2]
    congr 1
    have h3 : m < items.toList.reverse.length := by simp; exact hm
    rw [List.getD_eq_getElem?_getD, List.getElem?_eq_getElem h3, Option.getD_some, List.getElem_reverse]
    simp
  rw [e, List.getElem?_map]
  by_cases hi : i < items.size
  · rw [List.getElem?_range hi]
    have h3 : i < items.toList.reverse.length := by simp; exact hi
    simp only [Option.map_some]
    rw [List.getD_eq_getElem?_getD, List.getElem?_eq_getElem h3, Option.getD_some]
  · rw [List.getElem?_eq_none (by simp; omega), List.getElem?_eq_none (by simp; omega)]; rfl
theorem places_rev (n : Nat) : Builtin.Slice.slicePlaces ((n : Int) - 1) (-1) (-1) = n := by
  unfold Builtin.Slice.slicePlaces
  rw [if_neg (by decide)]
  by_cases h : n = 0
  · subst h; decide
  · rw [if_pos (by omega)]
    rw [show (- -1 : Int) = 1 by decide, Int.ediv_one]
    omega
theorem applied_rev {sl : Addr} {vs : Value} {n : Nat} {Q : Int × Int × Nat → Shared → Prop} (hs : s.heap.IsSliceOf sl .none .none vs) (ps : IsPart vs (some (-1))) (h : Q ((n : Int) - 1, -1, n) s) : wpAny (model prog w) A (Builtin.Slice.sliceApplied (.ref sl) (pure (n : Int))) Q E s := by
  obtain ⟨os, hos, hcs, hds⟩ := id hs
  unfold Builtin.Slice.sliceApplied Builtin.Slice.sliceFields
  refine wpAny_bind (wpAny_bind (wpAny_field hos hds (x := .none) rfl (wpAny_bind (wpAny_field hos hds (x := .none) rfl (wpAny_bind (wpAny_field hos hds (x := vs) rfl (wpAny_pure ?_)))))))
  refine wpAny_bind (HT.slicePart_ ps ?_)
  show wpAny _ _ (if ((-1 : Int) == 0) = true then _ else _) _ _ s
  rw [if_neg (by decide)]
  refine wpAny_bind (slicePart_none (wpAny_bind (slicePart_none (wpAny_bind (wpAny_pure ?_)))))
  show wpAny _ _ (pure ((n : Int) - 1, (-1 : Int), Builtin.Slice.slicePlaces ((n : Int) - 1) (-1) (-1))) _ _ s
  rw [places_rev]
  exact wpAny_pure h
end
theorem getItem_tuple_rev {prog : Program} {w : World} {A : Around} {E : Value → Shared → Prop} {s : Shared} {t sl : Addr} {items : Array Value} {vs : Value} {Q : Value → Shared → Prop} (ht : IsTup s.heap t items) (hs : s.heap.IsSliceOf sl .none .none vs) (ps : IsPart vs (some (-1)))
    (h : Q (.ref s.heap.objs.size) { s with heap := s.heap.push { cls := .type "tuple", data := .seq items.toList.reverse.toArray } }) (hsz : items.size ≤ sizeLine) : wpAny (model prog w) A (getItem (.ref t) (.ref sl)) Q E s := by
  have hok : sizeOk (.seq items.toList.reverse.toArray) := by
    show items.toList.reverse.toArray.size ≤ sizeLine
    simpa using hsz
  obtain ⟨os, hos, hcs, hds⟩ := id hs
  have hTs : s.TypeIs (.ref sl) "slice" := ⟨os, hos, hcs⟩
  unfold getItem
  try with_reducible refine wpAny_holding ?_
  first | refine wpAny_bind (wpAny_pure ?_) | skip
  refine wpAny_bind (wpAny_sequenceKey ht.typeIs (by decide) ?_)
  refine wpAny_bind (wpAny_callSpecial?_slot (name := Str.ofString "__getitem__") ht.typeIs PyProof.Rows.slot_tuple_getitem (wpAny_call_entry PyProof.Rows.slot_tuple_getitem ht.typeIs entry_tuple_getitem ?_ (args_tuple_getitem _ _)))
  show wpAny _ _ (Builtin.Tuple.tupleItemsOf (.ref t) >>= _) _ _ s
  refine wpAny_bind (tupleItemsOf_ ht ?_)
  refine wpAny_bind (wpAny_typeOf hTs ?_)
  rw [if_pos (by decide)]
  refine wpAny_bind (applied_rev hs ps ?_)
  have hno : ¬ ((((items.size : Int) - 1) == 0 && (-1 : Int) == 1 && items.size == items.size) = true) := by
    intro q
    rw [Bool.and_eq_true, Bool.and_eq_true] at q
    exact absurd q.1.2 (by decide)
  show wpAny _ _ (if (((items.size : Int) - 1) == 0 && (-1 : Int) == 1 && items.size == items.size) = true then _ else _) _ _ s
  rw [if_neg hno, pick_rev]
  first
    | exact wpAny_bind (m := Builtin.Tuple.tupleExact _) (wpAny_newObj_type (wpAny_pure ⟨_, rfl, wpAny_pure h⟩) hok)
    | exact wpAny_bind (m := Builtin.Tuple.tupleExact _) (wpAny_newObj_type (wpAny_bind (wpAny_pure (wpAny_pure ⟨_, rfl, wpAny_pure h⟩))) hok)
    | exact wpAny_bind (wpAny_bind (m := Builtin.Tuple.tupleExact _) (wpAny_newObj_type (wpAny_pure (wpAny_pure ⟨_, rfl, wpAny_pure h⟩)) hok))
    | exact wpAny_bind (wpAny_bind (m := Builtin.Tuple.tupleExact _) (wpAny_newObj_type (wpAny_pure ⟨_, rfl, wpAny_pure h⟩) hok))
section
variable {X : Cx} {e : Expr} {fa : FX}
theorem pe_revT {te : TE} {k : Nat} {p1 p2 p3 pos : Pos} (he : PE X e te) : PE X (.Subscript e (.Slice none none (some (.UnaryOp .USub (.Constant (.int 1) k p1) p2)) p3) pos)
    (fun σ H Q => te σ H fun x H1 => ∃ a xs, x = .ref a ∧ SqT X.K H1 a xs ∧ ∀ p, H1 p = none → Q (.ref p) (upd H1 p (.tup xs.reverse))) := by
  refine ⟨fun pins s σ H Q I h => Subscript_ (thn (he.run pins s σ H _ I h) ?_)⟩
  rintro v s1 ⟨x, H1, I1, r1, a, xs, rfl, hx, q⟩
  cases r1
  have hst : PO X (some (.UnaryOp .USub (.Constant (.int 1) k p1) p2)) (tPart (tUn (rU fun i => .int (-i)) (tC (.int 1)))) := po_some (pe_un un_neg pe_int)
  refine wpAny_Slice (thn (po_none.run pins s1 σ H1 (fun o H2 => o = none ∧ H2 = H1) I1 ⟨rfl, rfl⟩) fun vl s2 ⟨l, H2, I2, pl, el, e2⟩ => ?_)
  subst el e2
  refine thn (po_none.run pins s2 σ H2 (fun o H3 => o = none ∧ H3 = H2) I2 ⟨rfl, rfl⟩) fun vu s3 ⟨u, H3, I3, pu, eu, e3⟩ => ?_
  subst eu e3
  refine thn (hst.run pins s3 σ H3 (fun o H4 => o = some (-1) ∧ H4 = H3) I3 ⟨1, rfl, -1, rfl, rfl, rfl⟩) fun vs s4 ⟨o, H4, I4, ps, eo, e4⟩ => ?_
  subst eo e4
  cases pl; cases pu
  have I5 : Inv X pins σ H4 { s4 with heap := s4.heap.push { cls := .type "slice", data := .fields #[.none, .none, vs] } } := I4.kept (t' := s4.toks) fun b ob q => Heap.get?_push_of_some _ q
  obtain ⟨its, r, ht, hz⟩ := I5.tuple hx
  have hlen := r.length
  show wpAny (model X.prog X.w) X.A (subscriptTail e (.Slice none none (some (.UnaryOp .USub (.Constant (.int 1) k p1) p2)) p3) (.ref a) (.ref s4.heap.objs.size)) (EP X pins σ Q) X.xe { s4 with heap := s4.heap.push { cls := .type "slice", data := .fields #[.none, .none, vs] } }
  refine tail_any (ops := [.ref a, .ref s4.heap.objs.size]) ht.typeIs (PyProof.Rows.slot_tuple_getitem.lookup) ?_ (by with_unfolding_all rfl)
  refine getItem_tuple_rev ht (Heap.IsSliceOf.new _ .none .none vs) ps ?_ (by rw [List.size_toArray]; omega)
  refine ⟨.ref _, _, I5.laid (t' := s4.toks) (o := .tup xs.reverse) (fun b ob q => Heap.get?_push_of_some _ q) (Nat.le_refl _) ?_, rfl, q _ (I5.hok.fresh (Nat.le_refl _))⟩
  refine ⟨by rw [List.length_reverse]; exact hz, its.reverse, r.reverse, ?_⟩
  have := IsTup.new ({ s4 with heap := s4.heap.push { cls := .type "slice", data := .fields #[.none, .none, vs] } }).heap its.reverse.toArray
  simpa using this
theorem s_rev {k : Nat} {p1 p2 p3 pos : Pos} (ha : PE X e (tX X.K fa)) : PE X (.Subscript e (.Slice none none (some (.UnaryOp .USub (.Constant (.int 1) k p1) p2)) p3) pos)
    (tX X.K fun Γ => (fa Γ).bind fun (x, Γ) => (revD x.d).map fun r => (r, Γ)) := ⟨fun pins s σ H Q I ⟨Γ, Hf, r, Γ', R, ef, kk⟩ => by
  obtain ⟨⟨rx, Γ1⟩, e1, ef⟩ := bindS ef
  obtain ⟨w, e2, e3⟩ := mapS' ef
  cases e3
  cases hd : rx.d with
  | list xs =>
    rw [hd] at e2; cases e2
    exact (pe_revL (pe_fast ha)).run pins s σ H Q I ⟨Γ, Hf, rx, _, R, e1, fun v H1 Hf1 R1 S1 d1 => by
      rw [hd] at d1
      cases d1 with
      | lst h q => exact ⟨_, _, rfl, .inl (R1.sub.rd h), (Post.fin R1 S1 kk).lst R1.sub (dps_rev q)⟩⟩
  | tuple xs =>
    rw [hd] at e2; cases e2
    exact (pe_revT (pe_fast ha)).run pins s σ H Q I ⟨Γ, Hf, rx, _, R, e1, fun v H1 Hf1 R1 S1 d1 => by
      rw [hd] at d1
      cases d1 with
      | tup h q => exact ⟨_, _, rfl, R1.sub.st h, (Post.fin R1 S1 kk).tup R1.sub (dps_rev q)⟩⟩
  | _ => rw [hd] at e2; exact nn e2⟩
end
end EvL

set_option Elab.async false
set_option linter.all false
set_option maxRecDepth 100000
set_option maxHeartbeats 16000000
namespace EvL
open PySem PySem.Spec PyProof.Rows L2

section
variable {X : Cx} {k : Nat} {c : Cc}
theorem lookG (h : EOk k c X) {x : Str} {d : D} {p : Pos} (hx : okName x = true) (hg : gloK c.sc x = true) (hl : lookC c.consts x = some d) : PE X (.Name x p) (tX X.K (evX (.cst d))) := by
  obtain ⟨n1, _, _⟩ := ok_names hx
  obtain ⟨v, u, h1, h2, h3⟩ := h.cst _ (lookC_mem hl)
  have := s_cst (pe_glob (pos := p) (glo_of h hg) h1 h2 n1) h3
  rwa [show evX (.cst d) = fun Γ => some (.fz d, Γ) from by funext Γ; rw [evX]]
theorem sndC {e : Expr} {d : D} (hp : plainE e = true) (ht : plainT e = true) (h : PE X e (tX X.K fun Γ => some (.fz d, Γ))) : Snd X e (.cst d) :=
  mk _ _ hp ht (by rwa [show evX (.cst d) = fun Γ => some (.fz d, Γ) from by funext Γ; rw [evX]]) (.inl fun Γ => by rw [evX, evT]; rfl)
theorem ex_cst (d : D) : evX (.cst d) = fun Γ => some (.fz d, Γ) := by funext Γ; rw [evX]
theorem p_none' : PO X none (tP X.K false (evX (.cst .none))) := by rw [ex_cst]; exact p_none
theorem ex_slc (l h : Bool) (x lo hi : IE) : evX (.slc l h x lo hi) = fun Γ => (evX x Γ).bind fun (x, Γ) => (evX lo Γ).bind fun (u, Γ) => (optI l u.d).bind fun i => (evX hi Γ).bind fun (w, Γ) => (optI h w.d).bind fun j => (slcD x.d i j).map fun r => (r, Γ) := by funext Γ; rw [evX]
theorem snd_slc {a : Expr} {l h : Bool} {lo hi : Option Expr} {p2 pos : Pos} {x xl xh : IE} (q : Snd X a x) (ql : PO X lo (tP X.K l (evX xl))) (qh : PO X hi (tP X.K h (evX xh))) (hp : plainE (.Subscript a (.Slice lo hi none p2) pos) = true) : Snd X (.Subscript a (.Slice lo hi none p2) pos) (.slc l h x xl xh) :=
  mk _ _ hp rfl (by rw [ex_slc]; exact s_slc q.pe ql qh) (.inr fun Γ => by rw [evT] <;> simp)
theorem compIx_sound {f : Expr → Option IE} {a b : Expr} {pos : Pos} {ir : IE} (h : EOk k c X) (hf : ∀ e ir, f e = some ir → Snd X e ir) (hc : compIx f c a b = some ir) (hs : PlainIx b) : Snd X (.Subscript a b pos) ir := by
  have gen : ∀ {ir : IE}, ((f a).bind fun x => (f b).map fun y => .ix x y) = some ir → Snd X (.Subscript a b pos) ir := fun {ir} hc => by
    obtain ⟨x, t1, hc⟩ := bindS hc
    obtain ⟨y, t2, rfl⟩ := mapS' hc
    refine mk _ _ rfl rfl ?_ (.inl fun Γ => ?_)
    · rw [show evX (.ix x y) = _ from by funext Γ; rw [evX]]
      exact s_ix (hf _ _ t1).pe (hf _ _ t2).pe hs
    · rw [evX, evT]
      cases evX x Γ with
      | none => rfl
      | some p =>
        obtain ⟨a, Γ1⟩ := p
        simp only [Option.bind_some]
        cases evX y Γ1 with
        | none => rfl
        | some p =>
          obtain ⟨b, Γ2⟩ := p
          simp only [Option.bind_some]
          cases ixD a.d b.d <;> rfl
  unfold compIx at hc
  split at hc
  · rename_i x p
    split at hc
    · rename_i hh
      simp only [Bool.and_eq_true] at hh
      obtain ⟨i, hi, hc⟩ := bindS hc
      obtain ⟨y, t2, rfl⟩ := mapS' hc
      obtain ⟨n1, n2, n3⟩ := ok_names hh.1
      have hix := ixOf_get hi
      rw [← h.hN] at hix
      refine mk _ _ rfl rfl ?_ (.inl fun Γ => ?_)
      · rw [show evX (.ixv i y) = _ from by funext Γ; rw [evX]]
        exact s_ixv hix (vis_of h hh.2) n1 n2 (hf _ _ t2).pe hs
      · rw [evX, evT]
        cases slotD i Γ with
        | none => rfl
        | some d0 =>
          simp only [Option.bind_some]
          cases evX y Γ with
          | none => rfl
          | some p =>
            obtain ⟨b, Γ2⟩ := p
            simp only [Option.bind_some]
            cases slotD i Γ2 with
            | none => rfl
            | some d => simp only [Option.bind_some]; cases ixD d b.d <;> rfl
    · exact gen hc
  · rename_i x p a1 pos1
    split at hc
    · rename_i hh
      simp only [Bool.and_eq_true, Bool.not_eq_true'] at hh
      obtain ⟨⟨⟨⟨h1, h2⟩, _⟩, h3⟩, h4⟩ := hh
      obtain ⟨i, hi, hc⟩ := bindS hc
      obtain ⟨y, t1, hc⟩ := bindS hc
      obtain ⟨z, t2, rfl⟩ := mapS' hc
      obtain ⟨n1, n2, n3⟩ := ok_names h1
      have hix := ixOf_get hi
      rw [← h.hN] at hix
      refine mk _ _ rfl rfl ?_ (.inr fun Γ => by rw [evT] <;> simp)
      rw [show evX (.ixo i y z) = _ from by funext Γ; rw [evX]]
      exact s_ixo hix (vis_of h h2) n1 n2 (hf _ _ t1).pe (hf _ _ t2).pe (plain_ix h3 h4) hs
    · exact gen hc
  · exact gen hc
theorem compCmp_sound {f : Expr → Option IE} {op : CmpOp} {o : COp} {a b : Expr} {pos : Pos} {ir : IE} (h : EOk k c X) (hf : ∀ e ir, f e = some ir → Snd X e ir) (t0 : cmpOf op = some o) (hc : compCmp f c o a b = some ir) : Snd X (.Compare a [op] [b] pos) ir := by
  have gen : ∀ {ir : IE}, ((f a).bind fun x => (f b).map fun y => .cmp o x y) = some ir → Snd X (.Compare a [op] [b] pos) ir := fun {ir} hc => by
    obtain ⟨x, t1, hc⟩ := bindS hc
    obtain ⟨y, t2, rfl⟩ := mapS' hc
    refine ⟨?_, ?_, (fun z => nomatch z), rfl⟩
    · rw [show evX (.cmp o x y) = _ from by funext Γ; rw [evX]]
      exact s_cmp (cmp_sound h.un _ _ t0) (hf _ _ t1).pe (hf _ _ t2).pe (plain_marks (hf _ _ t2).pl)
    · rw [show evT (.cmp o x y) = _ from by funext Γ; rw [evT]]
      exact t_cmp (cmp_sound h.un _ _ t0) (hf _ _ t1).pe (hf _ _ t2).pe (plain_marks (hf _ _ t2).pl)
  unfold compCmp at hc
  split at hc
  · rename_i x p
    split at hc
    · rename_i hh
      simp only [Bool.and_eq_true] at hh
      obtain ⟨i, hi, hc⟩ := bindS hc
      obtain ⟨y, t1, rfl⟩ := mapS' hc
      obtain ⟨n1, n2, n3⟩ := ok_names hh.1.2
      have hix := ixOf_get hi
      rw [← h.hN] at hix
      refine ⟨?_, ?_, (fun z => nomatch z), rfl⟩
      · rw [show evX (.cmv o y i) = _ from by funext Γ; rw [evX]]
        exact s_cmv (cmp_sound h.un _ _ t0) (hf _ _ t1).pe hix (vis_of h hh.2) n1 n2
      · rw [show evT (.cmv o y i) = _ from by funext Γ; rw [evT]]
        exact t_cmv (cmp_sound h.un _ _ t0) (hf _ _ t1).pe hix (vis_of h hh.2) n1 n2
    · exact gen hc
  · exact gen hc
theorem compSt_shape {f : Expr → Option IE} : ∀ {es : List Expr} {ir : IE}, compSt f es = some ir → ∃ b : Unit, ir = .lst [] ∨ ∃ u v, ir = .bin .add u v
  | [], _, h => by cases (show some (IE.lst []) = some _ from h); exact ⟨(), .inl rfl⟩
  | e :: es, ir, h => by
    have key : ∃ x r, ir = .bin .add x r := by
      by_cases hst : ∃ e' p, e = .Starred e' p
      · obtain ⟨e', p, rfl⟩ := hst
        obtain ⟨x, h1, h⟩ := bindS (show (f e').bind (fun x => (compSt f es).map fun r => .bin .add (.bi .list [x]) r) = some ir from h)
        obtain ⟨r, h2, rfl⟩ := mapS' h
        exact ⟨_, _, rfl⟩
      · have h : (f e).bind (fun x => (compSt f es).map fun r => .bin .add (.lst [x]) r) = some ir := by
          cases e <;> first | exact h | exact absurd ⟨_, _, rfl⟩ hst
        obtain ⟨x, h1, h⟩ := bindS h
        obtain ⟨r, h2, rfl⟩ := mapS' h
        exact ⟨_, _, rfl⟩
    obtain ⟨x, r, e⟩ := key
    exact ⟨(), .inr ⟨x, r, e⟩⟩
theorem compE_sound (n : Nat) : ∀ {X : Cx} {c : Cc}, EOk k c X → ∀ (e : Expr) (ir : IE), compE n c e = some ir → Snd X e ir := by
  induction n with
  | zero => intro X c h e ir hc; cases hc
  | succ n ih =>
    intro X c h e ir hc
    have hf := ih h
    unfold compE at hc
    split at hc
    case isFalse => cases hc
    rename_i hpl
    split at hc
    · -- a name
      rename_i x p
      split at hc
      · rename_i hx
        obtain ⟨n1, n2, n3⟩ := ok_names hx
        split at hc
        · rename_i hv
          obtain ⟨i, t1, rfl⟩ := mapS' hc
          have hi := ixOf_get t1
          rw [← h.hN] at hi
          have q := s_var (pos := p) hi (vis_of h hv) n1 n2
          refine ⟨?_, ?_, (fun z => nomatch z), rfl⟩
          · rwa [show evX (.var i) = fun Γ => (getV i Γ).map fun (d, Γ) => (.fz d, Γ) from by funext Γ; rw [evX]]
          · rw [show evT (.var i) = fun Γ => (slotD i Γ).bind fun d => (trD d).map fun c => (c, Γ) from by funext Γ; rw [evT]]
            exact t_var hi (vis_of h hv) n1 n2 (plain_test rfl)
        · split at hc
          · rename_i hg
            obtain ⟨d, t1, rfl⟩ := mapS' hc
            exact mk _ _ rfl rfl (lookG h hx hg t1) (.inl fun Γ => by rw [evX, evT]; rfl)
          · cases hc
      · cases hc
    · cases hc; exact sndC rfl rfl (s_cst pe_int fun _ => .int _)
    · cases hc; exact sndC rfl rfl (s_cst pe_bl fun _ => .bl _)
    · cases hc; exact sndC rfl rfl (s_cst pe_non fun _ => .non)
    · cases hc; exact sndC rfl rfl (s_cst pe_str fun _ => .str _)
    · -- a tuple
      split at hc
      · rename_i hl
        split at hc
        · obtain ⟨ir1, t1, rfl⟩ := mapS' hc
          obtain ⟨a, u⟩ := compSt_sound hf t1
          refine mk _ _ rfl rfl (pe_owT a u) (.inl fun Γ => ?_)
          rw [evX, evT]
          cases evs [ir1] Γ with
          | none => rfl
          | some p =>
            obtain ⟨ds, Γ1⟩ := p
            simp only [Option.bind_some]
            cases biD .tuple ds <;> rfl
        obtain ⟨irs, t1, rfl⟩ := mapS' hc
        obtain ⟨a, u, l⟩ := compL_sound hf t1
        refine mk _ _ rfl rfl ?_ (.inr fun Γ => by rw [evT] <;> simp)
        rw [show evX (.tup irs) = _ from by funext Γ; rw [evX]]
        exact s_tup a fun Γ ds Γ' e => by rw [evs_len e, l]; exact hl
      · cases hc
    · -- a list
      split at hc
      · rename_i hl
        split at hc
        · obtain ⟨a, u⟩ := compSt_sound hf hc
          refine mk _ _ rfl rfl (pe_owF a u) (.inr fun Γ => ?_)
          obtain ⟨b, hb⟩ := compSt_shape hc
          rcases hb with rfl | ⟨u, v, rfl⟩
          · rw [evT] <;> simp
          · rw [evT] <;> simp
        obtain ⟨irs, t1, rfl⟩ := mapS' hc
        obtain ⟨a, u, l⟩ := compL_sound hf t1
        refine mk _ _ rfl rfl ?_ (.inr fun Γ => by rw [evT] <;> simp)
        rw [show evX (.lst irs) = _ from by funext Γ; rw [evX]]
        exact s_lst a fun Γ ds Γ' e => by rw [evs_len e, l]; exact hl
      · cases hc
    · -- a + b
      obtain ⟨o, t0, hc⟩ := bindS hc
      obtain ⟨x, t1, hc⟩ := bindS hc
      obtain ⟨y, t2, rfl⟩ := mapS' hc
      refine mk _ _ rfl rfl ?_ (.inr fun Γ => by rw [evT] <;> simp)
      rw [show evX (.bin o x y) = _ from by funext Γ; rw [evX]]
      exact s_bin (bin_sound h.pyl _ _ t0) (hf _ _ t1).pe (hf _ _ t2).pe
    · obtain ⟨x, t1, rfl⟩ := mapS' hc
      refine mk _ _ rfl rfl ?_ (.inr fun Γ => by rw [evT] <;> simp)
      rw [show evX (.neg x) = _ from by funext Γ; rw [evX]]
      exact s_neg (hf _ _ t1).pe
    · obtain ⟨x, t1, rfl⟩ := mapS' hc
      refine ⟨?_, ?_, (fun z => nomatch z), rfl⟩
      · rw [show evX (.not x) = _ from by funext Γ; rw [evX]]
        exact s_not (hf _ _ t1).pe
      · rw [show evT (.not x) = _ from by funext Γ; rw [evT]]
        exact t_not (hf _ _ t1).pt
    · -- a comparison
      obtain ⟨o, t0, hc⟩ := bindS hc
      exact compCmp_sound h hf t0 hc
    · -- a < b < c
      obtain ⟨o, t0, hc⟩ := bindS hc
      obtain ⟨o', t0', hc⟩ := bindS hc
      obtain ⟨x, t1, hc⟩ := bindS hc
      obtain ⟨y, t2, hc⟩ := bindS hc
      obtain ⟨z, t3, rfl⟩ := mapS' hc
      refine ⟨?_, ?_, (fun z => nomatch z), rfl⟩
      · rw [show evX (.chn o o' x y z) = _ from by funext Γ; rw [evX]]
        exact s_chn (cmp_sound h.un _ _ t0) (cmp_sound h.un _ _ t0') (hf _ _ t1).pe (hf _ _ t2).pe (hf _ _ t3).pe (plain_marks (hf _ _ t3).pl)
      · rw [show evT (.chn o o' x y z) = _ from by funext Γ; rw [evT]]
        exact t_chn (cmp_sound h.un _ _ t0) (cmp_sound h.un _ _ t0') (hf _ _ t1).pe (hf _ _ t2).pe (hf _ _ t3).pe (plain_marks (hf _ _ t3).pl)
    · exact compBool_sound hf _ _ hc
    · -- a if c else b
      obtain ⟨t, t0, hc⟩ := bindS hc
      obtain ⟨x, t1, hc⟩ := bindS hc
      obtain ⟨y, t2, rfl⟩ := mapS' hc
      refine ⟨?_, t_none fun Γ => by rw [evT] <;> simp, (fun z => nomatch z), rfl⟩
      rw [show evX (.ite t x y) = _ from by funext Γ; rw [evX]]
      exact s_ite (hf _ _ t0).pt (hf _ _ t1).pe (hf _ _ t2).pe
    · obtain ⟨x, t1, rfl⟩ := mapS' hc
      refine mk _ _ rfl rfl ?_ (.inr fun Γ => by rw [evT] <;> simp)
      rw [show evX (.rev x) = _ from by funext Γ; rw [evX]]
      exact s_rev (hf _ _ t1).pe
    · obtain ⟨x, t1, rfl⟩ := mapS' hc
      exact snd_slc (hf _ _ t1) p_none' p_none' rfl
    · obtain ⟨x, t1, hc⟩ := bindS hc
      obtain ⟨l, t2, rfl⟩ := mapS' hc
      exact snd_slc (hf _ _ t1) (p_some (hf _ _ t2).pe) p_none' rfl
    · obtain ⟨x, t1, hc⟩ := bindS hc
      obtain ⟨l, t2, rfl⟩ := mapS' hc
      exact snd_slc (hf _ _ t1) p_none' (p_some (hf _ _ t2).pe) rfl
    · obtain ⟨x, t1, hc⟩ := bindS hc
      obtain ⟨l, t2, hc⟩ := bindS hc
      obtain ⟨w, t3, rfl⟩ := mapS' hc
      exact snd_slc (hf _ _ t1) (p_some (hf _ _ t2).pe) (p_some (hf _ _ t3).pe) rfl
    · -- a[b]
      split at hc
      · rename_i hh
        simp only [Bool.and_eq_true, Bool.not_eq_true'] at hh
        exact compIx_sound h hf hc (plain_ix hh.1 hh.2)
      · cases hc
    · exact compCall_sound h hf hc
    · -- xs.count(k)
      rename_i nx npx nm nap ne ncp
      split at hc
      · rename_i hh
        simp only [Bool.and_eq_true, decide_eq_true_eq] at hh
        obtain ⟨a, t1, hc⟩ := bindS hc
        obtain ⟨b, t2, rfl⟩ := mapS' hc
        obtain ⟨rfl, hl⟩ := hh
        refine mk _ _ rfl rfl ?_ (.inl fun Γ => ?_)
        · have key := s_cnt (hf _ _ t1).pe (hf _ _ t2).pe (plain_unstar (hf _ _ t2).pl) (show (nap.endLine == ncp.line) = true by rw [hl]; simp)
          rwa [show evX (.bi .cnt [a, b]) = fun Γ => (evX a Γ).bind fun (u, Γ) => (evX b Γ).bind fun (w, Γ) => (biD .cnt [u.d, w.d]).map fun r => (r, Γ) from by
            funext Γ
            rw [evX, evs]
            cases evX a Γ with
            | none => rfl
            | some p =>
              obtain ⟨u, Γ1⟩ := p
              simp only [Option.bind_some]
              rw [evs]
              cases evX b Γ1 with
              | none => rfl
              | some p =>
                obtain ⟨w, Γ2⟩ := p
                simp only [Option.bind_some]
                rw [evs]; rfl]
        · rw [evX, evT]
          cases evs [a, b] Γ with
          | none => rfl
          | some p => simp only [Option.bind_some]; cases biD .cnt p.1 <;> rfl
      · cases hc
    · -- a comprehension
      rename_i elt tg iter ifs scope p
      split at hc
      · rename_i hh
        simp only [Bool.and_eq_true, decide_eq_true_eq] at hh
        obtain ⟨⟨hb, hpi⟩, hl⟩ := hh
        obtain ⟨t, t1, hc⟩ := bindS hc
        obtain ⟨⟨kk, its⟩, t2, hc⟩ := bindS hc
        obtain ⟨fs, t3, hc⟩ := bindS hc
        obtain ⟨el, t4, hc⟩ := bindS hc
        split at hc
        · rename_i hvs
          cases hc
          have hvs' : ∀ j ∈ tgIx t, j ∈ (ownOf c.N scope).map (·.2) := fun j hj => List.contains_iff_mem.mp (List.all_eq_true.mp hvs j hj)
          have hblk : BlkOk X.N X.env.scope scope (ownOf c.N scope) := by rw [h.hN, h.sc]; exact blkOk_by hb
          have hI := compI_sound h hf t2
          have hT : ∀ (s : Shared) (H : Hp) (C : Addr) (cl : List (Str × Addr)) (fp : List Addr), PTs (X.blk s H scope (compEnvC scope cl C X.env) fp) ifs (tT X.K (evIfs fs)) := by
            intro s H C cl fp
            match ifs, fs, t3, hl with
            | [], fs, t3, _ =>
              cases (show some [] = some fs from t3)
              refine ⟨fun pins s2 σ H2 Q I ⟨Γ, Hf, r, Γ', R, ef, k2⟩ => ?_⟩
              rw [evIfs] at ef
              cases ef
              exact pts_nil.run pins s2 σ H2 Q I (k2 H2 Hf R .rfl')
            | [i], fs, t3, _ =>
              obtain ⟨x, u1, u2⟩ := bindS (show (compE n (blkCc c scope) i).bind (fun x => (compL (compE n (blkCc c scope)) []).map fun xs => x :: xs) = some fs from t3)
              obtain ⟨xs, u3, rfl⟩ := mapS' u2
              cases (show some [] = some xs from u3)
              have q := (ih (h.blk scope s H C cl fp) i x u1).pt
              have e0 : evIfs [x] = evT x := by
                funext Γ
                rw [evIfs]
                cases evT x Γ with
                | none => rfl
                | some p =>
                  obtain ⟨b, Γ1⟩ := p
                  simp only [Option.bind_some]
                  cases b
                  · rfl
                  · rw [if_pos rfl, evIfs]
              rw [e0]
              exact pts_one q
            | _ :: _ :: _, _, _, hl => exact absurd hl (by simp)
          have key := (pe_lc (pos := p) (ifs := ifs) h.calm h.nd hI hblk (fun s H C cl fp => compT_sound (h.blk scope s H C cl fp) n tg t t1)
            (tt := tT X.K (evIfs fs)) hT (fun s H C cl fp => pe_fast (ih (h.blk scope s H C cl fp) elt el t4).pe) (plain_fold hpi)).imp fun σ H Q hh => lc_read (K := X.K) (k := kk) (gI := evs its) (tg := t) (fIf := evIfs fs) (fE := evX el) hvs' hh
          refine mk _ _ rfl rfl ?_ (.inr fun Γ => by rw [evT] <;> simp)
          rw [show evX (.lc ((ownOf c.N scope).map (·.2)) t kk its fs el) = lcX kk (evs its) t ((ownOf c.N scope).map (·.2)) (evIfs fs) (evX el) from by funext Γ; rw [evX]; rfl]
          exact key
        · cases hc
      · cases hc
    · cases hc
end
end EvL

set_option Elab.async false
set_option linter.all false
set_option maxRecDepth 100000
set_option maxHeartbeats 16000000
namespace EvL
open PySem PySem.Spec PyProof.Rows L2

/-! ### statements -/
inductive IS where
  | set (i : Nat) (e : IE) | asg (t : Tg) (e : IE) | par (is : List Nat) (es : List IE)
  | put (i : Nat) (ix : IE) (e : IE) | puto (i : Nat) (ix jx : IE) (e : IE) | reto (i : Nat) | augp (i : Nat) (ix : IE) (o : BOp) (e : IE) | dip (i : Nat) (ix : IE) (j : Nat) (e : IE)
  | aug (i : Nat) (o : BOp) (e : IE) | app (i : Nat) (e : IE) | popS (i : Nat)
  | ife (c : IE) (a b : List IS) | whl (c : IE) (b : List IS) | fr (t : Tg) (k : IK) (its : List IE) (b : List IS)
  | fro (t : Tg) (i : Nat) (b : List IS)
  | ret (e : IE) | retn | exp (e : IE) | brk | cnt | pss | nev
inductive Out where
  | nx (Γ : Ga) | rt (r : RV) (Γ : Ga) | bk (Γ : Ga) | ct (Γ : Ga)
def evRs : List IE → Ga → Option (List RV × Ga)
  | [], Γ => some ([], Γ)
  | e :: es, Γ => (evX e Γ).bind fun (x, Γ) => (evRs es Γ).map fun (ds, Γ) => (x.low :: ds, Γ)
def putAll : List Nat → List RV → Ga → Option Ga
  | [], [], Γ => some Γ
  | i :: is, r :: rs, Γ => if i < Γ.length then putAll is rs (Γ.set i r.mv) else none
  | _, _, _ => none
/-- x[ix] = v on a list of one's own -/
def putAt (i : Nat) (ix : D) (v : D) (Γ : Ga) : Option Ga :=
  match Γ[i]?, ix with
  | some (.ow b ds), .int k => (ixN ds.length k).map fun j => Γ.set i (.ow b (ds.set j v))
  | _, _ => none
def isOw (i : Nat) (Γ : Ga) : Bool := match Γ[i]? with
  | some (.ow _ _) => true
  | _ => false
def getAt (i : Nat) (ix : D) (Γ : Ga) : Option D :=
  match Γ[i]?, ix with
  | some (.ow _ ds), .int k => (ixN ds.length k).bind fun j => ds[j]?
  | _, _ => none
/-- x[ix][jx] = v on own rows -/
def putO (i : Nat) (ix jx : D) (v : D) (Γ : Ga) : Option Ga :=
  match Γ[i]?, ix, jx with
  | some (.oo rss), .int k, .int l => (ixN rss.length k).bind fun m => (rss[m]?).bind fun rs => (ixN rs.length l).map fun j => Γ.set i (.oo (rss.set m (rs.set j v)))
  | _, _, _ => none
def augD : BOp → D → D → Option D
  | .add, .int i, .int j => some (.int (i + j))
  | .sub, .int i, .int j => some (.int (i - j))
  | .mul, .int i, .int j => if mulOk i j then some (.int (i * j)) else none
  | _, _, _ => none
def WF : Nat := 1000000000
/-- a loop's end -/
def onTurn (again : Ga → Option Out) : Out → Option Out
  | .nx Γ => again Γ
  | .ct Γ => again Γ
  | .bk Γ => some (.nx Γ)
  | .rt r Γ => some (.rt r Γ)
def evW (c : Ga → Option (Bool × Ga)) (b : Ga → Option Out) : Nat → Ga → Option Out
  | 0, _ => none
  | n + 1, Γ => (c Γ).bind fun (t, Γ) => if t then (b Γ).bind (onTurn (evW c b n)) else some (.nx Γ)
def evF (t : Tg) (b : Ga → Option Out) : List D → Ga → Option Out
  | [], Γ => some (.nx Γ)
  | x :: xs, Γ => (asg t x Γ).bind fun Γ => (b Γ).bind (onTurn (evF t b xs))
/-- a hidden list is one's own again -/
def backH (i : Nat) (Γ : Ga) : Option Out := match Γ[i]? with
  | some (.hid ds) => some (.nx (Γ.set i (.ow false ds)))
  | _ => none
/-- a loop over a list of one's own, which is hidden the while -/
def evFo (t : Tg) (i : Nat) (b : Ga → Option Out) : List D → Ga → Option Out
  | [], Γ => backH i Γ
  | x :: xs, Γ => (asg t x Γ).bind fun Γ => (b Γ).bind fun o => match o with
    | .nx Γ => evFo t i b xs Γ
    | .ct Γ => evFo t i b xs Γ
    | .bk Γ => backH i Γ
    | .rt r Γ => some (.rt r (Γ.set i .un))
def hideO (i : Nat) (k : List D → Ga → Option Out) (Γ : Ga) : Option Out := match Γ[i]? with
  | some (.ow false ds) => k ds (Γ.set i (.hid ds))
  | _ => none
def onNext (again : Ga → Option Out) : Out → Option Out
  | .nx Γ => again Γ
  | o => some o
mutual
def evS : IS → Ga → Option Out
  | .set i e, Γ => (evX e Γ).bind fun (r, Γ) => if i < Γ.length then some (.nx (Γ.set i r.mv)) else none
  | .asg t e, Γ => (evX e Γ).bind fun (r, Γ) => (asg t r.d Γ).map .nx
  | .par is es, Γ => (evRs es Γ).bind fun (rs, Γ) => (putAll is rs Γ).map .nx
  | .put i ix e, Γ => (evX e Γ).bind fun (r, Γ) => if isOw i Γ then (evX ix Γ).bind fun (x, Γ) => (putAt i x.d r.d Γ).map .nx else none
  | .augp i ix o e, Γ => if isOw i Γ then (evX ix Γ).bind fun (x, Γ) => (getAt i x.d Γ).bind fun a => (evX e Γ).bind fun (r, Γ) => (augD o a r.d).bind fun z => (putAt i x.d z Γ).map .nx else none
  | .puto i ix jx e, Γ => (evX e Γ).bind fun (r, Γ) => if isOo i Γ then (evX ix Γ).bind fun (x, Γ) => (rowO i x.d Γ).bind fun _ => (evX jx Γ).bind fun (y, Γ) => (putO i x.d y.d r.d Γ).map .nx else none
  | .reto i, Γ => match Γ[i]? with
      | some (.oo rss) => some (.rt (.oo rss) (Γ.set i .un))
      | _ => (getV i Γ).map fun (d, Γ) => .rt (.fz d) Γ
  | .dip i ix j e, Γ => (evX e Γ).bind fun (r, Γ) => match r.d with
      | .tuple [a, b] => if isOw i Γ then (evX ix Γ).bind fun (x, Γ) => (putAt i x.d a Γ).bind fun Γ => if j < Γ.length then some (.nx (Γ.set j (.fz b))) else none else none
      | _ => none
  | .aug i o e, Γ => match Γ[i]? with
      | some (.fz d) => (evX e Γ).bind fun (r, Γ) => (augD o d r.d).map fun z => .nx (Γ.set i (.fz z))
      | _ => none
  | .app i e, Γ => match Γ[i]? with
      | some (.ow _ _) => (evX e Γ).bind fun (r, Γ) => match Γ[i]? with
        | some (.ow b ds) => if ds.length < lim then some (.nx (Γ.set i (.ow b (ds ++ [r.d])))) else none
        | _ => none
      | _ => none
  | .popS i, Γ => match Γ[i]? with
      | some (.ow b ds) => if ds = [] then none else some (.nx (Γ.set i (.ow b ds.dropLast)))
      | _ => none
  | .ife c a b, Γ => (evT c Γ).bind fun (t, Γ) => if t then evB a Γ else evB b Γ
  | .whl c b, Γ => evW (evT c) (evB b) WF Γ
  | .fr t k its b, Γ => (evs its Γ).bind fun (ds, Γ) => (itD k ds).bind fun xs => evF t (evB b) xs Γ
  | .ret e, Γ => (evX e Γ).map fun (r, Γ) => .rt r Γ
  | .retn, Γ => some (.rt (.fz .none) Γ)
  | .exp e, Γ => (evX e Γ).map fun (_, Γ) => .nx Γ
  | .brk, Γ => some (.bk Γ)
  | .cnt, Γ => some (.ct Γ)
  | .pss, Γ => some (.nx Γ)
  | .fro t i b, Γ => hideO i (evFo t i (evB b)) Γ
  | .nev, _ => none
def evB : List IS → Ga → Option Out
  | [], Γ => some (.nx Γ)
  | s :: ss, Γ => (evS s Γ).bind (onNext (evB ss))
end
abbrev FS := Ga → Option Out
/-- a result that may have been a slot's -/
def RRelM (K : PySem.W.Frag) (σ : L2.St) (Γ : Ga) (H Hf' H' : Hp) (v : V) : RV → Prop
  | .oo rss => ∃ p as, v = .ref p ∧ (∀ b ∈ p :: as, H b = none ∨ OwnAt σ Γ H false b) ∧ OO K Hf' H' p as rss
  | r => RRel K H Hf' H' v r
theorem RRel.m {K : PySem.W.Frag} {σ : L2.St} {Γ : Ga} {H Hf' H' : Hp} {v : V} {r : RV} (h : RRel K H Hf' H' v r) : RRelM K σ Γ H Hf' H' v r := by
  cases r with
  | fz d => exact h
  | ow ds => exact h
  | oo rss => obtain ⟨p, as, e, h0, o⟩ := h; exact ⟨p, as, e, fun b hb => .inl (h0 b hb), o⟩
theorem RRelM.back {K : PySem.W.Frag} {σ σ1 : L2.St} {Γ Γ1 : Ga} {Hf H Hf1 H1 Hf' H' : Hp} {v : V} {r : RV} (h : RRelM K σ1 Γ1 H1 Hf' H' v r) (s : Step σ Γ Hf H σ1 Γ1 Hf1 H1) : RRelM K σ Γ H Hf' H' v r := by
  cases r with
  | fz d => exact h
  | ow ds => exact RRel.back (r := .ow ds) h s.dead
  | oo rss =>
    obtain ⟨p, as, e, h0, o⟩ := h
    exact ⟨p, as, e, fun b hb => (h0 b hb).elim (fun z => .inl (s.dead b z)) fun z => (s.newo b z).symm, o⟩
theorem RRelM.un {K : PySem.W.Frag} {σ : L2.St} {Γ : Ga} {H Hf' H' : Hp} {v : V} {r : RV} (h : RRelM K σ Γ H Hf' H' v r) (no : ∀ b, ¬ OwnAt σ Γ H false b) : RRel K H Hf' H' v r := by
  cases r with
  | fz d => exact h
  | ow ds => exact h
  | oo rss => obtain ⟨p, as, e, h0, o⟩ := h; exact ⟨p, as, e, fun b hb => (h0 b hb).resolve_right (no b), o⟩
/-- what stands behind a statement -/
def AfterS (K : PySem.W.Frag) (σ : L2.St) (Γ : Ga) (Hf H : Hp) (D : Ends) : Out → Prop
  | .nx Γ' => ∀ σ' H' Hf', Rel K Hf' H' σ' Γ' → Step σ Γ Hf H σ' Γ' Hf' H' → D.nx σ' H'
  | .bk Γ' => ∀ σ' H' Hf', Rel K Hf' H' σ' Γ' → Step σ Γ Hf H σ' Γ' Hf' H' → D.bk σ' H'
  | .ct Γ' => ∀ σ' H' Hf', Rel K Hf' H' σ' Γ' → Step σ Γ Hf H σ' Γ' Hf' H' → D.ct σ' H'
  | .rt r Γ' => ∀ v σ' H' Hf', Rel K Hf' H' σ' Γ' → Step σ Γ Hf H σ' Γ' Hf' H' → RRelM K σ Γ H Hf' H' v r → D.rt v H'
def tS (K : PySem.W.Frag) (f : FS) : TS := fun D σ H => ∃ Γ Hf o, Rel K Hf H σ Γ ∧ f Γ = some o ∧ AfterS K σ Γ Hf H D o
section
variable {K : PySem.W.Frag} {σ σ1 : L2.St} {Γ Γ1 : Ga} {Hf H Hf1 H1 : Hp} {D : Ends}
theorem AfterS.back {o : Out} (a : AfterS K σ Γ Hf H D o) (s : Step σ Γ Hf H σ1 Γ1 Hf1 H1) : AfterS K σ1 Γ1 Hf1 H1 D o := by
  cases o with
  | nx Γ' => exact fun σ' H' Hf' R S => a σ' H' Hf' R (s.tr S)
  | bk Γ' => exact fun σ' H' Hf' R S => a σ' H' Hf' R (s.tr S)
  | ct Γ' => exact fun σ' H' Hf' R S => a σ' H' Hf' R (s.tr S)
  | rt r Γ' => exact fun v σ' H' Hf' R S q => a v σ' H' Hf' R (s.tr S) (q.back s)
end
theorem _root_.L2.PS.imp {X : Cx} {st : Stmt} {t t' : TS} (h : PS X st t) (k : ∀ D σ H, t' D σ H → t D σ H) : PS X st t' := ⟨fun pins s σ H D I q => h.run pins s σ H D I (k D σ H q)⟩
theorem _root_.L2.PSs.imp {X : Cx} {st : List Stmt} {t t' : TS} (h : PSs X st t) (k : ∀ D σ H, t' D σ H → t D σ H) : PSs X st t' := ⟨fun pins s σ H D I q => h.run pins s σ H D I (k D σ H q)⟩
section
variable {X : Cx} {st : Stmt} {rest body orelse : List Stmt} {f g : FS} {e c : Expr} {fx : FX} {ft : Ga → Option (Bool × Ga)} {pos : Pos}
theorem b_nil : PSs X [] (tS X.K fun Γ => some (.nx Γ)) := pss_nil.imp fun D σ H ⟨Γ, Hf, o, R, e, k⟩ => by
  cases e
  exact k σ H Hf R .rfl'
theorem b_cons (h1 : PS X st (tS X.K f)) (h2 : PSs X rest (tS X.K g)) : PSs X (st :: rest) (tS X.K fun Γ => (f Γ).bind (onNext g)) := (pss_cons h1 h2).imp fun D σ H ⟨Γ, Hf, o, R, e, k⟩ => by
  obtain ⟨o1, e1, e2⟩ := bindS e
  refine ⟨Γ, Hf, o1, R, e1, ?_⟩
  cases o1 with
  | nx Γ1 => exact fun σ1 H1 Hf1 R1 S1 => ⟨Γ1, Hf1, o, R1, e2, k.back S1⟩
  | bk Γ1 => cases e2; exact k
  | ct Γ1 => cases e2; exact k
  | rt r Γ1 => cases e2; exact k
theorem b_never (hf : ∀ Γ, f Γ = none) : PS X st (tS X.K f) := ⟨fun pins s σ H D I ⟨Γ, Hf, o, R, e, k⟩ => by rw [hf] at e; cases e⟩
theorem z_ret (he : PE X e (tX X.K fx)) : PS X (.Return (some e) pos) (tS X.K fun Γ => (fx Γ).map fun (r, Γ) => .rt r Γ) := (ps_ret he).imp fun D σ H ⟨Γ, Hf, o, R, ef, k⟩ => by
  obtain ⟨⟨r, Γ1⟩, e1, e2⟩ := mapS' ef
  cases e2
  exact ⟨Γ, Hf, r, _, R, e1, fun v H' Hf' R' S' q => k v σ H' Hf' R' S'.toStep q.m⟩
theorem z_retn : PS X (.Return none pos) (tS X.K fun Γ => some (.rt (.fz .none) Γ)) := ps_retN.imp fun D σ H ⟨Γ, Hf, o, R, ef, k⟩ => by
  cases ef
  exact k .non σ H Hf R .rfl' (RRel.m (r := .fz .none) .non)
theorem z_pass : PS X (.Pass pos) (tS X.K fun Γ => some (.nx Γ)) := ps_pass.imp fun D σ H ⟨Γ, Hf, o, R, ef, k⟩ => by cases ef; exact k σ H Hf R .rfl'
theorem z_brk : PS X (.Break pos) (tS X.K fun Γ => some (.bk Γ)) := ps_break.imp fun D σ H ⟨Γ, Hf, o, R, ef, k⟩ => by cases ef; exact k σ H Hf R .rfl'
theorem z_cnt : PS X (.Continue pos) (tS X.K fun Γ => some (.ct Γ)) := ps_continue.imp fun D σ H ⟨Γ, Hf, o, R, ef, k⟩ => by cases ef; exact k σ H Hf R .rfl'
theorem z_exp (he : PE X e (tX X.K fx)) (hs : swapsWith e none pos.line X.env = pure false) : PS X (.Expr e pos) (tS X.K fun Γ => (fx Γ).map fun (_, Γ) => .nx Γ) := (ps_expr he hs).imp fun D σ H ⟨Γ, Hf, o, R, ef, k⟩ => by
  obtain ⟨⟨r, Γ1⟩, e1, e2⟩ := mapS' ef
  cases e2
  exact ⟨Γ, Hf, r, _, R, e1, fun v H' Hf' R' S' q => k σ H' Hf' R' S'.toStep⟩
theorem z_ife (hc : PT X c (tT X.K ft)) (ha : PSs X body (tS X.K f)) (hb : PSs X orelse (tS X.K g)) : PS X (.If c body orelse pos) (tS X.K fun Γ => (ft Γ).bind fun (t, Γ) => if t then f Γ else g Γ) :=
  (ps_if hc ha hb).imp fun D σ H ⟨Γ, Hf, o, R, ef, k⟩ => by
    obtain ⟨⟨t, Γ1⟩, e1, e2⟩ := bindS ef
    refine ⟨Γ, Hf, t, Γ1, R, e1, fun H1 Hf1 R1 S1 => ?_⟩
    cases t with
    | true => exact ⟨Γ1, Hf1, o, R1, e2, k.back S1.toStep⟩
    | false => exact ⟨Γ1, Hf1, o, R1, e2, k.back S1.toStep⟩
theorem z_whl (hp : PassesOwn (model X.prog X.w) X.A X.env X.xe) (hc : PT X c (tT X.K ft)) (hb : PSs X body (tS X.K f)) (n : Nat) : PS X (.While c body [] pos) (tS X.K (evW ft f n)) :=
  (ps_while hp hc hb).imp fun D σ H ⟨Γ, Hf, o, R, ef, k⟩ => by
    refine ⟨fun m σ' H' => ∃ Γ' Hf', Rel X.K Hf' H' σ' Γ' ∧ Step σ Γ Hf H σ' Γ' Hf' H' ∧ evW ft f m Γ' = some o, ⟨n, Γ, Hf, R, .rfl', ef⟩, ?_⟩
    rintro m σ1 H1 ⟨Γ1, Hf1, R1, S1, e1⟩
    cases m with
    | zero => cases e1
    | succ m =>
      obtain ⟨⟨t, Γ2⟩, e2, e3⟩ := bindS (show (ft Γ1).bind (fun (t, Γ) => if t then (f Γ).bind (onTurn (evW ft f m)) else some (.nx Γ)) = some o from e1)
      refine ⟨Γ1, Hf1, t, Γ2, R1, e2, fun H2 Hf2 R2 S2 => ?_⟩
      have S := S1.tr S2.toStep
      cases t with
      | false =>
        cases (show some (Out.nx Γ2) = some o from e3)
        exact iteF (k σ1 H2 Hf2 R2 S)
      | true =>
        obtain ⟨o1, e4, e5⟩ := bindS (show (f Γ2).bind (onTurn (evW ft f m)) = some o from e3)
        refine iteT ⟨fun σ' H' => ∃ Γ' Hf', Rel X.K Hf' H' σ' Γ' ∧ Step σ Γ Hf H σ' Γ' Hf' H' ∧ evW ft f m Γ' = some o, fun σ' H' hN => ⟨m, Nat.lt_succ_self _, hN⟩, Γ2, Hf2, o1, R2, e4, ?_⟩
        cases o1 with
        | nx Γ3 => exact fun σ3 H3 Hf3 R3 S3 => ⟨Γ3, Hf3, R3, S.tr S3, e5⟩
        | ct Γ3 => exact fun σ3 H3 Hf3 R3 S3 => ⟨Γ3, Hf3, R3, S.tr S3, e5⟩
        | bk Γ3 => cases e5; exact fun σ3 H3 Hf3 R3 S3 => k σ3 H3 Hf3 R3 (S.tr S3)
        | rt r Γ3 => cases e5; exact fun v σ3 H3 Hf3 R3 S3 q => k v σ3 H3 Hf3 R3 (S.tr S3) (q.back S)
theorem z_for {tg iter : Expr} {t : Tg} {kk : IK} {gi : FA} (hp : PassesOwn (model X.prog X.w) X.A X.env X.xe) (hcalm : X.calm = true) (hi : PI X tg iter (tI X.K kk gi)) (hg : PG X tg (tG X.K t)) (hb : PSs X body (tS X.K f))
    (hs : ∀ x, foldedSetIterable iter X.env x = pure x) : PS X (.For tg iter body [] pos) (tS X.K fun Γ => (gi Γ).bind fun (ds, Γ) => (itD kk ds).bind fun xs => evF t f xs Γ) :=
  (ps_for hp hcalm hi hg hb hs).imp fun D σ H ⟨Γ, Hf, o, R, ef, k⟩ => by
    obtain ⟨⟨ds, Γ1⟩, e1, ef⟩ := bindS ef
    obtain ⟨xs, e2, ef⟩ := bindS ef
    refine ⟨Γ, Hf, ds, Γ1, xs, R, e1, e2, fun J H1 Hf1 R1 S1 wk => ?_⟩
    let W : Nat → Nat → L2.St → Hp → Prop := fun i m σ' H' => m = xs.length - i ∧ i ≤ xs.length ∧ ∃ Γ' Hf', Rel X.K Hf' H' σ' Γ' ∧ Step σ Γ Hf H σ' Γ' Hf' H' ∧ Ext Hf1 Hf' ∧ evF t f (xs.drop i) Γ' = some o
    refine ⟨W, ⟨xs.length, by simp, Nat.zero_le _, Γ1, Hf1, R1, S1.toStep, Ext.rfl', ef⟩, ?_⟩
    rintro i m σ2 H2 ⟨rfl, hi', Γ2, Hf2, R2, S2, x2, e3⟩
    by_cases hlt : i < xs.length
    · refine .inr ⟨wk.go i H2 (x2.tr R2.sub) hlt, fun σ' H' => ∃ m', m' < xs.length - i ∧ W (i + 1) m' σ' H', fun _ _ h => h, fun x H3 hy => ?_⟩
      have hx : xs[i]? = some xs[i] := List.getElem?_eq_getElem hlt
      obtain ⟨Hf3, g3, d3⟩ := wk.yld i H2 Hf2 x H3 _ x2 R2.sub hx hy
      have R3 := g3.rel R2
      have S3 : Step σ Γ Hf H σ2 Γ2 Hf3 H3 := S2.tr (g3.step R2).toStep
      rw [List.drop_eq_getElem_cons hlt] at e3
      obtain ⟨Γ4, e4, e5⟩ := bindS (show (asg t xs[i] Γ2).bind (fun Γ => (f Γ).bind (onTurn (evF t f (xs.drop (i + 1))))) = some o from e3)
      obtain ⟨o1, e6, e7⟩ := bindS e5
      refine ⟨Γ2, Hf3, xs[i], Γ4, R3, d3, e4, fun σ4 R4 S4 _ _ => ⟨Γ4, Hf3, o1, R4, e6, ?_⟩⟩
      have S := S3.tr S4.toStep
      have again : ∀ {σ5 H5 Hf5 Γ5}, Rel X.K Hf5 H5 σ5 Γ5 → Step σ4 Γ4 Hf3 H3 σ5 Γ5 Hf5 H5 → evF t f (xs.drop (i + 1)) Γ5 = some o → ∃ m', m' < xs.length - i ∧ W (i + 1) m' σ5 H5 := fun {σ5 H5 Hf5 Γ5} R5 S5 e =>
        ⟨xs.length - (i + 1), by omega, rfl, hlt, Γ5, Hf5, R5, S.tr S5, (x2.tr g3.ext).tr S5.ext, e⟩
      cases o1 with
      | nx Γ5 => exact fun σ5 H5 Hf5 R5 S5 => again R5 S5 e7
      | ct Γ5 => exact fun σ5 H5 Hf5 R5 S5 => again R5 S5 e7
      | bk Γ5 => cases e7; exact fun σ5 H5 Hf5 R5 S5 => k σ5 H5 Hf5 R5 (S.tr S5)
      | rt r Γ5 => cases e7; exact fun v σ5 H5 Hf5 R5 S5 q => k v σ5 H5 Hf5 R5 (S.tr S5) (q.back S)
    · have hie : i = xs.length := by omega
      subst hie
      rw [List.drop_length] at e3
      cases (show some (Out.nx Γ2) = some o from e3)
      exact .inl ⟨wk.stop _ H2 (x2.tr R2.sub) (Nat.le_refl _), k σ2 H2 Hf2 R2 S2⟩
end
end EvL

set_option Elab.async false
set_option linter.all false
set_option maxRecDepth 100000
set_option maxHeartbeats 16000000
namespace EvL
open PySem PySem.Spec PyProof.Rows L2

/-! ### stores -/
section
variable {K : PySem.W.Frag} {σ0 σ : L2.St} {Γ0 Γ : Ga} {Hf0 H0 Hf H : Hp}
/-- what a fresh list of one's own is -/
def Has (K : PySem.W.Frag) (Hf H : Hp) (p : Addr) (L : List Addr) : MV → Prop
  | .ow q ds => q = false ∧ L = [p] ∧ ∃ ws, Hf p = none ∧ H p = some (.lst ws) ∧ Dqs K Hf ws ds
  | .oo rss => ∃ as, L = p :: as ∧ OO K Hf H p as rss
  | _ => False
theorem Rel.putO {i : Nat} {p : Addr} {L : List Addr} {m : MV} (R : Rel K Hf H σ Γ) (S : Step σ0 Γ0 Hf0 H0 σ Γ Hf H) (h0 : ∀ b ∈ L, H0 b = none) (h : Has K Hf H p L m)
    (hno : ∀ b ∈ L, ∀ q, ¬ OwnAt σ Γ H q b) (hi : i < Γ.length) : Rel K Hf H (σ.set i (some (.ref p))) (Γ.set i m) ∧ Step σ0 Γ0 Hf0 H0 (σ.set i (some (.ref p))) (Γ.set i m) Hf H := by
  have hs : i < σ.length := by rw [← R.len]; exact hi
  have sne : ∀ {j : Nat}, j ≠ i → (σ.set i (some (V.ref p)))[j]? = σ[j]? := fun {j} hj => by rw [List.getElem?_set, if_neg (fun z => hj z.symm)]
  have sat : (σ.set i (some (V.ref p)))[i]? = some (some (.ref p)) := by rw [List.getElem?_set, if_pos rfl, if_pos hs]
  have so : ∀ {j : Nat} {q : Bool} {b : Addr}, SO (σ.set i (some (V.ref p))) (Γ.set i m) H j q b → (j = i ∧ q = false ∧ b ∈ L) ∨ (j ≠ i ∧ SO σ Γ H j q b ∧ b ∉ L) := fun {j q b} g => by
    have fin : j ≠ i → SO σ Γ H j q b → (j = i ∧ q = false ∧ b ∈ L) ∨ (j ≠ i ∧ SO σ Γ H j q b ∧ b ∉ L) := fun hj g => .inr ⟨hj, g, fun z => hno b z q ⟨j, g⟩⟩
    rcases g with ⟨ds, e, g⟩ | ⟨rfl, rss, a, as, e, g, g3, g4⟩
    · rcases get_set e with ⟨rfl, e, _⟩ | ⟨hj, e⟩
      · subst e
        obtain ⟨rfl, rfl, _⟩ := h
        rw [sat] at g; cases g
        exact .inl ⟨rfl, rfl, List.mem_singleton.mpr rfl⟩
      · rw [sne hj] at g; exact fin hj (.inl ⟨ds, e, g⟩)
    · rcases get_set e with ⟨rfl, e, _⟩ | ⟨hj, e⟩
      · subst e
        obtain ⟨as', rfl, o⟩ := h
        rw [sat] at g; cases g
        have := o.at_
        rw [g3] at this
        injection this with this
        injection this with this
        rw [map_ref_inj this] at g4
        exact .inl ⟨rfl, rfl, g4⟩
      · rw [sne hj] at g; exact fin hj (.inr ⟨rfl, rss, a, as, e, g, g3, g4⟩)
  refine ⟨⟨by simp [R.len], R.sub, fun j d' e => ?_, fun j q es e => ?_, fun j rss e => ?_, fun j j' q q' b g g' => ?_⟩, ⟨S.ext, S.keep, S.live, S.newf, fun b g => ?_, fun b g => ?_, fun j ds g => let ⟨h1, e1⟩ := hid_set (fun _ z => by subst z; exact h) (fun j hj => sne hj) j ds g; let ⟨h2, e2⟩ := S.hid j ds h1; ⟨h2, e1.trans e2⟩⟩⟩
  · rcases get_set e with ⟨rfl, e, _⟩ | ⟨hj, e⟩
    · subst e; exact h.elim
    · rw [sne hj]
      exact R.fz j d' e
  · rcases get_set e with ⟨rfl, e, _⟩ | ⟨hj, e⟩
    · subst e
      obtain ⟨rfl, rfl, ws, hf, hp, hq⟩ := h
      exact ⟨p, ws, sat, hf, hp, hq⟩
    · rw [sne hj]
      exact R.own j q es e
  · rcases get_set e with ⟨rfl, e, _⟩ | ⟨hj, e⟩
    · subst e
      obtain ⟨as, rfl, o⟩ := h
      exact ⟨p, as, sat, o⟩
    · rw [sne hj]
      exact R.oo j rss e
  · rcases so g with ⟨rfl, _, hb⟩ | ⟨hj, g, hb⟩
    · rcases so g' with ⟨rfl, _⟩ | ⟨_, _, hb'⟩
      · rfl
      · exact absurd hb hb'
    · rcases so g' with ⟨rfl, _, hb'⟩ | ⟨hj', g', _⟩
      · exact absurd hb' hb
      · exact R.inj j j' q q' b g g'
  · obtain ⟨j, g⟩ := g
    rcases so g with ⟨_, _, hb⟩ | ⟨_, g, _⟩
    · exact .inr (h0 b hb)
    · exact S.newo b ⟨j, g⟩
  · obtain ⟨j, g⟩ := g
    rcases so g with ⟨_, z, _⟩ | ⟨_, g, _⟩
    · cases z
    · exact S.newb b ⟨j, g⟩
/-- a fresh result is nobody's -/
theorem EStep.noone {σ : L2.St} (R0 : Rel K Hf0 H0 σ Γ0) (S : EStep σ Γ0 Hf0 H0 Γ Hf H) {p : Addr} (h0 : H0 p = none) : ∀ q, ¬ OwnAt σ Γ H q p := fun q z => by
  cases q with
  | false => exact R0.fresh h0 false (S.shr p z)
  | true => exact R0.fresh h0 true (S.newb p z)
theorem Rel.putR {i : Nat} {v : V} {r : RV} (R : Rel K Hf H σ Γ) (S : Step σ0 Γ0 Hf0 H0 σ Γ Hf H) (h : RRel K H0 Hf H v r) (hno : ∀ p, H0 p = none → (∀ rss, r ≠ .oo rss) → (∀ ds, r = .ow ds → v = .ref p → ∀ q, ¬ OwnAt σ Γ H q p)) (hoo : ∀ rss, r = .oo rss → ∀ p, H0 p = none → ∀ q, ¬ OwnAt σ Γ H q p) (hi : i < Γ.length) :
    Rel K Hf H (σ.set i (some v)) (Γ.set i r.mv) ∧ Step σ0 Γ0 Hf0 H0 (σ.set i (some v)) (Γ.set i r.mv) Hf H := by
  cases r with
  | fz d =>
    obtain ⟨a, b⟩ := R.put h hi
    exact ⟨a, S.tr b.toStep⟩
  | ow ds =>
    obtain ⟨p, ws, rfl, h0, hf, hp, hq⟩ := h
    exact R.putO (L := [p]) (m := .ow false ds) S (fun b hb => by rw [List.mem_singleton.mp hb]; exact h0) ⟨rfl, rfl, ws, hf, hp, hq⟩ (fun b hb => by rw [List.mem_singleton.mp hb]; exact hno p h0 (fun _ z => nomatch z) _ rfl rfl) hi
  | oo rss =>
    obtain ⟨p, as, rfl, h0, o⟩ := h
    exact R.putO (L := p :: as) (m := .oo rss) S h0 ⟨as, rfl, o⟩ (fun b hb => hoo _ rfl b (h0 b hb)) hi
end
/-! ### several results, temporary lists kept apart -/
def OwnR (vs : List V) (rs : List RV) (p : Addr) : Prop := ∃ (j : Nat) (ds : List D), rs[j]? = some (.ow ds) ∧ vs[j]? = some (.ref p)
inductive RRels (K : PySem.W.Frag) (H0 Hf H : Hp) : List V → List RV → Prop
  | nil : RRels K H0 Hf H [] []
  | cons {v : V} {vs : List V} {r : RV} {rs : List RV} : RRel K H0 Hf H v r → (∀ rss, r ≠ .oo rss) → (∀ ds p, r = .ow ds → v = .ref p → ¬ OwnR vs rs p) → RRels K H0 Hf H vs rs → RRels K H0 Hf H (v :: vs) (r :: rs)
section
variable {K : PySem.W.Frag} {σ0 σ : L2.St} {Γ0 Γ : Ga} {Hf0 H0 Hf H : Hp}
theorem RRels.dead : ∀ {vs : List V} {rs : List RV} {p : Addr}, RRels K H0 Hf H vs rs → OwnR vs rs p → H0 p = none
  | _, _, _, .nil, ⟨j, ds, e, _⟩ => by simp at e
  | _, _, p, .cons h _ _ t, ⟨0, ds, e, g⟩ => by
    simp at e g
    subst e; subst g
    obtain ⟨q, ws, e, h0, _⟩ := h
    cases e; exact h0
  | _, _, p, .cons _ _ _ t, ⟨j + 1, ds, e, g⟩ => RRels.dead t ⟨j, ds, by simpa using e, by simpa using g⟩
theorem RRels.back {H1 : Hp} (e : ∀ b, H b = none → H1 b = none) : ∀ {vs : List V} {rs : List RV} {Hf' H' : Hp}, RRels K H Hf' H' vs rs → RRels K H1 Hf' H' vs rs
  | _, _, _, _, .nil => .nil
  | _, _, _, _, .cons h no n t => .cons (h.back e) no n (RRels.back e t)
end
def tRs (K : PySem.W.Frag) (f : Ga → Option (List RV × Ga)) : TA := fun σ H Q => ∃ Γ Hf r Γ', Rel K Hf H σ Γ ∧ f Γ = some (r, Γ') ∧
  ∀ vs H' Hf', Rel K Hf' H' σ Γ' → EStep σ Γ Hf H Γ' Hf' H' → RRels K H Hf' H' vs r → Q vs H'
section
variable {X : Cx} {e : Expr} {es : List Expr} {fa : FX} {g : Ga → Option (List RV × Ga)}
theorem r_nil : PA X [] (tRs X.K fun Γ => some ([], Γ)) := pa_nil.imp fun σ H Q ⟨Γ, Hf, r, Γ', R, ef, k⟩ => by
  cases ef
  exact k [] H Hf R .rfl' .nil
theorem low_ne (r : RV) : ∀ rss, r.low ≠ .oo rss := fun rss z => by cases r <;> cases z
theorem pe_low (ha : PE X e (tX X.K fa)) : PE X e (tX X.K fun Γ => (fa Γ).map fun (x, Γ) => (x.low, Γ)) := ha.imp fun σ H Q ⟨Γ, Hf, r, Γ', R, ef, k⟩ => by
  obtain ⟨⟨rx, Γ1⟩, e1, e2⟩ := mapS' ef
  cases e2
  refine ⟨Γ, Hf, rx, _, R, e1, fun v H' Hf' R' S' rr => ?_⟩
  cases rx with
  | fz d => exact k v H' Hf' R' S' rr
  | ow ds => exact k v H' Hf' R' S' rr
  | oo rss =>
    obtain ⟨Hf2, R2, S2, d⟩ := freeze R' S' R rr
    exact k v H' Hf2 R2 S2 d
theorem r_cons (ha : PE X e (tX X.K fa)) (hr : PA X es (tRs X.K g)) (hu : unstar e = true) : PA X (e :: es) (tRs X.K fun Γ => (fa Γ).bind fun (x, Γ) => (g Γ).map fun (ds, Γ) => (x.low :: ds, Γ)) :=
  (pa_cons (pe_low ha) hr (star_cons hu)).imp fun σ H Q ⟨Γ, Hf, r, Γ', R, ef, k⟩ => by
    obtain ⟨⟨rx0, Γ1⟩, e1, ef⟩ := bindS ef
    obtain ⟨⟨rs, Γ2⟩, e2, e3⟩ := mapS' ef
    cases e3
    have hlow := low_ne rx0
    refine ⟨Γ, Hf, rx0.low, Γ1, R, by simp [e1], fun x H1 Hf1 R1 S1 d1 => ⟨Γ1, Hf1, rs, _, R1, e2, fun vs H2 Hf2 R2 S2 d2 => k _ H2 Hf2 R2 (S1.tr S2) (.cons ?_ hlow ?_ (d2.back S1.dead))⟩⟩
    · generalize rx0.low = rx at d1 hlow
      cases rx with
      | fz d => exact dpM S2.ext d1
      | oo rss => exact absurd rfl (hlow rss)
      | ow ds =>
        obtain ⟨p, ws, rfl, h0, hf, hp, hq⟩ := d1
        obtain ⟨t1, t2⟩ := temp_keep S1.x R h0 hf hp S2.x
        exact ⟨p, ws, rfl, h0, t2, t1, dpMs S2.ext hq⟩
    · generalize rx0.low = rx at d1 hlow
      intro ds p e0 e1 hO
      subst e0
      obtain ⟨q, ws, e, h0, hf, hp, hq⟩ := d1
      rw [show x = V.ref p from by assumption] at e
      cases e
      have := d2.dead hO
      rw [hp] at this; cases this
end
def setAll : List Nat → List V → L2.St → L2.St
  | i :: is, v :: vs, σ => setAll is vs (σ.set i (some v))
  | _, _, σ => σ
section
variable {K : PySem.W.Frag} {σ0 : L2.St} {Γ0 : Ga} {Hf0 H0 Hf H : Hp}
theorem putAll_ok : ∀ {is : List Nat} {vs : List V} {rs : List RV} {σ : L2.St} {Γ Γ' : Ga}, Rel K Hf H σ Γ → Step σ0 Γ0 Hf0 H0 σ Γ Hf H → RRels K H0 Hf H vs rs → (∀ p, OwnR vs rs p → ∀ q, ¬ OwnAt σ Γ H q p) → putAll is rs Γ = some Γ' →
    Rel K Hf H (setAll is vs σ) Γ' ∧ Step σ0 Γ0 Hf0 H0 (setAll is vs σ) Γ' Hf H ∧ is.length = vs.length
  | [], [], [], σ, Γ, Γ', R, S, _, _, e => by cases e; exact ⟨R, S, rfl⟩
  | i :: is, v :: vs, r :: rs, σ, Γ, Γ', R, S, .cons h hoo hd t, hno, e => by
    unfold putAll at e
    split at e
    · rename_i hi
      obtain ⟨R1, S1⟩ := R.putR S h (fun p _ _ ds e1 e2 => hno p ⟨0, ds, by simp [e1], by simp [e2]⟩) (fun rss z => absurd z (hoo rss)) hi
      have := putAll_ok (is := is) R1 S1 t (fun p ho q ha => ?_) e
      · exact ⟨this.1, this.2.1, by simp [this.2.2]⟩
      · obtain ⟨j, ha⟩ := ha
        have hs : i < σ.length := by rw [← R.len]; exact hi
        have old : SO σ Γ H j q p → False := fun z => by
          obtain ⟨j0, ds0, o1, o2⟩ := ho
          exact hno p ⟨j0 + 1, ds0, by simpa using o1, by simpa using o2⟩ q ⟨j, z⟩
        cases r with
        | fz d => exact old (so_put (m := .fz d) trivial ha).2
        | oo rss => exact absurd rfl (hoo rss)
        | ow ds =>
          rcases ha with ⟨es, e1, e2⟩ | ⟨rfl, rss, a, as, e1, e2, e3, e4⟩
          · rcases get_set e1 with ⟨rfl, e1, _⟩ | ⟨hj, e1⟩
            · rw [List.getElem?_set, if_pos rfl, if_pos hs] at e2
              cases e2; exact hd _ _ rfl rfl ho
            · rw [List.getElem?_set, if_neg (fun z => hj z.symm)] at e2
              exact old (.inl ⟨es, e1, e2⟩)
          · rcases get_set e1 with ⟨rfl, e1, _⟩ | ⟨hj, e1⟩
            · cases e1
            · rw [List.getElem?_set, if_neg (fun z => hj z.symm)] at e2
              exact old (.inr ⟨rfl, rss, a, as, e1, e2, e3, e4⟩)
    · cases e
  | [], _, _ :: _, _, _, _, _, _, _, _, e => by cases e
  | _ :: _, _, [], _, _, _, _, _, _, _, e => by cases e
  | [], _ :: _, [], _, _, _, _, _, h, _, _ => by cases h
end
section
variable {X : Cx} {st : Stmt} {f g : FS} {e c a b : Expr} {fx fy : FX} {pos : Pos}
theorem set_read {K : PySem.W.Frag} {i : Nat} {D : Ends} {σ : L2.St} {H : Hp} (h : tS K (fun Γ => (fx Γ).bind fun (r, Γ) => if i < Γ.length then some (.nx (Γ.set i r.mv)) else none) D σ H) : tX K fx σ H fun x H1 => D.nx (σ.set i (some x)) H1 := by
  obtain ⟨Γ, Hf, o, R, ef, k⟩ := h
  obtain ⟨⟨r, Γ1⟩, e1, e2⟩ := bindS ef
  simp only at e2
  split at e2
  · rename_i hi
    cases e2
    refine ⟨Γ, Hf, r, Γ1, R, e1, fun v H' Hf' R' S' q => ?_⟩
    obtain ⟨R2, S2⟩ := R'.putR S'.toStep q (fun p h0 _ ds _ _ => S'.noone R h0) (fun rss _ p h0 => S'.noone R h0) hi
    exact k _ _ _ R2 S2
  · cases e2
theorem z_set {i : Nat} {x : Str} {pos' : Pos} (hN : X.N.Nodup) (hi : X.N[i]? = some x) (hx : Loc X.env.scope x) (he : PE X e (tX X.K fx)) (hs : swapsWith e (some (.Name x pos')) pos.line X.env = pure false) (hf : X.fn x = true ∨ X.env.scope.names.lookup x = some .local) :
    PS X (.Assign [.Name x pos'] e pos) (tS X.K fun Γ => (fx Γ).bind fun (r, Γ) => if i < Γ.length then some (.nx (Γ.set i r.mv)) else none) := (ps_set hN hi hx he hs hf).imp fun D σ H h => set_read h
theorem z_asg {tg : Expr} {t : Tg} (he : PE X e (tX X.K fx)) (hg : PG X tg (tG X.K t)) (hs : swapsWithSole [tg] e pos.line X.env = pure false) (hw : swappedStores [tg] e X.env = pure none) (h1 : (assignEach [tg] X.env).map (·.2) = [assign tg X.env]) :
    PS X (.Assign [tg] e pos) (tS X.K fun Γ => (fx Γ).bind fun (r, Γ) => (asg t r.d Γ).map .nx) := (ps_asg (pe_fast he) hg hs hw h1).imp fun D σ H ⟨Γ, Hf, o, R, ef, k⟩ => by
  obtain ⟨⟨r, Γ1⟩, e1, e2⟩ := bindS ef
  obtain ⟨Γ2, e3, e4⟩ := mapS' e2
  cases e4
  exact ⟨Γ, Hf, r, Γ1, R, e1, fun v H' Hf' R' S' q => ⟨Γ1, Hf', _, Γ2, R', q, e3, fun σ' R2 S2 _ _ => k _ _ _ R2 (S'.toStep.tr S2.toStep)⟩⟩
theorem z_par {i j : Nat} {x y : Str} {px py pt : Pos} {kt k2 pt2} {h : Ga → Option (List RV × Ga)} (hc : X.calm = true) (hN : X.N.Nodup) (hi : X.N[i]? = some x) (hj : X.N[j]? = some y) (hij : i ≠ j)
    (hx : X.env.scope.names.lookup x = some .local) (hy : X.env.scope.names.lookup y = some .local) (ha : PA X [a, b] (tRs X.K h))
    (hw : swappedStores [.Tuple [.Name x px, .Name y py] kt pt] (.Tuple [a, b] k2 pt2) X.env = pure (some [x, y])) :
    PS X (.Assign [.Tuple [.Name x px, .Name y py] kt pt] (.Tuple [a, b] k2 pt2) pos) (tS X.K fun Γ => (h Γ).bind fun (rs, Γ) => (putAll [i, j] rs Γ).map .nx) := (ps_par hc hN hi hj hij hx hy ha hw rfl).imp fun D σ H ⟨Γ, Hf, o, R, ef, k⟩ => by
  obtain ⟨⟨r, Γ1⟩, e1, e2⟩ := bindS ef
  obtain ⟨Γ2, e3, e4⟩ := mapS' e2
  cases e4
  refine ⟨Γ, Hf, r, Γ1, R, e1, fun vs H' Hf' R' S' q => ?_⟩
  obtain ⟨R2, S2, hl⟩ := putAll_ok R' S'.toStep q (fun p ho => S'.noone R (q.dead ho)) e3
  match vs, hl, R2, S2 with
  | [v, w], _, R2, S2 => exact ⟨v, w, rfl, k _ _ _ R2 S2⟩
  | [], hl, _, _ => simp at hl
  | [_], hl, _, _ => simp at hl
  | _ :: _ :: _ :: _, hl, _, _ => simp at hl
theorem z_par3 {i j l : Nat} {x y z : Str} {px py pz pt : Pos} {kt k2 pt2} {h : Ga → Option (List RV × Ga)} (hc : X.calm = true) (hN : X.N.Nodup) (hi : X.N[i]? = some x) (hj : X.N[j]? = some y) (hl : X.N[l]? = some z) (hij : i ≠ j) (hil : i ≠ l) (hjl : j ≠ l)
    (hx : X.env.scope.names.lookup x = some .local) (hy : X.env.scope.names.lookup y = some .local) (hz : X.env.scope.names.lookup z = some .local) (ha : PA X [a, b, c] (tRs X.K h))
    (hw : swappedStores [.Tuple [.Name x px, .Name y py, .Name z pz] kt pt] (.Tuple [a, b, c] k2 pt2) X.env = pure (some [x, y, z])) :
    PS X (.Assign [.Tuple [.Name x px, .Name y py, .Name z pz] kt pt] (.Tuple [a, b, c] k2 pt2) pos) (tS X.K fun Γ => (h Γ).bind fun (rs, Γ) => (putAll [i, j, l] rs Γ).map .nx) := (ps_par3 hc hN hi hj hl hij hil hjl hx hy hz ha hw rfl).imp fun D σ H ⟨Γ, Hf, o, R, ef, k⟩ => by
  obtain ⟨⟨r, Γ1⟩, e1, e2⟩ := bindS ef
  obtain ⟨Γ2, e3, e4⟩ := mapS' e2
  cases e4
  refine ⟨Γ, Hf, r, Γ1, R, e1, fun vs H' Hf' R' S' q => ?_⟩
  obtain ⟨R2, S2, hl⟩ := putAll_ok R' S'.toStep q (fun p ho => S'.noone R (q.dead ho)) e3
  match vs, hl, R2, S2 with
  | [u, v, w], _, R2, S2 => exact ⟨u, v, w, rfl, k _ _ _ R2 S2⟩
  | [], hl, _, _ => simp at hl
  | [_], hl, _, _ => simp at hl
  | [_, _], hl, _, _ => simp at hl
  | _ :: _ :: _ :: _ :: _, hl, _, _ => simp at hl
/-- a slot's list is written -/
theorem Rel.wrote {K : PySem.W.Frag} {σ : L2.St} {Γ : Ga} {Hf H : Hp} {i : Nat} {b : Bool} {ds es : List D} {p : Addr} {ws : List V} (R : Rel K Hf H σ Γ) (h1 : Γ[i]? = some (.ow b ds)) (h2 : σ[i]? = some (some (.ref p))) (hq : Dqs K Hf ws es) :
    Rel K Hf (upd H p (.lst ws)) σ (Γ.set i (.ow b es)) ∧ EStep σ Γ Hf H (Γ.set i (.ow b es)) Hf (upd H p (.lst ws)) := by
  obtain ⟨a, vs, e, hf, hp, _⟩ := R.own i b ds h1
  rw [h2] at e; cases e
  exact lent R h1 h2 .rfl' (R.sub.upd hf) (fun x o hx e => by rw [upd_ne hx]; exact e) (fun x h => .inl h) upd_same hf hq
theorem put_at {K : PySem.W.Frag} {σ : L2.St} {Γ Γ' : Ga} {Hf H : Hp} {i : Nat} {ix d : D} {y v : V} {p : Addr} (R : Rel K Hf H σ Γ) (h2 : σ[i]? = some (some (.ref p))) (hy : Dq K Hf y ix) (hv : Dq K Hf v d) (e : putAt i ix d Γ = some Γ') :
    ∃ xs k j, y = .int k ∧ H p = some (.lst xs) ∧ ixN xs.length k = some j ∧ Rel K Hf (upd H p (.lst (xs.set j v))) σ Γ' ∧ EStep σ Γ Hf H Γ' Hf (upd H p (.lst (xs.set j v))) := by
  unfold putAt at e
  split at e
  · rename_i b ds k h1
    obtain ⟨j, e1, e2⟩ := mapS' e
    subst e2
    obtain ⟨a, vs, g, hf, hp, hq⟩ := R.own i b ds h1
    rw [h2] at g; cases g
    cases hy
    obtain ⟨R2, S2⟩ := R.wrote h1 h2 (dps_set j hq hv)
    exact ⟨vs, _, j, rfl, hp, by rw [dps_len hq]; exact e1, R2, S2⟩
  · cases e
theorem own_ref {K : PySem.W.Frag} {σ : L2.St} {Γ : Ga} {Hf H : Hp} {i : Nat} {ix d : D} {Γ' : Ga} (R : Rel K Hf H σ Γ) (e : putAt i ix d Γ = some Γ') : ∃ p, σ[i]? = some (some (.ref p)) := by
  unfold putAt at e
  split at e
  · rename_i b ds k h1
    obtain ⟨a, vs, g, _⟩ := R.own i b ds h1
    exact ⟨a, g⟩
  · cases e
theorem isOw_ref {K : PySem.W.Frag} {σ : L2.St} {Γ : Ga} {Hf H : Hp} {i : Nat} (R : Rel K Hf H σ Γ) (h : isOw i Γ = true) : ∃ w, σ[i]? = some (some w) := by
  unfold isOw at h
  split at h
  · rename_i b ds h1
    obtain ⟨a, vs, g, _⟩ := R.own i b ds h1
    exact ⟨_, g⟩
  · cases h
theorem ifO {α : Type} {c : Bool} {o : Option α} {r : α} (e : (if c then o else none) = some r) : c = true ∧ o = some r := by
  cases c with
  | true => exact ⟨rfl, e⟩
  | false => cases e
theorem z_put {i : Nat} {x : Str} {px ps : Pos} (hN : X.N[i]? = some x) (hv : Vis X.env.scope x) (hd : (x == ("__debug__" : Str)) = false) (hcd : (x == ("__classdict__" : Str)) = false)
    (he : PE X e (tX X.K fx)) (hb : PE X b (tX X.K fy)) (ht : isTup b = false ∧ plainE b = true) (hs : swapsWithSole [.Subscript (.Name x px) b ps] e pos.line X.env = pure false) (hw : swappedStores [.Subscript (.Name x px) b ps] e X.env = pure none) :
    PS X (.Assign [.Subscript (.Name x px) b ps] e pos) (tS X.K fun Γ => (fx Γ).bind fun (r, Γ) => if isOw i Γ then (fy Γ).bind fun (y, Γ) => (putAt i y.d r.d Γ).map .nx else none) := by
  have hg : PG X (.Subscript (.Name x px) b ps) (gSub (tVar i) (tE X.K fy) rSetL) := pg_sub (pe_var hN hv hd hcd) (pe_fast hb) set_list (by cases b <;> first | (intro _; rfl) | (cases ht.2; done) | (cases ht.1; done))
  refine (ps_asg (pe_fast he) hg hs hw rfl).imp fun D σ H ⟨Γ, Hf, o, R, ef, k⟩ => ?_
  obtain ⟨⟨r, Γ1⟩, e1, ef⟩ := bindS ef
  obtain ⟨h0, ef⟩ := ifO ef
  obtain ⟨⟨y, Γ2⟩, e2, ef⟩ := bindS ef
  obtain ⟨Γ3, e3, e4⟩ := mapS' ef
  cases e4
  refine ⟨Γ, Hf, r, Γ1, R, e1, fun v H1 Hf1 R1 S1 q => ?_⟩
  obtain ⟨w, hw⟩ := isOw_ref R1 h0
  refine ⟨w, hw, Γ1, Hf1, y, Γ2, R1, e2, fun yv H2 Hf2 R2 S2 q2 => ?_⟩
  obtain ⟨p, hp⟩ := own_ref R2 e3
  rw [hw] at hp; cases hp
  obtain ⟨xs, kk, j, a1, a2, a3, R3, S3⟩ := put_at R2 hw q2 (dpM S2.ext q) e3
  exact ⟨p, xs, kk, j, rfl, a1, a2, a3, k _ _ _ R3 ((S1.toStep.tr S2.toStep).tr S3.toStep)⟩
/-- own rows are written -/
theorem Rows.set {K : PySem.W.Frag} {Hf H : Hp} {x : Addr} {ws : List V} {ds : List D} (hf : Hf x = none) (hq : Dqs K Hf ws ds) : ∀ {as : List Addr} {rss : List (List D)} {m : Nat}, as.Nodup → as[m]? = some x → Rows K Hf H as rss → Rows K Hf (upd H x (.lst ws)) as (rss.set m ds)
  | _, _, _, _, e, .nil => by simp at e
  | _, _, 0, nd, e, .cons a b c t => by
    simp at e; subst e
    exact .cons hf upd_same hq (t.mono Ext.rfl' (fun y hy => (t.mem y hy).1) fun y hy => upd_ne fun z => (List.nodup_cons.mp nd).1 (by subst z; exact hy))
  | y :: _, _, m + 1, nd, e, .cons a b c t => by
    rw [List.getElem?_cons_succ] at e
    have e' := e
    have hy : y ≠ x := fun z => (List.nodup_cons.mp nd).1 (by subst z; exact List.mem_of_getElem? e')
    exact .cons a (by rw [upd_ne hy]; exact b) c (Rows.set hf hq (List.nodup_cons.mp nd).2 e' t)
theorem Rel.wroteO {K : PySem.W.Frag} {σ : L2.St} {Γ : Ga} {Hf H : Hp} {i m : Nat} {rss : List (List D)} {ds : List D} {a x : Addr} {as : List Addr} {ws : List V} (R : Rel K Hf H σ Γ) (h1 : Γ[i]? = some (.oo rss)) (h2 : σ[i]? = some (some (.ref a))) (o : OO K Hf H a as rss) (hx : as[m]? = some x) (hq : Dqs K Hf ws ds) :
    Rel K Hf (upd H x (.lst ws)) σ (Γ.set i (.oo (rss.set m ds))) ∧ Step σ Γ Hf H σ (Γ.set i (.oo (rss.set m ds))) Hf (upd H x (.lst ws)) := by
  have hi := lt_of_get h1
  have xin : x ∈ as := List.mem_of_getElem? hx
  have mine : SO σ Γ H i false x := .oo h1 h2 o (List.mem_cons_of_mem _ xin)
  have hxa : a ≠ x := fun z => (List.nodup_cons.mp o.nd).1 (by subst z; exact xin)
  have hf := (o.mem x (List.mem_cons_of_mem _ xin)).1
  have other : ∀ {j : Nat} {q : Bool} {y : Addr}, j ≠ i → SO σ Γ H j q y → y ≠ x := fun {j q y} hj h z => hj (by subst z; exact R.inj j i q false y h mine)
  have so : ∀ {j : Nat} {q : Bool} {y : Addr}, SO σ (Γ.set i (.oo (rss.set m ds))) (upd H x (.lst ws)) j q y → SO σ Γ H j q y := fun {j q y} h => by
    rcases h with ⟨es, e1, e2⟩ | ⟨rfl, rss', b, bs, e1, e2, e3, e4⟩
    · rcases get_set e1 with ⟨rfl, e, _⟩ | ⟨hj, e⟩
      · cases e
      · exact .inl ⟨es, e, e2⟩
    · rcases get_set e1 with ⟨rfl, e, _⟩ | ⟨hj, e⟩
      · rw [h2] at e2; cases e2
        rw [upd_ne hxa] at e3
        exact .inr ⟨rfl, rss, a, bs, h1, h2, e3, e4⟩
      · obtain ⟨b', bs', g, o'⟩ := R.oo j rss' e
        rw [e2] at g; cases g
        rw [upd_ne (other hj (.oo e e2 o' (List.mem_cons_self ..)))] at e3
        exact .inr ⟨rfl, rss', b, bs, e, e2, e3, e4⟩
  refine ⟨⟨by rw [List.length_set]; exact R.len, R.sub.upd hf, fun j d e => ?_, fun j q es e => ?_, fun j rss' e => ?_, fun j j' q q' y h h' => R.inj j j' q q' y (so h) (so h')⟩,
    ⟨Ext.rfl', fun y u e n => ?_, fun y e => ?_, fun _ h => .inl h, fun y ⟨j, h⟩ => .inl ⟨j, so h⟩, fun y ⟨j, h⟩ => ⟨j, so h⟩, hid_set (fun _ z => nomatch z) fun _ _ => rfl⟩⟩
  · rcases get_set e with ⟨rfl, e, _⟩ | ⟨hj, e⟩
    · cases e
    · exact R.fz j d e
  · rcases get_set e with ⟨rfl, e, _⟩ | ⟨hj, e⟩
    · cases e
    · obtain ⟨y, us, e1, e2, e3, e4⟩ := R.own j q es e
      exact ⟨y, us, e1, e2, by rw [upd_ne (other hj (.inl ⟨es, e, e1⟩))]; exact e3, e4⟩
  · rcases get_set e with ⟨rfl, e, _⟩ | ⟨hj, e⟩
    · cases e
      exact ⟨a, as, h2, o.hf, by rw [upd_ne hxa]; exact o.at_, o.nd, o.rows.set hf hq (List.nodup_cons.mp o.nd).2 hx⟩
    · obtain ⟨b, bs, e1, o'⟩ := R.oo j rss' e
      exact ⟨b, bs, e1, o'.mono Ext.rfl' (fun y hy => (o'.mem y hy).1) fun y hy => upd_ne (other hj (.oo e e1 o' hy))⟩
  · rw [upd_ne fun z => n false ⟨i, by subst z; exact mine⟩]; exact e
  · by_cases hy : y = x
    · subst hy; rw [upd_same]; simp
    · rw [upd_ne hy]; exact e
theorem z_puto {i : Nat} {x : Str} {px p1 ps : Pos} (hN : X.N[i]? = some x) (hv : Vis X.env.scope x) (hd : (x == ("__debug__" : Str)) = false) (hcd : (x == ("__classdict__" : Str)) = false)
    (he : PE X e (tX X.K fx)) {fa : FX} (ha : PE X a (tX X.K fa)) (hb : PE X b (tX X.K fy)) (hs1 : PlainIx a) (ht : isTup b = false ∧ plainE b = true) (hs : swapsWithSole [.Subscript (.Subscript (.Name x px) a p1) b ps] e pos.line X.env = pure false) (hw : swappedStores [.Subscript (.Subscript (.Name x px) a p1) b ps] e X.env = pure none) :
    PS X (.Assign [.Subscript (.Subscript (.Name x px) a p1) b ps] e pos) (tS X.K fun Γ => (fx Γ).bind fun (r, Γ) => if isOo i Γ then (fa Γ).bind fun (x, Γ) => (rowO i x.d Γ).bind fun _ => (fy Γ).bind fun (y, Γ) => (putO i x.d y.d r.d Γ).map .nx else none) := by
  have hg : PG X (.Subscript (.Subscript (.Name x px) a p1) b ps) (gSub _ (tE X.K fy) rSetL) := pg_sub (pe_ix (pos := p1) ix_list (pe_var (pos := px) hN hv hd hcd) (pe_fast ha) hs1) (pe_fast hb) set_list (by cases b <;> first | (intro _; rfl) | (cases ht.2; done) | (cases ht.1; done))
  refine (ps_asg (pe_fast he) hg hs hw rfl).imp fun D σ H ⟨Γ, Hf, o, R, ef, k⟩ => ?_
  obtain ⟨⟨r, Γ1⟩, e1, ef⟩ := bindS ef
  obtain ⟨h0, ef⟩ := ifO ef
  obtain ⟨⟨rx, Γ2⟩, e2, ef⟩ := bindS ef
  obtain ⟨rs, e3, ef⟩ := bindS ef
  obtain ⟨⟨ry, Γ3⟩, e4, ef⟩ := bindS ef
  obtain ⟨Γ4, e5, e6⟩ := mapS' ef
  cases e6
  refine ⟨Γ, Hf, r, Γ1, R, e1, fun v H1 Hf1 R1 S1 q => ?_⟩
  obtain ⟨_, A, _, _, hA, _⟩ := isOo_ref R1 h0
  refine ⟨_, hA, Γ1, Hf1, rx, Γ2, R1, e2, fun vx H2 Hf2 R2 S2 d2 => ?_⟩
  obtain ⟨rss, as, kk, j, rr, vs, g1, oo, gd, rfl, g2, g3, g4, g5, g6, g7, g8⟩ := row_ref R2 hA d2 e3
  refine ⟨A, _, kk, .ref rr, rfl, rfl, .inl (.inl oo.at_), g5, Γ2, Hf2, ry, _, R2, e4, fun vy H3 Hf3 R3 S3 d3 => ?_⟩
  unfold putO at e5
  split at e5
  · rename_i rss2 k2 l2 q1 q2 q3
    obtain ⟨t1, t2, t3⟩ := S3.oos i rss2 A q1 hA
    rw [g1] at t1; cases t1
    obtain ⟨A', as2, t4, o2⟩ := R3.oo i rss q1
    rw [hA] at t4; cases t4
    have t5 := o2.at_
    rw [t3, oo.at_] at t5
    injection t5 with t5
    injection t5 with t5
    obtain rfl := map_ref_inj t5
    rw [gd] at q2; cases q2
    obtain ⟨m, u1, u2⟩ := bindS e5
    obtain ⟨rs2, u3, u4⟩ := bindS u2
    obtain ⟨l, u5, u6⟩ := mapS' u4
    rw [← oo.rows.len, g2] at u1
    cases u1
    rw [g4] at u3; cases u3
    obtain ⟨r2, vs2, w1, w2, w3, w4⟩ := o2.rows.get g4
    rw [g3] at w1; cases w1
    rw [q3] at d3; cases d3
    subst u6
    obtain ⟨R4, S4⟩ := R3.wroteO q1 hA o2 g3 (dps_set l w4 (dpM (S2.ext.tr S3.ext) q))
    exact ⟨rr, vs2, l2, l, rfl, rfl, w3, by rw [dps_len w4]; exact u5, k _ _ _ R4 (((S1.toStep.tr S2.toStep).tr S3.toStep).tr S4)⟩
  · cases e5
/-- a slot is given up -/
theorem Rel.forget {K : PySem.W.Frag} {σ : L2.St} {Γ : Ga} {Hf H : Hp} (R : Rel K Hf H σ Γ) (i : Nat) : Rel K Hf H σ (Γ.set i .un) ∧ Step σ Γ Hf H σ (Γ.set i .un) Hf H := by
  have nm : NoOwn .un := trivial
  refine ⟨⟨by rw [List.length_set]; exact R.len, R.sub, fun j d e => ?_, fun j q es e => ?_, fun j rss e => ?_, fun j j' q q' y h h' => R.inj j j' q q' y (so_set nm h).2 (so_set nm h').2⟩, ⟨Ext.rfl', fun _ _ h _ => h, fun _ h => h, fun _ h => .inl h, fun b h => .inl (own_set nm h), fun b h => own_set nm h, hid_set (fun _ z => nomatch z) fun _ _ => rfl⟩⟩
  · rcases get_set e with ⟨_, e, _⟩ | ⟨hj, e⟩
    · cases e
    · exact R.fz j d e
  · rcases get_set e with ⟨_, e, _⟩ | ⟨hj, e⟩
    · cases e
    · exact R.own j q es e
  · rcases get_set e with ⟨_, e, _⟩ | ⟨hj, e⟩
    · cases e
    · exact R.oo j rss e
theorem z_reto {i : Nat} {x : Str} {p : Pos} (hN : X.N[i]? = some x) (hv : Vis X.env.scope x) (hd : (x == ("__debug__" : Str)) = false) (hcd : (x == ("__classdict__" : Str)) = false) :
    PS X (.Return (some (.Name x p)) pos) (tS X.K fun Γ => match Γ[i]? with
      | some (.oo rss) => some (.rt (.oo rss) (Γ.set i .un))
      | _ => (getV i Γ).map fun (d, Γ) => .rt (.fz d) Γ) := (ps_ret (pe_var hN hv hd hcd)).imp fun D σ H ⟨Γ, Hf, o, R, ef, k⟩ => by
  simp only at ef
  split at ef
  · rename_i rss h1
    cases ef
    obtain ⟨a, as, e, oo⟩ := R.oo i rss h1
    obtain ⟨R1, S1⟩ := R.forget i
    exact ⟨_, e, k _ σ H Hf R1 S1 ⟨a, as, rfl, fun b hb => .inr ⟨i, .oo h1 e oo hb⟩, oo⟩⟩
  · obtain ⟨⟨d, Γ1⟩, e1, e2⟩ := mapS' ef
    cases e2
    obtain ⟨v, Hf', h1, h2, h3, h4⟩ := read_slot R e1
    exact ⟨v, h1, k v σ H Hf' h2 h3.toStep (RRel.m (r := .fz d) h4)⟩
theorem z_aug {i : Nat} {x : Str} {pos' : Pos} {op : Operator} {o : BOp} (hN : X.N.Nodup) (hi : X.N[i]? = some x) (hx : Loc X.env.scope x) (he : PE X e (tX X.K fx)) (ho : op = .Add ∧ o = .add ∨ op = .Sub ∧ o = .sub) (hf : X.fn x = true ∨ X.env.scope.names.lookup x = some .local) :
    PS X (.AugAssign (.Name x pos') op e pos) (tS X.K fun Γ => match Γ[i]? with
      | some (.fz d) => (fx Γ).bind fun (r, Γ) => (augD o d r.d).map fun z => .nx (Γ.set i (.fz z))
      | _ => none) := by
  have hp : PIp X op (ipI fun a b => if o = .add then a + b else a - b) := by
    rcases ho with ⟨rfl, rfl⟩ | ⟨rfl, rfl⟩
    · exact ip_add
    · exact ip_sub
  refine (ps_aug hN hi hx (pe_fast he) hp hf).imp fun D σ H ⟨Γ, Hf, out, R, ef, k⟩ => ?_
  simp only at ef
  split at ef
  · rename_i d h1
    obtain ⟨⟨r, Γ1⟩, e1, ef⟩ := bindS ef
    obtain ⟨z, e2, e3⟩ := mapS' ef
    cases e3
    obtain ⟨v, hv, dv⟩ := R.fz i d h1
    refine ⟨v, hv, Γ, Hf, r, Γ1, R, e1, fun w H1 Hf1 R1 S1 q => ?_⟩
    have hl : i < Γ1.length := by rw [R1.len, ← R.len]; exact (List.getElem?_eq_some_iff.mp h1).1
    have fin : ∀ a b : Int, d = .int a → r.d = .int b → z = .int (if o = .add then a + b else a - b) := by
      intro a b h2 h3
      rw [h2, h3] at e2
      rcases ho with ⟨rfl, rfl⟩ | ⟨rfl, rfl⟩ <;> (cases e2; rfl)
    have ab : ∃ a b, d = .int a ∧ r.d = .int b := by
      rcases ho with ⟨rfl, rfl⟩ | ⟨rfl, rfl⟩ <;> (revert e2; cases d <;> cases r.d <;> (intro e2; first | exact ⟨_, _, rfl, rfl⟩ | cases e2))
    obtain ⟨a, b, h2, h3⟩ := ab
    have hz := fin a b h2 h3
    rw [h2] at dv; cases dv
    rw [h3] at q; cases q
    subst hz
    obtain ⟨R2, S2⟩ := R1.put (Dq.int (if o = .add then a + b else a - b)) hl
    exact ⟨a, b, rfl, rfl, k _ _ _ R2 (S1.toStep.tr S2.toStep)⟩
  · cases ef
theorem z_app {i : Nat} {x : Str} {px ap cp : Pos} (hN : X.N[i]? = some x) (hv : Vis X.env.scope x) (hd : (x == ("__debug__" : Str)) = false) (hcd : (x == ("__classdict__" : Str)) = false) (he : PE X e (tX X.K fx)) (hu : unstar e = true) (hline : (ap.endLine == cp.line) = true) :
    PS X (.Expr (.Call (.Attribute (.Name x px) "append" ap) [e] [] cp) pos) (tS X.K fun Γ => match Γ[i]? with
      | some (.ow _ _) => (fx Γ).bind fun (r, Γ) => match Γ[i]? with
        | some (.ow b ds) => if ds.length < lim then some (.nx (Γ.set i (.ow b (ds ++ [r.d])))) else none
        | _ => none
      | _ => none) := by
  have hm : MtR X "list.append" rAppend := mt_append
  have hA : PA X [e] (tCons (tE X.K fx) tNil) := pa_cons (pe_fast he) pa_nil (star_cons hu)
  have hp := pe_bm (cpos := cp) (apos := ap) PySem.F.plainAttrs_list PySem.F.slot_list_append PySem.F.type_list_append hm (pe_var (pos := px) hN hv hd hcd) hA rfl (by rw [star_cons hu]; rfl) hline (star_cons hu) rfl
  refine (ps_expr hp rfl).imp fun D σ H ⟨Γ, Hf, out, R, ef, k⟩ => ?_
  simp only at ef
  split at ef
  · rename_i b0 ds0 h0
    obtain ⟨⟨r, Γ1⟩, e1, ef⟩ := bindS ef
    simp only at ef
    split at ef
    · rename_i b ds h1
      split at ef
      · rename_i hl
        cases ef
        obtain ⟨p, vs0, g0, f0, p0, q0⟩ := R.own i b0 ds0 h0
        refine ⟨.ref p, g0, .inl ⟨rfl, vs0, .inl (.inl p0)⟩, Γ, Hf, r, Γ1, R, e1, fun w H1 Hf1 R1 S1 q => ?_⟩
        obtain ⟨p', vs, g, f1, p1, q1⟩ := R1.own i b ds h1
        rw [g0] at g; cases g
        obtain ⟨R2, S2⟩ := R1.wrote h1 g0 (dps_app q1 (.cons q .nil))
        exact ⟨p, vs, w, rfl, rfl, p1, Nat.lt_of_lt_of_le (by rw [dps_len q1]; exact hl) lim_le, k _ _ _ R2 (S1.toStep.tr S2.toStep)⟩
      · cases ef
    · cases ef
  · cases ef
theorem dps_dropLast {K : PySem.W.Frag} {H : Hp} : ∀ {vs : List V} {ds : List D}, Dqs K H vs ds → Dqs K H vs.dropLast ds.dropLast
  | _, _, .nil => .nil
  | _, _, .cons h .nil => .nil
  | _, _, .cons h (.cons h2 t) => .cons h (dps_dropLast (.cons h2 t))
theorem z_popS {i : Nat} {x : Str} {px ap cp : Pos} (hN : X.N[i]? = some x) (hv : Vis X.env.scope x) (hd : (x == ("__debug__" : Str)) = false) (hcd : (x == ("__classdict__" : Str)) = false) (hline : (ap.endLine == cp.line) = true) :
    PS X (.Expr (.Call (.Attribute (.Name x px) "pop" ap) [] [] cp) pos) (tS X.K fun Γ => match Γ[i]? with
      | some (.ow b ds) => if ds = [] then none else some (.nx (Γ.set i (.ow b ds.dropLast)))
      | _ => none) := by
  have hm : MtR X "list.pop" rPop := mt_pop
  have hp := pe_bm0 (cpos := cp) (apos := ap) PySem.F.plainAttrs_list PySem.F.slot_list_pop PySem.F.type_list_pop hm (pe_var (pos := px) hN hv hd hcd) rfl hline
  refine (ps_expr hp rfl).imp fun D σ H ⟨Γ, Hf, out, R, ef, k⟩ => ?_
  simp only at ef
  split at ef
  · rename_i b ds h0
    split at ef
    · cases ef
    · rename_i hne
      cases ef
      obtain ⟨p, vs, g0, f0, p0, q0⟩ := R.own i b ds h0
      have hl : vs.length ≠ 0 := by
        rw [dps_len q0]
        exact fun z => hne (List.eq_nil_of_length_eq_zero z)
      have hg : vs[vs.length - 1]? = some (vs[vs.length - 1]'(by omega)) := List.getElem?_eq_getElem _
      obtain ⟨R2, S2⟩ := R.wrote h0 g0 (dps_dropLast q0)
      exact ⟨.ref p, g0, .inl ⟨rfl, vs, .inl (.inl p0)⟩, p, vs, _, rfl, rfl, p0, hg, k _ _ _ R2 S2.toStep⟩
  · cases ef
theorem z_dip {i j : Nat} {x y : Str} {px ps py pt : Pos} {kt : Nat} (hc : X.calm = true) (hnd : X.N.Nodup) (hN : X.N[i]? = some x) (hv : Vis X.env.scope x) (hd : (x == ("__debug__" : Str)) = false) (hcd : (x == ("__classdict__" : Str)) = false) (hj : X.N[j]? = some y) (hy : L2.Loc X.env.scope y) (hf : X.fn y = true ∨ X.env.scope.names.lookup y = some .local)
    (he : PE X e (tX X.K fx)) (hb : PE X b (tX X.K fy)) (ht : isTup b = false ∧ plainE b = true) (hs : swapsWithSole [.Tuple [.Subscript (.Name x px) b ps, .Name y py] kt pt] e pos.line X.env = pure false) (hw : swappedStores [.Tuple [.Subscript (.Name x px) b ps, .Name y py] kt pt] e X.env = pure none) :
    PS X (.Assign [.Tuple [.Subscript (.Name x px) b ps, .Name y py] kt pt] e pos) (tS X.K fun Γ => (fx Γ).bind fun (r, Γ) => match r.d with
      | .tuple [a, b] => if isOw i Γ then (fy Γ).bind fun (x, Γ) => (putAt i x.d a Γ).bind fun Γ => if j < Γ.length then some (.nx (Γ.set j (.fz b))) else none else none
      | _ => none) := by
  have hg : PG X (.Subscript (.Name x px) b ps) (gSub (tVar i) (tE X.K fy) rSetL) := pg_sub (pe_var hN hv hd hcd) (pe_fast hb) set_list (by cases b <;> first | (intro _; rfl) | (cases ht.2; done) | (cases ht.1; done))
  have hg2 : PG X (.Name y py) (gName j) := pg_name hnd hj hy hf
  refine (ps_asg (pe_fast he) (pg_tup (n := 2) hc (pgs_cons hg (pgs_cons hg2 pgs_nil))) hs hw rfl).imp fun D σ H ⟨Γ, Hf, o, R, ef, k⟩ => ?_
  obtain ⟨⟨r, Γ1⟩, e1, ef⟩ := bindS ef
  simp only at ef
  split at ef
  · rename_i a d hr
    obtain ⟨h0, ef⟩ := ifO ef
    obtain ⟨⟨ix, Γ2⟩, e2, ef⟩ := bindS ef
    obtain ⟨Γ3, e3, ef⟩ := bindS ef
    split at ef
    · rename_i hl
      cases ef
      refine ⟨Γ, Hf, r, Γ1, R, e1, fun v H1 Hf1 R1 S1 q => ?_⟩
      rw [hr] at q
      cases q with
      | tup hq hqs =>
        cases hqs with
        | cons q1 t =>
          cases t with
          | cons q2 t =>
            cases t
            obtain ⟨w, hw⟩ := isOw_ref R1 h0
            refine ⟨_, _, rfl, R1.sub.st hq, rfl, _, _, rfl, w, hw, Γ1, Hf1, ix, Γ2, R1, e2, fun yv H2 Hf2 R2 S2 q3 => ?_⟩
            obtain ⟨p, hp⟩ := own_ref R2 e3
            rw [hw] at hp; cases hp
            obtain ⟨xs, kk, n, a1, a2, a3, R3, S3⟩ := put_at R2 hw q3 (dpM S2.ext q1) e3
            obtain ⟨R4, S4⟩ := R3.put (dpM S2.ext q2) hl
            exact ⟨p, xs, kk, n, rfl, a1, a2, a3, _, _, rfl, rfl, k _ _ _ R4 (((S1.toStep.tr S2.toStep).tr S3.toStep).tr S4.toStep)⟩
    · cases ef
  · cases ef
end
section
variable {K : PySem.W.Frag} {Hf H H1 H0 : Hp}
theorem RRel.up {v : V} {r : RV} (h : RRel K H0 Hf H v r) (e : Ext H H1) : RRel K H0 Hf H1 v r := by
  cases r with
  | fz d => exact h
  | ow ds =>
    obtain ⟨p, ws, a, b, c, d, f⟩ := h
    exact ⟨p, ws, a, b, c, e _ _ d, f⟩
  | oo rss =>
    obtain ⟨p, as, a, b, o⟩ := h
    exact ⟨p, as, a, b, o.mono Ext.rfl' (fun x hx => (o.mem x hx).1) fun x hx => let ⟨_, vs, z⟩ := o.mem x hx; e.eq_at z⟩
theorem RRels.up (e : Ext H H1) : ∀ {vs : List V} {rs : List RV}, RRels K H0 Hf H vs rs → RRels K H0 Hf H1 vs rs
  | _, _, .nil => .nil
  | _, _, .cons h no n t => .cons (h.up e) no n (RRels.up e t)
theorem RRels.len : ∀ {vs : List V} {rs : List RV}, RRels K H0 Hf H vs rs → vs.length = rs.length
  | _, _, .nil => rfl
  | _, _, .cons _ _ _ t => by simp [RRels.len t]
end
section
variable {X : Cx}
def NmOk (X : Cx) : List Expr → List Nat → Prop
  | [], [] => True
  | e :: es, i :: is => (∃ x p, e = .Name x p ∧ X.N[i]? = some x ∧ Loc X.env.scope x ∧ (X.fn x = true ∨ X.env.scope.names.lookup x = some .local)) ∧ NmOk X es is
  | _, _ => False
theorem nmOk_unstar : ∀ {es : List Expr} {is : List Nat}, NmOk X es is → es.all unstar = true ∧ es.length = is.length
  | [], [], _ => ⟨rfl, rfl⟩
  | e :: es, i :: is, h => by
    obtain ⟨⟨x, p, rfl, _⟩, h2⟩ := h
    obtain ⟨a, b⟩ := nmOk_unstar h2
    exact ⟨by simpa using ⟨rfl, by simpa using a⟩, by simp [b]⟩
  | [], _ :: _, h => h.elim
  | _ :: _, [], h => h.elim
theorem gs_names (hN : X.N.Nodup) : ∀ {es : List Expr} {is : List Nat}, NmOk X es is → PGs X es (fun vs σ H Q => is.length = vs.length ∧ Q (setAll is vs σ) H)
  | [], [], _ => PGs_imp pgs_nil fun vs σ H Q ⟨e, q⟩ => by
    cases vs with
    | nil => exact ⟨rfl, q⟩
    | cons => cases e
  | e :: es, i :: is, h => by
    obtain ⟨⟨x, p, rfl, hi, hx, hf⟩, h2⟩ := h
    exact PGs_imp (pgs_cons (pg_name hN hi hx hf) (gs_names hN h2) (by rw [asg_cons rfl]; rfl)) fun vs σ H Q ⟨e, q⟩ => by
      cases vs with
      | nil => simp at e
      | cons v vs => exact ⟨v, vs, rfl, by simpa using e, q⟩
  | [], _ :: _, h => h.elim
  | _ :: _, [], h => h.elim
theorem z_parT {ts vs : List Expr} {is : List Nat} {kt k2 : Nat} {pt pt2 pos : Pos} {h : Ga → Option (List RV × Ga)} (hc : X.calm = true) (hN : X.N.Nodup) (hn : NmOk X ts is) (ha : PA X vs (tRs X.K h)) (hl : ∀ Γ rs Γ', h Γ = some (rs, Γ') → rs.length ≤ 1000)
    (hs : swapsWithSole [.Tuple ts kt pt] (.Tuple vs k2 pt2) pos.line X.env = pure false) (hw : swappedStores [.Tuple ts kt pt] (.Tuple vs k2 pt2) X.env = pure none) :
    PS X (.Assign [.Tuple ts kt pt] (.Tuple vs k2 pt2) pos) (tS X.K fun Γ => (h Γ).bind fun (rs, Γ) => (putAll is rs Γ).map .nx) := by
  obtain ⟨u1, u2⟩ := nmOk_unstar hn
  refine (ps_asg (pe_tup ha) (pg_tup hc (gs_names hN hn) (asg_len u1).1 (asg_len u1).2) hs hw rfl).imp fun D σ H ⟨Γ, Hf, o, R, ef, k⟩ => ?_
  obtain ⟨⟨r, Γ1⟩, e1, e2⟩ := bindS ef
  obtain ⟨Γ2, e3, e4⟩ := mapS' e2
  cases e4
  refine ⟨Γ, Hf, r, Γ1, R, e1, fun vs H' Hf' R' S' q => ⟨by rw [q.len]; exact Nat.le_trans (hl _ _ _ e1) (by decide), fun p hp => ?_⟩⟩
  have g : Grow Hf' H' Hf' (upd H' p (.tup vs)) := ⟨Ext.rfl', R'.sub.upd (R'.sub.none hp), Ext.new hp, fun _ e => .inl e⟩
  obtain ⟨R2, S2, hl2⟩ := putAll_ok (g.rel R') (S'.tr (g.step R')).toStep (q.up (Ext.new hp)) (fun b ho => (S'.tr (g.step R')).noone R (q.dead ho)) e3
  exact ⟨p, vs, rfl, .inl (.inl upd_same), by rw [← hl2, ← u2], hl2, k _ _ _ R2 S2⟩
end
/-! ### a loop over a list of one's own -/
section
variable {K : PySem.W.Frag} {σ σ' : L2.St} {Γ Γ' : Ga} {Hf H Hf' H' : Hp} {i : Nat} {ds : List D} {p : Addr} {vs : List V}
theorem so_hid {j : Nat} {q : Bool} {b : Addr} (h : SO σ (Γ.set i (.hid ds)) H j q b) : j ≠ i ∧ SO σ Γ H j q b := by
  rcases h with ⟨es, h1, h2⟩ | ⟨rfl, rss, a, as, h1, h2, h3, h4⟩
  · rcases get_set h1 with ⟨_, e, _⟩ | ⟨hj, e⟩
    · cases e
    · exact ⟨hj, .inl ⟨es, e, h2⟩⟩
  · rcases get_set h1 with ⟨_, e, _⟩ | ⟨hj, e⟩
    · cases e
    · exact ⟨hj, .inr ⟨rfl, rss, a, as, e, h2, h3, h4⟩⟩
theorem Rel.hide (R : Rel K Hf H σ Γ) : Rel K Hf H σ (Γ.set i (.hid ds)) where
  len := by rw [List.length_set]; exact R.len
  sub := R.sub
  fz := fun j d e => by
    rcases get_set e with ⟨_, e, _⟩ | ⟨_, e⟩
    · cases e
    · exact R.fz j d e
  own := fun j q es e => by
    rcases get_set e with ⟨_, e, _⟩ | ⟨_, e⟩
    · cases e
    · exact R.own j q es e
  oo := fun j rss e => by
    rcases get_set e with ⟨_, e, _⟩ | ⟨_, e⟩
    · cases e
    · exact R.oo j rss e
  inj := fun j j' q q' b h h' => R.inj j j' q q' b (so_hid h).2 (so_hid h').2
theorem own_hid {q : Bool} {b : Addr} (h : OwnAt σ (Γ.set i (.hid ds)) H q b) : OwnAt σ Γ H q b := let ⟨j, h⟩ := h; ⟨j, (so_hid h).2⟩
/-- the list is nobody's while it is hidden -/
theorem Rel.hidden (R : Rel K Hf H σ Γ) (h1 : Γ[i]? = some (.ow false ds)) (h2 : σ[i]? = some (some (.ref p))) : ∀ q, ¬ OwnAt σ (Γ.set i (.hid ds)) H q p := fun q ⟨j, h⟩ => by
  obtain ⟨hj, g⟩ := so_hid h
  exact hj (R.inj j i q false p g (.inl ⟨ds, h1, h2⟩))
theorem Step.hidden (R : Rel K Hf H σ Γ) (h1 : Γ[i]? = some (.ow false ds)) (h2 : σ[i]? = some (some (.ref p))) (hf : Hf p = none) (hp : H p = some (.lst vs)) (S : Step σ (Γ.set i (.hid ds)) Hf H σ' Γ' Hf' H') :
    H' p = some (.lst vs) ∧ Hf' p = none ∧ ∀ q, ¬ OwnAt σ' Γ' H' q p := by
  have no := R.hidden h1 h2
  refine ⟨S.keep p _ hp no, ?_, fun q z => ?_⟩
  · cases w : Hf' p with
    | none => rfl
    | some u =>
      rcases S.newf p (by rw [w]; simp) with z | z | z
      · exact absurd hf z
      · rw [hp] at z; cases z
      · exact absurd z (no false)
  · cases q with
    | true => exact no true (S.newb p z)
    | false =>
      rcases S.newo p z with z | z
      · exact no false z
      · rw [hp] at z; cases z
/-- all but what stands at i -/
theorem Step.shown {m : MV} (hm : ∀ es, m ≠ .hid es) (S : Step σ (Γ.set i (.hid ds)) Hf H σ' Γ' Hf' H') (h1 : ∀ b, OwnAt σ' (Γ'.set i m) H' false b → OwnAt σ' Γ' H' false b ∨ OwnAt σ Γ H false b) (h2 : ∀ b, OwnAt σ' (Γ'.set i m) H' true b → OwnAt σ' Γ' H' true b) :
    Step σ Γ Hf H σ' (Γ'.set i m) Hf' H' where
  ext := S.ext
  keep := fun b o h n => S.keep b o h fun q z => n q (own_hid z)
  live := S.live
  newf := fun b h => (S.newf b h).imp id fun z => z.imp id own_hid
  newo := fun b h => (h1 b h).elim (fun z => (S.newo b z).imp own_hid id) .inl
  newb := fun b h => own_hid (S.newb b (h2 b h))
  hid := fun j es h => by
    rcases get_set h with ⟨_, e, _⟩ | ⟨hj, e⟩
    · exact absurd e.symm (hm es)
    · obtain ⟨g, e2⟩ := S.hid j es e
      rw [List.getElem?_set, if_neg (fun z => hj z.symm)] at g
      exact ⟨g, e2⟩
theorem Rel.unhide (R : Rel K Hf H σ Γ) (h1 : Γ[i]? = some (.ow false ds)) (h2 : σ[i]? = some (some (.ref p))) (hf : Hf p = none) (hp : H p = some (.lst vs)) (hq : Dqs K Hf vs ds)
    (R' : Rel K Hf' H' σ' Γ') (S : Step σ (Γ.set i (.hid ds)) Hf H σ' Γ' Hf' H') {es : List D} (h3 : Γ'[i]? = some (.hid es)) :
    Rel K Hf' H' σ' (Γ'.set i (.ow false es)) ∧ Step σ Γ Hf H σ' (Γ'.set i (.ow false es)) Hf' H' := by
  obtain ⟨hp', hf', no⟩ := S.hidden R h1 h2 hf hp
  have hi : i < Γ'.length := lt_of_get h3
  obtain ⟨g, es2⟩ := S.hid i es h3
  rw [List.getElem?_set, if_pos rfl, if_pos (lt_of_get h1)] at g
  cases g
  rw [h2] at es2
  have so : ∀ {j : Nat} {q : Bool} {b : Addr}, SO σ' (Γ'.set i (.ow false ds)) H' j q b → (j = i ∧ q = false ∧ b = p) ∨ (j ≠ i ∧ SO σ' Γ' H' j q b ∧ b ≠ p) := fun {j q b} g => by
    have fin : j ≠ i → SO σ' Γ' H' j q b → (j = i ∧ q = false ∧ b = p) ∨ (j ≠ i ∧ SO σ' Γ' H' j q b ∧ b ≠ p) := fun hj g => .inr ⟨hj, g, fun z => by subst z; exact no q ⟨j, g⟩⟩
    rcases g with ⟨fs, e, g⟩ | ⟨rfl, rss, a, as, e, g, g3, g4⟩
    · rcases get_set e with ⟨rfl, e, _⟩ | ⟨hj, e⟩
      · cases e
        rw [es2] at g; cases g
        exact .inl ⟨rfl, rfl, rfl⟩
      · exact fin hj (.inl ⟨fs, e, g⟩)
    · rcases get_set e with ⟨rfl, e, _⟩ | ⟨hj, e⟩
      · cases e
      · exact fin hj (.inr ⟨rfl, rss, a, as, e, g, g3, g4⟩)
  refine ⟨⟨by rw [List.length_set]; exact R'.len, R'.sub, fun j d e => ?_, fun j q fs e => ?_, fun j rss e => ?_, fun j j' q q' b g g' => ?_⟩, S.shown (fun _ z => nomatch z) (fun b ⟨j, g⟩ => ?_) fun b ⟨j, g⟩ => ?_⟩
  · rcases get_set e with ⟨_, e, _⟩ | ⟨_, e⟩
    · cases e
    · exact R'.fz j d e
  · rcases get_set e with ⟨rfl, e, _⟩ | ⟨_, e⟩
    · cases e
      exact ⟨p, vs, es2, hf', hp', dpMs S.ext hq⟩
    · exact R'.own j q fs e
  · rcases get_set e with ⟨_, e, _⟩ | ⟨_, e⟩
    · cases e
    · exact R'.oo j rss e
  · rcases so g with ⟨rfl, rfl, rfl⟩ | ⟨hj, g1, n1⟩
    · rcases so g' with ⟨rfl, _, _⟩ | ⟨_, _, n2⟩
      · rfl
      · exact absurd rfl n2
    · rcases so g' with ⟨_, _, rfl⟩ | ⟨_, g2, _⟩
      · exact absurd rfl n1
      · exact R'.inj j j' q q' b g1 g2
  · rcases so g with ⟨rfl, _, rfl⟩ | ⟨_, g1, _⟩
    · exact .inr ⟨_, .inl ⟨ds, h1, h2⟩⟩
    · exact .inl ⟨j, g1⟩
  · rcases so g with ⟨_, e, _⟩ | ⟨_, g1, _⟩
    · cases e
    · exact ⟨j, g1⟩
end
section
variable {X : Cx} {body : List Stmt} {f : FS} {pos : Pos}
theorem z_fro {i : Nat} {x : Str} {px : Pos} {tg : Expr} {t : Tg} (hp : PassesOwn (model X.prog X.w) X.A X.env X.xe) (hcalm : X.calm = true) (hN : X.N[i]? = some x) (hv : Vis X.env.scope x) (hd : (x == ("__debug__" : Str)) = false) (hcd : (x == ("__classdict__" : Str)) = false)
    (hg : PG X tg (tG X.K t)) (hb : PSs X body (tS X.K f)) (hs : ∀ y, foldedSetIterable (.Name x px) X.env y = pure y) : PS X (.For tg (.Name x px) body [] pos) (tS X.K (hideO i (evFo t i f))) :=
  (ps_for hp hcalm (pi_list (pe_var (pos := px) hN hv hd hcd)) hg hb hs).imp fun D σ H ⟨Γ, Hf, o, R, ef, k⟩ => by
    unfold hideO at ef
    split at ef
    case h_2 => cases ef
    rename_i ds h0
    obtain ⟨p, vs, g0, f0, p0, q0⟩ := R.own i false ds h0
    have R1 : Rel X.K Hf H σ (Γ.set i (.hid ds)) := R.hide
    let W : Nat → Nat → L2.St → Hp → Prop := fun j m σ' H' => m = ds.length - j ∧ j ≤ ds.length ∧ ∃ Γ' Hf', Rel X.K Hf' H' σ' Γ' ∧ Step σ (Γ.set i (.hid ds)) Hf H σ' Γ' Hf' H' ∧ evFo t i f (ds.drop j) Γ' = some o
    refine ⟨.ref p, g0, p, rfl, ⟨vs, .inl (.inl p0)⟩, W, ⟨ds.length, by simp, Nat.zero_le _, _, Hf, R1, .rfl', ef⟩, ?_⟩
    have fin : ∀ {σ2 : L2.St} {H2 Hf2 : Hp} {Γ2 : Ga}, Rel X.K Hf2 H2 σ2 Γ2 → Step σ (Γ.set i (.hid ds)) Hf H σ2 Γ2 Hf2 H2 → backH i Γ2 = some o → ∃ Γ3, o = .nx Γ3 ∧ Rel X.K Hf2 H2 σ2 Γ3 ∧ Step σ Γ Hf H σ2 Γ3 Hf2 H2 := fun {σ2 H2 Hf2 Γ2} R2 S2 e => by
      unfold backH at e
      split at e
      · rename_i es h3
        cases e
        obtain ⟨R3, S3⟩ := R.unhide h0 g0 f0 p0 q0 R2 S2 h3
        exact ⟨_, rfl, R3, S3⟩
      · cases e
    rintro j m σ2 H2 ⟨rfl, hj, Γ2, Hf2, R2, S2, e3⟩
    obtain ⟨hp2, hf2, no2⟩ := S2.hidden R h0 g0 f0 p0
    by_cases hlt : j < ds.length
    · have hlv : j < vs.length := by rw [dps_len q0]; exact hlt
      refine .inr ⟨⟨vs, vs[j], .inl (.inl hp2), List.getElem?_eq_getElem _⟩, fun σ' H' => ∃ m', m' < ds.length - j ∧ W (j + 1) m' σ' H', fun _ _ h => h, fun x H3 hy => ?_⟩
      obtain ⟨rfl, hy⟩ := hy
      have hx : ds[j]? = some ds[j] := List.getElem?_eq_getElem hlt
      obtain ⟨v, g1, g2⟩ := dps_get q0 hx
      have hv2 := hy vs (.inl (.inl hp2))
      rw [g1] at hv2; cases hv2
      have d3 := dpM S2.ext g2
      rw [List.drop_eq_getElem_cons hlt] at e3
      obtain ⟨Γ4, e4, e5⟩ := bindS (show (asg t ds[j] Γ2).bind (fun Γ => (f Γ).bind fun o => match o with
        | .nx Γ => evFo t i f (ds.drop (j + 1)) Γ
        | .ct Γ => evFo t i f (ds.drop (j + 1)) Γ
        | .bk Γ => backH i Γ
        | .rt r Γ => some (.rt r (Γ.set i .un))) = some o from e3)
      obtain ⟨o1, e6, e7⟩ := bindS e5
      refine ⟨Γ2, Hf2, ds[j], Γ4, R2, d3, e4, fun σ4 R4 S4 _ _ => ⟨Γ4, Hf2, o1, R4, e6, ?_⟩⟩
      have S := S2.tr S4.toStep
      have again : ∀ {σ5 H5 Hf5 Γ5}, Rel X.K Hf5 H5 σ5 Γ5 → Step σ4 Γ4 Hf2 H3 σ5 Γ5 Hf5 H5 → evFo t i f (ds.drop (j + 1)) Γ5 = some o → ∃ m', m' < ds.length - j ∧ W (j + 1) m' σ5 H5 := fun {σ5 H5 Hf5 Γ5} R5 S5 e =>
        ⟨ds.length - (j + 1), by omega, rfl, hlt, Γ5, Hf5, R5, S.tr S5, e⟩
      cases o1 with
      | nx Γ5 => exact fun σ5 H5 Hf5 R5 S5 => again R5 S5 e7
      | ct Γ5 => exact fun σ5 H5 Hf5 R5 S5 => again R5 S5 e7
      | bk Γ5 =>
        intro σ5 H5 Hf5 R5 S5
        obtain ⟨Γ6, rfl, R6, S6⟩ := fin R5 (S.tr S5) e7
        exact k σ5 H5 Hf5 R6 S6
      | rt r Γ5 =>
        cases e7
        intro v σ5 H5 Hf5 R5 S5 q
        have S6 := S.tr S5
        obtain ⟨R7, _⟩ := R5.forget i
        have q1 := q.back S
        have nm : NoOwn .un := trivial
        refine k v σ5 H5 Hf5 R7 (S6.shown (fun _ z => nomatch z) (fun b h => .inl (own_set nm h)) fun b h => own_set nm h) ?_
        cases r with
        | fz d => exact q1
        | ow es => exact q1
        | oo rss =>
          obtain ⟨a, as, e, h0', oo'⟩ := q1
          exact ⟨a, as, e, fun b hb => (h0' b hb).imp id own_hid, oo'⟩
    · have hie : j = ds.length := by omega
      subst hie
      rw [List.drop_length] at e3
      obtain ⟨Γ6, rfl, R6, S6⟩ := fin R2 S2 e3
      exact .inl ⟨⟨vs, .inl (.inl hp2), by rw [dps_len q0]; exact Nat.le_refl _⟩, k σ2 H2 Hf2 R6 S6⟩
end
end EvL

set_option Elab.async false
set_option linter.all false
set_option maxRecDepth 100000
set_option maxHeartbeats 16000000
namespace EvL
open PySem PySem.Spec PyProof.Rows L2

/-! ### statements: from the model's syntax -/
def env0 (sc : Scope) : Env := { scope := sc, locals := 0, globals := 0, cells := [] }
def semV {α : Type} : Sem α → Option α
  | .pure a => some a
  | _ => none
theorem semV_eq {α : Type} {x : Sem α} {a : α} (h : semV x = some a) : x = pure a := by
  unfold semV at h
  split at h
  · cases h; rfl
  · cases h
def swS (sc : Scope) (ts : List Expr) (v : Expr) : Option (Option (List Str)) := semV (swappedStores ts v (env0 sc))
def swW (sc : Scope) (v : Expr) (tg : Option Expr) (line : Nat) : Option Bool := semV (swapsWith v tg line (env0 sc))
theorem swS_eq {env : Env} {sc : Scope} {ts : List Expr} {v : Expr} {r : Option (List Str)} (he : env.scope = sc) (h : swS sc ts v = some r) : swappedStores ts v env = pure r := by
  have e : swappedStores ts v env = swappedStores ts v (env0 env.scope) := by unfold swappedStores; rfl
  rw [e, he]
  exact semV_eq h
theorem swW_eq {env : Env} {sc : Scope} {tg : Option Expr} {v : Expr} {line : Nat} {r : Bool} (he : env.scope = sc) (h : swW sc v tg line = some r) : swapsWith v tg line env = pure r := by
  have e : swapsWith v tg line env = swapsWith v tg line (env0 env.scope) := by unfold swapsWith; rfl
  rw [e, he]
  exact semV_eq h
theorem swSole {env : Env} {sc : Scope} {tg : Expr} {v : Expr} {line : Nat} {r : Bool} (he : env.scope = sc) (h : swW sc v (some tg) line = some r) : swapsWithSole [tg] v line env = pure r := swW_eq he h
def EF : Nat := 40
def augOf : Operator → Option BOp
  | .Add => some .add | .Sub => some .sub | _ => none
def isLcS : Expr → Bool
  | .ListComp _ [⟨_, _, _, 0⟩] _ _ => true | _ => false
def locL (c : Cc) (x : Str) : Bool := match c.sc.names.lookup x with
  | some .local => true | _ => false
/-- the names of a display of plain names -/
def nmsOf (c : Cc) : List Expr → Option (List Nat)
  | [] => some []
  | .Name x _ :: es => if locL c x then (ixOf c.N x).bind fun i => (nmsOf c es).map fun is => i :: is else none
  | _ :: _ => none
def compPar (c : Cc) (ts vs : List Expr) : Option IS := (nmsOf c ts).bind fun is => (compL (compE EF c) vs).bind fun es => match is with
  | [i, j] => if i ≠ j then some (.par is es) else none
  | [i, j, l] => if i ≠ j ∧ i ≠ l ∧ j ≠ l then some (.par is es) else none
  | _ => none
def nmsK (c : Cc) : List Expr → Option (List Nat)
  | [] => some []
  | .Name x _ :: es => if okName x && locK c x then (ixOf c.N x).bind fun i => (nmsK c es).map fun is => i :: is else none
  | _ :: _ => none
def compParT (c : Cc) (ts : List Expr) (e : Expr) : Option IS := match e with
  | .Tuple vs _ _ => if vs.length ≤ 1000 then (nmsK c ts).bind fun is => (compL (compE EF c) vs).map fun es => .par is es else none
  | _ => none
def compDip (c : Cc) (ts : List Expr) (e : Expr) : Option IS := match ts with
  | [.Subscript (.Name x _) b _, .Name y _] => if okName x && visK c.sc x && plainE b && !isTup b && locK c y then
      (ixOf c.N x).bind fun i => (ixOf c.N y).bind fun j => (compE EF c e).bind fun v => (compE EF c b).map fun ix => .dip i ix j v
    else none
  | _ => none
def compAsg (c : Cc) (tg e : Expr) (pos : Pos) : Option IS := match tg with
  | .Name x p => if okName x && locK c x then (ixOf c.N x).bind fun i => (if c.oo.contains x then (compLco EF c e) else none).elim ((compE EF c e).bind fun ir => match swW c.sc e (some (.Name x p)) pos.line with
      | some false => some (.set i ir)
      | some true => if locL c x && isLcS e then some (.set i ir) else none
      | none => none) fun ir => match swW c.sc e (some (.Name x p)) pos.line with
      | some false => some (.set i ir)
      | some true => if locL c x then some (.set i ir) else none
      | none => none
    else none
  | .Subscript (.Subscript (.Name x px) a p1) b ps => if okName x && visK c.sc x && plainE a && !isTup a && plainE b && !isTup b then
      match swW c.sc e (some tg) pos.line, swS c.sc [tg] e with
      | some false, some none => (ixOf c.N x).bind fun i => (compE EF c e).bind fun v => (compE EF c a).bind fun ix => (compE EF c b).map fun jx => .puto i ix jx v
      | _, _ => none
    else none
  | .Subscript (.Name x px) b ps => if okName x && visK c.sc x && plainE b && !isTup b then
      match swW c.sc e (some tg) pos.line, swS c.sc [tg] e with
      | some false, some none => (ixOf c.N x).bind fun i => (compE EF c e).bind fun v => (compE EF c b).map fun ix => .put i ix v
      | _, _ => none
    else none
  | .Tuple ts k p => match swW c.sc e (some tg) pos.line, swS c.sc [tg] e with
      | some false, some none => (match compParT c ts e with
      | some s => some s
      | none => (match compT EF c tg with
        | some t => (compE EF c e).map fun v => .asg t v
        | none => compDip c ts e))
      | some false, some (some nms) => (match e with
          | .Tuple vs _ _ => if decide (ts.map (fun | .Name x _ => some x | _ => none) = nms.map some) then compPar c ts vs else none
          | _ => none)
      | _, _ => none
  | _ => none
def compB (f : Stmt → Option IS) (ss : List Stmt) : List IS := ss.map fun s => (f s).getD .nev
/-- a name of own rows told back -/
def froName (c : Cc) : Expr → Option Nat
  | .Name x _ => if c.fo.contains x && okName x && visK c.sc x then ixOf c.N x else none
  | _ => none
def retName (c : Cc) : Expr → Option Nat
  | .Name x _ => if okName x && visK c.sc x && c.oo.contains x then ixOf c.N x else none
  | _ => none
def compS : Nat → Cc → Stmt → Option IS
  | 0, _, _ => none
  | n + 1, c, s => match s with
    | .Return none _ => some .retn
    | .Return (some e) _ => (retName c e).elim ((compE EF c e).map .ret) fun i => some (.reto i)
    | .Pass _ => some .pss
    | .Break _ => some .brk
    | .Continue _ => some .cnt
    | .Expr (.Call (.Attribute (.Name x _) nm ap) [e] [] cp) _ => if decide (nm = "append") && okName x && visK c.sc x && decide (ap.endLine = cp.line) then (ixOf c.N x).bind fun i => (compE EF c e).map fun v => .app i v else none
    | .Expr (.Call (.Attribute (.Name x _) nm ap) [] [] cp) _ => if decide (nm = "pop") && okName x && visK c.sc x && decide (ap.endLine = cp.line) then (ixOf c.N x).map fun i => .popS i else none
    | .Expr e pos => if swW c.sc e none pos.line = some false then (compE EF c e).map .exp else none
    | .Assign [tg] e pos => compAsg c tg e pos
    | .AugAssign (.Name x _) op e _ => if okName x && locK c x then (augOf op).bind fun o => (ixOf c.N x).bind fun i => (compE EF c e).map fun v => .aug i o v else none
    | .If t a b _ => (compE EF c t).map fun t => .ife t (compB (compS n c) a) (compB (compS n c) b)
    | .While t b [] _ => (compE EF c t).map fun t => .whl t (compB (compS n c) b)
    | .For tg it b [] _ => (froName c it).elim (if plainE it then (compT EF c tg).bind fun t => (compI (compE EF c) c tg it).map fun p => .fr t p.1 p.2 (compB (compS n c) b) else none) fun i => (compT EF c tg).map fun t => .fro t i (compB (compS n c) b)
    | _ => none
/-! ### .. and it is sound -/
theorem loc_of {k : Nat} {c : Cc} {X : Cx} (h : EOk k c X) {x : Str} (hv : locK c x = true) : L2.Loc X.env.scope x ∧ (X.fn x = true ∨ X.env.scope.names.lookup x = some .local) := by
  unfold locK at hv
  rw [← h.sc] at hv
  split at hv
  · rename_i e
    exact ⟨.inl e, .inr e⟩
  · rename_i e
    exact ⟨.inr e, .inl (h.fnC x (List.contains_iff_mem.mp hv))⟩
  · cases hv
theorem locL_of {k : Nat} {c : Cc} {X : Cx} (h : EOk k c X) {x : Str} (hv : locL c x = true) : X.env.scope.names.lookup x = some .local := by
  unfold locL at hv
  rw [← h.sc] at hv
  split at hv
  · assumption
  · cases hv
theorem ix_of {k : Nat} {c : Cc} {X : Cx} (h : EOk k c X) {x : Str} {i : Nat} (hi : ixOf c.N x = some i) : X.N[i]? = some x := by
  rw [h.hN]; exact ixOf_get hi
theorem lc_pts {c : Cc} {X : Cx} {k n : Nat} {ifs : List Expr} {fs : List IE} (h : EOk k c X) (t3 : compL (compE n c) ifs = some fs) (hl : ifs.length ≤ 1) : PTs X ifs (tT X.K (evIfs fs)) := by
  match ifs, fs, t3, hl with
  | [], fs, t3, _ =>
    cases (show some [] = some fs from t3)
    refine ⟨fun pins s2 σ H2 Q I ⟨Γ, Hf, r, Γ', R, ef, k2⟩ => ?_⟩
    rw [evIfs] at ef
    cases ef
    exact pts_nil.run pins s2 σ H2 Q I (k2 H2 Hf R .rfl')
  | [i], fs, t3, _ =>
    obtain ⟨x, u1, u2⟩ := bindS (show (compE n c i).bind (fun x => (compL (compE n c) []).map fun xs => x :: xs) = some fs from t3)
    obtain ⟨xs, u3, rfl⟩ := mapS' u2
    cases (show some [] = some xs from u3)
    have q := (compE_sound n h i x u1).pt
    have e0 : evIfs [x] = evT x := by
      funext Γ
      rw [evIfs]
      cases evT x Γ with
      | none => rfl
      | some p =>
        obtain ⟨b, Γ1⟩ := p
        simp only [Option.bind_some]
        cases b
        · rfl
        · rw [if_pos rfl, evIfs]
    rw [e0]
    exact pts_one q
  | _ :: _ :: _, _, _, hl => exact absurd hl (by simp)
theorem z_setLc {k : Nat} {c : Cc} {X : Cx} {n i : Nat} {e : Expr} {ir : IE} {y : Str} {py spos : Pos} (h : EOk k c X) (hlc : isLcS e = true) (hc : compE (n + 1) c e = some ir) (hy : X.N[i]? = some y) (hyl : X.env.scope.names.lookup y = some .local)
    (hsw : swapsWith e (some (.Name y py)) spos.line X.env = pure true) : PS X (.Assign [.Name y py] e spos) (tS X.K fun Γ => (evX ir Γ).bind fun (r, Γ) => if i < Γ.length then some (.nx (Γ.set i r.mv)) else none) := by
  unfold isLcS at hlc
  split at hlc
  case h_2 => cases hlc
  rename_i elt tg iter ifs scope p
  unfold compE at hc
  rw [if_pos (by rfl)] at hc
  simp only at hc
  split at hc
  · rename_i hh
    simp only [Bool.and_eq_true, decide_eq_true_eq] at hh
    obtain ⟨⟨hb, hpi⟩, hl⟩ := hh
    obtain ⟨t, t1, hc⟩ := bindS hc
    obtain ⟨⟨kk, its⟩, t2, hc⟩ := bindS hc
    obtain ⟨fs, t3, hc⟩ := bindS hc
    obtain ⟨el, t4, hc⟩ := bindS hc
    split at hc
    · rename_i hvs
      cases hc
      have hvs' : ∀ j ∈ tgIx t, j ∈ (ownOf c.N scope).map (·.2) := fun j hj => List.contains_iff_mem.mp (List.all_eq_true.mp hvs j hj)
      have hblk : BlkOk X.N X.env.scope scope (ownOf c.N scope) := by rw [h.hN, h.sc]; exact blkOk_by hb
      have hI := compI_sound h (compE_sound n h) t2
      refine (ps_setLc (own := ownOf c.N scope) (te := tE X.K (evX el)) (g := tG X.K t) (tt := tT X.K (evIfs fs)) h.calm h.nd hy hyl hsw hI hblk (fun s H C cl fp => compT_sound (h.blk scope s H C cl fp) n tg t t1) (fun s H C cl fp => lc_pts (h.blk scope s H C cl fp) t3 hl)
        (fun s H C cl fp => pe_fast (compE_sound n (h.blk scope s H C cl fp) elt el t4).pe) (plain_fold hpi)).imp fun D σ H hh => ?_
      have hh2 := set_read hh
      rw [show evX (.lc ((ownOf c.N scope).map (·.2)) t kk its fs el) = lcX kk (evs its) t ((ownOf c.N scope).map (·.2)) (evIfs fs) (evX el) from by funext Γ; rw [evX]; rfl] at hh2
      exact lc_read hvs' hh2
    · cases hc
  · cases hc
theorem lcXO_ev {vs : List Nat} {t : Tg} {kk : IK} {its : List IE} {el : IE} : evX (.lco vs t kk its el) = lcXO kk (evs its) t vs (evX el) := by funext Γ; rw [evX]; rfl
theorem compLco_inv {n : Nat} {c : Cc} {e : Expr} {ir : IE} (hc : compLco n c e = some ir) : ∃ elt tg iter scope p t kk its el, e = .ListComp elt [⟨tg, iter, [], 0⟩] scope p ∧ blkC c.N c.sc scope (ownOf c.N scope) = true ∧ plainE iter = true ∧
    compT n (blkCc c scope) tg = some t ∧ compI (compE n c) c tg iter = some (kk, its) ∧ compE n (blkCc c scope) elt = some el ∧ (∀ j ∈ tgIx t, j ∈ (ownOf c.N scope).map (·.2)) ∧ ir = .lco ((ownOf c.N scope).map (·.2)) t kk its el := by
  unfold compLco at hc
  split at hc
  · rename_i elt tg iter scope p
    split at hc
    · rename_i hh
      simp only [Bool.and_eq_true] at hh
      obtain ⟨t, t1, hc⟩ := bindS hc
      obtain ⟨⟨kk, its⟩, t2, hc⟩ := bindS hc
      obtain ⟨el, t4, hc⟩ := bindS hc
      split at hc
      · rename_i hvs
        cases hc
        exact ⟨elt, tg, iter, scope, p, t, kk, its, el, rfl, hh.1, hh.2, t1, t2, t4, fun j hj => List.contains_iff_mem.mp (List.all_eq_true.mp hvs j hj), rfl⟩
      · cases hc
    · cases hc
  · cases hc
theorem pts_true {X : Cx} : PTs X [] (tT X.K fun Γ => some (true, Γ)) := ⟨fun pins s2 σ H2 Q I ⟨Γ, Hf, r, Γ', R, ef, k2⟩ => by
  cases ef
  exact pts_nil.run pins s2 σ H2 Q I (k2 H2 Hf R .rfl')⟩
theorem pe_lco {k : Nat} {c : Cc} {X : Cx} {n : Nat} {e : Expr} {ir : IE} (h : EOk k c X) (hc : compLco n c e = some ir) : PE X e (tX X.K (evX ir)) := by
  obtain ⟨elt, tg, iter, scope, p, t, kk, its, el, rfl, hb, hpi, t1, t2, t4, hvs, rfl⟩ := compLco_inv hc
  have hblk : BlkOk X.N X.env.scope scope (ownOf c.N scope) := by rw [h.hN, h.sc]; exact blkOk_by hb
  rw [lcXO_ev]
  exact (pe_lc (pos := p) (ifs := []) h.calm h.nd (compI_sound h (compE_sound n h) t2) hblk (fun s H C cl fp => compT_sound (h.blk scope s H C cl fp) n tg t t1)
    (tt := tT X.K fun Γ => some (true, Γ)) (fun s H C cl fp => pts_true) (fun s H C cl fp => (compE_sound n (h.blk scope s H C cl fp) elt el t4).pe) (plain_fold hpi)).imp fun σ H Q hh => lc_readO (K := X.K) (k := kk) (gI := evs its) (tg := t) (fE := evX el) hvs hh
theorem z_setLco {k : Nat} {c : Cc} {X : Cx} {n i : Nat} {e : Expr} {ir : IE} {y : Str} {py spos : Pos} (h : EOk k c X) (hc : compLco n c e = some ir) (hy : X.N[i]? = some y) (hyl : X.env.scope.names.lookup y = some .local)
    (hsw : swapsWith e (some (.Name y py)) spos.line X.env = pure true) : PS X (.Assign [.Name y py] e spos) (tS X.K fun Γ => (evX ir Γ).bind fun (r, Γ) => if i < Γ.length then some (.nx (Γ.set i r.mv)) else none) := by
  obtain ⟨elt, tg, iter, scope, p, t, kk, its, el, rfl, hb, hpi, t1, t2, t4, hvs, rfl⟩ := compLco_inv hc
  have hblk : BlkOk X.N X.env.scope scope (ownOf c.N scope) := by rw [h.hN, h.sc]; exact blkOk_by hb
  refine (ps_setLc (own := ownOf c.N scope) (te := tX X.K (evX el)) (g := tG X.K t) (tt := tT X.K fun Γ => some (true, Γ)) h.calm h.nd hy hyl hsw (compI_sound h (compE_sound n h) t2) hblk (fun s H C cl fp => compT_sound (h.blk scope s H C cl fp) n tg t t1)
    (fun s H C cl fp => pts_true) (fun s H C cl fp => (compE_sound n (h.blk scope s H C cl fp) elt el t4).pe) (plain_fold hpi)).imp fun D σ H hh => ?_
  have hh2 := set_read hh
  rw [lcXO_ev] at hh2
  exact lc_readO hvs hh2
theorem evRs_sound {k : Nat} {c : Cc} {X : Cx} (h : EOk k c X) {n : Nat} : ∀ {es : List Expr} {irs : List IE}, compL (compE n c) es = some irs → PA X es (tRs X.K (evRs irs))
  | [], irs, hc => by
    cases (show some [] = some irs from hc)
    have := r_nil (X := X)
    rwa [show evRs [] = fun Γ => some ([], Γ) from by funext Γ; rw [evRs]]
  | e :: es, irs, hc => by
    obtain ⟨x, h1, h2⟩ := bindS (show (compE n c e).bind (fun x => (compL (compE n c) es).map fun xs => x :: xs) = some irs from hc)
    obtain ⟨xs, h3, rfl⟩ := mapS' h2
    have q := compE_sound n h e x h1
    rw [show evRs (x :: xs) = fun Γ => (evX x Γ).bind fun (x, Γ) => (evRs xs Γ).map fun (ds, Γ) => (x.low :: ds, Γ) from by funext Γ; rw [evRs]]
    exact r_cons q.pe (evRs_sound h h3) (plain_unstar q.pl)
end EvL

set_option Elab.async false
set_option linter.all false
set_option maxRecDepth 100000
set_option maxHeartbeats 16000000
namespace EvL
open PySem PySem.Spec PyProof.Rows L2

section
variable {k : Nat} {c : Cc} {X : Cx}
theorem nms_cons {e : Expr} {es : List Expr} {is : List Nat} (h : nmsOf c (e :: es) = some is) : ∃ x p i is', e = .Name x p ∧ locL c x = true ∧ ixOf c.N x = some i ∧ nmsOf c es = some is' ∧ is = i :: is' := by
  cases e <;> first | (cases h; done) | skip
  rename_i x p
  unfold nmsOf at h
  split at h
  case isFalse => cases h
  rename_i l1
  obtain ⟨i1, a1, h⟩ := bindS h
  obtain ⟨is', a2, a3⟩ := mapS' h
  exact ⟨x, p, i1, is', rfl, l1, a1, a2, a3.symm⟩
theorem nms_nil {es : List Expr} (h : nmsOf c es = some []) : es = [] := by
  cases es with
  | nil => rfl
  | cons e es =>
    obtain ⟨_, _, _, _, _, _, _, _, z⟩ := nms_cons h
    cases z
theorem nms_ne {es : List Expr} {i : Nat} {is : List Nat} (h : nmsOf c es = some (i :: is)) : ∃ x p r, es = .Name x p :: r ∧ locL c x = true ∧ ixOf c.N x = some i ∧ nmsOf c r = some is := by
  cases es with
  | nil => cases h
  | cons e es =>
    obtain ⟨x, p, i', is', rfl, l, a, b, z⟩ := nms_cons h
    cases z
    exact ⟨x, p, es, rfl, l, a, b⟩
theorem nms2 {es : List Expr} {i j : Nat} (h : nmsOf c es = some [i, j]) : ∃ x y p q, es = [.Name x p, .Name y q] ∧ locL c x = true ∧ locL c y = true ∧ ixOf c.N x = some i ∧ ixOf c.N y = some j := by
  obtain ⟨x, p, r, rfl, l, a, b⟩ := nms_ne h
  obtain ⟨y, q, r, rfl, l', a', b⟩ := nms_ne b
  cases nms_nil b
  exact ⟨x, y, p, q, rfl, l, l', a, a'⟩
theorem nms3 {es : List Expr} {i j l : Nat} (h : nmsOf c es = some [i, j, l]) : ∃ x p r, es = .Name x p :: r ∧ locL c x = true ∧ ixOf c.N x = some i ∧ nmsOf c r = some [j, l] := nms_ne h
theorem compL_len {f : Expr → Option IE} : ∀ {es : List Expr} {irs : List IE}, compL f es = some irs → irs.length = es.length
  | [], irs, h => by cases (show some [] = some irs from h); rfl
  | e :: es, irs, h => by
    obtain ⟨x, h1, h⟩ := bindS (show (f e).bind (fun x => (compL f es).map fun xs => x :: xs) = some irs from h)
    obtain ⟨xs, h2, rfl⟩ := mapS' h
    simp [compL_len h2]
theorem par_ev {is : List Nat} {es : List IE} : evS (.par is es) = fun Γ => (evRs es Γ).bind fun (rs, Γ) => (putAll is rs Γ).map .nx := by funext Γ; rw [evS]
theorem sw_len {sc : Scope} {ts vs : List Expr} {kt k2 : Nat} {pt pt2 : Pos} {nms : List Str} {env : Env} (h : swappedStores [.Tuple ts kt pt] (.Tuple vs k2 pt2) env = pure (some nms)) : vs.length = ts.length := by
  unfold swappedStores at h
  simp only [pure_bind] at h
  split at h
  · cases h
  · rename_i hh
    simp only [Bool.or_eq_true, Bool.not_eq_true', not_or] at hh
    simpa using hh.1.2
theorem compPar_sound (h : EOk k c X) {ts vs : List Expr} {kt k2 : Nat} {pt pt2 pos : Pos} {nms : List Str} {ir : IS} (hc : compPar c ts vs = some ir) (hn : ts.map (fun | .Name x _ => some x | _ => none) = nms.map some)
    (hw : swappedStores [.Tuple ts kt pt] (.Tuple vs k2 pt2) X.env = pure (some nms)) : PS X (.Assign [.Tuple ts kt pt] (.Tuple vs k2 pt2) pos) (tS X.K (evS ir)) := by
  unfold compPar at hc
  obtain ⟨is, a1, hc⟩ := bindS hc
  obtain ⟨es, a2, hc⟩ := bindS hc
  have hvl := sw_len (sc := c.sc) hw
  have hA := evRs_sound h a2
  split at hc
  · rename_i i j
    split at hc
    case isFalse => cases hc
    rename_i hij
    cases hc
    obtain ⟨x, y, p, q, rfl, l1, l2, i1, i2⟩ := nms2 a1
    have hn2 : nms = [x, y] := by
      match nms, hn with
      | [a, b], hn => simp at hn; rw [hn.1, hn.2]
      | [], hn => simp at hn
      | [_], hn => simp at hn
      | _ :: _ :: _ :: _, hn => simp at hn
    subst hn2
    match vs, hvl, hA, hw with
    | [a, b], _, hA, hw =>
      rw [par_ev]
      exact z_par h.calm h.nd (ix_of h i1) (ix_of h i2) hij (locL_of h l1) (locL_of h l2) hA hw
    | [], hvl, _, _ => simp at hvl
    | [_], hvl, _, _ => simp at hvl
    | _ :: _ :: _ :: _, hvl, _, _ => simp at hvl
  · rename_i i j l
    split at hc
    case isFalse => cases hc
    rename_i hij
    cases hc
    obtain ⟨x, p, r, rfl, l0, i0, a1⟩ := nms3 a1
    obtain ⟨y, z, q, q2, rfl, l1, l2, i1, i2⟩ := nms2 a1
    have hn2 : nms = [x, y, z] := by
      match nms, hn with
      | [a, b, d], hn => simp at hn; rw [hn.1, hn.2.1, hn.2.2]
      | [], hn => simp at hn
      | [_], hn => simp at hn
      | [_, _], hn => simp at hn
      | _ :: _ :: _ :: _ :: _, hn => simp at hn
    subst hn2
    match vs, hvl, hA, hw with
    | [a, b, d], _, hA, hw =>
      rw [par_ev]
      exact z_par3 h.calm h.nd (ix_of h i0) (ix_of h i1) (ix_of h i2) hij.1 hij.2.1 hij.2.2 (locL_of h l0) (locL_of h l1) (locL_of h l2) hA hw
    | [], hvl, _, _ => simp at hvl
    | [_], hvl, _, _ => simp at hvl
    | [_, _], hvl, _, _ => simp at hvl
    | _ :: _ :: _ :: _ :: _, hvl, _, _ => simp at hvl
  · cases hc
theorem nmsK_ok (h : EOk k c X) : ∀ {es : List Expr} {is : List Nat}, nmsK c es = some is → NmOk X es is
  | [], is, e => by cases (show some [] = some is from e); trivial
  | e :: es, is, hh => by
    cases e <;> first | (cases hh; done) | skip
    rename_i x p
    unfold nmsK at hh
    split at hh
    case isFalse => cases hh
    rename_i l1
    simp only [Bool.and_eq_true] at l1
    obtain ⟨i1, a1, hh⟩ := bindS hh
    obtain ⟨is', a2, a3⟩ := mapS' hh
    obtain ⟨q1, q2⟩ := loc_of h l1.2
    subst a3
    exact ⟨⟨x, p, rfl, ix_of h a1, q1, q2⟩, nmsK_ok h a2⟩
theorem evRs_len2 : ∀ {es : List IE} {rs : List RV} {Γ Γ' : Ga}, evRs es Γ = some (rs, Γ') → rs.length = es.length
  | [], rs, Γ, Γ', e => by cases (show some ([], Γ) = some (rs, Γ') from e); rfl
  | x :: es, rs, Γ, Γ', e => by
    obtain ⟨⟨r, Γ1⟩, e1, e⟩ := bindS (show (evX x Γ).bind (fun (x, Γ) => (evRs es Γ).map fun (ds, Γ) => (x.low :: ds, Γ)) = some (rs, Γ') from e)
    obtain ⟨⟨rs', Γ2⟩, e2, e3⟩ := mapS' e
    cases e3
    simp [evRs_len2 e2]
theorem compParT_sound (h : EOk k c X) {ts : List Expr} {e : Expr} {kt : Nat} {pt pos : Pos} {ir : IS} (hc : compParT c ts e = some ir)
    (hs : swapsWithSole [.Tuple ts kt pt] e pos.line X.env = pure false) (hw : swappedStores [.Tuple ts kt pt] e X.env = pure none) : PS X (.Assign [.Tuple ts kt pt] e pos) (tS X.K (evS ir)) := by
  unfold compParT at hc
  split at hc
  · split at hc
    case isFalse => cases hc
    rename_i hl
    obtain ⟨is, a1, hc⟩ := bindS hc
    obtain ⟨es, a2, a3⟩ := mapS' hc
    subst a3
    rw [par_ev]
    exact z_parT h.calm h.nd (nmsK_ok h a1) (evRs_sound h a2) (fun Γ rs Γ' e => by rw [evRs_len2 e, compL_len a2]; exact hl) hs hw
  · cases hc
theorem compAsg_sound (h : EOk k c X) {tg e : Expr} {pos : Pos} {ir : IS} (hc : compAsg c tg e pos = some ir) : PS X (.Assign [tg] e pos) (tS X.K (evS ir)) := by
  unfold compAsg at hc
  split at hc
  · rename_i x p
    split at hc
    case isFalse => cases hc
    rename_i hh
    simp only [Bool.and_eq_true] at hh
    obtain ⟨l1, l2⟩ := loc_of h hh.2
    obtain ⟨i, i1, hc⟩ := bindS hc
    cases hoo : (if c.oo.contains x then compLco EF c e else none) with
    | some ir0 =>
      have hlco : compLco EF c e = some ir0 := by
        split at hoo
        · exact hoo
        · cases hoo
      rw [hoo] at hc
      simp only [Option.elim] at hc
      split at hc
      · rename_i hw
        cases hc
        rw [show evS (.set i ir0) = _ from by funext Γ; rw [evS]]
        exact z_set h.nd (ix_of h i1) l1 (pe_lco h hlco) (swW_eq h.sc hw) l2
      · rename_i hw
        split at hc
        case isFalse => cases hc
        rename_i h2
        cases hc
        rw [show evS (.set i ir0) = _ from by funext Γ; rw [evS]]
        exact z_setLco h hlco (ix_of h i1) (locL_of h h2) (swW_eq h.sc hw)
      · cases hc
    | none =>
    rw [hoo] at hc
    simp only [Option.elim] at hc
    obtain ⟨v, e1, hc⟩ := bindS hc
    split at hc
    · rename_i hw
      cases hc
      rw [show evS (.set i v) = _ from by funext Γ; rw [evS]]
      exact z_set h.nd (ix_of h i1) l1 (compE_sound EF h e v e1).pe (swW_eq h.sc hw) l2
    · rename_i hw
      split at hc
      case isFalse => cases hc
      rename_i h2
      simp only [Bool.and_eq_true] at h2
      cases hc
      rw [show evS (.set i v) = _ from by funext Γ; rw [evS]]
      exact z_setLc h h2.2 e1 (ix_of h i1) (locL_of h h2.1) (swW_eq h.sc hw)
    · cases hc
  · rename_i x px a p1 b ps
    split at hc
    case isFalse => cases hc
    rename_i hh
    simp only [Bool.and_eq_true, Bool.not_eq_true'] at hh
    obtain ⟨⟨⟨⟨⟨hh1, hh2⟩, hh3⟩, hh4⟩, hh5⟩, hh6⟩ := hh
    split at hc
    · rename_i w1 w2
      obtain ⟨i, i1, hc⟩ := bindS hc
      obtain ⟨v, e1, hc⟩ := bindS hc
      obtain ⟨ix, e2, hc⟩ := bindS hc
      obtain ⟨jx, e3, e4⟩ := mapS' hc
      cases e4
      obtain ⟨n1, n2, n3⟩ := ok_names hh1
      rw [show evS (.puto i ix jx v) = _ from by funext Γ; rw [evS]]
      exact z_puto (ix_of h i1) (vis_of h hh2) n1 n2 (compE_sound EF h e v e1).pe (compE_sound EF h a ix e2).pe (compE_sound EF h b jx e3).pe (plain_ix hh3 hh4) ⟨hh6, hh5⟩ (swSole h.sc w1) (swS_eq h.sc w2)
    · cases hc
  · rename_i x px b ps
    split at hc
    case isFalse => cases hc
    rename_i hh
    simp only [Bool.and_eq_true, Bool.not_eq_true'] at hh
    split at hc
    · rename_i w1 w2
      obtain ⟨i, i1, hc⟩ := bindS hc
      obtain ⟨v, e1, hc⟩ := bindS hc
      obtain ⟨ix, e2, e3⟩ := mapS' hc
      cases e3
      obtain ⟨n1, n2, n3⟩ := ok_names hh.1.1.1
      rw [show evS (.put i ix v) = _ from by funext Γ; rw [evS]]
      exact z_put (ix_of h i1) (vis_of h hh.1.1.2) n1 n2 (compE_sound EF h e v e1).pe (compE_sound EF h b ix e2).pe ⟨hh.2, hh.1.2⟩ (swSole h.sc w1) (swS_eq h.sc w2)
    · cases hc
  · rename_i ts kt p
    split at hc
    · rename_i w1 w2
      split at hc
      · rename_i s hp
        cases hc
        exact compParT_sound h hp (swSole h.sc w1) (swS_eq h.sc w2)
      split at hc
      · rename_i t t1
        obtain ⟨v, e1, e3⟩ := mapS' hc
        cases e3
        rw [show evS (.asg t v) = _ from by funext Γ; rw [evS]]
        exact z_asg (compE_sound EF h e v e1).pe (compT_sound h EF _ t t1) (swSole h.sc w1) (swS_eq h.sc w2) rfl
      · unfold compDip at hc
        split at hc
        · split at hc
          case isFalse => cases hc
          rename_i hh
          simp only [Bool.and_eq_true, Bool.not_eq_true'] at hh
          obtain ⟨i, i1, hc⟩ := bindS hc
          obtain ⟨j, j1, hc⟩ := bindS hc
          obtain ⟨v, e1, hc⟩ := bindS hc
          obtain ⟨ix, e2, e3⟩ := mapS' hc
          cases e3
          obtain ⟨n1, n2, n3⟩ := ok_names hh.1.1.1.1
          obtain ⟨l1, l2⟩ := loc_of h hh.2
          rw [show evS (.dip i ix j v) = _ from by funext Γ; rw [evS]]
          exact z_dip h.calm h.nd (ix_of h i1) (vis_of h hh.1.1.1.2) n1 n2 (ix_of h j1) l1 l2 (compE_sound EF h e v e1).pe (compE_sound EF h _ ix e2).pe ⟨hh.1.2, hh.1.1.2⟩ (swSole h.sc w1) (swS_eq h.sc w2)
        · cases hc
    · rename_i nms w1 w2
      split at hc
      · split at hc
        · rename_i hn
          exact compPar_sound h hc (of_decide_eq_true hn) (swS_eq h.sc w2)
        · cases hc
      · cases hc
    · cases hc
  · cases hc
theorem compB_sound {f : Stmt → Option IS} (hf : ∀ s ir, f s = some ir → PS X s (tS X.K (evS ir))) : ∀ ss : List Stmt, PSs X ss (tS X.K (evB (compB f ss)))
  | [] => by
    have := b_nil (X := X)
    rwa [show evB (compB f []) = fun Γ => some (.nx Γ) from by funext Γ; simp [compB, evB]]
  | s :: ss => by
    have h1 : PS X s (tS X.K (evS ((f s).getD .nev))) := by
      cases e : f s with
      | none => exact b_never fun Γ => by simp [evS]
      | some ir => exact hf s ir e
    have := b_cons h1 (compB_sound hf ss)
    rwa [show evB (compB f (s :: ss)) = fun Γ => (evS ((f s).getD .nev) Γ).bind (onNext (evB (compB f ss))) from by funext Γ; simp [compB, evB]]
theorem compS_sound (h : EOk k c X) (hp : PassesOwn (model X.prog X.w) X.A X.env X.xe) (n : Nat) : ∀ (s : Stmt) (ir : IS), compS n c s = some ir → PS X s (tS X.K (evS ir)) := by
  induction n with
  | zero => intro s ir hc; cases hc
  | succ n ih =>
    intro s ir hc
    have hB := compB_sound ih
    have hE := compE_sound EF h
    unfold compS at hc
    split at hc
    · cases hc
      rw [show evS .retn = _ from by funext Γ; rw [evS]]
      exact z_retn
    · rename_i e0 pos0
      cases hrn : retName c e0 with
      | none =>
        rw [hrn] at hc
        simp only [Option.elim] at hc
        obtain ⟨e, e1, rfl⟩ := mapS' hc
        rw [show evS (.ret e) = _ from by funext Γ; rw [evS]]
        exact z_ret (hE _ _ e1).pe
      | some i =>
        rw [hrn] at hc
        simp only [Option.elim] at hc
        cases hc
        unfold retName at hrn
        split at hrn
        · split at hrn
          case isFalse => cases hrn
          rename_i hh
          simp only [Bool.and_eq_true] at hh
          obtain ⟨n1, n2, n3⟩ := ok_names hh.1.1
          rw [show evS (.reto i) = _ from by funext Γ; rw [evS] <;> rfl]
          exact z_reto (ix_of h hrn) (vis_of h hh.1.2) n1 n2
        · cases hrn
    · cases hc
      rw [show evS .pss = _ from by funext Γ; rw [evS]]
      exact z_pass
    · cases hc
      rw [show evS .brk = _ from by funext Γ; rw [evS]]
      exact z_brk
    · cases hc
      rw [show evS .cnt = _ from by funext Γ; rw [evS]]
      exact z_cnt
    · split at hc
      case isFalse => cases hc
      rename_i hh
      simp only [Bool.and_eq_true, decide_eq_true_eq] at hh
      obtain ⟨i, i1, hc⟩ := bindS hc
      obtain ⟨v, e1, e2⟩ := mapS' hc
      cases e2
      obtain ⟨n1, n2, n3⟩ := ok_names hh.1.1.2
      rw [hh.1.1.1, show evS (.app i v) = _ from by funext Γ; rw [evS]]
      exact z_app (ix_of h i1) (vis_of h hh.1.2) n1 n2 (hE _ _ e1).pe (plain_unstar (hE _ _ e1).pl) (by simp [hh.2])
    · split at hc
      case isFalse => cases hc
      rename_i hh
      simp only [Bool.and_eq_true, decide_eq_true_eq] at hh
      obtain ⟨i, i1, e2⟩ := mapS' hc
      cases e2
      obtain ⟨n1, n2, n3⟩ := ok_names hh.1.1.2
      rw [hh.1.1.1, show evS (.popS i) = _ from by funext Γ; rw [evS] <;> rfl]
      exact z_popS (ix_of h i1) (vis_of h hh.1.2) n1 n2 (by simp [hh.2])
    · split at hc
      case isFalse => cases hc
      rename_i hw
      obtain ⟨v, e1, e2⟩ := mapS' hc
      cases e2
      rw [show evS (.exp v) = _ from by funext Γ; rw [evS]]
      exact z_exp (hE _ _ e1).pe (swW_eq h.sc hw)
    · exact compAsg_sound h hc
    · split at hc
      case isFalse => cases hc
      rename_i hh
      simp only [Bool.and_eq_true] at hh
      obtain ⟨o, o1, hc⟩ := bindS hc
      obtain ⟨i, i1, hc⟩ := bindS hc
      obtain ⟨v, e1, e2⟩ := mapS' hc
      cases e2
      obtain ⟨l1, l2⟩ := loc_of h hh.2
      rw [show evS (.aug i o v) = _ from by funext Γ; rw [evS]]
      refine z_aug h.nd (ix_of h i1) l1 (hE _ _ e1).pe ?_ l2
      unfold augOf at o1
      split at o1
      · cases o1; exact .inl ⟨rfl, rfl⟩
      · cases o1; exact .inr ⟨rfl, rfl⟩
      · cases o1
    · obtain ⟨t, t1, e2⟩ := mapS' hc
      cases e2
      rw [show evS (.ife t _ _) = _ from by funext Γ; rw [evS]]
      exact z_ife (hE _ _ t1).pt (hB _) (hB _)
    · obtain ⟨t, t1, e2⟩ := mapS' hc
      cases e2
      rw [show evS (.whl t _) = _ from by funext Γ; rw [evS]]
      exact z_whl hp (hE _ _ t1).pt (hB _) WF
    · rename_i tg0 it0 b0 _
      cases hrn : froName c it0 with
      | some i =>
        rw [hrn] at hc
        simp only [Option.elim] at hc
        obtain ⟨t, t1, e2⟩ := mapS' hc
        cases e2
        unfold froName at hrn
        split at hrn
        · split at hrn
          case isFalse => cases hrn
          rename_i hh
          simp only [Bool.and_eq_true] at hh
          obtain ⟨n1, n2, n3⟩ := ok_names hh.1.2
          rw [show evS (.fro t i _) = _ from by funext Γ; rw [evS]]
          exact z_fro hp h.calm (ix_of h hrn) (vis_of h hh.2) n1 n2 (compT_sound h EF _ t t1) (hB _) (fun _ => rfl)
        · cases hrn
      | none =>
      rw [hrn] at hc
      simp only [Option.elim] at hc
      split at hc
      case isFalse => cases hc
      rename_i hpl
      obtain ⟨t, t1, hc⟩ := bindS hc
      obtain ⟨⟨kk, its⟩, p1, e2⟩ := mapS' hc
      cases e2
      rw [show evS (.fr t kk its _) = _ from by funext Γ; rw [evS]]
      exact z_for hp h.calm (compI_sound h hE p1) (compT_sound h EF _ t t1) (hB _) (plain_fold hpl)
    · cases hc
end
end EvL

set_option Elab.async false
set_option linter.all false
set_option maxRecDepth 100000
set_option maxHeartbeats 16000000
namespace EvL
open PySem PySem.Spec PyProof.Rows L2

/-! ### a def means its compiled body -/
def argM : Bool → List D → Option (List MV)
  | false, ds => some (ds.map .fz)
  | true, .list c :: ds => some (.ow true c :: ds.map .fz)
  | true, _ => none
def endM (mt : Bool) (Γ : Ga) (r : RV) : Option (RV × List D) := match mt with
  | false => some (r, [])
  | true => match Γ[0]? with
    | some (MV.ow true c) => some (r, c)
    | _ => none
def outM (mt : Bool) : Out → Option (RV × List D)
  | .nx Γ => endM mt Γ (.fz .none)
  | .rt r Γ => endM mt Γ r
  | _ => none
/-- np parameters, n names in all -/
def runB (mt : Bool) (np n : Nat) (b : List IS) (ds : List D) : Option (RV × List D) :=
  if ds.length = np then (argM mt ds).bind fun ms => (evB b (ms ++ List.replicate (n - np) .un)).bind (outM mt) else none
/-- what the walk needs to know of a def -/
structure DefOk (c : Cc) (ps : List Str) (scope : Scope) (body : List Stmt) (ir : List IS) : Prop where
  sco : FnScope c.N ps scope
  sc : c.sc = scope
  ir : compB (compS EF c) body = ir
theorem get_app {α : Type} {xs ys : List α} {i : Nat} (h : i < xs.length) : (xs ++ ys)[i]? = xs[i]? := List.getElem?_append_left h
theorem rep_un {m : Nat} {i : Nat} {x : MV} (h : (List.replicate m MV.un)[i]? = some x) : x = .un := by
  rw [List.getElem?_replicate] at h
  split at h
  · cases h; rfl
  · cases h
section
variable {K : PySem.W.Frag} {Hf H : Hp}
theorem start_len {N : List Str} {vs : List V} (h : vs.length ≤ N.length) : (L2.start N vs).length = N.length := by simp [L2.start]; omega
theorem start_get {N : List Str} {vs : List V} {i : Nat} {v : V} (h : vs[i]? = some v) : (L2.start N vs)[i]? = some (some v) := by
  have hi := (List.getElem?_eq_some_iff.mp h).1
  rw [L2.start, get_app (by simpa using hi), List.getElem?_map, h]; rfl
/-- at the start: the parameters' slots -/
theorem start_no {ds : List D} {n i : Nat} {m : MV} (e : (ds.map MV.fz ++ List.replicate n .un)[i]? = some m) : NoOwn m := by
  by_cases hi : i < ds.length
  · rw [get_app (by simpa using hi), List.getElem?_map] at e
    obtain ⟨d, _, z⟩ := Option.map_eq_some_iff.mp e
    subst z; trivial
  · rw [List.getElem?_append_right (by simpa using Nat.le_of_not_lt hi)] at e
    rw [rep_un e]; trivial
theorem so_no {σ : L2.St} {Γ : Ga} {H : Hp} {i : Nat} {q : Bool} {b : Addr} (no : ∀ m, Γ[i]? = some m → NoOwn m) (h : SO σ Γ H i q b) : False := by
  rcases h with ⟨ds, e, _⟩ | ⟨_, rss, _, _, e, _⟩
  · exact no _ e
  · exact no _ e
theorem rel0 {N : List Str} {vs : List V} {ds : List D} (sub : Ext Hf H) (h : Dqs K Hf vs ds) (hn : ds.length ≤ N.length) :
    Rel K Hf H (L2.start N vs) (ds.map .fz ++ List.replicate (N.length - ds.length) .un) := by
  have hl := dps_len h
  refine ⟨by rw [start_len (by omega)]; simp; omega, sub, fun i d e => ?_, fun i q es e => (start_no e).elim, fun i rss e => (start_no e).elim, fun i j q q' a e _ => (so_no (fun m => start_no) e).elim⟩
  by_cases hi : i < ds.length
  · rw [get_app (by simpa using hi), List.getElem?_map] at e
    obtain ⟨d', e1, z⟩ := Option.map_eq_some_iff.mp e
    cases z
    obtain ⟨v, e2, q⟩ := dps_get h e1
    exact ⟨v, start_get e2, q⟩
  · rw [List.getElem?_append_right (by simpa using Nat.le_of_not_lt hi)] at e
    cases rep_un e
/-- what the start owns: the lent list alone -/
theorem so_one {N : List Str} {a b : Addr} {vs : List V} {c ds : List D} {n i : Nat} {q : Bool} (h : SO (L2.start N (.ref a :: vs)) ((.ow true c :: ds.map .fz) ++ List.replicate n .un) H i q b) : i = 0 ∧ q = true ∧ b = a := by
  cases i with
  | zero =>
    rcases h with ⟨es, e, g⟩ | ⟨_, rss, _, _, e, _⟩
    · simp at e
      rw [start_get (v := .ref a) rfl] at g
      cases g
      exact ⟨rfl, by simp_all, rfl⟩
    · simp at e
  | succ i => exact (so_no (i := i + 1) (fun m e => start_no (i := i) (by simpa using e)) h).elim
theorem rel1 {N : List Str} {a : Addr} {vs ws : List V} {c ds : List D} (sub : Ext Hf H) (ha : Hf a = none) (hH : H a = some (.lst ws)) (hc : Dqs K Hf ws c) (h : Dqs K Hf vs ds) (hn : ds.length + 1 ≤ N.length) :
    Rel K Hf H (L2.start N (.ref a :: vs)) ((.ow true c :: ds.map .fz) ++ List.replicate (N.length - (ds.length + 1)) .un) := by
  have hl := dps_len h
  refine ⟨by rw [start_len (by simp; omega)]; simp; omega, sub, fun i d e => ?_, fun i q es e => ?_, fun i rss e => ?_, fun i j q q' b e e' => ?_⟩
  · cases i with
    | zero => simp at e
    | succ i =>
      simp only [List.cons_append, List.getElem?_cons_succ] at e
      by_cases hi : i < ds.length
      · rw [get_app (by simpa using hi), List.getElem?_map] at e
        obtain ⟨d', e1, z⟩ := Option.map_eq_some_iff.mp e
        cases z
        obtain ⟨v, e2, q⟩ := dps_get h e1
        exact ⟨v, start_get (by simpa using e2), q⟩
      · rw [List.getElem?_append_right (by simpa using Nat.le_of_not_lt hi)] at e
        cases rep_un e
  · cases i with
    | zero =>
      simp at e
      obtain ⟨rfl, rfl⟩ := e
      exact ⟨a, ws, start_get rfl, ha, hH, hc⟩
    | succ i => exact (show False from start_no (m := .ow q es) (i := i) (by simpa using e)).elim
  · cases i with
    | zero => simp at e
    | succ i => exact (show False from start_no (m := .oo rss) (i := i) (by simpa using e)).elim
  · rw [(so_one e).1, (so_one e').1]
end
section
variable {P : Program} {w : World} {K : PySem.W.Frag} {mg : Str → Option Value} {base : Heap} {k : Nat} {f : Addr} {ps : List Str}
theorem fnG_body {c : Cc} {mt : Bool} {ir : List IS} {name qual : Str} {params : Arguments} {body : List Stmt} {scope : Scope} {dV kV doc pm cdv ct oc : Value} {an od : Option Addr} {osl : Array (Option Value)}
    (lk : K.lookup f = some ⟨oc, od, .func (PySem.W.fnOf name qual params body scope dV kV doc pm an cdv ct), osl⟩) (hcd : PySem.W.codeIn K cdv qual = true) (D0 : DefOk c ps scope body ir) (hcell : ∀ x ∈ c.fnC, True)
    (fns : ∀ E ∈ c.fns, FnAt P w K mg base k E) (cst : ∀ p ∈ c.consts, ∃ v u, mg p.1 = some u ∧ L2.RelV v u ∧ ∀ H, Dq K H v p.2) (gcd : c.gcd = true → mg "gcd" = some (.builtin "math.gcd")) (bl : ∀ x ∈ c.bl, mg x = none) (htr : P.given.tree = none) (hse : base.NoSeer) :
    FnG P w K mg base (k + 1) f (PySem.W.fnOf name qual params body scope dV kV doc pm an cdv ct) ps (spD K ⟨mt, runB mt ps.length c.N.length ir⟩) := by
  obtain ⟨S, hsc, hir⟩ := D0
  subst hsc
  have hpn : ps.length ≤ c.N.length := by
    have := congrArg List.length S.pre
    rw [List.length_take] at this
    omega
  refine fnG_of (N := c.N) lk hcd S fun A outer s' H vs Q hr hfr hg hl hsp => ?_
  have E : EOk k c (cxOf CX0 P w K mg base c.N qual c.sc f cdv A outer s' H E0).nox := ⟨rfl, S.nd, rfl, rfl, hg, hr, ⟨hse, fun s hl hs => PylongRoom.of hl (show (A.deeper (envOfC qual c.sc s'.heap.objs.size f cdv)).depth + 100 < recursionLimit from by have := hr.dp; omega) (SeerAt.of hs htr (Around.frames_deeper hfr) S.gen S.co rfl rfl)⟩, fns, cst, gcd, bl, fun x hx => rfl⟩
  have hB := compB_sound (compS_sound E PassesOwn.never EF) body
  rw [hir] at hB
  refine ⟨_, hB, ?_⟩
  obtain ⟨Hf, ds, r, c', sub, er, hm⟩ := hsp
  have er : runB mt ps.length c.N.length ir ds = some (r, c') := er
  unfold runB at er
  split at er
  case isFalse => cases er
  rename_i hd
  obtain ⟨ms, em, er⟩ := bindS er
  obtain ⟨o, eo, er⟩ := bindS er
  cases mt with
  | false =>
    obtain ⟨hq, post⟩ := (show Dqs K Hf vs ds ∧ Post K Hf H r Q from hm)
    cases em
    have R := rel0 (N := c.N) sub hq (by omega)
    rw [hd] at R
    refine ⟨_, Hf, o, R, eo, ?_⟩
    have noOwn : ∀ q b, ¬ OwnAt (L2.start c.N vs) (ds.map .fz ++ List.replicate (c.N.length - ps.length) .un) H q b := fun q b ⟨i, e⟩ => so_no (fun m => start_no) e
    have grow : ∀ {σ' : L2.St} {Γ' : Ga} {Hf' H' : Hp}, Rel K Hf' H' σ' Γ' → Step (L2.start c.N vs) (ds.map .fz ++ List.replicate (c.N.length - ps.length) .un) Hf H σ' Γ' Hf' H' → Grow Hf H Hf' H' := fun R' S' =>
      ⟨S'.ext, R'.sub, fun b o e => S'.keep b o e fun q => noOwn q b, fun b h => (S'.newf b h).imp id fun z => z.elim id fun z => (noOwn _ _ z).elim⟩
    cases o with
    | nx Γ' =>
      cases (show some (RV.fz .none, ([] : List EvL.D)) = some (r, c') from er)
      exact fun σ' H' Hf' R' S' => post .non H' Hf' (grow R' S') .non
    | rt r' Γ' =>
      cases (show some (r', ([] : List EvL.D)) = some (r, c') from er)
      exact fun v σ' H' Hf' R' S' q => post v H' Hf' (grow R' S') (q.un (noOwn false))
    | bk Γ' => cases er
    | ct Γ' => cases er
  | true =>
    obtain ⟨a, vs0, ws, c0, ds0, rfl, rfl, ha, hH, hc, hq, post⟩ := hm
    cases em
    have R := rel1 (N := c.N) sub ha hH hc hq (by simp at hd; omega)
    have hd' : ds0.length + 1 = ps.length := by simpa using hd
    rw [hd'] at R
    refine ⟨_, Hf, o, R, eo, ?_⟩
    have own0 : ∀ q b, OwnAt (L2.start c.N (.ref a :: vs0)) ((.ow true c0 :: ds0.map .fz) ++ List.replicate (c.N.length - ps.length) .un) H q b → q = true ∧ b = a := fun q b ⟨i, e⟩ => (so_one e).2
    have fin : ∀ {v : V} {r' : RV} {σ' : L2.St} {Γ' : Ga} {Hf' H' : Hp}, endM true Γ' r' = some (r, c') → Rel K Hf' H' σ' Γ' → Step (L2.start c.N (.ref a :: vs0)) ((.ow true c0 :: ds0.map .fz) ++ List.replicate (c.N.length - ps.length) .un) Hf H σ' Γ' Hf' H' →
        RRel K H Hf' H' v r' → Q v H' := fun {v r' σ' Γ' Hf' H'} e R' S' q => by
      unfold endM at e
      simp only at e
      split at e
      · rename_i c1 h0
        cases e
        obtain ⟨b, ws', g1, g2, g3, g4⟩ := R'.own 0 true _ h0
        obtain ⟨_, rfl⟩ := own0 _ _ (S'.newb b ⟨0, .inl ⟨_, h0, g1⟩⟩)
        exact post v H' Hf' ws' S'.ext R'.sub (fun x o hx e => S'.keep x o e fun q z => hx (own0 _ _ z).2) (fun x h => (S'.newf x h).imp id fun z => z.elim id fun z => by cases (own0 _ _ z).1) g3 g2 g4 q
      · cases e
    cases o with
    | nx Γ' => exact fun σ' H' Hf' R' S' => fin er R' S' (show Dq K Hf' V.non PyData.none from .non)
    | rt r' Γ' => exact fun v σ' H' Hf' R' S' q => fin er R' S' (q.un fun b z => by cases (own0 _ _ z).1)
    | bk Γ' => cases er
    | ct Γ' => cases er
end
end EvL

set_option Elab.async false
set_option linter.all false
set_option maxRecDepth 100000
set_option maxHeartbeats 16000000
namespace EvL
open PySem PySem.Spec PyProof.Rows L2

/-! ### the law's own call, where no repr is on its way -/
/-- the heap that the law sees: the script alone is known -/
def oneH (a : Addr) (o : Obj) (xs : List V) : Hp := fun b => if b = a then some (.frz o (.lst xs)) else none
theorem oneH_at {a : Addr} {o : Obj} {xs : List V} : oneH a o xs a = some (.frz o (.lst xs)) := if_pos rfl
theorem oneH_no {a b : Addr} {o : Obj} {xs : List V} (h : b ≠ a) : oneH a o xs b = none := if_neg h
section
variable {P : Program} {w : World} {K : PySem.W.Frag} {mg mb : Str → Option Value} {k : Nat} {fa a : Addr} {fd : FuncData} {x : Str} {sp : Sp} {s₁ : Shared} {vs : List Value} {ns : List Int}
theorem law_run (KX : K.In s₁.heap) (h1 : s₁.heap.Ns mainGlobals mg) (h2 : s₁.heap.Ns builtinsNs mb) (h3 : ∀ x : Str, x ≠ "__name__" → mb x = bootBuiltins x) (h4 : s₁.heap.NoLimit) (h4s : s₁.heap.NoSeer) (h5 : s₁.gens = #[]) (h6 : K.lookup a = none)
    (ha : s₁.heap.get? a = some { cls := .type "list", data := .seq vs.toArray }) (hi : IntsAre vs ns) (hl : ns.length ≤ sizeLine) (hr : Room (k + 40) callerA) (hg : callerA.guards = some [])
    (F : ∀ base : Heap, K.In base → base.Ns mainGlobals mg → base.NoSeer → FnG P w K mg base k fa fd [x] sp) (hb : ∀ (s : Shared) (u : Value), BindsTo s fd ⟨[u], []⟩ [(x, u)])
    (hsp : ∀ H : Hp, Rd H a (.lst (ns.map V.int)) → sp [.ref a] H (fun v _ => v = .bl true) E0) :
    codeAny (model P w) callerA (.call (.ref fa) ⟨[.ref a], []⟩) (fun r s' => r = .ok (.ret (.bool true)) ∧ OldK s₁.heap s'.heap ∧ s'.os = s₁.os ∧ AllBare s'.gens) s₁ := by
  let o : Obj := { cls := .type "list", data := .seq vs.toArray }
  let H : Hp := oneH a o (ns.map V.int)
  have rv : Vals (ns.map V.int) vs := vals_ints hi
  have hok : HOk P w H s₁.heap := fun b u z => by
    by_cases hb : b = a
    · subst hb
      rw [show H b = some (.frz o (.lst (ns.map V.int))) from oneH_at] at z
      cases z
      exact ⟨ha, by rw [List.length_map]; exact hl, vs, _, rv, ha⟩
    · rw [show H b = none from oneH_no hb] at z
      cases z
  have keep : ∀ {b : Addr} {u : Obj}, s₁.heap.get? b = some u → b ≠ a → (hidT s₁.heap H).get? b = some u := fun e n => hidT_get e (oneH_no n)
  have notA : ∀ {b : Addr} {u : Obj} {es : Array DictEntry} {ep : Nat}, s₁.heap.get? b = some u → u.data = .dict es ep → b ≠ a := fun {b u es ep} e d z => by
    subst z
    rw [ha] at e
    cases e
    exact nomatch (show Data.seq vs.toArray _ = Data.dict es ep from d)
  have ns' : ∀ {b : Addr} {m : Str → Option Value}, s₁.heap.Ns b m → (hidT s₁.heap H).Ns b m := fun {b m} q => by
    obtain ⟨u, es, ep, e, d, r⟩ := q
    exact ⟨u, es, ep, keep e (notA e d), d, r⟩
  have inB : K.In (hidT s₁.heap H) := fun b u e => keep (KX b u e) fun z => by subst z; rw [h6] at e; cases e
  have lim' : (hidT s₁.heap H).NoLimit := by
    obtain ⟨mc, q1, q2⟩ := h4
    exact ⟨mc, ns' q1, q2⟩
  have md : Mod K mg (hidT s₁.heap H) := ⟨inB, ns' h1, ⟨mb, ns' h2, h3⟩, lim'⟩
  have e0 : Env0 P w K mg (hidT s₁.heap H) callerA [] s₁ H := by
    refine ⟨rfl, md, fun b u e => of_hidT e, Nat.le_of_eq (hidT_size _ _), trivial, fun b hb => ?_, hok, .of_eq h5⟩
    exact absurd (show b ∈ ([] : List Addr) from hb) (by simp)
  have see' : (hidT s₁.heap H).NoSeer := by
    obtain ⟨⟨mc, q1, q2⟩, ⟨mm, q3, q4⟩, ⟨mi, q5, q6⟩, ⟨mn, bm, ob, q7, q8, q9, q10, q11⟩⟩ := h4s
    refine ⟨⟨mc, ns' q1, q2⟩, ⟨mm, ns' q3, q4⟩, ⟨mi, ns' q5, q6⟩, ⟨mn, bm, ob, ns' q7, q8, keep q9 (fun z => ?_), q10, q11⟩⟩
    subst z
    rw [ha] at q9
    cases q9
    exact absurd q10 (by simp)
  have call := (F _ inB (ns' h1) see').go callerA [] s₁ H ⟨[.ref a], []⟩ [.ref a] [.ref a] _ hr hg e0 (hb s₁ (.ref a)) (.cons rfl .nil) rfl (hsp H (.inr ⟨o, oneH_at⟩))
  refine codeAny_mono call fun r s' z => ?_
  match r, z with
  | .error e, z => exact (show False from z).elim
  | .ok .next, z => exact False.elim z
  | .ok .brk, z => exact False.elim z
  | .ok .cont, z => exact False.elim z
  | .ok (.ret u), z =>
    obtain ⟨v, H', os, bare, un, hok', r', q⟩ := z
    cases (show v = V.bl true from q)
    cases (show u = Value.bool true from r')
    refine ⟨rfl, OldK.of_keep fun b ob e => ?_, os, bare⟩
    by_cases hb : b = a
    · subst hb
      obtain ⟨e2, _⟩ := hok' b _ (un.frzs b o _ oneH_at)
      rw [ha] at e
      cases e
      exact e2
    · exact un.keep b ob e (oneH_no hb) (by intro z; exact absurd (show b ∈ ([] : List Addr) from z) (by simp)) (by simp)
end
end EvL

set_option Elab.async false
set_option linter.all false
set_option maxRecDepth 100000
set_option maxHeartbeats 16000000
namespace EvL
open PySem PySem.Spec PyProof.Rows L2

/-! ### constants of the module -/
def valB (K : PySem.W.Frag) : Nat → Value → D → Bool
  | _, .int j _, .int i => decide (i = j)
  | _, .bool c, .bool b => decide (b = c)
  | _, .none, .none => true
  | _, .str y _, .str x => decide (x = y)
  | n + 1, .ref a, .tuple ds => match K.lookup a with
      | some ⟨.type c, _, .seq its _, _⟩ => decide (c = "tuple") && decide (its.size ≤ 1000) && decide (its.size = ds.length) && (its.toList.zip ds).all fun p => valB K n p.1 p.2
      | _ => false
  | _, _, _ => false
theorem vals_zip {K : PySem.W.Frag} {n : Nat} (ih : ∀ (v : Value) (d : D), valB K n v d = true → ∃ x : V, L2.RelV x v ∧ ∀ H, Dq K H x d) : ∀ {vs : List Value} {ds : List D}, vs.length = ds.length → ((vs.zip ds).all fun p => valB K n p.1 p.2) = true →
    ∃ xs : List V, Vals xs vs ∧ ∀ H, Dqs K H xs ds
  | [], [], _, _ => ⟨[], .nil, fun _ => .nil⟩
  | v :: vs, d :: ds, hl, h => by
    simp only [List.zip_cons_cons, List.all_cons, Bool.and_eq_true] at h
    obtain ⟨x, r, q⟩ := ih v d h.1
    obtain ⟨xs, rs, qs⟩ := vals_zip ih (vs := vs) (ds := ds) (by simpa using hl) h.2
    exact ⟨x :: xs, .cons r rs, fun H => .cons (q H) (qs H)⟩
  | [], _ :: _, hl, _ => by simp at hl
  | _ :: _, [], hl, _ => by simp at hl
theorem valB_ok {K : PySem.W.Frag} : ∀ (n : Nat) (v : Value) (d : D), valB K n v d = true → ∃ x : V, L2.RelV x v ∧ ∀ H, Dq K H x d := by
  have base : ∀ (n : Nat) (v : Value) (d : D), (∀ ds, d ≠ .tuple ds) → valB K n v d = true → ∃ x : V, L2.RelV x v ∧ ∀ H, Dq K H x d := by
    intro n v d hd h
    unfold valB at h
    split at h
    · cases (of_decide_eq_true h)
      exact ⟨.int _, ⟨_, rfl⟩, fun H => .int _⟩
    · cases (of_decide_eq_true h)
      exact ⟨.bl _, rfl, fun H => .bl _⟩
    · exact ⟨.non, rfl, fun H => .non⟩
    · cases (of_decide_eq_true h)
      exact ⟨.str _, ⟨_, rfl⟩, fun H => .str _⟩
    · exact absurd rfl (hd _)
    · cases h
  intro n
  induction n with
  | zero =>
    intro v d h
    refine base 0 v d (fun ds e => ?_) h
    subst e
    unfold valB at h
    split at h <;> first | (cases h; done) | (rename_i e; cases e; done) | contradiction
  | succ n ih =>
    intro v d h
    by_cases hd : ∃ ds, d = .tuple ds
    · obtain ⟨ds, rfl⟩ := hd
      cases v with
      | ref a =>
        have h : (match K.lookup a with
          | some ⟨.type c, _, .seq its _, _⟩ => decide (c = "tuple") && decide (its.size ≤ 1000) && decide (its.size = ds.length) && (its.toList.zip ds).all fun p => valB K n p.1 p.2
          | _ => false) = true := h
        cases q : K.lookup a with
        | none => rw [q] at h; cases h
        | some o =>
          obtain ⟨oc, od, dt, osl⟩ := o
          rw [q] at h
          cases oc with
          | type c =>
            cases dt with
            | seq its m =>
              simp only [Bool.and_eq_true, decide_eq_true_eq] at h
              obtain ⟨⟨⟨h1, h2⟩, h3⟩, h4⟩ := h
              obtain ⟨xs, rs, qs⟩ := vals_zip ih (vs := its.toList) (ds := ds) (by simpa using h3) h4
              exact ⟨.ref a, rfl, fun H => .tup (.inr ⟨_, its, m, q, congrArg Value.type h1, rfl, Nat.le_trans h2 (by decide), rs⟩) (qs H)⟩
            | _ => cases h
          | _ => cases dt <;> cases h
      | _ => unfold valB at h; cases h
    · exact base (n + 1) v d (fun ds e => hd ⟨ds, e⟩) h
def conB (K : PySem.W.Frag) (p : Str × D) : Bool := match PySem.W.nsIn K mainGlobals p.1 with
  | some (some v) => valB K 8 v p.2
  | _ => false
theorem conB_ok {K : PySem.W.Frag} {h : Heap} {mg : Str → Option Value} (X : K.In h) (G : h.Ns mainGlobals mg) {p : Str × D} (c : conB K p = true) : ∃ v u, mg p.1 = some u ∧ L2.RelV v u ∧ ∀ H, Dq K H v p.2 := by
  unfold conB at c
  split at c
  · rename_i v e
    obtain ⟨x, r, q⟩ := valB_ok 8 v p.2 c
    exact ⟨x, v, PySem.W.mg_of X G e, r, q⟩
  · cases c
def gcdB (K : PySem.W.Frag) : Bool := match PySem.W.nsIn K mainGlobals "gcd" with
  | some (some (.builtin n)) => decide (n = "math.gcd")
  | _ => false
theorem gcdB_ok {K : PySem.W.Frag} {h : Heap} {mg : Str → Option Value} (X : K.In h) (G : h.Ns mainGlobals mg) (c : gcdB K = true) : mg "gcd" = some (.builtin "math.gcd") := by
  unfold gcdB at c
  split at c
  · rename_i n e
    rw [of_decide_eq_true c] at e
    exact PySem.W.mg_of X G e
  · cases c
/-! ### the part of the heap without lists, and what is told of it -/
def isLs (o : Obj) : Bool := match o.cls with
  | .type c => decide (c = "list")
  | _ => false
def noL (g : Addr → Option Obj) (a : Addr) : Option Obj := match g a with
  | some o => if isLs o then none else some o
  | none => none
/-- what the module's names reach, each step once -/
def frontG (g : Addr → Option Obj) : Nat → List Addr → List Addr
  | 0, as => as
  | n + 1, as => as ++ frontG g n (as.flatMap fun a => match g a with
    | some o => He.refsD o
    | none => [])
def frN (n : Nat) (g : Addr → Option Obj) : PySem.W.Frag := He.frG (noL g) (frontG g n [mainGlobals])
theorem noL_some {g : Addr → Option Obj} {a : Addr} {o : Obj} (h : noL g a = some o) : g a = some o ∧ isLs o = false := by
  unfold noL at h
  split at h
  · rename_i o' e
    split at h
    · cases h
    · rename_i hn
      cases h
      exact ⟨e, by simpa using hn⟩
  · cases h
theorem frN_in {n : Nat} {h : Heap} : (frN n h.get?).In h := fun a o e => (noL_some (He.frG_at _ e)).1
def NoLs (K : PySem.W.Frag) : Prop := ∀ a o, K.lookup a = some o → isLs o = false
theorem frN_no {n : Nat} {g : Addr → Option Obj} : NoLs (frN n g) := fun a o e => (noL_some (He.frG_at _ e)).2
/-- what is asked: free names, defs, constants, gcd -/
structure Asked where
  free : List Str
  fn : List He.DefD
  con : List (Str × D)
  gcd : Bool
  dfl : List ((Str × Nat) × D)
/-- a default that is an object: a tuple of plain data -/
def dflC (K : PySem.W.Frag) (p : (Str × Nat) × D) : Bool := valB K 8 (.ref (He.dflAt (p.1.1, none) p.1.2 K)) p.2
def Asked.fa (q : Asked) : List He.Fa := q.free.map .free ++ q.fn.map (fun d => .glo d.at_.1)
abbrev AlN : Type := He.AlD × Bool
def obsN (q : Asked) (K : PySem.W.Frag) : AlN := (He.obsD q.fa q.fn K, q.con.all (conB K) && ((if q.gcd then gcdB K else true) && q.dfl.all (dflC K)))
def valN (q : Asked) : AlN := (He.valD q.fn, true)
def hookN (n : Nat) (q : Asked) : PySem.W.Hook where
  α := AlN
  obs := fun s => obsN q (frN n s.heap.get?)
  val := fun _ => valN q
  says := fun _ h => ∃ K : PySem.W.Frag, K.In h ∧ NoLs K ∧ obsN q K = valN q
  of := fun _ _ e => ⟨_, frN_in, frN_no, e⟩
  keeps := fun _ _ _ ⟨K, hK, c⟩ k => ⟨K, PySem.W.Frag.In.keeps hK k, c⟩
def obsT (n : Nat) (q : Asked) (s : PySem.W.SharedT) : AlN := obsN q (frN n (HandSHeadRun.getT s))
theorem obsT_eq (n : Nat) (q : Asked) (s : PySem.W.SharedT) : obsT n q s = (hookN n q).obs s.abs := by
  have e : HandSHeadRun.getT s = s.abs.heap.get? := funext (HandSHeadRun.getT_eq s)
  show obsN q (frN n (HandSHeadRun.getT s)) = obsN q (frN n s.abs.heap.get?)
  rw [e]
section
variable {q : Asked} {K : PySem.W.Frag} (c : obsN q K = valN q)
include c
theorem said_d : He.SaysD q.fa q.fn K := congrArg Prod.fst c
theorem said_con {p : Str × D} (h : p ∈ q.con) : conB K p = true := by
  have e : (q.con.all (conB K) && ((if q.gcd then gcdB K else true) && q.dfl.all (dflC K))) = true := congrArg Prod.snd c
  rw [Bool.and_eq_true] at e
  exact List.all_eq_true.mp e.1 p h
theorem said_gcd (h : q.gcd = true) : gcdB K = true := by
  have e : (q.con.all (conB K) && ((if q.gcd then gcdB K else true) && q.dfl.all (dflC K))) = true := congrArg Prod.snd c
  rw [Bool.and_eq_true, if_pos h, Bool.and_eq_true] at e
  exact e.2.1
theorem said_free {h : Heap} {mg : Str → Option Value} (X : K.In h) (G : h.Ns mainGlobals mg) {x : Str} (hx : x ∈ q.free) : mg x = none := by
  have e : (He.Fa.free x).ok K = true := by
    have c1 := (He.ba (show ((q.fa.all fun f => f.ok K) && q.fn.all fun d => d.ok K) = true from congrArg (fun z : He.AlD => z.1) (said_d c))).1
    exact List.all_eq_true.mp c1 _ (List.mem_append_left _ (List.mem_map_of_mem hx))
  exact He.free_ok X G e
theorem said_fn {h : Heap} {mg : Str → Option Value} (X : K.In h) (G : h.Ns mainGlobals mg) (i : Nat) {d : He.DefD} (hd : q.fn[i]? = some d) (hn : d.at_.2 = none) :
    ∃ fd, FunD K d.name d.qual d.params d.body d.scope (d.dvs K) (d.kws K) (He.fAd K d.at_) fd ∧ mg d.at_.1 = some (.ref (He.fAd K d.at_)) := by
  obtain ⟨fd, F⟩ := (said_d c).def_ i hd
  refine ⟨fd, F, ?_⟩
  have e : (He.Fa.glo d.at_.1).ok K = true := by
    have c1 := (He.ba (show ((q.fa.all fun f => f.ok K) && q.fn.all fun d => d.ok K) = true from congrArg (fun z : He.AlD => z.1) (said_d c))).1
    exact List.all_eq_true.mp c1 _ (List.mem_append_right _ (List.mem_map.mpr ⟨d, List.mem_of_getElem? hd, rfl⟩))
  have : He.fAd K d.at_ = He.ga K d.at_.1 := by unfold He.fAd; rw [hn]
  rw [this]
  exact He.glo_ok X G e
end
/-! ### one def of the table -/
/-- a def as the proof has it: the statement, what it is compiled to -/
structure Dfn where
  st : Stmt
  c : Cc
  ps : List Str
  mt : Bool
  ir : List IS
def stName : Stmt → Str
  | .FunctionDef n .. => n
  | _ => ""
def Dfn.f (d : Dfn) : FnD := ⟨d.mt, runB d.mt d.ps.length d.c.N.length d.ir⟩
def Dfn.dd (d : Dfn) (dfl : List He.Dv) : He.DefD := ⟨(stName d.st, none), stName d.st, stName d.st, defArgs d.st, defBody d.st, defScope d.st, dfl, []⟩
section
variable {P : Program} {w : World} {K : PySem.W.Frag} {mg : Str → Option Value} {base : Heap} {k : Nat} {f : Addr} {fd : FuncData} {d : Dfn} {dfl : List He.Dv}
theorem dfn_G (F : FunD K (stName d.st) (stName d.st) (defArgs d.st) (defBody d.st) (defScope d.st) ((d.dd dfl).dvs K) [] f fd) (D0 : DefOk d.c d.ps (defScope d.st) (defBody d.st) d.ir)
    (fns : ∀ E ∈ d.c.fns, FnAt P w K mg base k E) (cst : ∀ p ∈ d.c.consts, ∃ v u, mg p.1 = some u ∧ L2.RelV v u ∧ ∀ H, Dq K H v p.2) (gcd : d.c.gcd = true → mg "gcd" = some (.builtin "math.gcd")) (bl : ∀ x ∈ d.c.bl, mg x = none) (htr : P.given.tree = none) (hse : base.NoSeer) :
    FnG P w K mg base (k + 1) f fd d.ps (spD K d.f) := by
  obtain ⟨oc, od, dV, kV, doc, pm, an, cdv, ct, osl, rfl, lk, hcd, _⟩ := F.ex
  exact fnG_body lk hcd D0 (fun _ _ => trivial) fns cst gcd bl htr hse
/-- no defaults -/
theorem at_0 {E : FnE} (F : FunD K (stName d.st) (stName d.st) (defArgs d.st) (defBody d.st) (defScope d.st) ((d.dd []).dvs K) [] f fd) (hm : mg E.name = some (.ref f)) (G : FnG P w K mg base k f fd d.ps (spD K d.f)) (hf : E.f = d.f) (hd : E.dfs = []) (hp : d.ps.length = E.ar.length)
    (hb : ∀ (kV doc pm : Value) (an : Option Addr) (cdv ct : Value) (us ws : List Value), us.length = E.np → ws.length = E.kws.length →
      bindArgs (PySem.W.fnOf (stName d.st) (stName d.st) (defArgs d.st) (defBody d.st) (defScope d.st) .none kV doc pm an cdv ct) ⟨us, E.kws.zip ws⟩ = pure (d.ps.zip (arr .none E.ar [] (us ++ ws)))) : FnAt P w K mg base k E := by
  obtain ⟨oc, od, dV, kV, doc, pm, an, cdv, ct, osl, e, lk, hcd, hD, _⟩ := F.ex
  rcases hD with ⟨_, rfl⟩ | ⟨h, _⟩
  · refine ⟨⟨f, fd, d.ps, [], [], by rw [hf]; exact G, hm, F.kp, .nil, fun H => by rw [hd]; exact .nil, hp, fun s us ws _ h1 h2 => ?_⟩⟩
    subst e
    exact .of_eq (hb kV doc pm an cdv ct us ws h1 h2)
  · exact absurd rfl h
end
/-! ### the law's end -/
theorem walk_N {l : PySem.W.OpenLaw} {n k hn' : Nat} {qs : Asked} {q : Program} {loose : List Str} {XP : (Str → Option Value) → Heap → Prop} {d : DefRec} {D0 : Dfn} {x : Str}
    (hn : l.most = some n) (hn2 : n ≤ sizeLine) (hdf : d.params.defaults = []) (hr : Room (k + 40) callerA) (hx : D0.ps = [x]) (hm : D0.mt = false) (hsee : importsNone q = true)
    (F : ∀ (w : World) (mg : Str → Option Value) (h : Heap) (K : PySem.W.Frag), K.In h → h.Ns mainGlobals mg → obsN qs K = valN qs →
      ∃ (fa : Addr) (fd : FuncData), mg d.name = some (.ref fa) ∧ (∀ (s : Shared) (u : Value), BindsTo s fd ⟨[u], []⟩ [(x, u)]) ∧ ∀ base : Heap, K.In base → base.Ns mainGlobals mg → base.NoSeer → FnG l.prog w K mg base k fa fd D0.ps (spD K D0.f))
    (law : ∀ ns : List Int, ns.length ≤ n → D0.f.run [.list (ns.map .int)] = some (.fz (.bool true), [])) :
    PySem.W.WalkO q loose XP (hookN hn' qs).says l.row.toRowW d [] (fun f vs => PySem.call f vs) := by
  refine Att.attach_call hn hdf fun w s₀ s₁ mg mb fa o pm cd doc a vs ns G Y ho hd hcd hmg hobj hints hlen hg => ?_
  obtain ⟨K, KX, noK, sK⟩ := Y
  obtain ⟨fa', fd, hm', hb, hF⟩ := F w mg _ K KX G.T.g sK
  rw [hmg] at hm'
  cases hm'
  rw [hx] at hF
  have h6 : K.lookup a = none := by
    cases e : K.lookup a with
    | none => rfl
    | some o =>
      have e1 := noK a o e
      have e2 := KX a o e
      rw [hobj] at e2
      cases e2
      have : decide (("list" : String) = "list") = false := e1
      cases this
  refine law_run KX G.T.g G.T.b G.T.builtins G.T.nolimit (G.T.seer hsee) hg h6 hobj hints (Nat.le_trans hlen hn2) hr rfl hF hb fun H hR => ?_
  have allI : ∀ ns : List Int, Dqs K H (ns.map V.int) (ns.map PyData.int) := fun ns => by
    induction ns with
    | nil => exact .nil
    | cons i is ih => exact .cons (.int i) ih
  refine ⟨H, [.list (ns.map .int)], .fz (.bool true), [], .rfl', law ns hlen, ?_⟩
  rw [show D0.f.mt = false from hm]
  refine ⟨.cons (.lst hR (allI ns)) .nil, fun v H' Hf' g q => ?_⟩
  cases (show Dq K Hf' v (.bool true) from q)
  rfl
end EvL

set_option Elab.async false
set_option linter.all false
set_option maxRecDepth 100000
namespace EvL
open PySem PySem.Spec PyProof.Rows L2
def cellsOf (sc : Scope) : List Str := (sc.names.filter fun y => y.2 == .cell).map (·.1)
theorem fns_nil {p : FnE → Prop} : ∀ E ∈ ([] : List FnE), p E := fun _ h => nomatch h
theorem fns_cons {p : FnE → Prop} {e : FnE} {es : List FnE} (h : p e) (t : ∀ E ∈ es, p E) : ∀ E ∈ e :: es, p E := fun E hE => by
  cases hE with
  | head => exact h
  | tail _ q => exact t E q
end EvL

set_option Elab.async false
set_option linter.all false
set_option maxRecDepth 100000
namespace EvL
open PySem PySem.Spec PyProof.Rows

/-! ### data alone: sizes -/
def Sz (b : Nat) (i : Int) : Prop := i.natAbs < 2 ^ b
theorem Sz.mono {a b : Nat} {i : Int} (h : Sz a i) (hb : a ≤ b) : Sz b i := Nat.lt_of_lt_of_le h (Nat.pow_le_pow_right (by decide) hb)
theorem Sz.mul {a b : Nat} {i j : Int} (h : Sz a i) (g : Sz b j) : Sz (a + b) (i * j) := by
  unfold Sz at *
  rw [Int.natAbs_mul, Nat.pow_add]
  exact Nat.mul_lt_mul_of_lt_of_lt h g
theorem Sz.add {a b : Nat} {i j : Int} (h : Sz a i) (g : Sz b j) : Sz (max a b + 1) (i + j) := by
  have h1 := h.mono (Nat.le_max_left a b)
  have g1 := g.mono (Nat.le_max_right a b)
  unfold Sz at *
  have := Int.natAbs_add_le i j
  rw [Nat.pow_succ]
  omega
theorem Sz.neg {a : Nat} {i : Int} (h : Sz a i) : Sz a (-i) := by unfold Sz at *; rwa [Int.natAbs_neg]
theorem Sz.sub {a b : Nat} {i j : Int} (h : Sz a i) (g : Sz b j) : Sz (max a b + 1) (i - j) := by
  rw [Int.sub_eq_add_neg]; exact h.add g.neg
theorem Sz.abs {a : Nat} {i : Int} (h : Sz a i) : Sz a (if i < 0 then -i else i) := by split; exact h.neg; exact h
theorem Sz.ite {a b : Nat} {i j : Int} {c : Prop} [Decidable c] (h : Sz a i) (g : Sz b j) : Sz (max a b) (if c then i else j) := by
  split
  · exact h.mono (Nat.le_max_left a b)
  · exact g.mono (Nat.le_max_right a b)
theorem Sz.fdiv {a : Nat} {i j : Int} (h : Sz a i) (hj : 0 ≤ j) : Sz a (i.fdiv j) := by
  unfold Sz at *
  rw [Int.fdiv_eq_ediv_of_nonneg _ hj]
  exact Nat.lt_of_le_of_lt (Int.natAbs_ediv_le_natAbs i j) h
theorem Sz.lit {b : Nat} {i : Int} (h : i.natAbs < 2 ^ b) : Sz b i := h
theorem Sz.of_lt {b : Nat} {i : Int} (h1 : -(2 ^ b : Int) < i) (h2 : i < (2 ^ b : Int)) : Sz b i := by
  unfold Sz
  have : ((2 ^ b : Nat) : Int) = (2 ^ b : Int) := by simp
  omega
theorem Sz.log {b : Nat} {i : Int} (h : Sz b i) : i.natAbs.log2 ≤ b := by
  unfold Sz at h
  by_cases h0 : i.natAbs = 0
  · rw [h0]; simp
  · exact Nat.le_of_lt ((Nat.log2_lt h0).mpr h)
theorem mulOk_of {a b : Nat} {i j : Int} (h : Sz a i) (g : Sz b j) (hab : a + b < 60000000) : mulOk i j = true := by
  unfold mulOk
  exact decide_eq_true (by have := h.log; have := g.log; omega)
theorem divOk_of {b : Nat} {i j : Int} (g : Sz b j) (hb : b < 90000000) (hj : j ≠ 0) : divOk i j = true := by
  exact decide_eq_true hj
/-! ### what repr may show -/
mutual
inductive Sh : Nat → Nat → D → Prop
  | non : Sh 0 4 .none
  | bl (b : Bool) : Sh 0 5 (.bool b)
  | int {b : Nat} {i : Int} : Sz b i → b < 1920 → Sh 0 600 (.int i)
  | str {x : Str} {n : Nat} : (reprText x).length ≤ n → (PyData.str x).showable = true → Sh 0 n (.str x)
  | lst {k n : Nat} {ds : List D} : Shs k n ds → Sh (k + 1) (n + 2) (.list ds)
  | tup {k n : Nat} {ds : List D} : Shs k n ds → Sh (k + 1) (n + 3) (.tuple ds)
inductive Shs : Nat → Nat → List D → Prop
  | nil : Shs 0 0 []
  | cons {k l a b : Nat} {d : D} {ds : List D} : Sh k a d → Shs l b ds → Shs (max k l) (a + b + 2) (d :: ds)
end
theorem lt_len : ∀ ts : List Str, (listText ts).length ≤ piled ts + 2
  | [] => Nat.le_of_eq rfl
  | t :: r => by
    have q1 : (listText (t :: r)).length = (textFrom 1 (("[" : Str) ++ (if (0 : Nat) > 0 then ", " else "" : String) ++ t) r).length + 1 :=
      strLen_append _ _
    have q2 : ((("[" : Str) ++ (if (0 : Nat) > 0 then ", " else "" : String) ++ t)).length = 1 + t.length :=
      (strLen_append _ _).trans (congrArg (· + t.length) (strLen_append _ _))
    have q3 := textFrom_length_pos r 1 _ (Nat.succ_pos 0) ▸ q1
    rw [q3, q2, piled_cons]
    omega
theorem tt_len (ts : List Str) : (tupleText ts).length ≤ piled ts + 3 := by
  have q3 : (((if ts.length == 1 then ",)" else ")" : String) : Str)).length ≤ 2 := by split <;> decide
  have q1 : (tupleText ts).length = 1 + (Str.join ", " ts).length + (((if ts.length == 1 then ",)" else ")" : String) : Str)).length :=
    (strLen_append _ _).trans (congrArg (· + _) (strLen_append _ _))
  have q4 : (Str.join ", " ts).length ≤ piled ts := by
    cases ts with
    | nil => exact Nat.le_refl _
    | cons t r => have := join_length_add (t :: r) (by simp); omega
  omega
mutual
theorem Sh.all : ∀ {k n : Nat} {d : D}, Sh k n d → d.showable = true ∧ d.hasDict = false ∧ d.depth ≤ k ∧ d.shown.length ≤ n
  | _, _, _, .non => ⟨rfl, rfl, Nat.le_refl _, by decide +kernel⟩
  | _, _, _, .bl b => ⟨rfl, rfl, Nat.le_refl _, by cases b <;> decide +kernel⟩
  | _, _, _, .int (b := b) (i := i) h hb => by
    refine ⟨?_, rfl, Nat.le_refl _, ?_⟩
    · simp only [PyData.showable, decide_eq_true_eq]
      exact Nat.lt_of_le_of_lt h.log hb
    · have e := int_text_length_le10 (a := i) (k := 590) (by decide) (Nat.lt_trans h (Nat.lt_of_le_of_lt (Nat.pow_le_pow_right (by decide) (Nat.le_of_lt hb)) (by decide +kernel)))
      show (Str.ofString (toString i)).length ≤ 600
      rw [PySem.ofString_length]
      omega
  | _, _, _, .str h g => ⟨rfl, rfl, Nat.le_refl _, by simpa only [PyData.shown] using h⟩
  | _, _, _, .lst q => by
    obtain ⟨a, b, c, e⟩ := q.all
    refine ⟨by simpa only [PyData.showable] using a, by simpa only [PyData.hasDict] using b, by simp only [PyData.depth]; omega, ?_⟩
    simp only [PyData.shown]
    exact Nat.le_trans (lt_len _) (by omega)
  | _, _, _, .tup q => by
    obtain ⟨a, b, c, e⟩ := q.all
    refine ⟨by simpa only [PyData.showable] using a, by simpa only [PyData.hasDict] using b, by simp only [PyData.depth]; omega, ?_⟩
    simp only [PyData.shown]
    exact Nat.le_trans (tt_len _) (by omega)
theorem Shs.all : ∀ {k n : Nat} {ds : List D}, Shs k n ds → PyData.showableAll ds = true ∧ PyData.hasDictAll ds = false ∧ PyData.depthAll ds ≤ k ∧ piled (PyData.shownAll ds) ≤ n
  | _, _, _, .nil => ⟨rfl, rfl, Nat.le_refl _, Nat.le_refl _⟩
  | _, _, _, .cons h q => by
    obtain ⟨a, b, c, e⟩ := h.all
    obtain ⟨a', b', c', e'⟩ := q.all
    refine ⟨by simp only [PyData.showableAll, a, a']; rfl, by simp only [PyData.hasDictAll, b, b']; rfl, by simp only [PyData.depthAll]; omega, ?_⟩
    simp only [PyData.shownAll]
    rw [piled_cons]
    omega
end
theorem reprOk_of {k n : Nat} {d : D} (h : Sh k n d) (hd : (isDisplay d || isAtom d) = true) (hk : k ≤ 50) (hn : n ≤ 10000000) : reprOk d = true := by
  obtain ⟨a, b, c, e⟩ := h.all
  unfold reprOk
  simp only [hd, a, b, Bool.and_eq_true, decide_eq_true_eq]
  exact ⟨⟨⟨⟨trivial, trivial⟩, rfl⟩, by omega⟩, by omega⟩
end EvL

set_option Elab.async false
set_option linter.all false
set_option maxRecDepth 100000
namespace EvL
open PySem PySem.Spec PyProof.Rows

/-! ### the evaluators' equations, for simp -/
section
variable (Γ : Ga) (i j : Nat) (a b c e : IE) (es fs : List IE) (f : FnD) (pm : List D → List D)
@[simp] theorem x_var : evX (.var i) Γ = (getV i Γ).map fun (d, Γ) => (.fz d, Γ) := by rw [evX]
@[simp] theorem x_cst (d : D) : evX (.cst d) Γ = some (.fz d, Γ) := by rw [evX]
@[simp] theorem x_tup : evX (.tup es) Γ = (evs es Γ).map fun (ds, Γ) => (.fz (.tuple ds), Γ) := by rw [evX]
@[simp] theorem x_lst : evX (.lst es) Γ = (evs es Γ).map fun (ds, Γ) => (.ow ds, Γ) := by rw [evX]
@[simp] theorem x_bin (o : BOp) : evX (.bin o a b) Γ = (evX a Γ).bind fun (x, Γ) => (evX b Γ).bind fun (y, Γ) => (binD o x.d y.d).map fun r => (r, Γ) := by rw [evX]
@[simp] theorem x_neg : evX (.neg a) Γ = (evX a Γ).bind fun (x, Γ) => match x.d with | .int i => some (.fz (.int (-i)), Γ) | _ => none := by rw [evX] <;> rfl
@[simp] theorem x_not : evX (.not a) Γ = (evX a Γ).bind fun (x, Γ) => (trD x.d).map fun c => (.fz (.bool (!c)), Γ) := by rw [evX]
@[simp] theorem x_cmp (o : COp) : evX (.cmp o a b) Γ = (evX a Γ).bind fun (x, Γ) => (evX b Γ).bind fun (y, Γ) => (cmpD o x.d y.d).map fun r => (.fz (.bool r), Γ) := by rw [evX]
@[simp] theorem x_chn (o o' : COp) : evX (.chn o o' a b c) Γ = (evX a Γ).bind fun (x, Γ) => (evX b Γ).bind fun (y, Γ) => (cmpD o x.d y.d).bind fun r => if r then (evX c Γ).bind fun (z, Γ) => (cmpD o' y.d z.d).map fun r => (.fz (.bool r), Γ) else some (.fz (.bool false), Γ) := by rw [evX]
@[simp] theorem x_and : evX (.and a b) Γ = (evX a Γ).bind fun (x, Γ) => (trD x.d).bind fun c => if c then (evX b Γ).map fun (y, Γ) => (.fz y.d, Γ) else some (.fz x.d, Γ) := by rw [evX]
@[simp] theorem x_or : evX (.or a b) Γ = (evX a Γ).bind fun (x, Γ) => (trD x.d).bind fun c => if c then some (.fz x.d, Γ) else (evX b Γ).map fun (y, Γ) => (.fz y.d, Γ) := by rw [evX]
@[simp] theorem x_ite : evX (.ite c a b) Γ = (evT c Γ).bind fun (t, Γ) => if t then (evX a Γ).map fun (y, Γ) => (.fz y.d, Γ) else (evX b Γ).map fun (y, Γ) => (.fz y.d, Γ) := by rw [evX]
@[simp] theorem x_ix : evX (.ix a b) Γ = (evX a Γ).bind fun (x, Γ) => (evX b Γ).bind fun (y, Γ) => (ixD x.d y.d).map fun r => (.fz r, Γ) := by rw [evX]
@[simp] theorem x_cmv (o : COp) : evX (.cmv o a i) Γ = (evX a Γ).bind fun (x, Γ) => (slotD i Γ).bind fun d => (cmpD o x.d d).map fun r => (.fz (.bool r), Γ) := by rw [evX]
@[simp] theorem t_cmv' (o : COp) : evT (.cmv o a i) Γ = (evX a Γ).bind fun (x, Γ) => (slotD i Γ).bind fun d => (cmpD o x.d d).map fun r => (r, Γ) := by rw [evT]
@[simp] theorem x_ixv : evX (.ixv i b) Γ = (slotD i Γ).bind fun _ => (evX b Γ).bind fun (y, Γ) => (slotD i Γ).bind fun d => (ixD d y.d).map fun r => (.fz r, Γ) := by rw [evX]
@[simp] theorem x_lenv : evX (.lenv i) Γ = (slotD i Γ).bind fun d => (biD .len [d]).map fun r => (r, Γ) := by rw [evX]
@[simp] theorem t_ixv : evT (.ixv i b) Γ = (slotD i Γ).bind fun _ => (evX b Γ).bind fun (y, Γ) => (slotD i Γ).bind fun d => (ixD d y.d).bind fun r => (trD r).map fun c => (c, Γ) := by rw [evT]
@[simp] theorem t_lenv : evT (.lenv i) Γ = (slotD i Γ).bind fun d => (biD .len [d]).bind fun r => (trD r.d).map fun c => (c, Γ) := by rw [evT]
@[simp] theorem x_slc (l h : Bool) (lo hi : IE) : evX (.slc l h a lo hi) Γ = (evX a Γ).bind fun (x, Γ) => (evX lo Γ).bind fun (u, Γ) => (optI l u.d).bind fun i => (evX hi Γ).bind fun (w, Γ) => (optI h w.d).bind fun j => (slcD x.d i j).map fun r => (r, Γ) := by rw [evX]
@[simp] theorem x_rev : evX (.rev a) Γ = (evX a Γ).bind fun (x, Γ) => (revD x.d).map fun r => (r, Γ) := by rw [evX]
@[simp] theorem x_bi (g : BF) : evX (.bi g es) Γ = (evs es Γ).bind fun (ds, Γ) => (biD g ds).map fun r => (r, Γ) := by rw [evX]
@[simp] theorem x_call : evX (.call f pm es) Γ = (evs es Γ).bind fun (ds, Γ) => if f.mt then none else (f.run (pm ds)).map fun (r, _) => (r, Γ) := by rw [evX]
@[simp] theorem x_callm : evX (.callm f i es) Γ = match Γ[i]? with
      | some (.ow _ _) => (evs es Γ).bind fun (ds, Γ) => match Γ[i]? with
        | some (.ow b c) => if f.mt then (f.run (.list c :: ds)).map fun (r, c') => (r, Γ.set i (.ow b c')) else none
        | _ => none
      | _ => none := by rw [evX] <;> rfl
@[simp] theorem x_callt : evX (.callt f e) Γ = (evX e Γ).bind fun (x, Γ) => match x with
      | .ow c => if f.mt then (f.run [.list c]).map fun (r, _) => (r, Γ) else none
      | _ => none := by rw [evX] <;> rfl
@[simp] theorem s_nil' : evs [] Γ = some ([], Γ) := by rw [evs]
@[simp] theorem s_cons' : evs (e :: es) Γ = (evX e Γ).bind fun (x, Γ) => (evs es Γ).map fun (ds, Γ) => (x.d :: ds, Γ) := by rw [evs]
@[simp] theorem rs_nil' : evRs [] Γ = some ([], Γ) := by rw [evRs]
@[simp] theorem rs_cons' : evRs (e :: es) Γ = (evX e Γ).bind fun (x, Γ) => (evRs es Γ).map fun (ds, Γ) => (x.low :: ds, Γ) := by rw [evRs]
@[simp] theorem i_nil : evIfs [] Γ = some (true, Γ) := by rw [evIfs]
@[simp] theorem i_cons : evIfs (e :: es) Γ = (evT e Γ).bind fun (c, Γ) => if c then evIfs es Γ else some (false, Γ) := by rw [evIfs]
@[simp] theorem t_and' : evT (.and a b) Γ = (evT a Γ).bind fun (c, Γ) => if c then evT b Γ else some (false, Γ) := by rw [evT]
@[simp] theorem t_or' : evT (.or a b) Γ = (evT a Γ).bind fun (c, Γ) => if c then some (true, Γ) else evT b Γ := by rw [evT]
@[simp] theorem t_not' : evT (.not a) Γ = (evT a Γ).map fun (c, Γ) => (!c, Γ) := by rw [evT]
@[simp] theorem t_cmp' (o : COp) : evT (.cmp o a b) Γ = (evX a Γ).bind fun (x, Γ) => (evX b Γ).bind fun (y, Γ) => (cmpD o x.d y.d).map fun r => (r, Γ) := by rw [evT]
@[simp] theorem t_chn' (o o' : COp) : evT (.chn o o' a b c) Γ = (evX a Γ).bind fun (x, Γ) => (evX b Γ).bind fun (y, Γ) => (cmpD o x.d y.d).bind fun r => if r then (evX c Γ).bind fun (z, Γ) => (cmpD o' y.d z.d).map fun r => (r, Γ) else some (false, Γ) := by rw [evT]
@[simp] theorem t_cst' (d : D) : evT (.cst d) Γ = (trD d).map fun c => (c, Γ) := by rw [evT]
@[simp] theorem t_var' : evT (.var i) Γ = (slotD i Γ).bind fun d => (trD d).map fun c => (c, Γ) := by rw [evT]
@[simp] theorem t_bi' (g : BF) : evT (.bi g es) Γ = (evs es Γ).bind fun (ds, Γ) => (biD g ds).bind fun r => (trD r.d).map fun c => (c, Γ) := by rw [evT]
@[simp] theorem t_call' : evT (.call f pm es) Γ = (evs es Γ).bind fun (ds, Γ) => if f.mt then none else (f.run (pm ds)).bind fun (r, _) => (trD r.d).map fun c => (c, Γ) := by rw [evT]
@[simp] theorem t_callm' : evT (.callm f i es) Γ = match Γ[i]? with
      | some (.ow _ _) => (evs es Γ).bind fun (ds, Γ) => match Γ[i]? with
        | some (.ow b c) => if f.mt then (f.run (.list c :: ds)).bind fun (r, c') => (trD r.d).map fun t => (t, Γ.set i (.ow b c')) else none
        | _ => none
      | _ => none := by rw [evT] <;> rfl
@[simp] theorem t_ix' : evT (.ix a b) Γ = (evX a Γ).bind fun (x, Γ) => (evX b Γ).bind fun (y, Γ) => (ixD x.d y.d).bind fun r => (trD r).map fun c => (c, Γ) := by rw [evT]
@[simp] theorem t_callt' : evT (.callt f e) Γ = (evX e Γ).bind fun (x, Γ) => match x with
      | .ow c => if f.mt then (f.run [.list c]).bind fun (r, _) => (trD r.d).map fun t => (t, Γ) else none
      | _ => none := by rw [evT] <;> rfl
@[simp] theorem b_nil' : evB [] Γ = some (.nx Γ) := by rw [evB]
@[simp] theorem b_cons' (s : IS) (ss : List IS) : evB (s :: ss) Γ = (evS s Γ).bind (onNext (evB ss)) := by rw [evB]
@[simp] theorem onNext_nx (k : Ga → Option Out) : onNext k (.nx Γ) = k Γ := Eq.trans (Eq.refl _) (Eq.refl _)
@[simp] theorem onNext_rt (k : Ga → Option Out) (r : RV) : onNext k (.rt r Γ) = some (.rt r Γ) := Eq.trans (Eq.refl _) (Eq.refl _)
@[simp] theorem onNext_bk (k : Ga → Option Out) : onNext k (.bk Γ) = some (.bk Γ) := Eq.trans (Eq.refl _) (Eq.refl _)
@[simp] theorem onNext_ct (k : Ga → Option Out) : onNext k (.ct Γ) = some (.ct Γ) := Eq.trans (Eq.refl _) (Eq.refl _)
@[simp] theorem onTurn_nx (k : Ga → Option Out) : onTurn k (.nx Γ) = k Γ := Eq.trans (Eq.refl _) (Eq.refl _)
@[simp] theorem onTurn_rt (k : Ga → Option Out) (r : RV) : onTurn k (.rt r Γ) = some (.rt r Γ) := Eq.trans (Eq.refl _) (Eq.refl _)
@[simp] theorem onTurn_bk (k : Ga → Option Out) : onTurn k (.bk Γ) = some (.nx Γ) := Eq.trans (Eq.refl _) (Eq.refl _)
@[simp] theorem onTurn_ct (k : Ga → Option Out) : onTurn k (.ct Γ) = k Γ := Eq.trans (Eq.refl _) (Eq.refl _)
@[simp] theorem v_set : evS (.set i e) Γ = (evX e Γ).bind fun (r, Γ) => if i < Γ.length then some (.nx (Γ.set i r.mv)) else none := by rw [evS]
@[simp] theorem v_asg (t : Tg) : evS (.asg t e) Γ = (evX e Γ).bind fun (r, Γ) => (asg t r.d Γ).map .nx := by rw [evS]
@[simp] theorem v_par (is : List Nat) : evS (.par is es) Γ = (evRs es Γ).bind fun (rs, Γ) => (putAll is rs Γ).map .nx := by rw [evS]
@[simp] theorem v_put : evS (.put i a e) Γ = (evX e Γ).bind fun (r, Γ) => if isOw i Γ then (evX a Γ).bind fun (x, Γ) => (putAt i x.d r.d Γ).map .nx else none := by rw [evS]
@[simp] theorem v_dip : evS (.dip i a j e) Γ = (evX e Γ).bind fun (r, Γ) => match r.d with
      | .tuple [x, y] => if isOw i Γ then (evX a Γ).bind fun (z, Γ) => (putAt i z.d x Γ).bind fun Γ => if j < Γ.length then some (.nx (Γ.set j (.fz y))) else none else none
      | _ => none := by rw [evS] <;> rfl
@[simp] theorem v_aug (o : BOp) : evS (.aug i o e) Γ = match Γ[i]? with
      | some (.fz d) => (evX e Γ).bind fun (r, Γ) => (augD o d r.d).map fun z => .nx (Γ.set i (.fz z))
      | _ => none := by rw [evS] <;> rfl
@[simp] theorem v_app : evS (.app i e) Γ = match Γ[i]? with
      | some (.ow _ _) => (evX e Γ).bind fun (r, Γ) => match Γ[i]? with
        | some (.ow b ds) => if ds.length < lim then some (.nx (Γ.set i (.ow b (ds ++ [r.d])))) else none
        | _ => none
      | _ => none := by rw [evS] <;> rfl
@[simp] theorem v_popS : evS (.popS i) Γ = match Γ[i]? with
      | some (.ow b ds) => if ds = [] then none else some (.nx (Γ.set i (.ow b ds.dropLast)))
      | _ => none := by rw [evS] <;> rfl
@[simp] theorem v_ife (p q : List IS) : evS (.ife c p q) Γ = (evT c Γ).bind fun (t, Γ) => if t then evB p Γ else evB q Γ := by rw [evS]
@[simp] theorem v_ret : evS (.ret e) Γ = (evX e Γ).map fun (r, Γ) => .rt r Γ := by rw [evS]
@[simp] theorem v_retn : evS .retn Γ = some (.rt (.fz .none) Γ) := by rw [evS]
@[simp] theorem v_exp : evS (.exp e) Γ = (evX e Γ).map fun (_, Γ) => .nx Γ := by rw [evS]
@[simp] theorem v_brk : evS .brk Γ = some (.bk Γ) := by rw [evS]
@[simp] theorem v_cnt : evS .cnt Γ = some (.ct Γ) := by rw [evS]
@[simp] theorem v_pss : evS .pss Γ = some (.nx Γ) := by rw [evS]
theorem v_whl (p : List IS) : evS (.whl c p) Γ = evW (evT c) (evB p) WF Γ := by rw [evS]
theorem v_fr (t : Tg) (k : IK) (p : List IS) : evS (.fr t k es p) Γ = (evs es Γ).bind fun (ds, Γ) => (itD k ds).bind fun xs => evF t (evB p) xs Γ := by rw [evS]
theorem x_lc (vs : List Nat) (t : Tg) (k : IK) : evX (.lc vs t k es fs e) Γ = (evs es Γ).bind fun (ds, Γ1) => (itD k ds).bind fun xs =>
      if xs.length ≤ lim then
        (lcLoop (fun x Γ => (asg t x (wipeG Γ vs)).bind fun Γ2 => (evIfs fs Γ2).bind fun (c, Γ3) =>
          if c then (evX e Γ3).map fun (y, Γ4) => (some y.d, Γ4) else some (none, Γ3)) xs (wipeG Γ1 vs)).map fun (ys, Γ5) => (.ow ys, backG Γ1 Γ5 vs)
      else none := by rw [evX]
@[simp] theorem rv_fz (d : D) : (RV.fz d).d = d := rfl
@[simp] theorem rv_ow (ds : List D) : (RV.ow ds).d = .list ds := rfl
@[simp] theorem rv_oo (rss : List (List D)) : (RV.oo rss).d = .list (rss.map .list) := rfl
@[simp] theorem rm_oo (rss : List (List D)) : (RV.oo rss).mv = .oo rss := rfl
@[simp] theorem rl_fz (d : D) : (RV.fz d).low = .fz d := rfl
@[simp] theorem rl_ow (ds : List D) : (RV.ow ds).low = .ow ds := rfl
@[simp] theorem ro_ow (ds : List D) : (RV.ow ds).own = some ds := rfl
@[simp] theorem x_ixo : evX (.ixo n a b) Γ = if isOo n Γ then (evX a Γ).bind fun (x, Γ) => (rowO n x.d Γ).bind fun _ => (evX b Γ).bind fun (y, Γ) => (getO n x.d y.d Γ).map fun r => (.fz r, Γ) else none := by rw [evX]
@[simp] theorem x_leno : evX (.leno n) Γ = match Γ[n]? with
      | some (.oo rss) => some (.fz (.int rss.length), Γ)
      | _ => none := by rw [evX] <;> rfl
@[simp] theorem s_puto {ix jx : IE} : evS (.puto n ix jx e) Γ = (evX e Γ).bind fun (r, Γ) => if isOo n Γ then (evX ix Γ).bind fun (x, Γ) => (rowO n x.d Γ).bind fun _ => (evX jx Γ).bind fun (y, Γ) => (putO n x.d y.d r.d Γ).map .nx else none := by rw [evS]
@[simp] theorem s_reto : evS (.reto n) Γ = match Γ[n]? with
      | some (.oo rss) => some (.rt (.oo rss) (Γ.set n .un))
      | _ => (getV n Γ).map fun (d, Γ) => .rt (.fz d) Γ := by rw [evS] <;> rfl
@[simp] theorem rm_fz (d : D) : (RV.fz d).mv = .fz d := rfl
@[simp] theorem rm_ow (ds : List D) : (RV.ow ds).mv = .ow false ds := rfl
end
@[simp] theorem e_rt0 (r : RV) (Γ : Ga) : outM false (.rt r Γ) = some (r, []) := rfl
@[simp] theorem e_nx0 (Γ : Ga) : outM false (.nx Γ) = some (.fz .none, []) := rfl
@[simp] theorem e_rt1 (r : RV) (c : List D) (Γ : Ga) : outM true (.rt r (.ow true c :: Γ)) = some (r, c) := rfl
@[simp] theorem e_nx1 (c : List D) (Γ : Ga) : outM true (.nx (.ow true c :: Γ)) = some (.fz .none, c) := rfl
/-! ### operations on known kinds -/
section
variable (i j k : Int) (x y : Str) (xs ys : List D) (p q : Bool) (d e : D)
@[simp] theorem d_add : binD .add (.int i) (.int j) = some (.fz (.int (i + j))) := rfl
@[simp] theorem d_sub : binD .sub (.int i) (.int j) = some (.fz (.int (i - j))) := rfl
@[simp] theorem d_subB : binD .sub (.bool p) (.bool q) = some (.fz (.int ((if p then 1 else 0) - (if q then 1 else 0)))) := rfl
@[simp] theorem d_mul {i j : Int} (h : mulOk i j = true) : binD .mul (.int i) (.int j) = some (.fz (.int (i * j))) := if_pos h
@[simp] theorem d_fdiv {i j : Int} (h : divOk i j = true) : binD .fdiv (.int i) (.int j) = some (.fz (.int (i.fdiv j))) := if_pos h
@[simp] theorem d_mod {i j : Int} (h : j ≠ 0) : binD .mod (.int i) (.int j) = some (.fz (.int (i.fmod j))) := if_pos h
@[simp] theorem d_pow {i j : Int} (h : 0 ≤ j ∧ j ≤ 1000 ∧ i.natAbs < 2 ^ 64) : binD .pow (.int i) (.int j) = some (.fz (.int (i ^ j.toNat))) := if_pos h
@[simp] theorem lim_eq : lim = 1000000 := rfl
@[simp] theorem d_catL : binD .add (.list xs) (.list ys) = if xs.length + ys.length ≤ lim then some (.ow (xs ++ ys)) else none := rfl
@[simp] theorem d_catT : binD .add (.tuple xs) (.tuple ys) = if xs.length + ys.length ≤ lim then some (.fz (.tuple (xs ++ ys))) else none := rfl
@[simp] theorem d_repL : binD .mul (.list xs) (.int k) = if k ≤ 100000 ∧ -100000 ≤ k ∧ xs.length * k.toNat ≤ lim then some (.ow (List.replicate k.toNat xs).flatten) else none := rfl
@[simp] theorem d_repT : binD .mul (.tuple xs) (.int k) = if k ≤ 1000 ∧ -1000 ≤ k ∧ xs.length ≤ 1000 then some (.fz (.tuple (List.replicate k.toNat xs).flatten)) else none := rfl
@[simp] theorem c_lt : cmpD .lt (.int i) (.int j) = some (decide (i < j)) := rfl
@[simp] theorem c_le : cmpD .le (.int i) (.int j) = some (decide (i ≤ j)) := rfl
@[simp] theorem c_gt : cmpD .gt (.int i) (.int j) = some (decide (j < i)) := rfl
@[simp] theorem c_ge : cmpD .ge (.int i) (.int j) = some (decide (j ≤ i)) := rfl
@[simp] theorem c_eq : cmpD .eq d e = eqD d e := rfl
@[simp] theorem c_ne : cmpD .ne d e = (eqD d e).map fun b => !b := rfl
@[simp] theorem c_isN : cmpD .is .none .none = some true := rfl
@[simp] theorem c_isnN : cmpD .isn .none .none = some false := rfl
@[simp] theorem eq_int : eqD (.int i) (.int j) = some (decide (i = j)) := by
  show some (PyData.eqv (.int i) (.int j)) = _
  simp [PyData.eqv]
  rw [Bool.eq_iff_iff]; simp
@[simp] theorem eq_str : eqD (.str x) (.str y) = some (decide (x = y)) := rfl
@[simp] theorem eq_bool : eqD (.bool p) (.bool q) = some (decide (p = q)) := by
  show some (PyData.eqv (.bool p) (.bool q)) = _
  simp [PyData.eqv]; cases p <;> cases q <;> rfl
/-- equal data of a plain kind -/
theorem eq_shaped {d e : D} (h : SeqAt.shaped d = true) (g : SeqAt.shaped e = true) (n : (∀ x, d ≠ .str x) ∨ ∀ x, e ≠ .str x) : eqD d e = some (PyData.eqv d e) := by
  unfold eqD
  split
  · rcases n with n | n <;> exact absurd rfl (n _)
  · rw [h, g]; rfl
@[simp] theorem tr_none : trD .none = some false := rfl
@[simp] theorem tr_bool : trD (.bool p) = some p := rfl
@[simp] theorem tr_int : trD (.int i) = some (i != 0) := rfl
@[simp] theorem tr_list : trD (.list xs) = some (!xs.isEmpty) := rfl
@[simp] theorem tr_tuple : trD (.tuple xs) = some (!xs.isEmpty) := rfl
@[simp] theorem ix_list' : ixD (.list xs) (.int i) = L2.atI xs i := rfl
@[simp] theorem ix_tuple' : ixD (.tuple xs) (.int i) = L2.atI xs i := rfl
@[simp] theorem at_0' (a : D) (as : List D) : L2.atI (a :: as) 0 = some a := by
  have : (0 : Int) < (as.length : Int) + 1 := by omega
  simp [L2.atI, L2.ixN, this]
@[simp] theorem at_1' (a b : D) (as : List D) : L2.atI (a :: b :: as) 1 = some b := by
  have : (1 : Int) < (as.length : Int) + 1 + 1 := by omega
  simp [L2.atI, L2.ixN, this]
@[simp] theorem at_2' (a b c : D) (as : List D) : L2.atI (a :: b :: c :: as) 2 = some c := by
  have : (2 : Int) < (as.length : Int) + 1 + 1 + 1 := by omega
  simp [L2.atI, L2.ixN, this]
@[simp] theorem o_f : optI false d = some none := rfl
@[simp] theorem o_t : optI true (.int i) = some (some i) := rfl
@[simp] theorem sl_l (l h : Option Int) : slcD (.list xs) l h = some (.ow (cutD xs l h)) := rfl
@[simp] theorem sl_t (l h : Option Int) : slcD (.tuple xs) l h = some (.fz (.tuple (cutD xs l h))) := rfl
@[simp] theorem rev_l : revD (.list xs) = some (.ow xs.reverse) := rfl
@[simp] theorem rev_t : revD (.tuple xs) = some (.fz (.tuple xs.reverse)) := rfl
@[simp] theorem b_lenL : biD .len [.list xs] = some (.fz (.int xs.length)) := rfl
@[simp] theorem b_lenT : biD .len [.tuple xs] = some (.fz (.int xs.length)) := rfl
@[simp] theorem b_abs : biD .abs [.int i] = some (.fz (.int (if i < 0 then -i else i))) := rfl
@[simp] theorem b_int : biD .int [.int i] = some (.fz (.int i)) := rfl
@[simp] theorem b_intB : biD .int [.bool p] = some (.fz (.int (if p then 1 else 0))) := rfl
@[simp] theorem b_repr {d : D} (h : reprOk d = true) : biD .repr [d] = some (.fz (.str d.shown)) := if_pos h
@[simp] theorem b_divmod {i j : Int} (h : 0 < j ∧ j < 1073741824) : biD .divmod [.int i, .int j] = some (.fz (.tuple [.int (i / j), .int (i % j)])) := if_pos h
@[simp] theorem b_max : biD .max2 [.int i, .int j] = some (.fz (.int (if j > i then j else i))) := rfl
@[simp] theorem b_min : biD .min2 [.int i, .int j] = some (.fz (.int (if j < i then j else i))) := rfl
@[simp] theorem b_tupL : biD .tuple [.list xs] = some (.fz (.tuple xs)) := rfl
@[simp] theorem b_tupT : biD .tuple [.tuple xs] = some (.fz (.tuple xs)) := rfl
@[simp] theorem b_lstL : biD .list [.list xs] = some (.ow xs) := rfl
@[simp] theorem b_lstT : biD .list [.tuple xs] = some (.ow xs) := rfl
@[simp] theorem b_gcd : biD .gcd [.int i, .int j] = some (.fz (.int (Int.gcd i j))) := rfl
@[simp] theorem b_all : biD .all [.list xs] = (allD xs).map fun b => .fz (.bool b) := rfl
@[simp] theorem b_any : biD .any [.list xs] = (anyD xs).map fun b => .fz (.bool b) := rfl
@[simp] theorem b_cnt : biD .cnt [.list xs, .int k] = (intsD xs).map fun ns => .fz (.int (ns.count k : Nat)) := rfl
@[simp] theorem b_sum : biD .sum [.list xs] = (sumD xs).map fun i => .fz (.int i) := rfl
@[simp] theorem b_isint : biD .isint [d] = some (.fz (.bool (isD .isint d))) := rfl
@[simp] theorem b_isbool : biD .isbool [d] = some (.fz (.bool (isD .isbool d))) := rfl
@[simp] theorem b_istuple : biD .istuple [d] = some (.fz (.bool (isD .istuple d))) := rfl
@[simp] theorem b_islist : biD .islist [d] = some (.fz (.bool (isD .islist d))) := rfl
@[simp] theorem b_isstr : biD .isstr [d] = some (.fz (.bool (isD .isstr d))) := rfl
@[simp] theorem it_seqL : itD .seq [.list xs] = some xs := rfl
@[simp] theorem it_seqT : itD .seq [.tuple xs] = some xs := rfl
@[simp] theorem it_r1 {j : Int} (h : -1000000 ≤ j ∧ j ≤ 1000000) : itD .rng1 [.int j] = some (rngD 0 j) := if_pos (by simp [smallI, h])
@[simp] theorem it_r2 {i j : Int} (h : -1000000 ≤ i ∧ i ≤ 1000000) (g : -1000000 ≤ j ∧ j ≤ 1000000) : itD .rng2 [.int i, .int j] = some (rngD i j) := if_pos (by simp [smallI, h, g])
@[simp] theorem it_enL : itD .enum [.list xs] = some (xs.mapIdx fun k x => .tuple [.int k, x]) := rfl
@[simp] theorem it_enT : itD .enum [.tuple xs] = some (xs.mapIdx fun k x => .tuple [.int k, x]) := rfl
@[simp] theorem it_zL : itD .zip [.list xs, .list ys] = some ((xs.zip ys).map fun p => .tuple [p.1, p.2]) := rfl
@[simp] theorem it_zT : itD .zip [.tuple xs, .tuple ys] = some ((xs.zip ys).map fun p => .tuple [p.1, p.2]) := rfl
@[simp] theorem it_zTL : itD .zip [.tuple xs, .list ys] = some ((xs.zip ys).map fun p => .tuple [p.1, p.2]) := rfl
@[simp] theorem it_zLT : itD .zip [.list xs, .tuple ys] = some ((xs.zip ys).map fun p => .tuple [p.1, p.2]) := rfl
@[simp] theorem it_rvL : itD .rev [.list xs] = some xs.reverse := rfl
@[simp] theorem it_rvT : itD .rev [.tuple xs] = some xs.reverse := rfl
/-! ### slots -/
variable (Γ : Ga) (v : MV) (n : Nat)
@[simp] theorem gv_fz : getV 0 (.fz d :: Γ) = some (d, .fz d :: Γ) := rfl
@[simp] theorem gv_ow : getV 0 (.ow false xs :: Γ) = some (.list xs, .fz (.list xs) :: Γ) := rfl
@[simp] theorem gv_s : getV (n + 1) (v :: Γ) = (getV n Γ).map fun (d, Γ) => (d, v :: Γ) := by
  show (match (v :: Γ)[n + 1]? with
    | some (MV.fz d) => some (d, v :: Γ)
    | some (MV.ow false ds) => some (PyData.list ds, (v :: Γ).set (n + 1) (.fz (.list ds)))
    | some (MV.oo rss) => some (PyData.list (rss.map .list), (v :: Γ).set (n + 1) (.fz (.list (rss.map .list))))
    | _ => none) = Option.map _ (match Γ[n]? with
    | some (MV.fz d) => some (d, Γ)
    | some (MV.ow false ds) => some (PyData.list ds, Γ.set n (.fz (.list ds)))
    | some (MV.oo rss) => some (PyData.list (rss.map .list), Γ.set n (.fz (.list (rss.map .list))))
    | _ => none)
  rw [List.getElem?_cons_succ]
  cases h : Γ[n]? with
  | none => rfl
  | some m =>
    cases m with
    | un => rfl
    | fz d => rfl
    | oo rss => rfl
    | hid ds => rfl
    | ow b ds => cases b <;> rfl
@[simp] theorem gv_oo (rss : List (List D)) : getV 0 (.oo rss :: Γ) = some (.list (rss.map .list), .fz (.list (rss.map .list)) :: Γ) := rfl
@[simp] theorem ioo_0 (rss : List (List D)) : isOo 0 (.oo rss :: Γ) = true := rfl
@[simp] theorem ioo_s : isOo (n + 1) (v :: Γ) = isOo n Γ := by simp [isOo]
@[simp] theorem rowo_0 (rss : List (List D)) (k : Int) : rowO 0 (.int k) (.oo rss :: Γ) = L2.atI rss k := rfl
@[simp] theorem rowo_s (a : D) : rowO (n + 1) a (v :: Γ) = rowO n a Γ := by unfold rowO; rw [List.getElem?_cons_succ]
@[simp] theorem go_0 (rss : List (List D)) (k j : Int) : getO 0 (.int k) (.int j) (.oo rss :: Γ) = (L2.atI rss k).bind fun rs => L2.atI rs j := rfl
@[simp] theorem go_s (a b : D) : getO (n + 1) a b (v :: Γ) = getO n a b Γ := by unfold getO; rw [List.getElem?_cons_succ]
@[simp] theorem po_0 (rss : List (List D)) (k l : Int) : putO 0 (.int k) (.int l) d (.oo rss :: Γ) = (L2.ixN rss.length k).bind fun m => (rss[m]?).bind fun rs => (L2.ixN rs.length l).map fun j => .oo (rss.set m (rs.set j d)) :: Γ := by simp [putO]
@[simp] theorem po_s (a b : D) : putO (n + 1) a b d (v :: Γ) = (putO n a b d Γ).map fun Γ => v :: Γ := by
  show (match (v :: Γ)[n + 1]?, a, b with
    | some (.oo rss), .int k, .int l => (L2.ixN rss.length k).bind fun m => (rss[m]?).bind fun rs => (L2.ixN rs.length l).map fun j => (v :: Γ).set (n + 1) (.oo (rss.set m (rs.set j d)))
    | _, _, _ => none) = Option.map _ (match Γ[n]?, a, b with
    | some (.oo rss), .int k, .int l => (L2.ixN rss.length k).bind fun m => (rss[m]?).bind fun rs => (L2.ixN rs.length l).map fun j => Γ.set n (.oo (rss.set m (rs.set j d)))
    | _, _, _ => none)
  rw [List.getElem?_cons_succ]
  cases h : Γ[n]? with
  | none => rfl
  | some m =>
    cases m with
    | oo rss =>
      cases a with
      | int k =>
        cases b with
        | int l =>
          simp only
          cases L2.ixN rss.length k with
          | none => rfl
          | some m =>
            simp only [Option.bind_some]
            cases rss[m]? with
            | none => rfl
            | some rs => simp only [Option.bind_some, Option.map_map]; rfl
        | _ => rfl
      | _ => rfl
    | _ => rfl
@[simp] theorem sd_fz : slotD 0 (.fz d :: Γ) = some d := rfl
@[simp] theorem sd_ow (b : Bool) : slotD 0 (.ow b xs :: Γ) = some (.list xs) := rfl
@[simp] theorem sd_s : slotD (n + 1) (v :: Γ) = slotD n Γ := by simp [slotD]
@[simp] theorem io_ow (b : Bool) : isOw 0 (.ow b xs :: Γ) = true := rfl
@[simp] theorem io_s : isOw (n + 1) (v :: Γ) = isOw n Γ := by simp [isOw]
@[simp] theorem pt_ow (b : Bool) (k : Int) : putAt 0 (.int k) d (.ow b xs :: Γ) = (L2.ixN xs.length k).map fun j => .ow b (xs.set j d) :: Γ := by simp [putAt]
@[simp] theorem pt_s (k : D) : putAt (n + 1) k d (v :: Γ) = (putAt n k d Γ).map fun Γ => v :: Γ := by
  show (match (v :: Γ)[n + 1]?, k with
    | some (MV.ow b ds), .int k => (L2.ixN ds.length k).map fun j => (v :: Γ).set (n + 1) (.ow b (ds.set j d))
    | _, _ => none) = Option.map _ (match Γ[n]?, k with
    | some (MV.ow b ds), .int k => (L2.ixN ds.length k).map fun j => Γ.set n (.ow b (ds.set j d))
    | _, _ => none)
  rw [List.getElem?_cons_succ]
  cases h : Γ[n]? with
  | none => rfl
  | some m =>
    cases m with
    | ow b ds =>
      cases k with
      | int k => simp only [Option.map_map]; rfl
      | _ => rfl
    | _ => rfl
@[simp] theorem as_nm (h : n < Γ.length) : asg (.nm n) d Γ = some (Γ.set n (.fz d)) := by unfold asg; rw [if_pos h]
@[simp] theorem as_tp (ts : List Tg) : asg (.tp ts) (.tuple xs) Γ = asgs ts xs Γ := by rw [asg]
@[simp] theorem as_tl (ts : List Tg) : asg (.tp ts) (.list xs) Γ = asgs ts xs Γ := by rw [asg]
@[simp] theorem ass_nil : asgs [] [] Γ = some Γ := by rw [asgs]
@[simp] theorem ass_cons (t : Tg) (ts : List Tg) : asgs (t :: ts) (d :: xs) Γ = (asg t d Γ).bind fun Γ => asgs ts xs Γ := by rw [asgs]
@[simp] theorem pa_nil' : putAll [] [] Γ = some Γ := rfl
@[simp] theorem pa_cons' (r : RV) (rs : List RV) (is : List Nat) (h : n < Γ.length) : putAll (n :: is) (r :: rs) Γ = putAll is rs (Γ.set n r.mv) := by rw [putAll, if_pos h]
@[simp] theorem a_f : argM false xs = some (xs.map .fz) := rfl
@[simp] theorem a_t : argM true (.list xs :: ys) = some (.ow true xs :: ys.map .fz) := rfl
end
/-! ### a def run -/
theorem run0 {np n : Nat} {b : List IS} {ds : List D} (h : ds.length = np) : runB false np n b ds = (evB b (ds.map .fz ++ List.replicate (n - np) .un)).bind (outM false) := by unfold runB; rw [if_pos h]; rfl
theorem run1 {np n : Nat} {b : List IS} {c : List D} {ds : List D} (h : ds.length + 1 = np) : runB true np n b (.list c :: ds) = (evB b ((.ow true c :: ds.map .fz) ++ List.replicate (n - np) .un)).bind (outM true) := by unfold runB; rw [if_pos (by simpa using h)]; rfl
/-! ### fuel -/
theorem evW_up {c : Ga → Option (Bool × Ga)} {b : Ga → Option Out} {o : Out} : ∀ {n m : Nat} {Γ : Ga}, evW c b n Γ = some o → n ≤ m → evW c b m Γ = some o
  | 0, _, _, h, _ => by cases h
  | n + 1, 0, _, _, hm => absurd hm (by omega)
  | n + 1, m + 1, Γ, h, hm => by
    unfold evW at h ⊢
    obtain ⟨⟨t, Γ1⟩, e1, e2⟩ := bindS h
    rw [e1]
    simp only [Option.bind_some] at e2 ⊢
    cases t with
    | false => exact e2
    | true =>
      simp only [if_true] at e2 ⊢
      obtain ⟨o1, e3, e4⟩ := bindS e2
      rw [e3]
      simp only [Option.bind_some]
      cases o1 with
      | nx Γ2 => exact evW_up e4 (by omega)
      | ct Γ2 => exact evW_up e4 (by omega)
      | bk Γ2 => exact e4
      | rt r Γ2 => exact e4
end EvL

set_option Elab.async false
set_option linter.all false
set_option maxRecDepth 100000
namespace EvL
open PySem PySem.Spec PyProof.Rows
/-! ### the laws' own draws, first family -/
namespace F1
def dipI : List IS := [(.ife (.cmp .gt (.ixv 0 (.cst (.int (0)))) (.cst (.int (0)))) [(.dip 0 (.cst (.int (0))) 2 (.bi .divmod [(.ixv 0 (.cst (.int (0)))), (.var 1)])), (.ret (.var 2))] []), (.put 0 (.cst (.int (2))) (.bin .add (.ixv 0 (.cst (.int (2)))) (.cst (.int (1))))), (.set 3 (.bin .mod (.bi .int [(.bin .add (.bin .mul (.ixv 0 (.cst (.int (1)))) (.cst (.int (48271)))) (.bin .mul (.ixv 0 (.cst (.int (2)))) (.cst (.int (69621)))))]) (.cst (.int (2147483629))))), (.put 0 (.cst (.int (1))) (.bin .mod (.bi .int [(.bin .add (.bin .mul (.var 3) (.bin .add (.bin .fdiv (.var 3) (.cst (.int (4099)))) (.bin .mul (.cst (.int (3))) (.ixv 0 (.cst (.int (2))))))) (.cst (.int (16807))))]) (.cst (.int (2147483629))))), (.ret (.bin .mod (.bi .int [(.bin .fdiv (.ixv 0 (.cst (.int (1)))) (.cst (.int (257))))]) (.var 1)))]
def dip : FnD := ⟨true, runB true 2 4 dipI⟩
def oneOfI : List IS := [(.ret (.ixv 1 (.callm F1.dip 0 [(.lenv 1)])))]
def oneOf : FnD := ⟨true, runB true 2 2 oneOfI⟩
def gcdI : List IS := [(.par [0, 1] [(.bi .abs [(.var 0)]), (.bi .abs [(.var 1)])]), (.whl (.cmp .gt (.var 1) (.cst (.int (0)))) [(.par [0, 1] [(.var 1), (.bin .mod (.bi .int [(.var 0)]) (.var 1))])]), (.ret (.var 0))]
def gcd : FnD := ⟨false, runB false 2 2 gcdI⟩
def pailI : List IS := [(.set 2 (.ite (.cmp .lt (.var 1) (.lenv 0)) (.bi .int [(.ixv 0 (.var 1))]) (.bin .add (.bin .mul (.cst (.int (977))) (.var 1)) (.cst (.int (41)))))), (.set 3 (.bin .add (.cst (.int (51043))) (.bin .mul (.cst (.int (8009))) (.var 1)))), (.fr (.nm 4) .seq [(.slc false true (.var 0) (.cst .none) (.cst (.int (9))))] [(.set 3 (.bin .mod (.bi .int [(.bin .add (.bin .add (.bin .mul (.var 3) (.cst (.int (69069)))) (.bin .mul (.bin .mod (.bi .int [(.var 4)]) (.cst (.int (998244353)))) (.cst (.int (31))))) (.cst (.int (7))))]) (.cst (.int (2147483629)))))]), (.set 5 (.or (.cmp .lt (.var 2) (.cst (.int (0)))) (.cmp .ge (.var 2) (.bin .pow (.cst (.int (10))) (.cst (.int (15))))))), (.ret (.lst [(.ite (.var 5) (.bi .abs [(.var 2)]) (.cst (.int (0)))), (.bin .mod (.bi .int [(.bin .add (.bin .add (.bin .mul (.var 3) (.cst (.int (89)))) (.bin .mul (.bin .mod (.bi .int [(.var 2)]) (.cst (.int (998244353)))) (.cst (.int (20011))))) (.cst (.int (5))))]) (.cst (.int (2147483629)))), (.cst (.int (0)))]))]
def pail : FnD := ⟨false, runB false 2 6 pailI⟩
@[simp] theorem mt_dip : dip.mt = true := rfl
@[simp] theorem mt_oneOf : oneOf.mt = true := rfl
@[simp] theorem mt_gcd : gcd.mt = false := rfl
@[simp] theorem mt_pail : pail.mt = false := rfl
def Pail (c : Int) (l : List D) : Prop := ∃ p0 p1 p2 : Int, l = [.int p0, .int p1, .int p2] ∧ 0 ≤ p1 ∧ p1 < 2147483629 ∧ 0 ≤ p2 ∧ p2 ≤ c
theorem Pail.up {c d : Int} {l : List D} (h : Pail c l) (hd : c ≤ d) : Pail d l := by
  obtain ⟨p0, p1, p2, e, a, b, c, d⟩ := h
  exact ⟨p0, p1, p2, e, a, b, c, by omega⟩
@[simp] theorem ixN3_0 : L2.ixN 3 0 = some 0 := rfl
@[simp] theorem ixN3_1 : L2.ixN 3 1 = some 1 := rfl
@[simp] theorem ixN3_2 : L2.ixN 3 2 = some 2 := rfl
theorem dip_run {c m : Int} {l : List D} (h : Pail c l) (hc : c < 1000000) (h0 : 0 < m) (h1 : m < 1073741824) : ∃ f l', dip.run [.list l, .int m] = some (.fz (.int f), l') ∧ 0 ≤ f ∧ f < m ∧ Pail (c + 1) l' := by
  obtain ⟨p0, p1, p2, rfl, a1, a2, b1, b2⟩ := h
  by_cases hp : 0 < p0
  · refine ⟨p0 % m, [.int (p0 / m), .int p1, .int p2], ?_, Int.emod_nonneg _ (by omega), Int.emod_lt_of_pos _ h0, _, _, _, rfl, a1, a2, b1, by omega⟩
    simp [dip, runB, List.replicate, dipI, hp, h0, h1]
  · have m1 : mulOk p1 48271 = true := mulOk_of (a := 31) (b := 16) (Sz.of_lt (by omega) (by omega)) (Sz.lit (by decide)) (by decide)
    have m2 : mulOk (p2 + 1) 69621 = true := mulOk_of (a := 31) (b := 17) (Sz.of_lt (by omega) (by omega)) (Sz.lit (by decide)) (by decide)
    have m3 : mulOk 3 (p2 + 1) = true := mulOk_of (a := 2) (b := 31) (Sz.lit (by decide)) (Sz.of_lt (by omega) (by omega)) (by decide)
    let one := (p1 * 48271 + (p2 + 1) * 69621).fmod 2147483629
    have o1 : 0 ≤ one := Int.fmod_nonneg_of_pos _ (by decide)
    have o2 : one < 2147483629 := Int.fmod_lt_of_pos _ (by decide)
    have so : Sz 31 one := Sz.of_lt (by omega) (by omega)
    have m4 : mulOk one (one.fdiv 4099 + 3 * (p2 + 1)) = true := mulOk_of (a := 31) (b := 40) so ((((so.fdiv (by decide)).add ((Sz.lit (b := 2) (by decide)).mul (Sz.of_lt (b := 31) (i := p2 + 1) (by omega) (by omega)))).mono (by decide))) (by decide)
    have d1 : divOk one 4099 = true := divOk_of (b := 20) (Sz.lit (by decide)) (by decide) (by decide)
    let two := (one * (one.fdiv 4099 + 3 * (p2 + 1)) + 16807).fmod 2147483629
    have t1 : 0 ≤ two := Int.fmod_nonneg_of_pos _ (by decide)
    have t2 : two < 2147483629 := Int.fmod_lt_of_pos _ (by decide)
    have d2 : divOk two 257 = true := divOk_of (b := 20) (Sz.lit (by decide)) (by decide) (by decide)
    refine ⟨(two.fdiv 257).fmod m, [.int p0, .int two, .int (p2 + 1)], ?_, Int.fmod_nonneg_of_pos _ h0, Int.fmod_lt_of_pos _ h0, _, _, _, rfl, t1, t2, by omega, by omega⟩
    have hm : m ≠ 0 := by omega
    simp [dip, runB, List.replicate, dipI, hp, m1, m2, m3, m4, d1, d2, hm, one, two]
theorem gcd_step {a b : Int} (ha : 0 ≤ a) (hb : 0 ≤ b) : Int.gcd a b = Int.gcd b (a % b) := by
  obtain ⟨m, rfl⟩ := Int.eq_ofNat_of_zero_le ha
  obtain ⟨n, rfl⟩ := Int.eq_ofNat_of_zero_le hb
  rw [← Int.natCast_emod]
  show Nat.gcd m n = Nat.gcd n (m % n)
  rw [Nat.gcd_comm m n, Nat.gcd_rec n m, Nat.gcd_comm]
theorem evW_succ {c : Ga → Option (Bool × Ga)} {b : Ga → Option Out} {n : Nat} {Γ : Ga} : evW c b (n + 1) Γ = (c Γ).bind fun (t, Γ) => if t then (b Γ).bind (onTurn (evW c b n)) else some (.nx Γ) := rfl
theorem gcd_loop {n : Nat} : ∀ {a b : Int}, 0 ≤ a → 0 ≤ b → b < 2 ^ n → evW (evT (.cmp .gt (.var 1) (.cst (.int (0))))) (evB [(.par [0, 1] [(.var 1), (.bin .mod (.bi .int [(.var 0)]) (.var 1))])]) (2 * n + 1) [.fz (.int a), .fz (.int b)] =
    some (.nx [.fz (.int (Int.gcd a b)), .fz (.int 0)]) := by
  induction n with
  | zero =>
    intro a b ha hb h
    obtain rfl : b = 0 := by simp at h; omega
    have e : (a.natAbs : Int) = a := by omega
    simp [evW, e]
  | succ n ih =>
    intro a b ha hb h
    rw [show 2 * (n + 1) + 1 = (2 * n + 1) + 1 + 1 from by omega]
    by_cases h0 : b = 0
    · subst h0
      have e : (a.natAbs : Int) = a := by omega
      simp [evW, e]
    · have hb1 : 0 < b := by omega
      have f1 : a.fmod b = a % b := Int.fmod_eq_emod_of_nonneg a hb
      have r0 : 0 ≤ a % b := Int.emod_nonneg a h0
      have r1 : a % b < b := Int.emod_lt_of_pos a hb1
      have g1 : Int.gcd a b = Int.gcd b (a % b) := gcd_step ha hb
      rw [evW_succ]
      by_cases h2 : a % b = 0
      · have e : (b.natAbs : Int) = b := by omega
        have g2 : (Int.gcd a b : Int) = b := by rw [g1, h2]; simp [e]
        simp [hb1, h0, f1, h2, g2]
        rw [show 2 * n + 2 = (2 * n + 1) + 1 from rfl, evW_succ]
        simp
      · have hr1 : 0 < a % b := by omega
        have f2 : b.fmod (a % b) = b % (a % b) := Int.fmod_eq_emod_of_nonneg b r0
        have s0 : 0 ≤ b % (a % b) := Int.emod_nonneg b h2
        have s1 : b % (a % b) < a % b := Int.emod_lt_of_pos b hr1
        have s2 : b % (a % b) < 2 ^ n := by
          have := Int.mul_ediv_add_emod b (a % b)
          have q1 : 1 ≤ b / (a % b) := by
            rw [Int.le_ediv_iff_mul_le hr1]; omega
          have : (a % b) * 1 ≤ (a % b) * (b / (a % b)) := Int.mul_le_mul_of_nonneg_left q1 r0
          have e2 : (2 : Int) ^ (n + 1) = 2 ^ n * 2 := Int.pow_succ 2 n
          omega
        have g2 : Int.gcd b (a % b) = Int.gcd (a % b) (b % (a % b)) := gcd_step hb r0
        have q := ih (a := a % b) (b := b % (a % b)) r0 s0 s2
        rw [g1, g2]
        simp [hb1, h0, f1]
        rw [show 2 * n + 2 = (2 * n + 1) + 1 from rfl, evW_succ]
        simp [hr1, h2, f2]
        exact q
theorem gcd_run {n : Nat} {a b : Int} (h : Sz n b) (hn : n ≤ 100000000 := by omega) : gcd.run [.int a, .int b] = some (.fz (.int (Int.gcd a b)), []) := by
  have q := gcd_loop (n := n) (a := if a < 0 then -a else a) (b := if b < 0 then -b else b) (by split <;> omega) (by split <;> omega) (by
    have h1 : b.natAbs < 2 ^ n := h
    have h2 : ((b.natAbs : Nat) : Int) < ((2 ^ n : Nat) : Int) := Int.ofNat_lt.mpr h1
    rw [Int.natCast_pow] at h2
    have h3 : (if b < 0 then -b else b) = ((b.natAbs : Nat) : Int) := by split <;> omega
    rw [h3]
    exact h2)
  have q := evW_up (m := WF) q (by unfold WF; omega)
  have g : Int.gcd (if a < 0 then -a else a) (if b < 0 then -b else b) = Int.gcd a b := by
    split <;> split <;> simp
  rw [g] at q
  simp [gcd, runB, List.replicate, gcdI, v_whl, q]
/-! the script's cells -/
theorem pail_loop {s t c : MV} : ∀ {xs : List D} {m : Int} {e f : MV}, (∀ x ∈ xs, ∃ i, x = .int i) → 0 ≤ m → m < 2147483629 →
    ∃ (m' : Int) (e' : MV), 0 ≤ m' ∧ m' < 2147483629 ∧ evF (.nm 4) (evB [(.set 3 (.bin .mod (.bi .int [(.bin .add (.bin .add (.bin .mul (.var 3) (.cst (.int (69069)))) (.bin .mul (.bin .mod (.bi .int [(.var 4)]) (.cst (.int (998244353)))) (.cst (.int (31))))) (.cst (.int (7))))]) (.cst (.int (2147483629)))))]) xs [s, t, c, .fz (.int m), e, f] =
      some (.nx [s, t, c, .fz (.int m'), e', f])
  | [], m, e, f, _, h0, h1 => ⟨m, e, h0, h1, rfl⟩
  | x :: xs, m, e, f, hx, h0, h1 => by
    obtain ⟨i, rfl⟩ := hx x (List.mem_cons_self ..)
    have r0 : 0 ≤ i.fmod 998244353 := Int.fmod_nonneg_of_pos _ (by decide)
    have r1 : i.fmod 998244353 < 998244353 := Int.fmod_lt_of_pos _ (by decide)
    have m1 : mulOk m 69069 = true := mulOk_of (a := 31) (b := 17) (Sz.of_lt (by omega) (by omega)) (Sz.lit (by decide)) (by decide)
    have m2 : mulOk (i.fmod 998244353) 31 = true := mulOk_of (a := 31) (b := 17) (Sz.of_lt (by omega) (by omega)) (Sz.lit (by decide)) (by decide)
    obtain ⟨m', e', a0, a1, q⟩ := pail_loop (s := s) (t := t) (c := c) (xs := xs) (m := (m * 69069 + i.fmod 998244353 * 31 + 7).fmod 2147483629) (e := .fz (.int i)) (f := f) (fun y hy => hx y (List.mem_cons_of_mem _ hy)) (Int.fmod_nonneg_of_pos _ (by decide)) (Int.fmod_lt_of_pos _ (by decide))
    refine ⟨m', e', a0, a1, ?_⟩
    rw [evF]
    simp [m1, m2]
    exact q
theorem pail_run {ns : List Int} {t : Int} (h0 : 0 ≤ t) (h1 : t < 1000) (hl : ns.length < 100000) : ∃ l, pail.run [.list (ns.map .int), .int t] = some (.ow l, []) ∧ Pail 0 l := by
  have m1 : mulOk 977 t = true := mulOk_of (a := 10) (b := 10) (Sz.lit (by decide)) (Sz.of_lt (by omega) (by omega)) (by decide)
  have m2 : mulOk 8009 t = true := mulOk_of (a := 13) (b := 10) (Sz.lit (by decide)) (Sz.of_lt (by omega) (by omega)) (by decide)
  have cell : ∃ c : Int, (t < (ns.length : Int) ∧ L2.atI (ns.map PyData.int) t = some (.int c)) ∨ (¬ t < (ns.length : Int) ∧ 977 * t + 41 = c) := by
    by_cases hc : t < (ns.length : Int)
    · have hn : t.toNat < ns.length := by omega
      refine ⟨ns[t.toNat], .inl ⟨hc, ?_⟩⟩
      unfold L2.atI L2.ixN
      rw [List.length_map, if_pos h0, if_pos hc]
      show (ns.map PyData.int)[t.toNat]? = _
      rw [List.getElem?_map, List.getElem?_eq_getElem hn]; rfl
    · exact ⟨_, .inr ⟨hc, rfl⟩⟩
  obtain ⟨c, hc⟩ := cell
  have isI : ∀ x ∈ cutD (ns.map PyData.int) none (some 9), ∃ i, x = .int i := fun x hx => by
    have hx : x ∈ ns.map PyData.int := List.mem_of_mem_drop (List.mem_of_mem_take hx)
    obtain ⟨i, _, rfl⟩ := List.mem_map.mp hx
    exact ⟨i, rfl⟩
  obtain ⟨m', e', a0, a1, q⟩ := pail_loop (s := .fz (.list (ns.map .int))) (t := .fz (.int t)) (c := .fz (.int c)) (e := .un) (f := .un) (m := 51043 + 8009 * t) isI (by omega) (by omega)
  have r0 : 0 ≤ c.fmod 998244353 := Int.fmod_nonneg_of_pos _ (by decide)
  have r1 : c.fmod 998244353 < 998244353 := Int.fmod_lt_of_pos _ (by decide)
  have m3 : mulOk m' 89 = true := mulOk_of (a := 31) (b := 17) (Sz.of_lt (by omega) (by omega)) (Sz.lit (by decide)) (by decide)
  have m4 : mulOk (c.fmod 998244353) 20011 = true := mulOk_of (a := 31) (b := 17) (Sz.of_lt (by omega) (by omega)) (Sz.lit (by decide)) (by decide)
  refine ⟨[.int (if c < 0 ∨ 1000000000000000 ≤ c then (if c < 0 then -c else c) else 0), .int ((m' * 89 + c.fmod 998244353 * 20011 + 5).fmod 2147483629), .int 0], ?_, _, _, _, rfl, Int.fmod_nonneg_of_pos _ (by decide), Int.fmod_lt_of_pos _ (by decide), by decide, by decide⟩
  have p15 : ((10 : Int) ^ 15) = 1000000000000000 := by decide
  rcases hc with ⟨hc, he⟩ | ⟨hc, he⟩
  · by_cases k1 : c < 0
    · simp [pail, runB, List.replicate, pailI, hc, he, m2, v_fr, q, k1, m3, m4, p15]
    · by_cases k2 : 1000000000000000 ≤ c
      · simp [pail, runB, List.replicate, pailI, hc, he, m2, v_fr, q, k1, k2, m3, m4, p15]
      · simp [pail, runB, List.replicate, pailI, hc, he, m2, v_fr, q, k1, k2, m3, m4, p15]
  · by_cases k1 : c < 0
    · simp [pail, runB, List.replicate, pailI, hc, he, m1, m2, v_fr, q, k1, m3, m4, p15]
    · by_cases k2 : 1000000000000000 ≤ c
      · simp [pail, runB, List.replicate, pailI, hc, he, m1, m2, v_fr, q, k1, k2, m3, m4, p15]
      · simp [pail, runB, List.replicate, pailI, hc, he, m1, m2, v_fr, q, k1, k2, m3, m4, p15]
end F1
end EvL

set_option Elab.async false
set_option linter.all false
set_option maxRecDepth 100000
namespace EvL
open PySem PySem.Spec PyProof.Rows

/-! ### reduced fractions -/
def sg (n m : Int) : Int := if 0 < m then (Int.gcd n m : Int) else -(Int.gcd n m : Int)
/-- n/m in least terms -/
def fr (n m : Int) : Int × Int := (n.fdiv (sg n m), m.fdiv (sg n m))
theorem sg_ne {n m : Int} (h : m ≠ 0) : sg n m ≠ 0 := by
  have : (Int.gcd n m : Int) ≠ 0 := by
    intro z
    have z' : Int.gcd n m = 0 := by exact_mod_cast z
    exact h (Int.gcd_eq_zero_iff.mp z').2
  unfold sg
  split <;> omega
theorem sg_dvd (n m : Int) : sg n m ∣ n ∧ sg n m ∣ m := by
  unfold sg
  split
  · exact ⟨Int.gcd_dvd_left .., Int.gcd_dvd_right ..⟩
  · exact ⟨Int.neg_dvd.mpr (Int.gcd_dvd_left ..), Int.neg_dvd.mpr (Int.gcd_dvd_right ..)⟩
theorem fr_mul (n m : Int) (h : m ≠ 0) : n = sg n m * (fr n m).1 ∧ m = sg n m * (fr n m).2 := by
  obtain ⟨⟨a, ha⟩, ⟨b, hb⟩⟩ := sg_dvd n m
  have h0 := sg_ne (n := n) h
  have e : ∀ {x c : Int}, x = sg n m * c → x = sg n m * x.fdiv (sg n m) := fun {x c} e => by
    have : x.fdiv (sg n m) = c := by
      conv => lhs; rw [e]
      exact Int.mul_fdiv_cancel_left _ h0
    rw [this]; exact e
  exact ⟨e ha, e hb⟩
theorem fr_pos {n m : Int} (h : m ≠ 0) : 0 < (fr n m).2 := by
  have e := (fr_mul n m h).2
  have h0 := sg_ne (n := n) h
  generalize (fr n m).2 = q at e
  have gp : 0 ≤ (Int.gcd n m : Int) := Int.natCast_nonneg _
  by_cases hm : 0 < m
  · have hs : 0 < sg n m := by have : sg n m = _ := if_pos hm; omega
    exact Int.pos_of_mul_pos_right (by omega) hs
  · have hs : sg n m < 0 := by have : sg n m = _ := if_neg hm; omega
    have h1 : 0 < (-sg n m) * q := by
      have : (-sg n m) * q = -(sg n m * q) := Int.neg_mul ..
      omega
    exact Int.pos_of_mul_pos_right h1 (by omega)
theorem fr_cop {n m : Int} (h : m ≠ 0) : Int.gcd (fr n m).1 (fr n m).2 = 1 := by
  obtain ⟨e1, e2⟩ := fr_mul n m h
  have h0 := sg_ne (n := n) h
  have hs : (sg n m).natAbs = Int.gcd n m := by unfold sg; split <;> simp
  have h1 : Int.gcd n m = (sg n m).natAbs * Int.gcd (fr n m).1 (fr n m).2 := by
    have := Int.gcd_mul_left (sg n m) (fr n m).1 (fr n m).2
    rw [← e1, ← e2] at this
    exact this
  rw [hs] at h1
  have h2 : 0 < Int.gcd n m := by
    rw [← hs]; omega
  have h3 : Int.gcd n m * 1 = Int.gcd n m * Int.gcd (fr n m).1 (fr n m).2 := by omega
  exact (Nat.eq_of_mul_eq_mul_left h2 h3).symm
theorem fr_cross {n m : Int} (h : m ≠ 0) : n * (fr n m).2 = (fr n m).1 * m := by
  obtain ⟨e1, e2⟩ := fr_mul n m h
  generalize (fr n m).1 = p at *
  generalize (fr n m).2 = q at *
  generalize sg n m = s at *
  subst e1; subst e2
  grind
theorem cop_dvd {q s p : Int} (h : q ∣ s * p) (g : Int.gcd q p = 1) : q ∣ s := by
  have h1 : q.natAbs ∣ s.natAbs * p.natAbs := by rw [← Int.natAbs_mul]; exact Int.natAbs_dvd_natAbs.mpr h
  exact Int.natAbs_dvd_natAbs.mp ((show Nat.Coprime q.natAbs p.natAbs from g).dvd_of_dvd_mul_right h1)
theorem cop_uniq {p q r s : Int} (hq : 0 < q) (hs : 0 < s) (h1 : Int.gcd p q = 1) (h2 : Int.gcd r s = 1) (h : p * s = r * q) : p = r ∧ q = s := by
  have d1 : q ∣ s := by
    have : q ∣ s * p := ⟨r, by rw [Int.mul_comm, h, Int.mul_comm]⟩
    exact cop_dvd this (by rw [Int.gcd_comm]; exact h1)
  have d2 : s ∣ q := by
    have : s ∣ q * r := ⟨p, by rw [Int.mul_comm, ← h, Int.mul_comm]⟩
    exact cop_dvd this (by rw [Int.gcd_comm]; exact h2)
  have e : q = s := Int.dvd_antisymm (by omega) (by omega) d1 d2
  subst e
  exact ⟨Int.eq_of_mul_eq_mul_right (by omega) h, rfl⟩
theorem fr_sz {a b : Nat} {n m : Int} (h : m ≠ 0) (h1 : Sz a n) (h2 : Sz b m) : Sz a (fr n m).1 ∧ Sz b (fr n m).2 := by
  obtain ⟨e1, e2⟩ := fr_mul n m h
  have h0 := sg_ne (n := n) h
  have key : ∀ {x c : Int} {k : Nat}, x = sg n m * c → Sz k x → Sz k c := fun {x c k} e hx => by
    unfold Sz at *
    rw [e, Int.natAbs_mul] at hx
    exact Nat.lt_of_le_of_lt (Nat.le_mul_of_pos_left _ (by omega)) hx
  exact ⟨key e1 h1, key e2 h2⟩
/-- a fraction in least terms -/
def Fr (x : Int × Int) : Prop := 0 < x.2 ∧ Int.gcd x.1 x.2 = 1
theorem Fr.fr {n m : Int} (h : m ≠ 0) : Fr (fr n m) := ⟨fr_pos h, fr_cop h⟩
def fD (x : Int × Int) : D := .tuple [.int x.1, .int x.2]
end EvL

set_option Elab.async false
set_option linter.all false
set_option maxRecDepth 100000
namespace EvL
/-! ### numbers a + b i with rational parts -/
@[ext] structure GQ where
  re : Rat
  im : Rat
  deriving DecidableEq
namespace GQ
def ofR (r : Rat) : GQ := ⟨r, 0⟩
instance : Add GQ := ⟨fun x y => ⟨x.re + y.re, x.im + y.im⟩⟩
instance : Sub GQ := ⟨fun x y => ⟨x.re - y.re, x.im - y.im⟩⟩
instance : Mul GQ := ⟨fun x y => ⟨x.re * y.re - x.im * y.im, x.re * y.im + x.im * y.re⟩⟩
instance : Neg GQ := ⟨fun x => ⟨-x.re, -x.im⟩⟩
def bent (x : GQ) : GQ := ⟨x.re, -x.im⟩
def size (x : GQ) : Rat := x.re * x.re + x.im * x.im
instance : Inv GQ := ⟨fun x => ⟨x.re / x.size, -x.im / x.size⟩⟩
instance : Div GQ := ⟨fun x y => x * y⁻¹⟩
instance : NatCast GQ := ⟨fun n => ⟨(n : Rat), 0⟩⟩
instance : IntCast GQ := ⟨fun n => ⟨(n : Rat), 0⟩⟩
instance (n : Nat) : OfNat GQ n := ⟨⟨(n : Rat), 0⟩⟩
instance : SMul Nat GQ := ⟨fun n x => (n : GQ) * x⟩
instance : SMul Int GQ := ⟨fun n x => (n : GQ) * x⟩
def npow (x : GQ) : Nat → GQ
  | 0 => 1
  | n + 1 => npow x n * x
instance : HPow GQ Nat GQ := ⟨npow⟩
def zpow (x : GQ) : Int → GQ
  | .ofNat n => npow x n
  | .negSucc n => (npow x (n + 1))⁻¹
instance : HPow GQ Int GQ := ⟨zpow⟩
@[simp] theorem add_re (x y : GQ) : (x + y).re = x.re + y.re := rfl
@[simp] theorem add_im (x y : GQ) : (x + y).im = x.im + y.im := rfl
@[simp] theorem sub_re (x y : GQ) : (x - y).re = x.re - y.re := rfl
@[simp] theorem sub_im (x y : GQ) : (x - y).im = x.im - y.im := rfl
@[simp] theorem mul_re (x y : GQ) : (x * y).re = x.re * y.re - x.im * y.im := rfl
@[simp] theorem mul_im (x y : GQ) : (x * y).im = x.re * y.im + x.im * y.re := rfl
@[simp] theorem neg_re (x : GQ) : (-x).re = -x.re := rfl
@[simp] theorem neg_im (x : GQ) : (-x).im = -x.im := rfl
@[simp] theorem inv_re (x : GQ) : (x⁻¹).re = x.re / x.size := rfl
@[simp] theorem inv_im (x : GQ) : (x⁻¹).im = -x.im / x.size := rfl
@[simp] theorem bent_re (x : GQ) : x.bent.re = x.re := rfl
@[simp] theorem bent_im (x : GQ) : x.bent.im = -x.im := rfl
@[simp] theorem ofR_re (r : Rat) : (ofR r).re = r := rfl
@[simp] theorem ofR_im (r : Rat) : (ofR r).im = 0 := rfl
@[simp] theorem ofNat_re (n : Nat) : (OfNat.ofNat n : GQ).re = (n : Rat) := rfl
@[simp] theorem ofNat_im (n : Nat) : (OfNat.ofNat n : GQ).im = 0 := rfl
@[simp] theorem zero_re : (0 : GQ).re = 0 := rfl
@[simp] theorem zero_im : (0 : GQ).im = 0 := rfl
@[simp] theorem one_re : (1 : GQ).re = 1 := rfl
@[simp] theorem one_im : (1 : GQ).im = 0 := rfl
@[simp] theorem natCast_re (n : Nat) : (n : GQ).re = (n : Rat) := rfl
@[simp] theorem natCast_im (n : Nat) : (n : GQ).im = 0 := rfl
@[simp] theorem intCast_re (n : Int) : (n : GQ).re = (n : Rat) := rfl
@[simp] theorem intCast_im (n : Int) : (n : GQ).im = 0 := rfl
theorem div_def (x y : GQ) : x / y = x * y⁻¹ := rfl
theorem sq_nonneg (a : Rat) : 0 ≤ a * a := by
  rcases (Rat.le_total (a := 0) (b := a)) with h | h
  · exact Rat.mul_nonneg h h
  · have : 0 ≤ (-a) * (-a) := Rat.mul_nonneg (by grind) (by grind)
    grind
theorem size_nonneg (x : GQ) : 0 ≤ x.size := by
  have h1 := sq_nonneg x.re
  have h2 := sq_nonneg x.im
  unfold size; grind
theorem size_eq_zero {x : GQ} : x.size = 0 ↔ x = 0 := by
  constructor
  · intro h
    have h1 := sq_nonneg x.re
    have h2 := sq_nonneg x.im
    unfold size at h
    have h3 : x.re * x.re = 0 := by grind
    have h4 : x.im * x.im = 0 := by grind
    have z : ∀ a : Rat, a * a = 0 → a = 0 := fun a h => by
      rcases Rat.mul_eq_zero.mp h with h | h <;> exact h
    exact GQ.ext (z _ h3) (z _ h4)
  · rintro rfl; simp [size]; grind
theorem size_ne {x : GQ} (h : x ≠ 0) : x.size ≠ 0 := fun z => h (size_eq_zero.mp z)
instance : Lean.Grind.CommRing GQ where
  nsmul := inferInstance
  npow := inferInstance
  zsmul := inferInstance
  ofNat := inferInstance
  natCast := inferInstance
  intCast := inferInstance
  add_zero a := by ext <;> simp <;> grind
  add_comm a b := by ext <;> simp <;> grind
  add_assoc a b c := by ext <;> simp <;> grind
  mul_assoc a b c := by ext <;> simp <;> grind
  mul_one a := by ext <;> simp <;> grind
  one_mul a := by ext <;> simp <;> grind
  right_distrib a b c := by ext <;> simp <;> grind
  mul_zero a := by ext <;> simp <;> grind
  left_distrib a b c := by ext <;> simp <;> grind
  zero_mul a := by ext <;> simp <;> grind
  pow_zero a := rfl
  pow_succ a n := rfl
  ofNat_succ n := by
    refine GQ.ext ?_ ?_
    · show ((n + 1 : Nat) : Rat) = (n : Rat) + 1
      exact Rat.natCast_add ..
    · show (0 : Rat) = 0 + 0
      grind
  ofNat_eq_natCast n := rfl
  nsmul_eq_natCast_mul n a := rfl
  neg_add_cancel a := by ext <;> simp <;> grind
  sub_eq_add_neg a b := by ext <;> simp <;> grind
  neg_zsmul i a := by
    show ((-i : Int) : GQ) * a = -((i : GQ) * a)
    ext <;> simp [Rat.intCast_neg] <;> grind
  zsmul_natCast_eq_nsmul n a := by
    show ((n : Int) : GQ) * a = (n : GQ) * a
    rfl
  intCast_ofNat n := by
    refine GQ.ext ?_ rfl
    show ((OfNat.ofNat n : Int) : Rat) = (n : Rat)
    exact Rat.intCast_natCast n
  intCast_neg i := by
    refine GQ.ext ?_ ?_
    · exact Rat.intCast_neg i
    · show (0 : Rat) = -0
      simp
  mul_comm a b := by ext <;> simp <;> grind
theorem mul_inv_cancel' {a : GQ} (h : a ≠ 0) : a * a⁻¹ = 1 := by
  have hs := size_ne h
  have e : a.size = a.re * a.re + a.im * a.im := rfl
  ext <;> simp <;> grind
theorem inv0 : (0 : GQ)⁻¹ = 0 := by
  ext <;> simp [size] <;> grind
theorem inv1 : (1 : GQ)⁻¹ = 1 := by
  ext <;> simp [size] <;> grind
instance : Lean.Grind.Field GQ where
  zpow := inferInstance
  div_eq_mul_inv a b := rfl
  zero_ne_one := fun h => by
    have := congrArg GQ.re h
    revert this; decide
  inv_zero := inv0
  mul_inv_cancel := mul_inv_cancel'
  zpow_zero a := rfl
  zpow_succ a n := rfl
  zpow_neg a n := by
    show zpow a (-n) = (zpow a n)⁻¹
    have ii : ∀ x : GQ, x⁻¹⁻¹ = x := fun x => by
      by_cases h : x = 0
      · subst h; rw [inv0, inv0]
      · have h1 := mul_inv_cancel' h
        have h0 : x⁻¹ ≠ 0 := fun z => by
          rw [z] at h1
          have := congrArg GQ.re h1
          simp at this
          grind
        have h2 := mul_inv_cancel' h0
        grind
    match n with
    | .ofNat 0 => exact inv1.symm
    | .ofNat (n + 1) => rfl
    | .negSucc n => exact (ii _).symm
instance : Lean.Grind.IsCharP GQ 0 where
  ofNat_ext_iff {x y} := by
    constructor
    · intro h
      have := congrArg GQ.re h
      have h2 : (x : Rat) = (y : Rat) := this
      have : x = y := by exact_mod_cast h2
      simp [this]
    · intro h
      have : x = y := by simpa using h
      rw [this]
end GQ
example (a b c d: GQ) (h : b ≠ 0)  (h : d ≠ 0) : a / b + c / d = (a * d + c*b)/ (b*d) := by grind
example (a b : GQ) (h : a*a = b * b) (g : a + b ≠ 0) : a = b := by grind
end EvL

set_option Elab.async false
set_option linter.all false
set_option maxRecDepth 100000
set_option maxHeartbeats 4000000
namespace EvL
open PySem PySem.Spec PyProof.Rows

/-! ### fractions and numbers as data -/
def qD (r : Rat) : D := .tuple [.int r.num, .int r.den]
def gD (z : GQ) : D := .tuple [qD z.re, qD z.im]
theorem den_pos (r : Rat) : 0 < (r.den : Int) := by have := r.den_nz; omega
theorem den_ne (r : Rat) : (r.den : Int) ≠ 0 := by have := r.den_nz; omega
theorem ic_ne {n : Int} (h : n ≠ 0) : (n : Rat) ≠ 0 := fun z => h (Rat.intCast_eq_zero_iff.mp z)
theorem num_gcd (r : Rat) : Int.gcd r.num r.den = 1 := r.reduced
theorem num_den' (r : Rat) : r = (r.num : Rat) / ((r.den : Int) : Rat) := by
  have := Rat.num_divInt_den r
  rw [Rat.divInt_eq_div] at this
  exact this.symm
theorem fr_rat {n m : Int} (h : m ≠ 0) : fr n m = (((n : Rat) / (m : Rat)).num, (((n : Rat) / (m : Rat)).den : Int)) := by
  have e := num_den' ((n : Rat) / (m : Rat))
  generalize hr : (n : Rat) / (m : Rat) = r at e ⊢
  have hm := ic_ne h
  have hd := ic_ne (den_ne r)
  have c1 := fr_cross (n := n) h
  have c2 : n * (r.den : Int) = r.num * m := by
    have : (n : Rat) * ((r.den : Int) : Rat) = (r.num : Rat) * (m : Rat) := by
      have q : (n : Rat) = r * (m : Rat) := by rw [← hr]; grind
      grind
    exact_mod_cast this
  have c3 : (fr n m).1 * (r.den : Int) = r.num * (fr n m).2 := by
    refine Int.eq_of_mul_eq_mul_right h ?_
    generalize (fr n m).1 = p at *
    generalize (fr n m).2 = q at *
    generalize (r.den : Int) = s at *
    generalize r.num = t at *
    grind
  obtain ⟨a, b⟩ := cop_uniq (fr_pos h) (den_pos r) (fr_cop h) (num_gcd r) c3
  exact Prod.ext a b
theorem fD_rat {n m : Int} (h : m ≠ 0) : fD (fr n m) = qD ((n : Rat) / (m : Rat)) := by rw [fr_rat h]; rfl
/-! sizes -/
def Qz (b : Nat) (r : Rat) : Prop := Sz b r.num ∧ Sz b r.den
theorem Qz.of {b : Nat} {n d : Int} (h : d ≠ 0) (h1 : Sz b n) (h2 : Sz b d) : Qz b ((n : Rat) / (d : Rat)) := by
  have := fr_sz h h1 h2
  rw [fr_rat h] at this
  exact this
theorem Qz.mono {a b : Nat} {r : Rat} (h : Qz a r) (hb : a ≤ b) : Qz b r := ⟨h.1.mono hb, h.2.mono hb⟩
/-- both parts over one whole number -/
def Gz (b : Nat) (z : GQ) : Prop := ∃ n m d : Int, 0 < d ∧ z.re = (n : Rat) / (d : Rat) ∧ z.im = (m : Rat) / (d : Rat) ∧ Sz b n ∧ Sz b m ∧ Sz b d
theorem Gz.mono {a b : Nat} {z : GQ} (h : Gz a z) (hb : a ≤ b) : Gz b z := by
  obtain ⟨n, m, d, h0, h1, h2, s1, s2, s3⟩ := h
  exact ⟨n, m, d, h0, h1, h2, s1.mono hb, s2.mono hb, s3.mono hb⟩
theorem Gz.re {b : Nat} {z : GQ} (h : Gz b z) : Qz b z.re := by
  obtain ⟨n, m, d, h0, h1, h2, s1, s2, s3⟩ := h
  rw [h1]; exact Qz.of (by omega) s1 s3
theorem Gz.im {b : Nat} {z : GQ} (h : Gz b z) : Qz b z.im := by
  obtain ⟨n, m, d, h0, h1, h2, s1, s2, s3⟩ := h
  rw [h2]; exact Qz.of (by omega) s2 s3
theorem ic_mul (a b : Int) : ((a * b : Int) : Rat) = (a : Rat) * (b : Rat) := Rat.intCast_mul a b
theorem ic_add (a b : Int) : ((a + b : Int) : Rat) = (a : Rat) + (b : Rat) := Rat.intCast_add a b
theorem ic_sub (a b : Int) : ((a - b : Int) : Rat) = (a : Rat) - (b : Rat) := Rat.intCast_sub a b
theorem ic_neg (a : Int) : ((-a : Int) : Rat) = -(a : Rat) := Rat.intCast_neg a
theorem Gz.add {b c : Nat} {x y : GQ} (h : Gz b x) (g : Gz c y) : Gz (b + c + 1) (x + y) := by
  obtain ⟨n, m, d, h0, h1, h2, s1, s2, s3⟩ := h
  obtain ⟨n', m', d', g0, g1, g2, t1, t2, t3⟩ := g
  have hd := ic_ne (show d ≠ 0 by omega)
  have gd := ic_ne (show d' ≠ 0 by omega)
  refine ⟨n * d' + n' * d, m * d' + m' * d, d * d', Int.mul_pos h0 g0, ?_, ?_, ((s1.mul t3).add (t1.mul s3)).mono (by omega), ((s2.mul t3).add (t2.mul s3)).mono (by omega), (s3.mul t3).mono (by omega)⟩
  · simp only [GQ.add_re, h1, g1, ic_mul, ic_add]; grind
  · simp only [GQ.add_im, h2, g2, ic_mul, ic_add]; grind
theorem Gz.neg {b : Nat} {x : GQ} (h : Gz b x) : Gz b (-x) := by
  obtain ⟨n, m, d, h0, h1, h2, s1, s2, s3⟩ := h
  refine ⟨-n, -m, d, h0, ?_, ?_, s1.neg, s2.neg, s3⟩
  · simp only [GQ.neg_re, h1, ic_neg]; grind
  · simp only [GQ.neg_im, h2, ic_neg]; grind
theorem Gz.bent {b : Nat} {x : GQ} (h : Gz b x) : Gz b x.bent := by
  obtain ⟨n, m, d, h0, h1, h2, s1, s2, s3⟩ := h
  refine ⟨n, -m, d, h0, ?_, ?_, s1, s2.neg, s3⟩
  · simp only [GQ.bent_re, h1]
  · simp only [GQ.bent_im, h2, ic_neg]; grind
theorem Gz.sub {b c : Nat} {x y : GQ} (h : Gz b x) (g : Gz c y) : Gz (b + c + 1) (x - y) := by
  have : x - y = x + -y := by grind
  rw [this]; exact h.add g.neg
theorem Gz.mul {b c : Nat} {x y : GQ} (h : Gz b x) (g : Gz c y) : Gz (b + c + 1) (x * y) := by
  obtain ⟨n, m, d, h0, h1, h2, s1, s2, s3⟩ := h
  obtain ⟨n', m', d', g0, g1, g2, t1, t2, t3⟩ := g
  have hd := ic_ne (show d ≠ 0 by omega)
  have gd := ic_ne (show d' ≠ 0 by omega)
  refine ⟨n * n' - m * m', n * m' + m * n', d * d', Int.mul_pos h0 g0, ?_, ?_, ((s1.mul t1).sub (s2.mul t2)).mono (by omega), ((s1.mul t2).add (s2.mul t1)).mono (by omega), (s3.mul t3).mono (by omega)⟩
  · simp only [GQ.mul_re, h1, g1, h2, g2, ic_mul, ic_sub]; grind
  · simp only [GQ.mul_im, h1, g1, h2, g2, ic_mul, ic_add]; grind
theorem Gz.inv {b : Nat} {x : GQ} (h : Gz b x) : Gz (2 * b + 1) x⁻¹ := by
  by_cases hx : x = 0
  · subst hx
    rw [GQ.inv0]
    exact ⟨0, 0, 1, by decide, by simp; grind, by simp; grind, Sz.lit (by simp; exact Nat.pow_pos (by decide)), Sz.lit (by simp; exact Nat.pow_pos (by decide)), by unfold Sz; simp⟩
  have hs := GQ.size_ne hx
  obtain ⟨n, m, d, h0, h1, h2, s1, s2, s3⟩ := h
  have hd := ic_ne (show d ≠ 0 by omega)
  have e : x.size = ((n * n + m * m : Int) : Rat) / ((d * d : Int) : Rat) := by
    unfold GQ.size
    rw [h1, h2, ic_mul, ic_add, ic_mul, ic_mul]; grind
  have nz : ((n * n + m * m : Int) : Rat) ≠ 0 := fun z => hs (by rw [e, z]; grind)
  have np : 0 < n * n + m * m := by
    have z : n * n + m * m ≠ 0 := fun z => nz (by rw [z]; rfl)
    have q1 : 0 ≤ n * n := by rcases Int.le_total 0 n with q | q; exact Int.mul_nonneg q q; exact Int.mul_nonneg_of_nonpos_of_nonpos q q
    have q2 : 0 ≤ m * m := by rcases Int.le_total 0 m with q | q; exact Int.mul_nonneg q q; exact Int.mul_nonneg_of_nonpos_of_nonpos q q
    omega
  refine ⟨n * d, -m * d, n * n + m * m, np, ?_, ?_, (s1.mul s3).mono (by omega), (s2.neg.mul s3).mono (by omega), ((s1.mul s1).add (s2.mul s2)).mono (by omega)⟩
  · simp only [GQ.inv_re, e, h1, ic_mul]; rw [ic_add, ic_mul, ic_mul] at nz ⊢; grind
  · simp only [GQ.inv_im, e, h2, ic_mul, ic_neg]; rw [ic_add, ic_mul, ic_mul] at nz ⊢; grind
theorem Gz.lit {b : Nat} {n m d : Int} (h : 0 < d) (h1 : Sz b n) (h2 : Sz b m) (h3 : Sz b d) : Gz b ⟨(n : Rat) / (d : Rat), (m : Rat) / (d : Rat)⟩ := ⟨n, m, d, h, rfl, rfl, h1, h2, h3⟩
theorem Gz.zero {b : Nat} (hb : 1 ≤ b) : Gz b 0 := ⟨0, 0, 1, by decide, by simp; grind, by simp; grind, Sz.mono (a := 1) (Sz.lit (by decide)) hb, Sz.mono (a := 1) (Sz.lit (by decide)) hb, Sz.mono (a := 1) (Sz.lit (by decide)) hb⟩
theorem Gz.one {b : Nat} (hb : 1 ≤ b) : Gz b 1 := ⟨1, 0, 1, by decide, by simp; grind, by simp; grind, Sz.mono (a := 1) (Sz.lit (by decide)) hb, Sz.mono (a := 1) (Sz.lit (by decide)) hb, Sz.mono (a := 1) (Sz.lit (by decide)) hb⟩
theorem Gz.q {b : Nat} {r : Rat} (h : Qz b r) : Gz (b + 1) (GQ.ofR r) :=
  ⟨r.num, 0, r.den, den_pos r, num_den' r, by simp; grind, h.1.mono (by omega), Sz.lit (by simp; exact Nat.pow_pos (by decide)), h.2.mono (by omega)⟩
theorem Qz.add {b c : Nat} {x y : Rat} (h : Qz b x) (g : Qz c y) : Qz (b + c + 1) (x + y) := by
  have := Qz.of (n := x.num * y.den + y.num * x.den) (d := x.den * y.den) (Int.mul_ne_zero (den_ne x) (den_ne y)) (((h.1.mul g.2).add (g.1.mul h.2)).mono (by omega)) ((h.2.mul g.2).mono (show b + c ≤ b + c + 1 by omega))
  have e := num_den' x
  have e' := num_den' y
  have d1 := ic_ne (den_ne x)
  have d2 := ic_ne (den_ne y)
  rw [ic_add, ic_mul, ic_mul, ic_mul] at this
  have q : x + y = ((x.num : Rat) * ((y.den : Int) : Rat) + (y.num : Rat) * ((x.den : Int) : Rat)) / (((x.den : Int) : Rat) * ((y.den : Int) : Rat)) := by
    conv => lhs; rw [e, e']
    grind
  rw [q]; exact this
theorem Qz.neg {b : Nat} {x : Rat} (h : Qz b x) : Qz b (-x) := ⟨h.1.neg, h.2⟩
theorem Qz.sub {b c : Nat} {x y : Rat} (h : Qz b x) (g : Qz c y) : Qz (b + c + 1) (x - y) := by
  have : x - y = x + -y := by grind
  rw [this]; exact h.add g.neg
theorem Qz.mul {b c : Nat} {x y : Rat} (h : Qz b x) (g : Qz c y) : Qz (b + c) (x * y) := by
  have := Qz.of (n := x.num * y.num) (d := x.den * y.den) (Int.mul_ne_zero (den_ne x) (den_ne y)) (h.1.mul g.1) (h.2.mul g.2)
  have e := num_den' x
  have e' := num_den' y
  have d1 := ic_ne (den_ne x)
  have d2 := ic_ne (den_ne y)
  rw [ic_mul, ic_mul] at this
  have q : x * y = ((x.num : Rat) * (y.num : Rat)) / (((x.den : Int) : Rat) * ((y.den : Int) : Rat)) := by
    conv => lhs; rw [e, e']
    grind
  rw [q]; exact this
theorem Gz.size {b : Nat} {x : GQ} (h : Gz b x) : Qz (2 * b + 1) x.size := by
  obtain ⟨n, m, d, h0, h1, h2, s1, s2, s3⟩ := h
  have hd := ic_ne (show d ≠ 0 by omega)
  have e : x.size = ((n * n + m * m : Int) : Rat) / ((d * d : Int) : Rat) := by
    unfold GQ.size
    rw [h1, h2, ic_mul, ic_add, ic_mul, ic_mul]; grind
  rw [e]
  exact Qz.of (by have := Int.mul_pos h0 h0; omega) (((s1.mul s1).add (s2.mul s2)).mono (by omega)) ((s3.mul s3).mono (by omega))
/-! triples -/
def tD (x : Int × Int × Int) : D := .tuple [.int x.1, .int x.2.1, .int x.2.2]
theorem ex_div {g x : Int} (h : g ∣ x) (h0 : g ≠ 0) : x = g * x.fdiv g := by
  obtain ⟨c, hc⟩ := h
  have : x.fdiv g = c := by
    conv => lhs; rw [hc]
    exact Int.mul_fdiv_cancel_left _ h0
  rw [this]; exact hc
def cutG (a b d : Int) : Int := if d < 0 then -(Int.gcd (Int.gcd a b) d : Int) else (Int.gcd (Int.gcd a b) d : Int)
def cut (a b d : Int) : Int × Int × Int := (a.fdiv (cutG a b d), b.fdiv (cutG a b d), d.fdiv (cutG a b d))
theorem cutG_ne {a b d : Int} (h : d ≠ 0) : cutG a b d ≠ 0 := by
  have : (Int.gcd (Int.gcd a b) d : Int) ≠ 0 := by
    intro z
    have z' : Int.gcd (Int.gcd a b) d = 0 := by exact_mod_cast z
    exact h (Int.gcd_eq_zero_iff.mp z').2
  unfold cutG
  split <;> omega
theorem cutG_dvd (a b d : Int) : cutG a b d ∣ a ∧ cutG a b d ∣ b ∧ cutG a b d ∣ d := by
  have h1 : (Int.gcd (Int.gcd a b) d : Int) ∣ (Int.gcd a b : Int) := Int.gcd_dvd_left ..
  have h2 : (Int.gcd (Int.gcd a b) d : Int) ∣ d := Int.gcd_dvd_right ..
  have h3 := Int.dvd_trans h1 (Int.gcd_dvd_left (a := a) (b := b))
  have h4 := Int.dvd_trans h1 (Int.gcd_dvd_right (a := a) (b := b))
  unfold cutG
  split
  · exact ⟨Int.neg_dvd.mpr h3, Int.neg_dvd.mpr h4, Int.neg_dvd.mpr h2⟩
  · exact ⟨h3, h4, h2⟩
theorem cut_mul {a b d : Int} (h : d ≠ 0) : a = cutG a b d * (cut a b d).1 ∧ b = cutG a b d * (cut a b d).2.1 ∧ d = cutG a b d * (cut a b d).2.2 := by
  obtain ⟨h1, h2, h3⟩ := cutG_dvd a b d
  have h0 := cutG_ne (a := a) (b := b) h
  exact ⟨ex_div h1 h0, ex_div h2 h0, ex_div h3 h0⟩
theorem cut_pos {a b d : Int} (h : d ≠ 0) : 0 < (cut a b d).2.2 := by
  have e := (cut_mul (a := a) (b := b) h).2.2
  have h0 := cutG_ne (a := a) (b := b) h
  generalize (cut a b d).2.2 = q at e
  have gp : 0 ≤ (Int.gcd (Int.gcd a b) d : Int) := Int.natCast_nonneg _
  by_cases hm : d < 0
  · have hs : cutG a b d < 0 := by have : cutG a b d = _ := if_pos hm; omega
    have h1 : 0 < (-cutG a b d) * q := by
      have : (-cutG a b d) * q = -(cutG a b d * q) := Int.neg_mul ..
      omega
    exact Int.pos_of_mul_pos_right h1 (by omega)
  · have hs : 0 < cutG a b d := by have : cutG a b d = _ := if_neg hm; omega
    exact Int.pos_of_mul_pos_right (by omega) hs
theorem cut_cop {a b d : Int} (h : d ≠ 0) : Int.gcd (Int.gcd (cut a b d).1 (cut a b d).2.1) (cut a b d).2.2 = 1 := by
  obtain ⟨e1, e2, e3⟩ := cut_mul (a := a) (b := b) h
  have h0 := cutG_ne (a := a) (b := b) h
  have hs : (cutG a b d).natAbs = Int.gcd (Int.gcd a b) d := by unfold cutG; split <;> simp
  have h1 : Int.gcd (Int.gcd a b) d = (cutG a b d).natAbs * Int.gcd (Int.gcd (cut a b d).1 (cut a b d).2.1) (cut a b d).2.2 := by
    generalize cutG a b d = g at *
    have q1 := Int.gcd_mul_left g (cut a b d).1 (cut a b d).2.1
    rw [← e1, ← e2] at q1
    rw [q1]
    have q2 := Int.gcd_mul_left g.natAbs (Int.gcd (cut a b d).1 (cut a b d).2.1) (cut a b d).2.2
    simp only [Int.natAbs_natCast] at q2
    rw [← q2, Int.natCast_mul]
    generalize (Int.gcd (cut a b d).1 (cut a b d).2.1 : Int) = u
    conv => lhs; rw [e3]
    rcases Int.natAbs_eq g with q | q
    · rw [← q]
    · have : g = -(g.natAbs : Int) := q
      conv => lhs; arg 2; rw [this, Int.neg_mul]
      rw [Int.gcd_neg]
  rw [hs] at h1
  have h2 : 0 < Int.gcd (Int.gcd a b) d := by rw [← hs]; omega
  exact (Nat.eq_of_mul_eq_mul_left h2 (by omega : Int.gcd (Int.gcd a b) d * 1 = _)).symm
theorem tri_dvd {a b d a' b' d' : Int} (h1 : a * d' = a' * d) (h2 : b * d' = b' * d) (g : Int.gcd (Int.gcd a b) d = 1) : d ∣ d' := by
  have k1 : d ∣ a * d' := ⟨a', by rw [h1, Int.mul_comm]⟩
  have k2 : d ∣ b * d' := ⟨b', by rw [h2, Int.mul_comm]⟩
  have k3 : d ∣ (Int.gcd a b : Int) * d' := by
    have := Int.dvd_coe_gcd k1 k2
    rw [Int.gcd_mul_right, Int.natCast_mul] at this
    rcases Int.natAbs_eq d' with q | q
    · rw [q]; exact this
    · rw [q, Int.mul_neg]; exact Int.dvd_neg.mpr this
  have k4 : d ∣ d * d' := ⟨d', rfl⟩
  have := Int.dvd_coe_gcd k3 k4
  rw [Int.gcd_mul_right, g, Nat.one_mul] at this
  exact Int.dvd_natAbs.mp this
theorem tri_uniq {a b d a' b' d' : Int} (hd : 0 < d) (hd' : 0 < d') (h1 : a * d' = a' * d) (h2 : b * d' = b' * d) (g : Int.gcd (Int.gcd a b) d = 1) (g' : Int.gcd (Int.gcd a' b') d' = 1) : (a, b, d) = (a', b', d') := by
  have q1 := tri_dvd h1 h2 g
  have q2 := tri_dvd h1.symm h2.symm g'
  have e : d = d' := Int.dvd_antisymm (by omega) (by omega) q1 q2
  subst e
  rw [Int.eq_of_mul_eq_mul_right (by omega) h1, Int.eq_of_mul_eq_mul_right (by omega) h2]
/-- a number as three whole numbers in least terms -/
def tri (z : GQ) : Int × Int × Int := cut (z.re.num * z.im.den) (z.im.num * z.re.den) (z.re.den * z.im.den)
def tN (z : GQ) : D := tD (tri z)
theorem tri_pos (z : GQ) : 0 < (tri z).2.2 := cut_pos (Int.mul_ne_zero (den_ne _) (den_ne _))
theorem tri_ne (z : GQ) : (tri z).2.2 ≠ 0 := by have := tri_pos z; omega
theorem tri_cop (z : GQ) : Int.gcd (Int.gcd (tri z).1 (tri z).2.1) (tri z).2.2 = 1 := cut_cop (Int.mul_ne_zero (den_ne _) (den_ne _))
theorem cut_val {a b d : Int} (h : d ≠ 0) : ((cut a b d).1 : Rat) / ((cut a b d).2.2 : Rat) = (a : Rat) / (d : Rat) ∧ ((cut a b d).2.1 : Rat) / ((cut a b d).2.2 : Rat) = (b : Rat) / (d : Rat) := by
  obtain ⟨e1, e2, e3⟩ := cut_mul (a := a) (b := b) h
  have h0 := ic_ne (cutG_ne (a := a) (b := b) h)
  have hp := ic_ne (show (cut a b d).2.2 ≠ 0 by have := cut_pos (a := a) (b := b) h; omega)
  generalize (cut a b d).1 = p at *
  generalize (cut a b d).2.1 = q at *
  generalize (cut a b d).2.2 = r at *
  generalize cutG a b d = g at *
  subst e1; subst e2; subst e3
  simp only [ic_mul]
  constructor <;> grind
theorem tri_re (z : GQ) : z.re = ((tri z).1 : Rat) / ((tri z).2.2 : Rat) := by
  have := (cut_val (a := z.re.num * z.im.den) (b := z.im.num * z.re.den) (Int.mul_ne_zero (den_ne z.re) (den_ne z.im))).1
  unfold tri
  rw [this, ic_mul, ic_mul]
  have e := num_den' z.re
  have d1 := ic_ne (den_ne z.re)
  have d2 := ic_ne (den_ne z.im)
  grind
theorem tri_im (z : GQ) : z.im = ((tri z).2.1 : Rat) / ((tri z).2.2 : Rat) := by
  have := (cut_val (a := z.re.num * z.im.den) (b := z.im.num * z.re.den) (Int.mul_ne_zero (den_ne z.re) (den_ne z.im))).2
  unfold tri
  rw [this, ic_mul, ic_mul]
  have e := num_den' z.im
  have d1 := ic_ne (den_ne z.re)
  have d2 := ic_ne (den_ne z.im)
  grind
theorem tri_of {a b d : Int} {z : GQ} (h : 0 < d) (g : Int.gcd (Int.gcd a b) d = 1) (h1 : z.re = (a : Rat) / (d : Rat)) (h2 : z.im = (b : Rat) / (d : Rat)) : tri z = (a, b, d) := by
  have e1 := tri_re z
  have e2 := tri_im z
  have p := tri_pos z
  have d1 := ic_ne (show d ≠ 0 by omega)
  have d2 := ic_ne (tri_ne z)
  refine tri_uniq p h ?_ ?_ (tri_cop z) g
  · have : ((tri z).1 : Rat) * (d : Rat) = (a : Rat) * ((tri z).2.2 : Rat) := by grind
    exact_mod_cast this
  · have : ((tri z).2.1 : Rat) * (d : Rat) = (b : Rat) * ((tri z).2.2 : Rat) := by grind
    exact_mod_cast this
theorem tri_cut {a b d : Int} (h : d ≠ 0) : tri ⟨(a : Rat) / (d : Rat), (b : Rat) / (d : Rat)⟩ = cut a b d := by
  obtain ⟨e1, e2⟩ := cut_val (a := a) (b := b) h
  exact tri_of (cut_pos h) (cut_cop h) e1.symm e2.symm
theorem sz_dvd {b : Nat} {g x q : Int} (e : x = g * q) (h : g ≠ 0) (s : Sz b x) : Sz b q := by
  unfold Sz at *
  rw [e, Int.natAbs_mul] at s
  exact Nat.lt_of_le_of_lt (Nat.le_mul_of_pos_left _ (by omega)) s
theorem sz_dvd' {b : Nat} {g x q : Int} (e : x = g * q) (h : x ≠ 0) (s : Sz b x) : Sz b g := by
  unfold Sz at *
  have hq : q ≠ 0 := fun z => by subst z; simp at e; exact h e
  rw [e, Int.natAbs_mul] at s
  exact Nat.lt_of_le_of_lt (Nat.le_mul_of_pos_right _ (by omega)) s
theorem cut_sz {k m : Nat} {a b d : Int} (h : d ≠ 0) (h1 : Sz k a) (h2 : Sz k b) (h3 : Sz m d) : Sz k (cut a b d).1 ∧ Sz k (cut a b d).2.1 ∧ Sz m (cut a b d).2.2 := by
  obtain ⟨e1, e2, e3⟩ := cut_mul (a := a) (b := b) h
  have h0 := cutG_ne (a := a) (b := b) h
  exact ⟨sz_dvd e1 h0 h1, sz_dvd e2 h0 h2, sz_dvd e3 h0 h3⟩
theorem Gz.tri {b : Nat} {z : GQ} (h : Gz b z) : Sz b (tri z).1 ∧ Sz b (tri z).2.1 ∧ Sz b (tri z).2.2 := by
  obtain ⟨n, m, d, h0, h1, h2, s1, s2, s3⟩ := h
  have : z = ⟨(n : Rat) / (d : Rat), (m : Rat) / (d : Rat)⟩ := GQ.ext h1 h2
  rw [this, tri_cut (by omega)]
  exact cut_sz (by omega) s1 s2 s3
theorem tG_inj {x y : GQ} (h : tN x = tN y) : x = y := by
  unfold tN EvL.tD at h
  injection h with h
  injection h with h1 h
  injection h with h2 h
  injection h with h3 h
  injection h1 with h1
  injection h2 with h2
  injection h3 with h3
  refine GQ.ext ?_ ?_
  · rw [tri_re x, tri_re y, h1, h3]
  · rw [tri_im x, tri_im y, h2, h3]
end EvL

set_option Elab.async false
set_option linter.all false
set_option maxRecDepth 100000
namespace EvL
/-! ### loops, once for all -/
theorem evF_ex {α : Type} {f : α → D} {t : Tg} {b : Ga → Option Out} (I : List α → Ga → Prop) {l : List α}
    (step : ∀ p x q Γ, l = p ++ x :: q → I p Γ → ∃ Γ1 Γ2, asg t (f x) Γ = some Γ1 ∧ (b Γ1 = some (.nx Γ2) ∨ b Γ1 = some (.ct Γ2)) ∧ I (p ++ [x]) Γ2) :
    ∀ {q p : List α} {Γ : Ga}, l = p ++ q → I p Γ → ∃ Γ', evF t b (q.map f) Γ = some (.nx Γ') ∧ I l Γ'
  | [], p, Γ, e, h => ⟨Γ, rfl, by rw [e, List.append_nil]; exact h⟩
  | x :: q, p, Γ, e, h => by
    obtain ⟨Γ1, Γ2, e1, e2, h2⟩ := step p x q Γ e h
    obtain ⟨Γ', e3, h3⟩ := evF_ex I step (q := q) (p := p ++ [x]) (by rw [e]; simp) h2
    refine ⟨Γ', ?_, h3⟩
    rw [List.map_cons, evF, e1, Option.bind_some]
    rcases e2 with e2 | e2
    · rw [e2]; exact e3
    · rw [e2]; exact e3
theorem evF_all {α : Type} {f : α → D} {t : Tg} {b : Ga → Option Out} (I : List α → Ga → Prop) {l : List α} {Γ : Ga} (h0 : I [] Γ)
    (step : ∀ p x q Γ, l = p ++ x :: q → I p Γ → ∃ Γ1 Γ2, asg t (f x) Γ = some Γ1 ∧ (b Γ1 = some (.nx Γ2) ∨ b Γ1 = some (.ct Γ2)) ∧ I (p ++ [x]) Γ2) :
    ∃ Γ', evF t b (l.map f) Γ = some (.nx Γ') ∧ I l Γ' := evF_ex I step (p := []) rfl h0
theorem evF_nat {f : Nat → D} {t : Tg} {b : Ga → Option Out} (I : Nat → Ga → Prop) {n : Nat} {Γ : Ga} (h0 : I 0 Γ)
    (step : ∀ i Γ, i < n → I i Γ → ∃ Γ1 Γ2, asg t (f i) Γ = some Γ1 ∧ (b Γ1 = some (.nx Γ2) ∨ b Γ1 = some (.ct Γ2)) ∧ I (i + 1) Γ2) :
    ∃ Γ', evF t b ((List.range n).map f) Γ = some (.nx Γ') ∧ I n Γ' := by
  obtain ⟨Γ', e, h⟩ := evF_all (f := f) (t := t) (b := b) (l := List.range n) (fun p Γ => I p.length Γ) h0 (fun p x q Γ e h => by
    have hp : p.length < n := by
      have := congrArg List.length e
      simp at this; omega
    have hx : x = p.length := by
      have h1 : (List.range n)[p.length]? = some p.length := List.getElem?_range hp
      rw [e] at h1
      simp at h1; exact h1
    subst hx
    obtain ⟨Γ1, Γ2, a, c, d⟩ := step p.length Γ hp h
    exact ⟨Γ1, Γ2, a, c, by simpa using d⟩)
  exact ⟨Γ', e, by simpa using h⟩
/-! slots wiped -/
theorem wipeG_get (Γ : Ga) (vs : List Nat) (i : Nat) : (wipeG Γ vs)[i]? = if i ∈ vs ∧ i < Γ.length then some .un else Γ[i]? := by
  induction vs with
  | nil => simp [wipeG]
  | cons v vs ih =>
    have hl : ∀ (vs : List Nat), (wipeG Γ vs).length = Γ.length := fun vs => by
      induction vs with
      | nil => rfl
      | cons v vs ih => simp [wipeG, ih]
    rw [wipeG, List.getElem?_set, ih, hl]
    by_cases h : v = i
    · subst h
      by_cases h2 : v < Γ.length
      · simp [h2]
      · simp [h2, List.getElem?_eq_none (Nat.le_of_not_lt h2)]
    · rw [if_neg h]
      have : (i ∈ v :: vs) ↔ i ∈ vs := by simp [show i ≠ v from fun z => h z.symm]
      simp only [this]
theorem wipeG_ln (Γ : Ga) (vs : List Nat) : (wipeG Γ vs).length = Γ.length := by
  induction vs with
  | nil => rfl
  | cons v vs ih => simp [wipeG, ih]
theorem back_len (Γ0 Γ : Ga) (vs : List Nat) : (backG Γ0 Γ vs).length = Γ.length := by
  induction vs with
  | nil => rfl
  | cons v vs ih => simp [backG, ih]
theorem wipeG_2 (Γ : Ga) (vs : List Nat) : wipeG (wipeG Γ vs) vs = wipeG Γ vs := by
  refine List.ext_getElem? fun i => ?_
  rw [wipeG_get, wipeG_get, wipeG_ln]
  split <;> rfl
theorem back_get (Γ0 Γ : Ga) (vs : List Nat) (i : Nat) : (backG Γ0 Γ vs)[i]? = if i ∈ vs ∧ i < Γ.length then some (match Γ0[i]? with | some (.fz d) => .fz d | _ => .un) else Γ[i]? := by
  induction vs with
  | nil => simp [backG]
  | cons v vs ih =>
    rw [backG, List.getElem?_set, ih, back_len]
    by_cases h : v = i
    · subst h
      by_cases h2 : v < Γ.length
      · first
          | (simp [h2]; done)
          | (simp [h2]
             cases Γ0[v]? with
             | none => rfl
             | some m => cases m <;> rfl)
      · simp [h2, List.getElem?_eq_none (Nat.le_of_not_lt h2)]
    · rw [if_neg h]
      have : (i ∈ v :: vs) ↔ i ∈ vs := by simp [show i ≠ v from fun z => h z.symm]
      simp only [this]
theorem back_wipe (Γ0 Γ : Ga) (vs : List Nat) : backG Γ0 (wipeG Γ vs) vs = backG Γ0 Γ vs := by
  refine List.ext_getElem? fun i => ?_
  rw [back_get, back_get, wipeG_get, wipeG_ln]
  split <;> rfl
theorem lcLoop_ex {F : D → Ga → Option (Option D × Ga)} (J : Nat → Ga → Prop) (R : D → Prop) : ∀ {xs : List D} {i : Nat} {Γ : Ga}, J i Γ →
    (∀ j x Γ, i ≤ j → xs[j - i]? = some x → J j Γ → ∃ y Γ2, F x Γ = some (some y, Γ2) ∧ R y ∧ J (j + 1) Γ2) →
    ∃ ys Γ', lcLoop F xs Γ = some (ys, Γ') ∧ ys.length = xs.length ∧ (∀ y ∈ ys, R y) ∧ J (i + xs.length) Γ'
  | [], i, Γ, h, _ => ⟨[], Γ, rfl, rfl, (fun _ h => nomatch h), h⟩
  | x :: xs, i, Γ, h, step => by
    obtain ⟨y, Γ2, e1, r1, h1⟩ := step i x Γ (Nat.le_refl _) (by simp) h
    obtain ⟨ys, Γ', e2, l2, r2, h2⟩ := lcLoop_ex J R (xs := xs) (i := i + 1) h1 (fun j x Γ hj hx => step j x Γ (by omega) (by
      rw [show j - i = (j - (i + 1)) + 1 by omega]; exact hx))
    refine ⟨y :: ys, Γ', ?_, by simp [l2], ?_, by rw [List.length_cons, show i + (xs.length + 1) = i + 1 + xs.length by omega]; exact h2⟩
    · rw [lcLoop, e1, Option.bind_some]
      simp only [e2, Option.map_some]
    · intro z hz
      rcases List.mem_cons.mp hz with rfl | hz
      · exact r1
      · exact r2 z hz
/-- a comprehension without ifs: what each element is, in order, and what the turns do to the slots -/
theorem lc_ex {vs : List Nat} {t : Tg} {k : IK} {its : List IE} {elt : IE} {Γ Γ1 : Ga} {ds xs : List D} (J : Nat → Ga → Prop) (R : D → Prop)
    (h1 : evs its Γ = some (ds, Γ1)) (h2 : itD k ds = some xs) (hl : xs.length ≤ 1000000) (h0 : J 0 (wipeG Γ1 vs))
    (step : ∀ j x Γ, xs[j]? = some x → J j (wipeG Γ vs) → ∃ Γ2 y Γ3, asg t x (wipeG Γ vs) = some Γ2 ∧ evX elt Γ2 = some (y, Γ3) ∧ R y.d ∧ J (j + 1) (wipeG Γ3 vs)) :
    ∃ ys Γ5, evX (.lc vs t k its [] elt) Γ = some (.ow ys, backG Γ1 Γ5 vs) ∧ ys.length = xs.length ∧ (∀ y ∈ ys, R y) ∧ J xs.length Γ5 := by
  obtain ⟨ys, Γ5, e, hl', hR, hJ⟩ := lcLoop_ex (F := fun x Γ => (asg t x (wipeG Γ vs)).bind fun Γ2 => (evIfs [] Γ2).bind fun (c, Γ3) =>
          if c then (evX elt Γ3).map fun (y, Γ4) => (some y.d, Γ4) else some (none, Γ3)) (fun i Γ => J i (wipeG Γ vs)) R (xs := xs) (i := 0) (Γ := wipeG Γ1 vs) (by rw [wipeG_2]; exact h0) (fun j x Γ hj hx hJ => by
    obtain ⟨Γ2, y, Γ3, a, b, c, d⟩ := step j x Γ hx hJ
    refine ⟨y.d, Γ3, ?_, c, d⟩
    simp [a, b])
  refine ⟨ys, wipeG Γ5 vs, ?_, hl', hR, by simpa using hJ⟩
  rw [x_lc, h1, Option.bind_some]
  simp only [h2, Option.bind_some, lim_eq, hl, if_true, e, Option.map_some, back_wipe]
/-- .. each element by itself, the slots stay -/
theorem lc_map {α : Type} {f g : α → D} {vs : List Nat} {t : Tg} {k : IK} {its : List IE} {elt : IE} {Γ Γ1 : Ga} {ds : List D} {l : List α}
    (h1 : evs its Γ = some (ds, Γ1)) (h2 : itD k ds = some (l.map f)) (hl : l.length ≤ 1000000)
    (step : ∀ x ∈ l, ∃ Γ2 y Γ3, asg t (f x) (wipeG Γ1 vs) = some Γ2 ∧ evX elt Γ2 = some (y, Γ3) ∧ y.d = g x ∧ wipeG Γ3 vs = wipeG Γ1 vs) :
    evX (.lc vs t k its [] elt) Γ = some (.ow (l.map g), backG Γ1 Γ1 vs) := by
  have key : ∀ (l : List α) (Γ : Ga), wipeG Γ vs = wipeG Γ1 vs → (∀ x ∈ l, ∃ Γ2 y Γ3, asg t (f x) (wipeG Γ1 vs) = some Γ2 ∧ evX elt Γ2 = some (y, Γ3) ∧ y.d = g x ∧ wipeG Γ3 vs = wipeG Γ1 vs) →
      ∃ Γ5, lcLoop (fun x Γ => (asg t x (wipeG Γ vs)).bind fun Γ2 => (evIfs [] Γ2).bind fun (c, Γ3) =>
          if c then (evX elt Γ3).map fun (y, Γ4) => (some y.d, Γ4) else some (none, Γ3)) (l.map f) Γ = some (l.map g, Γ5) ∧ wipeG Γ5 vs = wipeG Γ1 vs := by
    intro l
    induction l with
    | nil => intro Γ h _; exact ⟨Γ, rfl, h⟩
    | cons x l ih =>
      intro Γ h st
      obtain ⟨Γ2, y, Γ3, a, b, c, d⟩ := st x (List.mem_cons_self ..)
      obtain ⟨Γ5, e5, h5⟩ := ih Γ3 d fun y hy => st y (List.mem_cons_of_mem _ hy)
      refine ⟨Γ5, ?_, h5⟩
      rw [List.map_cons, lcLoop, h, a, Option.bind_some]
      simp [b] at e5 ⊢
      simp [e5, c]
  obtain ⟨Γ5, e5, h5⟩ := key l (wipeG Γ1 vs) (wipeG_2 _ _) step
  rw [x_lc, h1, Option.bind_some]
  simp only [h2, Option.bind_some, lim_eq, List.length_map, hl, if_true, e5, Option.map_some]
  rw [← back_wipe Γ1 Γ5, h5, back_wipe]
/-- .. and with an if -/
theorem lc_filter {α : Type} {f g : α → D} {c : α → Bool} {vs : List Nat} {t : Tg} {k : IK} {its : List IE} {ifs : List IE} {elt : IE} {Γ Γ1 : Ga} {ds : List D} {l : List α}
    (h1 : evs its Γ = some (ds, Γ1)) (h2 : itD k ds = some (l.map f)) (hl : l.length ≤ 1000000)
    (step : ∀ x ∈ l, ∃ Γ2 Γ3, asg t (f x) (wipeG Γ1 vs) = some Γ2 ∧ evIfs ifs Γ2 = some (c x, Γ3) ∧ (c x = false → wipeG Γ3 vs = wipeG Γ1 vs) ∧ (c x = true → ∃ y Γ4, evX elt Γ3 = some (y, Γ4) ∧ y.d = g x ∧ wipeG Γ4 vs = wipeG Γ1 vs)) :
    evX (.lc vs t k its ifs elt) Γ = some (.ow ((l.filter c).map g), backG Γ1 Γ1 vs) := by
  have key : ∀ (l : List α) (Γ : Ga), wipeG Γ vs = wipeG Γ1 vs → (∀ x ∈ l, ∃ Γ2 Γ3, asg t (f x) (wipeG Γ1 vs) = some Γ2 ∧ evIfs ifs Γ2 = some (c x, Γ3) ∧ (c x = false → wipeG Γ3 vs = wipeG Γ1 vs) ∧ (c x = true → ∃ y Γ4, evX elt Γ3 = some (y, Γ4) ∧ y.d = g x ∧ wipeG Γ4 vs = wipeG Γ1 vs)) →
      ∃ Γ5, lcLoop (fun x Γ => (asg t x (wipeG Γ vs)).bind fun Γ2 => (evIfs ifs Γ2).bind fun (c, Γ3) =>
          if c then (evX elt Γ3).map fun (y, Γ4) => (some y.d, Γ4) else some (none, Γ3)) (l.map f) Γ = some ((l.filter c).map g, Γ5) ∧ wipeG Γ5 vs = wipeG Γ1 vs := by
    intro l
    induction l with
    | nil => intro Γ h _; exact ⟨Γ, rfl, h⟩
    | cons x l ih =>
      intro Γ h st
      obtain ⟨Γ2, Γ3, a, b, c0, c1⟩ := st x (List.mem_cons_self ..)
      cases hc : c x with
      | false =>
        obtain ⟨Γ5, e5, h5⟩ := ih Γ3 (c0 hc) fun y hy => st y (List.mem_cons_of_mem _ hy)
        refine ⟨Γ5, ?_, h5⟩
        rw [hc] at b
        rw [List.map_cons, lcLoop, h, a, Option.bind_some, b, Option.bind_some]
        simp [hc] at e5 ⊢
        simp [e5]
      | true =>
        obtain ⟨y, Γ4, b2, b3, d⟩ := c1 hc
        obtain ⟨Γ5, e5, h5⟩ := ih Γ4 d fun y hy => st y (List.mem_cons_of_mem _ hy)
        refine ⟨Γ5, ?_, h5⟩
        rw [hc] at b
        rw [List.map_cons, lcLoop, h, a, Option.bind_some, b, Option.bind_some]
        simp [hc, b2] at e5 ⊢
        simp [e5, b3]
  obtain ⟨Γ5, e5, h5⟩ := key l (wipeG Γ1 vs) (wipeG_2 _ _) step
  rw [x_lc, h1, Option.bind_some]
  simp only [h2, Option.bind_some, lim_eq, List.length_map, hl, if_true, e5, Option.map_some]
  rw [← back_wipe Γ1 Γ5, h5, back_wipe]
/-! ranges -/
theorem rng_len (i j : Int) : (rngD i j).length = (j - i).toNat := by unfold rngD; simp
theorem rng0 (n : Nat) : rngD 0 n = (List.range n).map fun (k : Nat) => PySem.PyData.int k := by
  unfold rngD
  simp
theorem rng0' {j : Int} (n : Nat) (h : j = n) : rngD 0 j = (List.range n).map fun (k : Nat) => PySem.PyData.int k := by rw [h, rng0]
end EvL

set_option Elab.async false
set_option linter.all false
set_option maxRecDepth 100000
namespace EvL
/-! ### rows of numbers -/
namespace Po
section
variable {K : Type} [Lean.Grind.Field K]
def co (p : List K) (k : Nat) : K := p.getD k 0
@[simp] theorem co_nil (k : Nat) : co ([] : List K) k = 0 := rfl
@[simp] theorem co_zero (a : K) (p : List K) : co (a :: p) 0 = a := rfl
@[simp] theorem co_succ (a : K) (p : List K) (k : Nat) : co (a :: p) (k + 1) = co p k := rfl
theorem co_ge {p : List K} {k : Nat} (h : p.length ≤ k) : co p k = 0 := by
  unfold co; rw [List.getD_eq_getElem?_getD, List.getElem?_eq_none h]; rfl
theorem co_lt {p : List K} {k : Nat} (h : k < p.length) : co p k = p[k] := by
  unfold co; rw [List.getD_eq_getElem?_getD, List.getElem?_eq_getElem h]; rfl
theorem co_map {f : Nat → K} {n k : Nat} : co ((List.range n).map f) k = if k < n then f k else 0 := by
  unfold co
  rw [List.getD_eq_getElem?_getD, List.getElem?_map]
  by_cases h : k < n
  · rw [List.getElem?_range h, if_pos h]; rfl
  · rw [List.getElem?_eq_none (by simpa using h), if_neg h]; rfl
theorem co_mapf {f : K → K} (h0 : f 0 = 0) (p : List K) (k : Nat) : co (p.map f) k = f (co p k) := by
  induction p generalizing k with
  | nil => simp [h0]
  | cons a p ih => cases k with
    | zero => rfl
    | succ k => simpa using ih k
theorem co_append {p q : List K} {k : Nat} : co (p ++ q) k = if k < p.length then co p k else co q (k - p.length) := by
  unfold co
  rw [List.getD_eq_getElem?_getD, List.getD_eq_getElem?_getD, List.getD_eq_getElem?_getD, List.getElem?_append]
  split <;> rfl
theorem co_rep0 (n k : Nat) : co (List.replicate n (0 : K)) k = 0 := by
  unfold co
  rw [List.getD_eq_getElem?_getD, List.getElem?_replicate]
  split <;> rfl
theorem ext_co {p q : List K} (hl : p.length = q.length) (h : ∀ k, co p k = co q k) : p = q := by
  refine List.ext_getElem hl fun k h1 h2 => ?_
  have := h k
  rw [co_lt h1, co_lt h2] at this
  exact this
theorem mapRange_co (p : List K) : (List.range p.length).map (co p) = p := by
  refine ext_co (by simp) fun k => ?_
  rw [co_map]
  split
  · rfl
  · rw [co_ge (by omega)]
/-! sums -/
def sum : Nat → (Nat → K) → K
  | 0, _ => 0
  | n + 1, f => sum n f + f n
@[simp] theorem sum_zero (f : Nat → K) : sum 0 f = 0 := rfl
theorem sum_succ (n : Nat) (f : Nat → K) : sum (n + 1) f = sum n f + f n := rfl
theorem sum_congr {n : Nat} {f g : Nat → K} (h : ∀ k, k < n → f k = g k) : sum n f = sum n g := by
  induction n with
  | zero => rfl
  | succ n ih => rw [sum_succ, sum_succ, ih fun k hk => h k (by omega), h n (by omega)]
theorem sum_mul (n : Nat) (a : K) (f : Nat → K) : sum n (fun k => a * f k) = a * sum n f := by
  induction n with
  | zero => simp; grind
  | succ n ih => rw [sum_succ, sum_succ, ih]; grind
theorem sum_zeros {n : Nat} {f : Nat → K} (h : ∀ k, k < n → f k = 0) : sum n f = 0 := by
  induction n with
  | zero => rfl
  | succ n ih => rw [sum_succ, ih fun k hk => h k (by omega), h n (by omega)]; grind
theorem sum_first (n : Nat) (f : Nat → K) : sum (n + 1) f = f 0 + sum n (fun k => f (k + 1)) := by
  induction n with
  | zero => simp [sum_succ]; grind
  | succ n ih => rw [sum_succ, ih, sum_succ]; grind
theorem sum_more {n m : Nat} (h : n ≤ m) {f : Nat → K} (h0 : ∀ k, n ≤ k → k < m → f k = 0) : sum m f = sum n f := by
  induction m with
  | zero => rw [show n = 0 by omega]
  | succ m ih =>
    by_cases e : n = m + 1
    · rw [e]
    · rw [sum_succ, ih (by omega) fun k h1 h2 => h0 k h1 (by omega), h0 m (by omega) (by omega)]; grind
/-- backwards -/
theorem sum_rev (n : Nat) (f : Nat → K) : sum n f = sum n (fun k => f (n - 1 - k)) := by
  induction n generalizing f with
  | zero => rfl
  | succ n ih =>
    rw [sum_first, sum_succ, ih]
    have : sum n (fun k => f (n - 1 - k + 1)) = sum n fun k => f (n + 1 - 1 - k) := sum_congr fun k hk => by congr 1; omega
    rw [this]
    have : n + 1 - 1 - n = 0 := by omega
    rw [this]; grind
/-! values -/
def ev : List K → K → K
  | [], _ => 0
  | a :: p, x => a + x * ev p x
@[simp] theorem ev_nil (x : K) : ev [] x = 0 := rfl
theorem ev_cons (a : K) (p : List K) (x : K) : ev (a :: p) x = a + x * ev p x := rfl
theorem ev_sum (p : List K) (x : K) : ev p x = sum p.length (fun k => co p k * x ^ k) := by
  induction p with
  | nil => rfl
  | cons a p ih =>
    rw [ev_cons, List.length_cons, sum_first, ih]
    simp only [co_zero, co_succ]
    have : sum p.length (fun k => co p k * x ^ (k + 1)) = x * sum p.length (fun k => co p k * x ^ k) := by
      rw [← sum_mul]; exact sum_congr fun k _ => by rw [Lean.Grind.Semiring.pow_succ]; grind
    rw [this, Lean.Grind.Semiring.pow_zero]; grind
theorem ev_sumN {p : List K} {n : Nat} (h : p.length ≤ n) (x : K) : ev p x = sum n (fun k => co p k * x ^ k) := by
  rw [ev_sum, sum_more h fun k h1 _ => by rw [co_ge h1]; grind]
theorem ev_congr {p q : List K} (h : ∀ k, co p k = co q k) (x : K) : ev p x = ev q x := by
  rw [ev_sumN (Nat.le_max_left p.length q.length), ev_sumN (Nat.le_max_right p.length q.length)]
  exact sum_congr fun k _ => by rw [h]
theorem ev_map_mul (a : K) (p : List K) (x : K) : ev (p.map (a * ·)) x = a * ev p x := by
  induction p with
  | nil => simp; grind
  | cons b p ih => simp only [List.map_cons, ev_cons, ih]; grind
/-! sums and products of rows -/
def add : List K → List K → List K
  | [], q => q
  | a :: p, [] => a :: p
  | a :: p, b :: q => (a + b) :: add p q
theorem co_add : ∀ (p q : List K) (k : Nat), co (add p q) k = co p k + co q k
  | [], q, k => by rw [add]; simp; grind
  | a :: p, [], k => by rw [add]; simp; grind
  | a :: p, b :: q, 0 => rfl
  | a :: p, b :: q, k + 1 => by rw [add]; simpa using co_add p q k
theorem ev_add : ∀ (p q : List K) (x : K), ev (add p q) x = ev p x + ev q x
  | [], q, x => by rw [add]; simp; grind
  | a :: p, [], x => by rw [add]; simp; grind
  | a :: p, b :: q, x => by rw [add, ev_cons, ev_cons, ev_cons, ev_add p q x]; grind
theorem len_add : ∀ (p q : List K), (add p q).length = max p.length q.length
  | [], q => by simp [add]
  | a :: p, [] => by simp [add]
  | a :: p, b :: q => by simp only [add, List.length_cons, len_add p q]; omega
def mul : List K → List K → List K
  | [], _ => []
  | a :: p, q => add (q.map (a * ·)) (0 :: mul p q)
def conv (p q : List K) (k : Nat) : K := sum (k + 1) fun j => co p j * co q (k - j)
theorem conv_nil (q : List K) (k : Nat) : conv [] q k = 0 := sum_zeros fun j _ => by simp; grind
theorem conv_cons (a : K) (p q : List K) (k : Nat) : conv (a :: p) q k = a * co q k + (match k with | 0 => 0 | k + 1 => conv p q k) := by
  unfold conv
  rw [sum_first]
  cases k with
  | zero => simp
  | succ k =>
    simp only [co_zero, co_succ, Nat.sub_zero]
    congr 1
    exact sum_congr fun j hj => by congr 2; omega
theorem co_mul : ∀ (p q : List K) (k : Nat), co (mul p q) k = conv p q k
  | [], q, k => by rw [mul, conv_nil]; rfl
  | a :: p, q, k => by
    rw [mul, co_add, conv_cons, co_mapf (by grind)]
    cases k with
    | zero => rfl
    | succ k => simp only [co_succ, co_mul p q k]
theorem ev_mul : ∀ (p q : List K) (x : K), ev (mul p q) x = ev p x * ev q x
  | [], q, x => by rw [mul]; simp; grind
  | a :: p, q, x => by rw [mul, ev_add, ev_cons, ev_map_mul, ev_mul p q x, ev_cons]; grind
theorem len_mul : ∀ (p q : List K), (mul p q).length ≤ p.length + q.length
  | [], q => by simp [mul]
  | a :: p, q => by simp only [mul, len_add, List.length_cons, List.length_map]; have := len_mul p q; omega
theorem conv_comm (p q : List K) (k : Nat) : conv p q k = conv q p k := by
  unfold conv
  rw [sum_rev]
  refine sum_congr fun j hj => ?_
  have e1 : k + 1 - 1 - j = k - j := by omega
  have e2 : k - (k - j) = j := by omega
  rw [e1, e2]; grind
theorem conv_ge {p q : List K} {k : Nat} (h : p.length + q.length ≤ k + 1) : conv p q k = 0 := sum_zeros fun j hj => by
  by_cases h1 : j < p.length
  · rw [co_ge (p := q) (by omega)]; grind
  · rw [co_ge (p := p) (by omega)]; grind
/-- the product's numbers, by the first row alone -/
theorem conv_len {p q : List K} {k n : Nat} (h : p.length ≤ n) : conv p q k = sum n fun j => if j ≤ k then co p j * co q (k - j) else 0 := by
  unfold conv
  by_cases hk : n ≤ k + 1
  · rw [sum_more hk fun j h1 h2 => by rw [co_ge (by omega)]; grind]
    exact sum_congr fun j hj => by rw [if_pos (by omega)]
  · have := sum_more (n := k + 1) (m := n) (f := fun j => if j ≤ k then co p j * co q (k - j) else 0) (by omega) fun j h1 h2 => if_neg (by omega)
    rw [this]
    exact sum_congr fun j hj => by rw [if_pos (by omega)]
end
section
variable {K : Type} [Lean.Grind.Field K] [DecidableEq K]
/-! without noughts at the end -/
def trim : List K → List K
  | [] => []
  | a :: p => match trim p with
    | [] => if a = 0 then [] else [a]
    | b :: q => a :: b :: q
theorem trim_cons_nil {a : K} {p : List K} (h : trim p = []) : trim (a :: p) = if a = 0 then [] else [a] := by rw [trim, h]
theorem trim_cons_ne {a : K} {p : List K} (h : trim p ≠ []) : trim (a :: p) = a :: trim p := by
  rw [trim]
  cases e : trim p with
  | nil => exact absurd e h
  | cons b q => rfl
theorem co_trim (p : List K) : ∀ k, co (trim p) k = co p k := by
  induction p with
  | nil => intro k; rfl
  | cons a p ih =>
    intro k
    by_cases h : trim p = []
    · rw [trim_cons_nil h]
      have z : ∀ k, co p k = 0 := fun k => by rw [← ih k, h]; rfl
      split
      · cases k with
        | zero => simp [*]
        | succ k => simp [z]
      · cases k with
        | zero => rfl
        | succ k => simp [z]
    · rw [trim_cons_ne h]
      cases k with
      | zero => rfl
      | succ k => simpa using ih k
theorem trim_nil_iff (p : List K) : trim p = [] ↔ ∀ k, co p k = 0 := by
  constructor
  · intro h k; rw [← co_trim, h]; rfl
  · intro h
    induction p with
    | nil => rfl
    | cons a p ih =>
      rw [trim_cons_nil (ih fun k => by simpa using h (k + 1)), if_pos (by simpa using h 0)]
theorem trim_congr {p q : List K} (h : ∀ k, co p k = co q k) : trim p = trim q := by
  induction p generalizing q with
  | nil => exact ((trim_nil_iff q).mpr fun k => by rw [← h k]; rfl).symm
  | cons a p ih =>
    cases q with
    | nil => exact (trim_nil_iff _).mpr fun k => by rw [h k]; rfl
    | cons b q =>
      have h0 : a = b := by simpa using h 0
      have h1 := ih (q := q) fun k => by simpa using h (k + 1)
      rw [trim, trim, h1, h0]
theorem trim_trim (p : List K) : trim (trim p) = trim p := trim_congr (co_trim p)
theorem ev_trim (p : List K) (x : K) : ev (trim p) x = ev p x := ev_congr (co_trim p) x
theorem trim_len (p : List K) : (trim p).length ≤ p.length := by
  induction p with
  | nil => exact Nat.le_refl _
  | cons a p ih =>
    by_cases h : trim p = []
    · rw [trim_cons_nil h]; split <;> simp
    · rw [trim_cons_ne h]; simpa using ih
theorem trim_last {p : List K} {n : Nat} (h : (trim p).length = n + 1) : co p n ≠ 0 := by
  induction p generalizing n with
  | nil => simp [trim] at h
  | cons a p ih =>
    by_cases h0 : trim p = []
    · rw [trim_cons_nil h0] at h
      split at h
      · simp at h
      · simp at h; subst h; simpa
    · rw [trim_cons_ne h0] at h
      have hl : (trim p).length = n := by simpa using h
      cases n with
      | zero => exact absurd (List.length_eq_zero_iff.mp hl) h0
      | succ n => simpa using ih hl
theorem take_trim {p : List K} {m : Nat} (hm : m ≤ p.length) (h : ∀ k, m ≤ k → co p k = 0) (hl : ∀ n, m = n + 1 → co p n ≠ 0) : p.take m = trim p := by
  have e : (trim p).length = m := by
    rcases Nat.lt_trichotomy (trim p).length m with q | q | q
    · exfalso
      obtain ⟨n, rfl⟩ : ∃ n, m = n + 1 := ⟨m - 1, by omega⟩
      exact hl n rfl (by rw [← co_trim, co_ge (by omega)])
    · exact q
    · exfalso
      obtain ⟨n, hn⟩ : ∃ n, (trim p).length = n + 1 := ⟨(trim p).length - 1, by omega⟩
      exact trim_last hn (h n (by omega))
  refine ext_co (by rw [List.length_take, e]; omega) fun k => ?_
  rw [co_trim]
  by_cases hk : k < m
  · rw [co_lt (by rw [List.length_take]; omega), co_lt (by omega), List.getElem_take]
  · rw [co_ge (by rw [List.length_take]; omega), h k (by omega)]
/-- a row: no nought at its end -/
def Row (p : List K) : Prop := trim p = p
theorem Row.trim (p : List K) : Row (trim p) := trim_trim p
theorem Row.nil : Row ([] : List K) := rfl
theorem Row.ext {p q : List K} (h : Row p) (g : Row q) (e : ∀ k, co p k = co q k) : p = q := by rw [← h, ← g]; exact trim_congr e
theorem Row.last {p : List K} {n : Nat} (h : Row p) (hn : p.length = n + 1) : co p n ≠ 0 := trim_last (by rw [h, hn])
theorem row_iff {p : List K} : Row p ↔ ∀ n, p.length = n + 1 → co p n ≠ 0 := by
  constructor
  · intro h n hn; exact h.last hn
  · intro h
    have := take_trim (p := p) (m := p.length) (Nat.le_refl _) (fun k hk => co_ge hk) h
    rw [List.take_length] at this
    exact this.symm
end
end Po
end EvL

set_option Elab.async false
set_option linter.all false
set_option maxRecDepth 100000
namespace EvL
open PySem PySem.Spec PyProof.Rows L2
namespace Pk
def E__law_dip_2 : FnE := ⟨"_law_dip", 2, [], F1.dip, [.inl 0, .inl 1], []⟩
def ir__law_trim : List IS := [(.set 1 (.lenv 0)), (.fr (.nm 2) .rng1 [(.lenv 0)] [(.ife (.and (.cmp .eq (.var 1) (.bin .sub (.lenv 0) (.var 2))) (.cmp .eq (.slc false true (.ixv 0 (.bin .sub (.var 1) (.cst (.int (1))))) (.cst .none) (.cst (.int (2)))) (.tup [(.cst (.int (0))), (.cst (.int (0)))]))) [(.set 1 (.bin .sub (.var 1) (.cst (.int (1)))))] [])]), (.ret (.bi .list [(.slc false true (.var 0) (.cst .none) (.var 1))]))]
def _law_trim : FnD := ⟨false, runB false 1 3 ir__law_trim⟩
@[simp] theorem mt__law_trim : _law_trim.mt = false := rfl
theorem run__law_trim : _law_trim.run = runB false 1 3 ir__law_trim := rfl
def E__law_trim_1 : FnE := ⟨"_law_trim", 1, [], Pk._law_trim, [.inl 0], []⟩
@[simp] theorem pm_E__law_trim_1 (a0 : PyData) : E__law_trim_1.pm [a0] = [a0] := rfl
def E__law_gcd_2 : FnE := ⟨"_law_gcd", 2, [], F1.gcd, [.inl 0, .inl 1], []⟩
@[simp] theorem pm_E__law_gcd_2 (a0 a1 : PyData) : E__law_gcd_2.pm [a0, a1] = [a0, a1] := rfl
def ir__law_cut : List IS := [(.set 3 (.call F1.gcd Pk.E__law_gcd_2.pm [(.call F1.gcd Pk.E__law_gcd_2.pm [(.var 0), (.var 1)]), (.var 2)])), (.ife (.cmp .lt (.var 2) (.cst (.int (0)))) [(.set 3 (.bin .sub (.cst (.int (0))) (.var 3)))] []), (.ret (.tup [(.bin .fdiv (.var 0) (.var 3)), (.bin .fdiv (.var 1) (.var 3)), (.bin .fdiv (.var 2) (.var 3))]))]
def _law_cut : FnD := ⟨false, runB false 3 4 ir__law_cut⟩
@[simp] theorem mt__law_cut : _law_cut.mt = false := rfl
theorem run__law_cut : _law_cut.run = runB false 3 4 ir__law_cut := rfl
def E__law_cut_3 : FnE := ⟨"_law_cut", 3, [], Pk._law_cut, [.inl 0, .inl 1, .inl 2], []⟩
@[simp] theorem pm_E__law_cut_3 (a0 a1 a2 : PyData) : E__law_cut_3.pm [a0, a1, a2] = [a0, a1, a2] := rfl
def ir__law_drawn : List IS := [(.par [3, 4] [(.bin .sub (.callm F1.dip 0 [(.bin .add (.bin .mul (.cst (.int (2))) (.var 1)) (.cst (.int (1))))]) (.var 1)), (.bin .sub (.callm F1.dip 0 [(.bin .add (.bin .mul (.cst (.int (2))) (.var 1)) (.cst (.int (1))))]) (.var 1))]), (.ife (.cmp .eq (.callm F1.dip 0 [(.cst (.int (3)))]) (.cst (.int (0)))) [(.set 4 (.cst (.int (0))))] []), (.ret (.call Pk._law_cut Pk.E__law_cut_3.pm [(.var 3), (.var 4), (.bin .add (.cst (.int (1))) (.callm F1.dip 0 [(.var 2)]))]))]
def _law_drawn : FnD := ⟨true, runB true 3 5 ir__law_drawn⟩
@[simp] theorem mt__law_drawn : _law_drawn.mt = true := rfl
theorem run__law_drawn : _law_drawn.run = runB true 3 5 ir__law_drawn := rfl
def E__law_drawn_3 : FnE := ⟨"_law_drawn", 3, [], Pk._law_drawn, [.inl 0, .inl 1, .inl 2], []⟩
def ir__law_row : List IS := [(.set 2 (.lc [3] (.nm 3) .rng1 [(.callm F1.dip 0 [(.bin .add (.var 1) (.cst (.int (1))))])] [] (.callm Pk._law_drawn 0 [(.cst (.int (4))), (.cst (.int (3)))]))), (.ret (.call Pk._law_trim Pk.E__law_trim_1.pm [(.lc [4] (.nm 4) .seq [(.var 2)] [] (.ite (.cmp .eq (.callm F1.dip 0 [(.cst (.int (5)))]) (.cst (.int (0)))) (.tup [(.cst (.int (0))), (.cst (.int (0))), (.cst (.int (1)))]) (.var 4)))]))]
def _law_row : FnD := ⟨true, runB true 2 5 ir__law_row⟩
@[simp] theorem mt__law_row : _law_row.mt = true := rfl
theorem run__law_row : _law_row.run = runB true 2 5 ir__law_row := rfl
def E__law_row_2 : FnE := ⟨"_law_row", 2, [], Pk._law_row, [.inl 0, .inl 1], []⟩
def ir__law_fraction : List IS := [(.set 2 (.call F1.gcd Pk.E__law_gcd_2.pm [(.var 0), (.var 1)])), (.ife (.cmp .lt (.var 1) (.cst (.int (0)))) [(.set 2 (.bin .sub (.cst (.int (0))) (.var 2)))] []), (.ret (.tup [(.bin .fdiv (.var 0) (.var 2)), (.bin .fdiv (.var 1) (.var 2))]))]
def _law_fraction : FnD := ⟨false, runB false 2 3 ir__law_fraction⟩
@[simp] theorem mt__law_fraction : _law_fraction.mt = false := rfl
theorem run__law_fraction : _law_fraction.run = runB false 2 3 ir__law_fraction := rfl
def E__law_fraction_2 : FnE := ⟨"_law_fraction", 2, [], Pk._law_fraction, [.inl 0, .inl 1], []⟩
@[simp] theorem pm_E__law_fraction_2 (a0 a1 : PyData) : E__law_fraction_2.pm [a0, a1] = [a0, a1] := rfl
def ir__law_told : List IS := [(.ret (.tup [(.call Pk._law_fraction Pk.E__law_fraction_2.pm [(.ixv 0 (.cst (.int (0)))), (.ixv 0 (.cst (.int (2))))]), (.call Pk._law_fraction Pk.E__law_fraction_2.pm [(.ixv 0 (.cst (.int (1)))), (.ixv 0 (.cst (.int (2))))])]))]
def _law_told : FnD := ⟨false, runB false 1 1 ir__law_told⟩
@[simp] theorem mt__law_told : _law_told.mt = false := rfl
theorem run__law_told : _law_told.run = runB false 1 1 ir__law_told := rfl
def E__law_told_1 : FnE := ⟨"_law_told", 1, [], Pk._law_told, [.inl 0], []⟩
@[simp] theorem pm_E__law_told_1 (a0 : PyData) : E__law_told_1.pm [a0] = [a0] := rfl
def ir__law_told_row : List IS := [(.ret (.bi .tuple [(.lc [1] (.nm 1) .seq [(.call Pk._law_trim Pk.E__law_trim_1.pm [(.var 0)])] [] (.call Pk._law_told Pk.E__law_told_1.pm [(.var 1)]))]))]
def _law_told_row : FnD := ⟨false, runB false 1 2 ir__law_told_row⟩
@[simp] theorem mt__law_told_row : _law_told_row.mt = false := rfl
theorem run__law_told_row : _law_told_row.run = runB false 1 2 ir__law_told_row := rfl
def E__law_told_row_1 : FnE := ⟨"_law_told_row", 1, [], Pk._law_told_row, [.inl 0], []⟩
@[simp] theorem pm_E__law_told_row_1 (a0 : PyData) : E__law_told_row_1.pm [a0] = [a0] := rfl
def ir_is_whole : List IS := [(.ret (.and (.bi .isint [(.var 0)]) (.not (.bi .isbool [(.var 0)]))))]
def is_whole : FnD := ⟨false, runB false 1 1 ir_is_whole⟩
@[simp] theorem mt_is_whole : is_whole.mt = false := rfl
theorem run_is_whole : is_whole.run = runB false 1 1 ir_is_whole := rfl
def E_is_whole_1 : FnE := ⟨"is_whole", 1, [], Pk.is_whole, [.inl 0], []⟩
@[simp] theorem pm_E_is_whole_1 (a0 : PyData) : E_is_whole_1.pm [a0] = [a0] := rfl
def ir_is_frac : List IS := [(.ife (.or (.not (.bi .istuple [(.var 0)])) (.or (.cmp .ne (.lenv 0) (.cst (.int (2)))) (.or (.not (.call Pk.is_whole Pk.E_is_whole_1.pm [(.ixv 0 (.cst (.int (0))))])) (.not (.call Pk.is_whole Pk.E_is_whole_1.pm [(.ixv 0 (.cst (.int (1))))]))))) [(.ret (.cst (.bool false)))] []), (.ret (.and (.cmp .gt (.ixv 0 (.cst (.int (1)))) (.cst (.int (0)))) (.cmp .eq (.bi .gcd [(.ixv 0 (.cst (.int (0)))), (.ixv 0 (.cst (.int (1))))]) (.cst (.int (1))))))]
def is_frac : FnD := ⟨false, runB false 1 1 ir_is_frac⟩
@[simp] theorem mt_is_frac : is_frac.mt = false := rfl
theorem run_is_frac : is_frac.run = runB false 1 1 ir_is_frac := rfl
def E_is_frac_1 : FnE := ⟨"is_frac", 1, [], Pk.is_frac, [.inl 0], []⟩
@[simp] theorem pm_E_is_frac_1 (a0 : PyData) : E_is_frac_1.pm [a0] = [a0] := rfl
def ir_is_num : List IS := [(.ret (.and (.bi .istuple [(.var 0)]) (.and (.cmp .eq (.lenv 0) (.cst (.int (2)))) (.and (.call Pk.is_frac Pk.E_is_frac_1.pm [(.ixv 0 (.cst (.int (0))))]) (.call Pk.is_frac Pk.E_is_frac_1.pm [(.ixv 0 (.cst (.int (1))))])))))]
def is_num : FnD := ⟨false, runB false 1 1 ir_is_num⟩
@[simp] theorem mt_is_num : is_num.mt = false := rfl
theorem run_is_num : is_num.run = runB false 1 1 ir_is_num := rfl
def E_is_num_1 : FnE := ⟨"is_num", 1, [], Pk.is_num, [.inl 0], []⟩
@[simp] theorem pm_E_is_num_1 (a0 : PyData) : E_is_num_1.pm [a0] = [a0] := rfl
def ir_is_a_row : List IS := [(.ife (.or (.not (.bi .istuple [(.var 0)])) (.cmp .ne (.lc [1] (.nm 1) .seq [(.var 0)] [(.not (.call Pk.is_num Pk.E_is_num_1.pm [(.var 1)]))] (.var 1)) (.lst []))) [(.ret (.cst (.bool false)))] []), (.ret (.or (.cmp .eq (.var 0) (.tup [])) (.cmp .ne (.ixv 0 (.neg (.cst (.int (1))))) (.cst (.tuple [(.tuple [(.int (0)), (.int (1))]), (.tuple [(.int (0)), (.int (1))])])))))]
def is_a_row : FnD := ⟨false, runB false 1 2 ir_is_a_row⟩
@[simp] theorem mt_is_a_row : is_a_row.mt = false := rfl
theorem run_is_a_row : is_a_row.run = runB false 1 2 ir_is_a_row := rfl
def E_is_a_row_1 : FnE := ⟨"is_a_row", 1, [], Pk.is_a_row, [.inl 0], []⟩
@[simp] theorem pm_E_is_a_row_1 (a0 : PyData) : E_is_a_row_1.pm [a0] = [a0] := rfl
def ir_check_row : List IS := [(.ife (.not (.call Pk.is_a_row Pk.E_is_a_row_1.pm [(.var 0)])) [.nev] [])]
def check_row : FnD := ⟨false, runB false 1 1 ir_check_row⟩
@[simp] theorem mt_check_row : check_row.mt = false := rfl
theorem run_check_row : check_row.run = runB false 1 1 ir_check_row := rfl
def E_check_row_1 : FnE := ⟨"check_row", 1, [], Pk.check_row, [.inl 0], []⟩
@[simp] theorem pm_E_check_row_1 (a0 : PyData) : E_check_row_1.pm [a0] = [a0] := rfl
def ir_row_trimmed : List IS := [(.set 1 (.lenv 0)), (.whl (.and (.cmp .gt (.var 1) (.cst (.int (0)))) (.cmp .eq (.ixv 0 (.bin .sub (.var 1) (.cst (.int (1))))) (.cst (.tuple [(.tuple [(.int (0)), (.int (1))]), (.tuple [(.int (0)), (.int (1))])])))) [(.aug 1 .sub (.cst (.int (1))))]), (.ret (.bi .tuple [(.slc false true (.var 0) (.cst .none) (.var 1))]))]
def row_trimmed : FnD := ⟨false, runB false 1 2 ir_row_trimmed⟩
@[simp] theorem mt_row_trimmed : row_trimmed.mt = false := rfl
theorem run_row_trimmed : row_trimmed.run = runB false 1 2 ir_row_trimmed := rfl
def E_row_trimmed_1 : FnE := ⟨"row_trimmed", 1, [], Pk.row_trimmed, [.inl 0], []⟩
@[simp] theorem pm_E_row_trimmed_1 (a0 : PyData) : E_row_trimmed_1.pm [a0] = [a0] := rfl
def ir_frac_reduced : List IS := [(.set 2 (.ite (.cmp .gt (.var 1) (.cst (.int (0)))) (.bi .gcd [(.var 0), (.var 1)]) (.neg (.bi .gcd [(.var 0), (.var 1)])))), (.ret (.tup [(.bin .fdiv (.var 0) (.var 2)), (.bin .fdiv (.var 1) (.var 2))]))]
def frac_reduced : FnD := ⟨false, runB false 2 3 ir_frac_reduced⟩
@[simp] theorem mt_frac_reduced : frac_reduced.mt = false := rfl
theorem run_frac_reduced : frac_reduced.run = runB false 2 3 ir_frac_reduced := rfl
def E_frac_reduced_2 : FnE := ⟨"frac_reduced", 2, [], Pk.frac_reduced, [.inl 0, .inl 1], []⟩
@[simp] theorem pm_E_frac_reduced_2 (a0 a1 : PyData) : E_frac_reduced_2.pm [a0, a1] = [a0, a1] := rfl
def ir_frac_sum : List IS := [(.ret (.call Pk.frac_reduced Pk.E_frac_reduced_2.pm [(.bin .add (.bin .mul (.ixv 0 (.cst (.int (0)))) (.ixv 1 (.cst (.int (1))))) (.bin .mul (.ixv 1 (.cst (.int (0)))) (.ixv 0 (.cst (.int (1)))))), (.bin .mul (.ixv 0 (.cst (.int (1)))) (.ixv 1 (.cst (.int (1)))))]))]
def frac_sum : FnD := ⟨false, runB false 2 2 ir_frac_sum⟩
@[simp] theorem mt_frac_sum : frac_sum.mt = false := rfl
def E_frac_sum_2 : FnE := ⟨"frac_sum", 2, [], Pk.frac_sum, [.inl 0, .inl 1], []⟩
@[simp] theorem pm_E_frac_sum_2 (a0 a1 : PyData) : E_frac_sum_2.pm [a0, a1] = [a0, a1] := rfl
def ir_num_sum : List IS := [(.ret (.tup [(.call Pk.frac_sum Pk.E_frac_sum_2.pm [(.ixv 0 (.cst (.int (0)))), (.ixv 1 (.cst (.int (0))))]), (.call Pk.frac_sum Pk.E_frac_sum_2.pm [(.ixv 0 (.cst (.int (1)))), (.ixv 1 (.cst (.int (1))))])]))]
def num_sum : FnD := ⟨false, runB false 2 2 ir_num_sum⟩
@[simp] theorem mt_num_sum : num_sum.mt = false := rfl
def E_num_sum_2 : FnE := ⟨"num_sum", 2, [], Pk.num_sum, [.inl 0, .inl 1], []⟩
@[simp] theorem pm_E_num_sum_2 (a0 a1 : PyData) : E_num_sum_2.pm [a0, a1] = [a0, a1] := rfl
def ir_frac_less : List IS := [(.ret (.call Pk.frac_reduced Pk.E_frac_reduced_2.pm [(.bin .sub (.bin .mul (.ixv 0 (.cst (.int (0)))) (.ixv 1 (.cst (.int (1))))) (.bin .mul (.ixv 1 (.cst (.int (0)))) (.ixv 0 (.cst (.int (1)))))), (.bin .mul (.ixv 0 (.cst (.int (1)))) (.ixv 1 (.cst (.int (1)))))]))]
def frac_less : FnD := ⟨false, runB false 2 2 ir_frac_less⟩
@[simp] theorem mt_frac_less : frac_less.mt = false := rfl
theorem run_frac_less : frac_less.run = runB false 2 2 ir_frac_less := rfl
def E_frac_less_2 : FnE := ⟨"frac_less", 2, [], Pk.frac_less, [.inl 0, .inl 1], []⟩
@[simp] theorem pm_E_frac_less_2 (a0 a1 : PyData) : E_frac_less_2.pm [a0, a1] = [a0, a1] := rfl
def ir_num_less : List IS := [(.ret (.tup [(.call Pk.frac_less Pk.E_frac_less_2.pm [(.ixv 0 (.cst (.int (0)))), (.ixv 1 (.cst (.int (0))))]), (.call Pk.frac_less Pk.E_frac_less_2.pm [(.ixv 0 (.cst (.int (1)))), (.ixv 1 (.cst (.int (1))))])]))]
def num_less : FnD := ⟨false, runB false 2 2 ir_num_less⟩
@[simp] theorem mt_num_less : num_less.mt = false := rfl
theorem run_num_less : num_less.run = runB false 2 2 ir_num_less := rfl
def E_num_less_2 : FnE := ⟨"num_less", 2, [], Pk.num_less, [.inl 0, .inl 1], []⟩
@[simp] theorem pm_E_num_less_2 (a0 a1 : PyData) : E_num_less_2.pm [a0, a1] = [a0, a1] := rfl
def ir_num_product : List IS := [(.asg (.tp [(.tp [(.nm 2), (.nm 3)]), (.tp [(.nm 4), (.nm 5)])]) (.var 0)), (.asg (.tp [(.tp [(.nm 6), (.nm 7)]), (.tp [(.nm 8), (.nm 9)])]) (.var 1)), (.set 10 (.bin .mul (.bin .mul (.bin .mul (.var 3) (.var 5)) (.var 7)) (.var 9))), (.ret (.tup [(.call Pk.frac_reduced Pk.E_frac_reduced_2.pm [(.bin .sub (.bin .mul (.bin .mul (.bin .mul (.var 2) (.var 6)) (.var 5)) (.var 9)) (.bin .mul (.bin .mul (.bin .mul (.var 4) (.var 8)) (.var 3)) (.var 7))), (.var 10)]), (.call Pk.frac_reduced Pk.E_frac_reduced_2.pm [(.bin .add (.bin .mul (.bin .mul (.bin .mul (.var 2) (.var 8)) (.var 5)) (.var 7)) (.bin .mul (.bin .mul (.bin .mul (.var 4) (.var 6)) (.var 3)) (.var 9))), (.var 10)])]))]
def num_product : FnD := ⟨false, runB false 2 11 ir_num_product⟩
@[simp] theorem mt_num_product : num_product.mt = false := rfl
theorem run_num_product : num_product.run = runB false 2 11 ir_num_product := rfl
def E_num_product_2 : FnE := ⟨"num_product", 2, [], Pk.num_product, [.inl 0, .inl 1], []⟩
@[simp] theorem pm_E_num_product_2 (a0 a1 : PyData) : E_num_product_2.pm [a0, a1] = [a0, a1] := rfl
def ir__law_add : List IS := [(.ret (.call Pk._law_cut Pk.E__law_cut_3.pm [(.bin .add (.bin .mul (.ixv 0 (.cst (.int (0)))) (.ixv 1 (.cst (.int (2))))) (.bin .mul (.ixv 1 (.cst (.int (0)))) (.ixv 0 (.cst (.int (2)))))), (.bin .add (.bin .mul (.ixv 0 (.cst (.int (1)))) (.ixv 1 (.cst (.int (2))))) (.bin .mul (.ixv 1 (.cst (.int (1)))) (.ixv 0 (.cst (.int (2)))))), (.bin .mul (.ixv 0 (.cst (.int (2)))) (.ixv 1 (.cst (.int (2)))))]))]
def _law_add : FnD := ⟨false, runB false 2 2 ir__law_add⟩
@[simp] theorem mt__law_add : _law_add.mt = false := rfl
theorem run__law_add : _law_add.run = runB false 2 2 ir__law_add := rfl
def E__law_add_2 : FnE := ⟨"_law_add", 2, [], Pk._law_add, [.inl 0, .inl 1], []⟩
@[simp] theorem pm_E__law_add_2 (a0 a1 : PyData) : E__law_add_2.pm [a0, a1] = [a0, a1] := rfl
def ir__law_times : List IS := [(.ret (.call Pk._law_cut Pk.E__law_cut_3.pm [(.bin .sub (.bin .mul (.ixv 0 (.cst (.int (0)))) (.ixv 1 (.cst (.int (0))))) (.bin .mul (.ixv 0 (.cst (.int (1)))) (.ixv 1 (.cst (.int (1)))))), (.bin .add (.bin .mul (.ixv 0 (.cst (.int (0)))) (.ixv 1 (.cst (.int (1))))) (.bin .mul (.ixv 0 (.cst (.int (1)))) (.ixv 1 (.cst (.int (0)))))), (.bin .mul (.ixv 0 (.cst (.int (2)))) (.ixv 1 (.cst (.int (2)))))]))]
def _law_times : FnD := ⟨false, runB false 2 2 ir__law_times⟩
@[simp] theorem mt__law_times : _law_times.mt = false := rfl
theorem run__law_times : _law_times.run = runB false 2 2 ir__law_times := rfl
def E__law_times_2 : FnE := ⟨"_law_times", 2, [], Pk._law_times, [.inl 0, .inl 1], []⟩
@[simp] theorem pm_E__law_times_2 (a0 a1 : PyData) : E__law_times_2.pm [a0, a1] = [a0, a1] := rfl
def ir_check_number : List IS := [(.ife (.not (.call Pk.is_num Pk.E_is_num_1.pm [(.var 0)])) [.nev] [])]
def check_number : FnD := ⟨false, runB false 1 1 ir_check_number⟩
@[simp] theorem mt_check_number : check_number.mt = false := rfl
theorem run_check_number : check_number.run = runB false 1 1 ir_check_number := rfl
def E_check_number_1 : FnE := ⟨"check_number", 1, [], Pk.check_number, [.inl 0], []⟩
@[simp] theorem pm_E_check_number_1 (a0 : PyData) : E_check_number_1.pm [a0] = [a0] := rfl
def ir__law_row_sum : List IS := [(.set 2 (.bi .max2 [(.lenv 0), (.lenv 1)])), (.set 3 (.lc [4] (.nm 4) .seq [(.lst [(.var 0), (.var 1)])] [] (.bin .add (.bi .list [(.var 4)]) (.bin .mul (.lst [(.tup [(.cst (.int (0))), (.cst (.int (0))), (.cst (.int (1)))])]) (.bin .sub (.var 2) (.lenv 4)))))), (.ret (.call Pk._law_trim Pk.E__law_trim_1.pm [(.lc [5] (.nm 5) .rng1 [(.var 2)] [] (.call Pk._law_add Pk.E__law_add_2.pm [(.ix (.ixv 3 (.cst (.int (0)))) (.var 5)), (.ix (.ixv 3 (.cst (.int (1)))) (.var 5))]))]))]
def _law_row_sum : FnD := ⟨false, runB false 2 6 ir__law_row_sum⟩
@[simp] theorem mt__law_row_sum : _law_row_sum.mt = false := rfl
theorem run__law_row_sum : _law_row_sum.run = runB false 2 6 ir__law_row_sum := rfl
def E__law_row_sum_2 : FnE := ⟨"_law_row_sum", 2, [], Pk._law_row_sum, [.inl 0, .inl 1], []⟩
@[simp] theorem pm_E__law_row_sum_2 (a0 a1 : PyData) : E__law_row_sum_2.pm [a0, a1] = [a0, a1] := rfl
def ir__law_row_times : List IS := [(.par [2, 3] [(.lst []), (.cst (.int (1)))]), (.fr (.nm 4) .seq [(.lst [(.var 0), (.var 1)])] [(.set 5 (.cst (.int (1)))), (.fr (.nm 6) .seq [(.var 4)] [(.set 5 (.bin .mul (.bin .fdiv (.var 5) (.call F1.gcd Pk.E__law_gcd_2.pm [(.var 5), (.ixv 6 (.cst (.int (2))))])) (.ixv 6 (.cst (.int (2))))))]), (.app 2 (.lc [6] (.nm 6) .seq [(.var 4)] [] (.tup [(.bin .mul (.ixv 6 (.cst (.int (0)))) (.bin .fdiv (.var 5) (.ixv 6 (.cst (.int (2)))))), (.bin .mul (.ixv 6 (.cst (.int (1)))) (.bin .fdiv (.var 5) (.ixv 6 (.cst (.int (2))))))]))), (.set 3 (.bin .mul (.var 3) (.var 5)))]), (.set 7 (.bi .max2 [(.cst (.int (0))), (.bin .sub (.bin .add (.lenv 0) (.lenv 1)) (.cst (.int (1))))])), (.par [8, 9] [(.bin .mul (.lst [(.cst (.int (0)))]) (.var 7)), (.bin .mul (.lst [(.cst (.int (0)))]) (.var 7))]), (.fr (.nm 10) .rng1 [(.lenv 0)] [(.fr (.nm 11) .rng1 [(.lenv 1)] [(.asg (.tp [(.nm 12), (.nm 13)]) (.ix (.ixv 2 (.cst (.int (0)))) (.var 10))), (.asg (.tp [(.nm 14), (.nm 15)]) (.ix (.ixv 2 (.cst (.int (1)))) (.var 11))), (.put 8 (.bin .add (.var 10) (.var 11)) (.bin .sub (.bin .add (.ixv 8 (.bin .add (.var 10) (.var 11))) (.bin .mul (.var 12) (.var 14))) (.bin .mul (.var 13) (.var 15)))), (.put 9 (.bin .add (.var 10) (.var 11)) (.bin .add (.bin .add (.ixv 9 (.bin .add (.var 10) (.var 11))) (.bin .mul (.var 12) (.var 15))) (.bin .mul (.var 13) (.var 14))))])]), (.ret (.call Pk._law_trim Pk.E__law_trim_1.pm [(.lc [11] (.nm 11) .rng1 [(.var 7)] [] (.call Pk._law_cut Pk.E__law_cut_3.pm [(.ixv 8 (.var 11)), (.ixv 9 (.var 11)), (.var 3)]))]))]
def _law_row_times : FnD := ⟨false, runB false 2 16 ir__law_row_times⟩
@[simp] theorem mt__law_row_times : _law_row_times.mt = false := rfl
theorem run__law_row_times : _law_row_times.run = runB false 2 16 ir__law_row_times := rfl
def E__law_row_times_2 : FnE := ⟨"_law_row_times", 2, [], Pk._law_row_times, [.inl 0, .inl 1], []⟩
@[simp] theorem pm_E__law_row_times_2 (a0 a1 : PyData) : E__law_row_times_2.pm [a0, a1] = [a0, a1] := rfl
def E__law_pail_2 : FnE := ⟨"_law_pail", 2, [], F1.pail, [.inl 0, .inl 1], []⟩
@[simp] theorem pm_E__law_pail_2 (a0 a1 : PyData) : E__law_pail_2.pm [a0, a1] = [a0, a1] := rfl
end Pk
end EvL

set_option Elab.async false
set_option linter.all false
set_option maxRecDepth 100000
namespace EvL
open PySem PySem.Spec PyProof.Rows L2
namespace Pk
def ir_frac_product : List IS := [(.ret (.call Pk.frac_reduced Pk.E_frac_reduced_2.pm [(.bin .mul (.ixv 0 (.cst (.int (0)))) (.ixv 1 (.cst (.int (0))))), (.bin .mul (.ixv 0 (.cst (.int (1)))) (.ixv 1 (.cst (.int (1)))))]))]
def frac_product : FnD := ⟨false, runB false 2 2 ir_frac_product⟩
@[simp] theorem mt_frac_product : frac_product.mt = false := rfl
theorem run_frac_product : frac_product.run = runB false 2 2 ir_frac_product := rfl
def E_frac_product_2 : FnE := ⟨"frac_product", 2, [], Pk.frac_product, [.inl 0, .inl 1], []⟩
@[simp] theorem pm_E_frac_product_2 (a0 a1 : PyData) : E_frac_product_2.pm [a0, a1] = [a0, a1] := rfl
def ir_num_scaled : List IS := [(.ret (.tup [(.call Pk.frac_product Pk.E_frac_product_2.pm [(.ixv 0 (.cst (.int (0)))), (.var 1)]), (.call Pk.frac_product Pk.E_frac_product_2.pm [(.ixv 0 (.cst (.int (1)))), (.var 1)])]))]
def num_scaled : FnD := ⟨false, runB false 2 2 ir_num_scaled⟩
@[simp] theorem mt_num_scaled : num_scaled.mt = false := rfl
theorem run_num_scaled : num_scaled.run = runB false 2 2 ir_num_scaled := rfl
def E_num_scaled_2 : FnE := ⟨"num_scaled", 2, [], Pk.num_scaled, [.inl 0, .inl 1], []⟩
@[simp] theorem pm_E_num_scaled_2 (a0 a1 : PyData) : E_num_scaled_2.pm [a0, a1] = [a0, a1] := rfl
def ir_frac_over : List IS := [(.ret (.call Pk.frac_reduced Pk.E_frac_reduced_2.pm [(.bin .mul (.ixv 0 (.cst (.int (0)))) (.ixv 1 (.cst (.int (1))))), (.bin .mul (.ixv 0 (.cst (.int (1)))) (.ixv 1 (.cst (.int (0)))))]))]
def frac_over : FnD := ⟨false, runB false 2 2 ir_frac_over⟩
@[simp] theorem mt_frac_over : frac_over.mt = false := rfl
theorem run_frac_over : frac_over.run = runB false 2 2 ir_frac_over := rfl
def E_frac_over_2 : FnE := ⟨"frac_over", 2, [], Pk.frac_over, [.inl 0, .inl 1], []⟩
@[simp] theorem pm_E_frac_over_2 (a0 a1 : PyData) : E_frac_over_2.pm [a0, a1] = [a0, a1] := rfl
def ir_num_mirrored : List IS := [(.ret (.tup [(.ixv 0 (.cst (.int (0)))), (.tup [(.neg (.ix (.ixv 0 (.cst (.int (1)))) (.cst (.int (0))))), (.ix (.ixv 0 (.cst (.int (1)))) (.cst (.int (1))))])]))]
def num_mirrored : FnD := ⟨false, runB false 1 1 ir_num_mirrored⟩
@[simp] theorem mt_num_mirrored : num_mirrored.mt = false := rfl
theorem run_num_mirrored : num_mirrored.run = runB false 1 1 ir_num_mirrored := rfl
def E_num_mirrored_1 : FnE := ⟨"num_mirrored", 1, [], Pk.num_mirrored, [.inl 0], []⟩
@[simp] theorem pm_E_num_mirrored_1 (a0 : PyData) : E_num_mirrored_1.pm [a0] = [a0] := rfl
def ir_num_size : List IS := [(.asg (.tp [(.tp [(.nm 1), (.nm 2)]), (.tp [(.nm 3), (.nm 4)])]) (.var 0)), (.ret (.call Pk.frac_reduced Pk.E_frac_reduced_2.pm [(.bin .add (.bin .mul (.bin .mul (.bin .mul (.var 1) (.var 1)) (.var 4)) (.var 4)) (.bin .mul (.bin .mul (.bin .mul (.var 3) (.var 3)) (.var 2)) (.var 2))), (.bin .mul (.bin .mul (.bin .mul (.var 2) (.var 2)) (.var 4)) (.var 4))]))]
def num_size : FnD := ⟨false, runB false 1 5 ir_num_size⟩
@[simp] theorem mt_num_size : num_size.mt = false := rfl
theorem run_num_size : num_size.run = runB false 1 5 ir_num_size := rfl
def E_num_size_1 : FnE := ⟨"num_size", 1, [], Pk.num_size, [.inl 0], []⟩
@[simp] theorem pm_E_num_size_1 (a0 : PyData) : E_num_size_1.pm [a0] = [a0] := rfl
def ir_num_over : List IS := [(.ret (.call Pk.num_scaled Pk.E_num_scaled_2.pm [(.call Pk.num_product Pk.E_num_product_2.pm [(.var 0), (.call Pk.num_mirrored Pk.E_num_mirrored_1.pm [(.var 1)])]), (.call Pk.frac_over Pk.E_frac_over_2.pm [(.cst (.tuple [(.int (1)), (.int (1))])), (.call Pk.num_size Pk.E_num_size_1.pm [(.var 1)])])]))]
def num_over : FnD := ⟨false, runB false 2 2 ir_num_over⟩
@[simp] theorem mt_num_over : num_over.mt = false := rfl
theorem run_num_over : num_over.run = runB false 2 2 ir_num_over := rfl
def E_num_over_2 : FnE := ⟨"num_over", 2, [], Pk.num_over, [.inl 0, .inl 1], []⟩
@[simp] theorem pm_E_num_over_2 (a0 a1 : PyData) : E_num_over_2.pm [a0, a1] = [a0, a1] := rfl
def ir_lies : List IS := [(.exp (.call Pk.check_number Pk.E_check_number_1.pm [(.var 0)])), (.asg (.tp [(.nm 1), (.nm 2)]) (.call Pk.num_size Pk.E_num_size_1.pm [(.var 0)])), (.ife (.cmp .eq (.var 1) (.var 2)) [(.ret (.cst (.str "rim")))] []), (.ret (.ite (.cmp .lt (.var 1) (.var 2)) (.cst (.str "disc")) (.cst (.str "beyond"))))]
def lies : FnD := ⟨false, runB false 1 3 ir_lies⟩
@[simp] theorem mt_lies : lies.mt = false := rfl
def ir_check_fraction : List IS := [(.ife (.not (.call Pk.is_frac Pk.E_is_frac_1.pm [(.var 0)])) [.nev] [])]
def check_fraction : FnD := ⟨false, runB false 1 1 ir_check_fraction⟩
@[simp] theorem mt_check_fraction : check_fraction.mt = false := rfl
theorem run_check_fraction : check_fraction.run = runB false 1 1 ir_check_fraction := rfl
def ir_size : List IS := [(.exp (.call Pk.check_number Pk.E_check_number_1.pm [(.var 0)])), (.ret (.call Pk.num_size Pk.E_num_size_1.pm [(.var 0)]))]
def size : FnD := ⟨false, runB false 1 1 ir_size⟩
@[simp] theorem mt_size : size.mt = false := rfl
def ir__law_over : List IS := [(.set 2 (.bin .mul (.ixv 0 (.cst (.int (2)))) (.bin .add (.bin .mul (.ixv 1 (.cst (.int (0)))) (.ixv 1 (.cst (.int (0))))) (.bin .mul (.ixv 1 (.cst (.int (1)))) (.ixv 1 (.cst (.int (1)))))))), (.ret (.call Pk._law_cut Pk.E__law_cut_3.pm [(.bin .mul (.bin .add (.bin .mul (.ixv 0 (.cst (.int (0)))) (.ixv 1 (.cst (.int (0))))) (.bin .mul (.ixv 0 (.cst (.int (1)))) (.ixv 1 (.cst (.int (1)))))) (.ixv 1 (.cst (.int (2))))), (.bin .mul (.bin .sub (.bin .mul (.ixv 0 (.cst (.int (1)))) (.ixv 1 (.cst (.int (0))))) (.bin .mul (.ixv 0 (.cst (.int (0)))) (.ixv 1 (.cst (.int (1)))))) (.ixv 1 (.cst (.int (2))))), (.var 2)]))]
def _law_over : FnD := ⟨false, runB false 2 3 ir__law_over⟩
@[simp] theorem mt__law_over : _law_over.mt = false := rfl
theorem run__law_over : _law_over.run = runB false 2 3 ir__law_over := rfl
def E__law_over_2 : FnE := ⟨"_law_over", 2, [], Pk._law_over, [.inl 0, .inl 1], []⟩
@[simp] theorem pm_E__law_over_2 (a0 a1 : PyData) : E__law_over_2.pm [a0, a1] = [a0, a1] := rfl
end Pk
end EvL

set_option Elab.async false
set_option linter.all false
set_option maxRecDepth 100000
namespace EvL
open PySem PySem.Spec PyProof.Rows L2
namespace Pk
end Pk
end EvL

set_option Elab.async false
set_option linter.all false
set_option maxRecDepth 100000
namespace EvL
open PySem PySem.Spec PyProof.Rows L2
namespace Pk
def ir__law_common : List IS := [(.par [0, 1] [(.bi .abs [(.var 0)]), (.bi .abs [(.var 1)])]), (.whl (.cmp .gt (.var 1) (.cst (.int (0)))) [(.par [0, 1] [(.var 1), (.bin .mod (.bi .int [(.var 0)]) (.var 1))])]), (.ret (.var 0))]
def _law_common : FnD := ⟨false, runB false 2 2 ir__law_common⟩
@[simp] theorem mt__law_common : _law_common.mt = false := rfl
def ir__law_draw : List IS := [(.ife (.cmp .gt (.ixv 0 (.cst (.int (0)))) (.cst (.int (0)))) [(.dip 0 (.cst (.int (0))) 2 (.bi .divmod [(.ixv 0 (.cst (.int (0)))), (.var 1)])), (.ret (.var 2))] []), (.put 0 (.cst (.int (2))) (.bin .add (.ixv 0 (.cst (.int (2)))) (.cst (.int (1))))), (.put 0 (.cst (.int (1))) (.bin .mod (.bi .int [(.bin .add (.bin .add (.bin .mul (.ixv 0 (.cst (.int (1)))) (.cst (.int (48271)))) (.bin .mul (.cst (.int (37))) (.ixv 0 (.cst (.int (2)))))) (.cst (.int (11))))]) (.cst (.int (2147483629))))), (.ret (.bin .mod (.bi .int [(.bin .fdiv (.bin .mul (.ixv 0 (.cst (.int (1)))) (.bin .add (.bin .add (.bin .fdiv (.ixv 0 (.cst (.int (1)))) (.cst (.int (65537)))) (.bin .mul (.cst (.int (2))) (.ixv 0 (.cst (.int (2)))))) (.cst (.int (1))))) (.cst (.int (509))))]) (.var 1)))]
def _law_draw : FnD := ⟨true, runB true 2 3 ir__law_draw⟩
@[simp] theorem mt__law_draw : _law_draw.mt = true := rfl
def ir__law_pick : List IS := [(.ret (.ixv 1 (.callm Pk._law_draw 0 [(.lenv 1)])))]
def _law_pick : FnD := ⟨true, runB true 2 2 ir__law_pick⟩
@[simp] theorem mt__law_pick : _law_pick.mt = true := rfl
def ir_is_bound : List IS := [(.ret (.and (.call Pk.is_frac Pk.E_is_frac_1.pm [(.var 0)]) (.cmp .gt (.ixv 0 (.cst (.int (0)))) (.cst (.int (0))))))]
def is_bound : FnD := ⟨false, runB false 1 1 ir_is_bound⟩
@[simp] theorem mt_is_bound : is_bound.mt = false := rfl
theorem run_is_bound : is_bound.run = runB false 1 1 ir_is_bound := rfl
def E_is_bound_1 : FnE := ⟨"is_bound", 1, [], Pk.is_bound, [.inl 0], []⟩
@[simp] theorem pm_E_is_bound_1 (a0 : PyData) : E_is_bound_1.pm [a0] = [a0] := rfl
def ir_check_bound : List IS := [(.ife (.not (.call Pk.is_bound Pk.E_is_bound_1.pm [(.var 0)])) [.nev] [])]
def check_bound : FnD := ⟨false, runB false 1 1 ir_check_bound⟩
@[simp] theorem mt_check_bound : check_bound.mt = false := rfl
theorem run_check_bound : check_bound.run = runB false 1 1 ir_check_bound := rfl
def E_check_bound_1 : FnE := ⟨"check_bound", 1, [], Pk.check_bound, [.inl 0], []⟩
@[simp] theorem pm_E_check_bound_1 (a0 : PyData) : E_check_bound_1.pm [a0] = [a0] := rfl
def ir_is_turning_pair : List IS := [(.ife (.or (.not (.bi .istuple [(.var 0)])) (.or (.cmp .ne (.lenv 0) (.cst (.int (2)))) (.or (.not (.call Pk.is_num Pk.E_is_num_1.pm [(.ixv 0 (.cst (.int (0))))])) (.not (.call Pk.is_num Pk.E_is_num_1.pm [(.ixv 0 (.cst (.int (1))))]))))) [(.ret (.cst (.bool false)))] []), (.ret (.cmp .eq (.call Pk.num_size Pk.E_num_size_1.pm [(.ixv 0 (.cst (.int (0))))]) (.cst (.tuple [(.int (1)), (.int (1))]))))]
def is_turning_pair : FnD := ⟨false, runB false 1 1 ir_is_turning_pair⟩
@[simp] theorem mt_is_turning_pair : is_turning_pair.mt = false := rfl
def E_is_turning_pair_1 : FnE := ⟨"is_turning_pair", 1, [], Pk.is_turning_pair, [.inl 0], []⟩
@[simp] theorem pm_E_is_turning_pair_1 (a0 : PyData) : E_is_turning_pair_1.pm [a0] = [a0] := rfl
def ir_frac_compare : List IS := [(.set 2 (.bin .sub (.bin .mul (.ixv 0 (.cst (.int (0)))) (.ixv 1 (.cst (.int (1))))) (.bin .mul (.ixv 1 (.cst (.int (0)))) (.ixv 0 (.cst (.int (1))))))), (.ret (.bin .sub (.cmp .gt (.var 2) (.cst (.int (0)))) (.cmp .lt (.var 2) (.cst (.int (0))))))]
def frac_compare : FnD := ⟨false, runB false 2 3 ir_frac_compare⟩
@[simp] theorem mt_frac_compare : frac_compare.mt = false := rfl
def E_frac_compare_2 : FnE := ⟨"frac_compare", 2, [], Pk.frac_compare, [.inl 0, .inl 1], []⟩
@[simp] theorem pm_E_frac_compare_2 (a0 a1 : PyData) : E_frac_compare_2.pm [a0, a1] = [a0, a1] := rfl
def ir_is_below : List IS := [(.ret (.cmp .lt (.call Pk.frac_compare Pk.E_frac_compare_2.pm [(.call Pk.num_size Pk.E_num_size_1.pm [(.var 0)]), (.var 1)]) (.cst (.int (0)))))]
def is_below : FnD := ⟨false, runB false 2 2 ir_is_below⟩
@[simp] theorem mt_is_below : is_below.mt = false := rfl
def E_is_below_2 : FnE := ⟨"is_below", 2, [], Pk.is_below, [.inl 0, .inl 1], []⟩
@[simp] theorem pm_E_is_below_2 (a0 a1 : PyData) : E_is_below_2.pm [a0, a1] = [a0, a1] := rfl
def ir_is_turn_by : List IS := [(.ret (.and (.call Pk.is_turning_pair Pk.E_is_turning_pair_1.pm [(.var 0)]) (.call Pk.is_below Pk.E_is_below_2.pm [(.ixv 0 (.cst (.int (1)))), (.var 1)])))]
def is_turn_by : FnD := ⟨false, runB false 2 2 ir_is_turn_by⟩
@[simp] theorem mt_is_turn_by : is_turn_by.mt = false := rfl
def E_is_turn_by_2 : FnE := ⟨"is_turn_by", 2, [], Pk.is_turn_by, [.inl 0, .inl 1], []⟩
@[simp] theorem pm_E_is_turn_by_2 (a0 a1 : PyData) : E_is_turn_by_2.pm [a0, a1] = [a0, a1] := rfl
def ir_check_turn : List IS := [(.ife (.not (.call Pk.is_turn_by Pk.E_is_turn_by_2.pm [(.var 0), (.var 1)])) [.nev] [])]
def check_turn : FnD := ⟨false, runB false 2 2 ir_check_turn⟩
@[simp] theorem mt_check_turn : check_turn.mt = false := rfl
def E_check_turn_2 : FnE := ⟨"check_turn", 2, [], Pk.check_turn, [.inl 0, .inl 1], []⟩
@[simp] theorem pm_E_check_turn_2 (a0 a1 : PyData) : E_check_turn_2.pm [a0, a1] = [a0, a1] := rfl
def ir_lower_part : List IS := [(.ret (.call Pk.num_scaled Pk.E_num_scaled_2.pm [(.call Pk.num_mirrored Pk.E_num_mirrored_1.pm [(.ixv 0 (.cst (.int (1))))]), (.call Pk.frac_over Pk.E_frac_over_2.pm [(.cst (.tuple [(.int (1)), (.int (1))])), (.var 1)])]))]
def lower_part : FnD := ⟨false, runB false 2 2 ir_lower_part⟩
@[simp] theorem mt_lower_part : lower_part.mt = false := rfl
def E_lower_part_2 : FnE := ⟨"lower_part", 2, [], Pk.lower_part, [.inl 0, .inl 1], []⟩
@[simp] theorem pm_E_lower_part_2 (a0 a1 : PyData) : E_lower_part_2.pm [a0, a1] = [a0, a1] := rfl
def ir_behind_by : List IS := [(.set 3 (.call Pk.num_sum Pk.E_num_sum_2.pm [(.ixv 0 (.cst (.int (0)))), (.call Pk.num_product Pk.E_num_product_2.pm [(.ixv 1 (.cst (.int (1)))), (.call Pk.lower_part Pk.E_lower_part_2.pm [(.var 0), (.var 2)])])])), (.set 4 (.call Pk.num_over Pk.E_num_over_2.pm [(.call Pk.num_product Pk.E_num_product_2.pm [(.ixv 1 (.cst (.int (0)))), (.var 3)]), (.call Pk.num_product Pk.E_num_product_2.pm [(.ixv 0 (.cst (.int (0)))), (.call Pk.num_mirrored Pk.E_num_mirrored_1.pm [(.var 3)])])])), (.ret (.tup [(.var 4), (.call Pk.num_over Pk.E_num_over_2.pm [(.call Pk.num_sum Pk.E_num_sum_2.pm [(.call Pk.num_product Pk.E_num_product_2.pm [(.ixv 0 (.cst (.int (0)))), (.ixv 0 (.cst (.int (1))))]), (.ixv 1 (.cst (.int (1))))]), (.var 3)])]))]
def behind_by : FnD := ⟨false, runB false 3 5 ir_behind_by⟩
@[simp] theorem mt_behind_by : behind_by.mt = false := rfl
def E_behind_by_3 : FnE := ⟨"behind_by", 3, [], Pk.behind_by, [.inl 0, .inl 1, .inl 2], []⟩
@[simp] theorem pm_E_behind_by_3 (a0 a1 a2 : PyData) : E_behind_by_3.pm [a0, a1, a2] = [a0, a1, a2] := rfl
def ir_behind : List IS := [(.exp (.call Pk.check_bound Pk.E_check_bound_1.pm [(.var 2)])), (.exp (.call Pk.check_turn Pk.E_check_turn_2.pm [(.var 0), (.var 2)])), (.exp (.call Pk.check_turn Pk.E_check_turn_2.pm [(.var 1), (.var 2)])), (.ret (.call Pk.behind_by Pk.E_behind_by_3.pm [(.var 0), (.var 1), (.var 2)]))]
def behind : FnD := ⟨false, runB false 3 3 ir_behind⟩
@[simp] theorem mt_behind : behind.mt = false := rfl
def ir_num_negative : List IS := [(.ret (.tup [(.tup [(.neg (.ix (.ixv 0 (.cst (.int (0)))) (.cst (.int (0))))), (.ix (.ixv 0 (.cst (.int (0)))) (.cst (.int (1))))]), (.tup [(.neg (.ix (.ixv 0 (.cst (.int (1)))) (.cst (.int (0))))), (.ix (.ixv 0 (.cst (.int (1)))) (.cst (.int (1))))])]))]
def num_negative : FnD := ⟨false, runB false 1 1 ir_num_negative⟩
@[simp] theorem mt_num_negative : num_negative.mt = false := rfl
def E_num_negative_1 : FnE := ⟨"num_negative", 1, [], Pk.num_negative, [.inl 0], []⟩
@[simp] theorem pm_E_num_negative_1 (a0 : PyData) : E_num_negative_1.pm [a0] = [a0] := rfl
def ir_back_by : List IS := [(.ret (.tup [(.call Pk.num_mirrored Pk.E_num_mirrored_1.pm [(.ixv 0 (.cst (.int (0))))]), (.call Pk.num_negative Pk.E_num_negative_1.pm [(.call Pk.num_product Pk.E_num_product_2.pm [(.ixv 0 (.cst (.int (0)))), (.ixv 0 (.cst (.int (1))))])])]))]
def back_by : FnD := ⟨false, runB false 1 1 ir_back_by⟩
@[simp] theorem mt_back_by : back_by.mt = false := rfl
def E_back_by_1 : FnE := ⟨"back_by", 1, [], Pk.back_by, [.inl 0], []⟩
@[simp] theorem pm_E_back_by_1 (a0 : PyData) : E_back_by_1.pm [a0] = [a0] := rfl
def ir_back : List IS := [(.ife (.not (.call Pk.is_turning_pair Pk.E_is_turning_pair_1.pm [(.var 0)])) [.nev] []), (.ret (.call Pk.back_by Pk.E_back_by_1.pm [(.var 0)]))]
def back : FnD := ⟨false, runB false 1 1 ir_back⟩
@[simp] theorem mt_back : back.mt = false := rfl
def ir_row_scaled : List IS := [(.ret (.call Pk.row_trimmed Pk.E_row_trimmed_1.pm [(.lc [2] (.nm 2) .seq [(.var 0)] [] (.call Pk.num_product Pk.E_num_product_2.pm [(.var 2), (.var 1)]))]))]
def row_scaled : FnD := ⟨false, runB false 2 3 ir_row_scaled⟩
@[simp] theorem mt_row_scaled : row_scaled.mt = false := rfl
theorem run_row_scaled : row_scaled.run = runB false 2 3 ir_row_scaled := rfl
def E_row_scaled_2 : FnE := ⟨"row_scaled", 2, [], Pk.row_scaled, [.inl 0, .inl 1], []⟩
@[simp] theorem pm_E_row_scaled_2 (a0 a1 : PyData) : E_row_scaled_2.pm [a0, a1] = [a0, a1] := rfl
end Pk
end EvL

set_option Elab.async false
set_option linter.all false
set_option maxRecDepth 100000
namespace EvL
open PySem PySem.Spec PyProof.Rows L2
namespace Pk
end Pk
end EvL

set_option Elab.async false
set_option linter.all false
set_option maxRecDepth 100000
namespace EvL
open PySem PySem.Spec PyProof.Rows L2
namespace Pk
def ir__law_many : List IS := [(.ret (.callm Pk._law_pick 0 [(.tup [(.cst (.int (0))), (.cst (.int (1))), (.cst (.int (1))), (.cst (.int (2))), (.cst (.int (2))), (.cst (.int (2))), (.cst (.int (3))), (.cst (.int (3))), (.cst (.int (3))), (.cst (.int (3))), (.cst (.int (4))), (.cst (.int (4))), (.cst (.int (5)))])]))]
def _law_many : FnD := ⟨true, runB true 1 1 ir__law_many⟩
@[simp] theorem mt__law_many : _law_many.mt = true := rfl
end Pk
end EvL

set_option Elab.async false
set_option linter.all false
set_option maxRecDepth 100000
namespace EvL
open PySem PySem.Spec PyProof.Rows L2
namespace Pk
end Pk
end EvL

set_option Elab.async false
set_option linter.all false
set_option maxRecDepth 100000
namespace EvL
open PySem PySem.Spec PyProof.Rows L2
namespace Pk
end Pk
end EvL

set_option Elab.async false
set_option linter.all false
set_option maxRecDepth 100000
namespace EvL
open PySem PySem.Spec PyProof.Rows L2
namespace Pk
end Pk
end EvL

set_option Elab.async false
set_option linter.all false
set_option maxRecDepth 100000
namespace EvL
open PySem PySem.Spec PyProof.Rows L2
namespace Pk
end Pk
end EvL

set_option Elab.async false
set_option linter.all false
set_option maxRecDepth 100000
namespace EvL
open PySem PySem.Spec PyProof.Rows L2
namespace Pk
end Pk
end EvL

set_option Elab.async false
set_option linter.all false
set_option maxRecDepth 100000
namespace EvL
open PySem PySem.Spec PyProof.Rows L2
namespace Pk
end Pk
end EvL

set_option Elab.async false
set_option linter.all false
set_option maxRecDepth 100000
namespace EvL
open PySem PySem.Spec PyProof.Rows L2
namespace Pk
end Pk
end EvL

set_option Elab.async false
set_option linter.all false
set_option maxRecDepth 100000
namespace EvL
open PySem PySem.Spec PyProof.Rows L2
namespace Pk
def ir__law_roots : List IS := [(.set 1 (.lst [])), (.fr (.nm 2) .rng1 [(.callm F1.dip 0 [(.cst (.int (4)))])] [(.set 3 (.callm Pk._law_drawn 0 [(.cst (.int (3))), (.cst (.int (2)))])), (.ife (.cmv .nin (.var 3) 1) [(.app 1 (.var 3))] [])]), (.ret (.var 1))]
def _law_roots : FnD := ⟨true, runB true 1 4 ir__law_roots⟩
@[simp] theorem mt__law_roots : _law_roots.mt = true := rfl
theorem run__law_roots : _law_roots.run = runB true 1 4 ir__law_roots := rfl
def E__law_roots_1 : FnE := ⟨"_law_roots", 1, [], Pk._law_roots, [.inl 0], []⟩
def ir__law_monic : List IS := [(.set 1 (.lst [(.tup [(.cst (.int (1))), (.cst (.int (0))), (.cst (.int (1)))])])), (.fr (.nm 2) .seq [(.var 0)] [(.set 1 (.call Pk._law_row_times Pk.E__law_row_times_2.pm [(.var 1), (.lst [(.tup [(.bin .sub (.cst (.int (0))) (.ixv 2 (.cst (.int (0))))), (.bin .sub (.cst (.int (0))) (.ixv 2 (.cst (.int (1))))), (.ixv 2 (.cst (.int (2))))]), (.tup [(.cst (.int (1))), (.cst (.int (0))), (.cst (.int (1)))])])]))]), (.ret (.var 1))]
def _law_monic : FnD := ⟨false, runB false 1 3 ir__law_monic⟩
@[simp] theorem mt__law_monic : _law_monic.mt = false := rfl
theorem run__law_monic : _law_monic.run = runB false 1 3 ir__law_monic := rfl
def E__law_monic_1 : FnE := ⟨"_law_monic", 1, [], Pk._law_monic, [.inl 0], []⟩
@[simp] theorem pm_E__law_monic_1 (a0 : PyData) : E__law_monic_1.pm [a0] = [a0] := rfl
def ir__law_scaled : List IS := [(.ret (.lc [2] (.nm 2) .seq [(.var 0)] [] (.call Pk._law_times Pk.E__law_times_2.pm [(.var 2), (.var 1)])))]
def _law_scaled : FnD := ⟨false, runB false 2 3 ir__law_scaled⟩
@[simp] theorem mt__law_scaled : _law_scaled.mt = false := rfl
theorem run__law_scaled : _law_scaled.run = runB false 2 3 ir__law_scaled := rfl
def E__law_scaled_2 : FnE := ⟨"_law_scaled", 2, [], Pk._law_scaled, [.inl 0, .inl 1], []⟩
@[simp] theorem pm_E__law_scaled_2 (a0 a1 : PyData) : E__law_scaled_2.pm [a0, a1] = [a0, a1] := rfl
def ir__law_many_v2 : List IS := [(.set 1 (.callm Pk._law_drawn 0 [(.cst (.int (4))), (.cst (.int (3)))])), (.ret (.ite (.cmp .ne (.slc false true (.var 1) (.cst .none) (.cst (.int (2)))) (.tup [(.cst (.int (0))), (.cst (.int (0)))])) (.var 1) (.tup [(.cst (.int (0))), (.bin .sub (.cst (.int (0))) (.cst (.int (1)))), (.cst (.int (2)))])))]
def _law_many_v2 : FnD := ⟨true, runB true 1 2 ir__law_many_v2⟩
@[simp] theorem mt__law_many_v2 : _law_many_v2.mt = true := rfl
theorem run__law_many_v2 : _law_many_v2.run = runB true 1 2 ir__law_many_v2 := rfl
def E__law_many_v2_1 : FnE := ⟨"_law_many", 1, [], Pk._law_many_v2, [.inl 0], []⟩
def ir_row_rest : List IS := [(.set 2 (.bi .list [(.var 0)])), (.set 3 (.lst [])), (.set 4 (.call Pk.num_over Pk.E_num_over_2.pm [(.cst (.tuple [(.tuple [(.int (1)), (.int (1))]), (.tuple [(.int (0)), (.int (1))])])), (.ixv 1 (.neg (.cst (.int (1)))))])), (.fr (.nm 5) .rng3 [(.bin .sub (.lenv 0) (.lenv 1)), (.neg (.cst (.int (1)))), (.neg (.cst (.int (1))))] [(.set 6 (.call Pk.num_product Pk.E_num_product_2.pm [(.ixv 2 (.neg (.cst (.int (1))))), (.var 4)])), (.set 3 (.bin .add (.lst [(.var 6)]) (.bin .add (.bi .list [(.var 3)]) (.lst [])))), (.fr (.tp [(.nm 7), (.nm 8)]) .enum [(.var 1)] [(.put 2 (.bin .add (.var 5) (.var 7)) (.call Pk.num_less Pk.E_num_less_2.pm [(.ixv 2 (.bin .add (.var 5) (.var 7))), (.call Pk.num_product Pk.E_num_product_2.pm [(.var 6), (.var 8)])]))]), (.popS 2)]), (.ret (.tup [(.call Pk.row_trimmed Pk.E_row_trimmed_1.pm [(.var 3)]), (.call Pk.row_trimmed Pk.E_row_trimmed_1.pm [(.var 2)])]))]
def row_rest : FnD := ⟨false, runB false 2 9 ir_row_rest⟩
@[simp] theorem mt_row_rest : row_rest.mt = false := rfl
theorem run_row_rest : row_rest.run = runB false 2 9 ir_row_rest := rfl
def E_row_rest_2 : FnE := ⟨"row_rest", 2, [], Pk.row_rest, [.inl 0, .inl 1], []⟩
@[simp] theorem pm_E_row_rest_2 (a0 a1 : PyData) : E_row_rest_2.pm [a0, a1] = [a0, a1] := rfl
def ir_row_divided : List IS := [(.exp (.call Pk.check_row Pk.E_check_row_1.pm [(.var 0)])), (.exp (.call Pk.check_row Pk.E_check_row_1.pm [(.var 1)])), (.ife (.cmp .eq (.var 1) (.tup [])) [.nev] []), (.ret (.call Pk.row_rest Pk.E_row_rest_2.pm [(.var 0), (.var 1)]))]
def row_divided : FnD := ⟨false, runB false 2 2 ir_row_divided⟩
@[simp] theorem mt_row_divided : row_divided.mt = false := rfl
theorem run_row_divided : row_divided.run = runB false 2 2 ir_row_divided := rfl
def E_row_divided_2 : FnE := ⟨"row_divided", 2, [], Pk.row_divided, [.inl 0, .inl 1], []⟩
@[simp] theorem pm_E_row_divided_2 (a0 a1 : PyData) : E_row_divided_2.pm [a0, a1] = [a0, a1] := rfl
def E_row_divided_0_other_row : FnE := ⟨"row_divided", 0, ["other", "row"], Pk.row_divided, [.inl 1, .inl 0], []⟩
@[simp] theorem pm_E_row_divided_0_other_row (a0 a1 : PyData) : E_row_divided_0_other_row.pm [a0, a1] = [a1, a0] := rfl
def ir__law_divided : List IS := [(.set 1 (.bin .add (.callm Pk._law_row 0 [(.cst (.int (3)))]) (.lst [(.callm Pk._law_many_v2 0 [])]))), (.par [2, 3] [(.callm Pk._law_row 0 [(.cst (.int (4)))]), (.callm Pk._law_row 0 [(.cst (.int (4)))])]), (.set 3 (.call Pk._law_trim Pk.E__law_trim_1.pm [(.slc false true (.var 3) (.cst .none) (.bin .sub (.lenv 1) (.cst (.int (1)))))])), (.set 4 (.call Pk._law_row_sum Pk.E__law_row_sum_2.pm [(.call Pk._law_row_times Pk.E__law_row_times_2.pm [(.var 1), (.var 2)]), (.var 3)])), (.set 5 (.tup [(.call Pk._law_told_row Pk.E__law_told_row_1.pm [(.var 2)]), (.call Pk._law_told_row Pk.E__law_told_row_1.pm [(.var 3)])])), (.par [6, 7] [(.call Pk._law_told_row Pk.E__law_told_row_1.pm [(.var 4)]), (.call Pk._law_told_row Pk.E__law_told_row_1.pm [(.var 1)])]), (.ret (.cmp .eq (.bi .repr [(.lst [(.call Pk.row_divided Pk.E_row_divided_2.pm [(.var 6), (.var 7)]), (.call Pk.row_divided Pk.E_row_divided_0_other_row.pm [(.var 7), (.var 6)])])]) (.bi .repr [(.lst [(.var 5), (.var 5)])])))]
def _law_divided : FnD := ⟨true, runB true 1 8 ir__law_divided⟩
@[simp] theorem mt__law_divided : _law_divided.mt = true := rfl
theorem run__law_divided : _law_divided.run = runB true 1 8 ir__law_divided := rfl
def E__law_divided_1 : FnE := ⟨"_law_divided", 1, [], Pk._law_divided, [.inl 0], []⟩
def ir__law_spread : List IS := [(.set 2 (.lst [])), (.fr (.nm 3) .rng1 [(.lenv 0)] [(.set 2 (.bin .add (.var 2) (.bin .mul (.lst [(.ixv 0 (.var 3))]) (.ixv 1 (.var 3)))))]), (.ret (.var 2))]
def _law_spread : FnD := ⟨false, runB false 2 4 ir__law_spread⟩
@[simp] theorem mt__law_spread : _law_spread.mt = false := rfl
theorem run__law_spread : _law_spread.run = runB false 2 4 ir__law_spread := rfl
def E__law_spread_2 : FnE := ⟨"_law_spread", 2, [], Pk._law_spread, [.inl 0, .inl 1], []⟩
@[simp] theorem pm_E__law_spread_2 (a0 a1 : PyData) : E__law_spread_2.pm [a0, a1] = [a0, a1] := rfl
def ir_row_last_one : List IS := [(.ret (.ite (.cmp .eq (.var 0) (.tup [])) (.tup []) (.call Pk.row_scaled Pk.E_row_scaled_2.pm [(.var 0), (.call Pk.num_over Pk.E_num_over_2.pm [(.cst (.tuple [(.tuple [(.int (1)), (.int (1))]), (.tuple [(.int (0)), (.int (1))])])), (.ixv 0 (.neg (.cst (.int (1)))))])])))]
def row_last_one : FnD := ⟨false, runB false 1 1 ir_row_last_one⟩
@[simp] theorem mt_row_last_one : row_last_one.mt = false := rfl
theorem run_row_last_one : row_last_one.run = runB false 1 1 ir_row_last_one := rfl
def E_row_last_one_1 : FnE := ⟨"row_last_one", 1, [], Pk.row_last_one, [.inl 0], []⟩
@[simp] theorem pm_E_row_last_one_1 (a0 : PyData) : E_row_last_one_1.pm [a0] = [a0] := rfl
def ir_row_divisor : List IS := [(.par [2, 3] [(.call Pk.row_last_one Pk.E_row_last_one_1.pm [(.var 0)]), (.call Pk.row_last_one Pk.E_row_last_one_1.pm [(.var 1)])]), (.whl (.cmp .ne (.var 3) (.tup [])) [(.par [2, 3] [(.var 3), (.call Pk.row_last_one Pk.E_row_last_one_1.pm [(.ix (.call Pk.row_rest Pk.E_row_rest_2.pm [(.var 2), (.var 3)]) (.cst (.int (1))))])])]), (.ret (.var 2))]
def row_divisor : FnD := ⟨false, runB false 2 4 ir_row_divisor⟩
@[simp] theorem mt_row_divisor : row_divisor.mt = false := rfl
theorem run_row_divisor : row_divisor.run = runB false 2 4 ir_row_divisor := rfl
def E_row_divisor_2 : FnE := ⟨"row_divisor", 2, [], Pk.row_divisor, [.inl 0, .inl 1], []⟩
@[simp] theorem pm_E_row_divisor_2 (a0 a1 : PyData) : E_row_divisor_2.pm [a0, a1] = [a0, a1] := rfl
def ir_row_common : List IS := [(.exp (.call Pk.check_row Pk.E_check_row_1.pm [(.var 0)])), (.exp (.call Pk.check_row Pk.E_check_row_1.pm [(.var 1)])), (.ret (.call Pk.row_divisor Pk.E_row_divisor_2.pm [(.var 0), (.var 1)]))]
def row_common : FnD := ⟨false, runB false 2 2 ir_row_common⟩
@[simp] theorem mt_row_common : row_common.mt = false := rfl
theorem run_row_common : row_common.run = runB false 2 2 ir_row_common := rfl
def E_row_common_2 : FnE := ⟨"row_common", 2, [], Pk.row_common, [.inl 0, .inl 1], []⟩
@[simp] theorem pm_E_row_common_2 (a0 a1 : PyData) : E_row_common_2.pm [a0, a1] = [a0, a1] := rfl
def E_row_common_0_other_row : FnE := ⟨"row_common", 0, ["other", "row"], Pk.row_common, [.inl 1, .inl 0], []⟩
@[simp] theorem pm_E_row_common_0_other_row (a0 a1 : PyData) : E_row_common_0_other_row.pm [a0, a1] = [a1, a0] := rfl
end Pk
end EvL

set_option Elab.async false
set_option linter.all false
set_option maxRecDepth 100000
set_option maxHeartbeats 16000000
namespace K05
open PySem PySem.Spec PyProof.Rows L2 EvL
abbrev PP : Program := PySem.Challenge.pw_rimseries_k05_whole_rows_divided_and_com
abbrev QQ : PySem.W.OpenLaw := PySem.Challenge.rw_rimseries_k05_whole_rows_divided_and_com
def st (i : Nat) : Stmt := PP.main.body.getD i (.Pass ⟨0, 0, 0, 0⟩)
def FREE : List Str := ["divmod", "int", "abs", "range", "len", "list", "max", "tuple", "isinstance", "bool", "enumerate", "repr", "min", "all"]
def CON : List (Str × PyData) := [("NOUGHT", (.tuple [(.tuple [(.int (0)), (.int (1))]), (.tuple [(.int (0)), (.int (1))])])), ("FRAC_ONE", (.tuple [(.int (1)), (.int (1))])), ("ONE", (.tuple [(.tuple [(.int (1)), (.int (1))]), (.tuple [(.int (0)), (.int (1))])]))]
def n__law_dip : List Str := ["pail", "many", "figure", "one"]
def c__law_dip : Cc := ⟨⟨n__law_dip, defScope (st 35), [], CON, true, FREE⟩, cellsOf (defScope (st 35)), [], []⟩
def d__law_dip : Dfn := ⟨st 35, c__law_dip, ["pail", "many"], true, F1.dipI⟩
@[simp] theorem pk__law_dip : d__law_dip.f = F1.dip := rfl
theorem ok__law_dip : DefOk d__law_dip.c d__law_dip.ps (defScope d__law_dip.st) (defBody d__law_dip.st) d__law_dip.ir := ⟨⟨rfl, rfl, rfl, by decide +kernel, rfl, by decide +kernel, by decide +kernel⟩, rfl, by kernel_rfl⟩
def n__law_gcd : List Str := ["a", "b"]
def c__law_gcd : Cc := ⟨⟨n__law_gcd, defScope (st 36), [], CON, true, FREE⟩, cellsOf (defScope (st 36)), [], []⟩
def d__law_gcd : Dfn := ⟨st 36, c__law_gcd, ["a", "b"], false, F1.gcdI⟩
@[simp] theorem pk__law_gcd : d__law_gcd.f = F1.gcd := rfl
theorem ok__law_gcd : DefOk d__law_gcd.c d__law_gcd.ps (defScope d__law_gcd.st) (defBody d__law_gcd.st) d__law_gcd.ir := ⟨⟨rfl, rfl, rfl, by decide +kernel, rfl, by decide +kernel, by decide +kernel⟩, rfl, by kernel_rfl⟩
def n__law_cut : List Str := ["a", "b", "d", "g"]
def c__law_cut : Cc := ⟨⟨n__law_cut, defScope (st 37), [Pk.E__law_gcd_2], CON, true, FREE⟩, cellsOf (defScope (st 37)), [], []⟩
def d__law_cut : Dfn := ⟨st 37, c__law_cut, ["a", "b", "d"], false, Pk.ir__law_cut⟩
@[simp] theorem pk__law_cut : d__law_cut.f = Pk._law_cut := rfl
theorem ok__law_cut : DefOk d__law_cut.c d__law_cut.ps (defScope d__law_cut.st) (defBody d__law_cut.st) d__law_cut.ir := ⟨⟨rfl, rfl, rfl, by decide +kernel, rfl, by decide +kernel, by decide +kernel⟩, rfl, by kernel_rfl⟩
def n__law_drawn : List Str := ["pail", "top", "low", "a", "b"]
def c__law_drawn : Cc := ⟨⟨n__law_drawn, defScope (st 38), [Pk.E__law_cut_3, Pk.E__law_dip_2], CON, true, FREE⟩, cellsOf (defScope (st 38)), [], []⟩
def d__law_drawn : Dfn := ⟨st 38, c__law_drawn, ["pail", "top", "low"], true, Pk.ir__law_drawn⟩
@[simp] theorem pk__law_drawn : d__law_drawn.f = Pk._law_drawn := rfl
theorem ok__law_drawn : DefOk d__law_drawn.c d__law_drawn.ps (defScope d__law_drawn.st) (defBody d__law_drawn.st) d__law_drawn.ir := ⟨⟨rfl, rfl, rfl, by decide +kernel, rfl, by decide +kernel, by decide +kernel⟩, rfl, by kernel_rfl⟩
def n__law_roots : List Str := ["pail", "found", "k", "x"]
def c__law_roots : Cc := ⟨⟨n__law_roots, defScope (st 52), [Pk.E__law_dip_2, Pk.E__law_drawn_3], CON, true, FREE⟩, cellsOf (defScope (st 52)), [], []⟩
def d__law_roots : Dfn := ⟨st 52, c__law_roots, ["pail"], true, Pk.ir__law_roots⟩
@[simp] theorem pk__law_roots : d__law_roots.f = Pk._law_roots := rfl
theorem ok__law_roots : DefOk d__law_roots.c d__law_roots.ps (defScope d__law_roots.st) (defBody d__law_roots.st) d__law_roots.ir := ⟨⟨rfl, rfl, rfl, by decide +kernel, rfl, by decide +kernel, by decide +kernel⟩, rfl, by kernel_rfl⟩
def n__law_trim : List Str := ["row", "many", "at"]
def c__law_trim : Cc := ⟨⟨n__law_trim, defScope (st 39), [], CON, true, FREE⟩, cellsOf (defScope (st 39)), [], []⟩
def d__law_trim : Dfn := ⟨st 39, c__law_trim, ["row"], false, Pk.ir__law_trim⟩
@[simp] theorem pk__law_trim : d__law_trim.f = Pk._law_trim := rfl
theorem ok__law_trim : DefOk d__law_trim.c d__law_trim.ps (defScope d__law_trim.st) (defBody d__law_trim.st) d__law_trim.ir := ⟨⟨rfl, rfl, rfl, by decide +kernel, rfl, by decide +kernel, by decide +kernel⟩, rfl, by kernel_rfl⟩
def n__law_row_times : List Str := ["one", "two", "whole", "down", "row", "low", "each", "many", "left", "right", "j", "k", "a", "b", "c", "d"]
def c__law_row_times : Cc := ⟨⟨n__law_row_times, defScope (st 44), [Pk.E__law_trim_1, Pk.E__law_cut_3, Pk.E__law_gcd_2], CON, true, FREE⟩, cellsOf (defScope (st 44)), [], []⟩
def d__law_row_times : Dfn := ⟨st 44, c__law_row_times, ["one", "two"], false, Pk.ir__law_row_times⟩
@[simp] theorem pk__law_row_times : d__law_row_times.f = Pk._law_row_times := rfl
theorem ok__law_row_times : DefOk d__law_row_times.c d__law_row_times.ps (defScope d__law_row_times.st) (defBody d__law_row_times.st) d__law_row_times.ir := ⟨⟨rfl, rfl, rfl, by decide +kernel, rfl, by decide +kernel, by decide +kernel⟩, rfl, by kernel_rfl⟩
def n__law_monic : List Str := ["roots", "found", "each"]
def c__law_monic : Cc := ⟨⟨n__law_monic, defScope (st 48), [Pk.E__law_row_times_2], CON, true, FREE⟩, cellsOf (defScope (st 48)), [], []⟩
def d__law_monic : Dfn := ⟨st 48, c__law_monic, ["roots"], false, Pk.ir__law_monic⟩
@[simp] theorem pk__law_monic : d__law_monic.f = Pk._law_monic := rfl
theorem ok__law_monic : DefOk d__law_monic.c d__law_monic.ps (defScope d__law_monic.st) (defBody d__law_monic.st) d__law_monic.ir := ⟨⟨rfl, rfl, rfl, by decide +kernel, rfl, by decide +kernel, by decide +kernel⟩, rfl, by kernel_rfl⟩
def n__law_times : List Str := ["x", "y"]
def c__law_times : Cc := ⟨⟨n__law_times, defScope (st 43), [Pk.E__law_cut_3], CON, true, FREE⟩, cellsOf (defScope (st 43)), [], []⟩
def d__law_times : Dfn := ⟨st 43, c__law_times, ["x", "y"], false, Pk.ir__law_times⟩
@[simp] theorem pk__law_times : d__law_times.f = Pk._law_times := rfl
theorem ok__law_times : DefOk d__law_times.c d__law_times.ps (defScope d__law_times.st) (defBody d__law_times.st) d__law_times.ir := ⟨⟨rfl, rfl, rfl, by decide +kernel, rfl, by decide +kernel, by decide +kernel⟩, rfl, by kernel_rfl⟩
def n__law_scaled : List Str := ["row", "x", "each"]
def c__law_scaled : Cc := ⟨⟨n__law_scaled, defScope (st 50), [Pk.E__law_times_2], CON, true, FREE⟩, cellsOf (defScope (st 50)), [], []⟩
def d__law_scaled : Dfn := ⟨st 50, c__law_scaled, ["row", "x"], false, Pk.ir__law_scaled⟩
@[simp] theorem pk__law_scaled : d__law_scaled.f = Pk._law_scaled := rfl
theorem ok__law_scaled : DefOk d__law_scaled.c d__law_scaled.ps (defScope d__law_scaled.st) (defBody d__law_scaled.st) d__law_scaled.ir := ⟨⟨rfl, rfl, rfl, by decide +kernel, rfl, by decide +kernel, by decide +kernel⟩, rfl, by kernel_rfl⟩
def n__law_fraction : List Str := ["n", "m", "g"]
def c__law_fraction : Cc := ⟨⟨n__law_fraction, defScope (st 45), [Pk.E__law_gcd_2], CON, true, FREE⟩, cellsOf (defScope (st 45)), [], []⟩
def d__law_fraction : Dfn := ⟨st 45, c__law_fraction, ["n", "m"], false, Pk.ir__law_fraction⟩
@[simp] theorem pk__law_fraction : d__law_fraction.f = Pk._law_fraction := rfl
theorem ok__law_fraction : DefOk d__law_fraction.c d__law_fraction.ps (defScope d__law_fraction.st) (defBody d__law_fraction.st) d__law_fraction.ir := ⟨⟨rfl, rfl, rfl, by decide +kernel, rfl, by decide +kernel, by decide +kernel⟩, rfl, by kernel_rfl⟩
def n__law_told : List Str := ["x"]
def c__law_told : Cc := ⟨⟨n__law_told, defScope (st 46), [Pk.E__law_fraction_2], CON, true, FREE⟩, cellsOf (defScope (st 46)), [], []⟩
def d__law_told : Dfn := ⟨st 46, c__law_told, ["x"], false, Pk.ir__law_told⟩
@[simp] theorem pk__law_told : d__law_told.f = Pk._law_told := rfl
theorem ok__law_told : DefOk d__law_told.c d__law_told.ps (defScope d__law_told.st) (defBody d__law_told.st) d__law_told.ir := ⟨⟨rfl, rfl, rfl, by decide +kernel, rfl, by decide +kernel, by decide +kernel⟩, rfl, by kernel_rfl⟩
def n__law_told_row : List Str := ["row", "each"]
def c__law_told_row : Cc := ⟨⟨n__law_told_row, defScope (st 47), [Pk.E__law_told_1, Pk.E__law_trim_1], CON, true, FREE⟩, cellsOf (defScope (st 47)), [], []⟩
def d__law_told_row : Dfn := ⟨st 47, c__law_told_row, ["row"], false, Pk.ir__law_told_row⟩
@[simp] theorem pk__law_told_row : d__law_told_row.f = Pk._law_told_row := rfl
theorem ok__law_told_row : DefOk d__law_told_row.c d__law_told_row.ps (defScope d__law_told_row.st) (defBody d__law_told_row.st) d__law_told_row.ir := ⟨⟨rfl, rfl, rfl, by decide +kernel, rfl, by decide +kernel, by decide +kernel⟩, rfl, by kernel_rfl⟩
def n__law_add : List Str := ["x", "y"]
def c__law_add : Cc := ⟨⟨n__law_add, defScope (st 41), [Pk.E__law_cut_3], CON, true, FREE⟩, cellsOf (defScope (st 41)), [], []⟩
def d__law_add : Dfn := ⟨st 41, c__law_add, ["x", "y"], false, Pk.ir__law_add⟩
@[simp] theorem pk__law_add : d__law_add.f = Pk._law_add := rfl
theorem ok__law_add : DefOk d__law_add.c d__law_add.ps (defScope d__law_add.st) (defBody d__law_add.st) d__law_add.ir := ⟨⟨rfl, rfl, rfl, by decide +kernel, rfl, by decide +kernel, by decide +kernel⟩, rfl, by kernel_rfl⟩
def n__law_row_sum : List Str := ["one", "two", "many", "long", "row", "k"]
def c__law_row_sum : Cc := ⟨⟨n__law_row_sum, defScope (st 42), [Pk.E__law_trim_1, Pk.E__law_add_2], CON, true, FREE⟩, cellsOf (defScope (st 42)), [], []⟩
def d__law_row_sum : Dfn := ⟨st 42, c__law_row_sum, ["one", "two"], false, Pk.ir__law_row_sum⟩
@[simp] theorem pk__law_row_sum : d__law_row_sum.f = Pk._law_row_sum := rfl
theorem ok__law_row_sum : DefOk d__law_row_sum.c d__law_row_sum.ps (defScope d__law_row_sum.st) (defBody d__law_row_sum.st) d__law_row_sum.ir := ⟨⟨rfl, rfl, rfl, by decide +kernel, rfl, by decide +kernel, by decide +kernel⟩, rfl, by kernel_rfl⟩
def n__law_row : List Str := ["pail", "most", "row", "k", "each"]
def c__law_row : Cc := ⟨⟨n__law_row, defScope (st 40), [Pk.E__law_trim_1, Pk.E__law_drawn_3, Pk.E__law_dip_2], CON, true, FREE⟩, cellsOf (defScope (st 40)), [], []⟩
def d__law_row : Dfn := ⟨st 40, c__law_row, ["pail", "most"], true, Pk.ir__law_row⟩
@[simp] theorem pk__law_row : d__law_row.f = Pk._law_row := rfl
theorem ok__law_row : DefOk d__law_row.c d__law_row.ps (defScope d__law_row.st) (defBody d__law_row.st) d__law_row.ir := ⟨⟨rfl, rfl, rfl, by decide +kernel, rfl, by decide +kernel, by decide +kernel⟩, rfl, by kernel_rfl⟩
def n__law_many : List Str := ["pail", "x"]
def c__law_many : Cc := ⟨⟨n__law_many, defScope (st 51), [Pk.E__law_drawn_3], CON, true, FREE⟩, cellsOf (defScope (st 51)), [], []⟩
def d__law_many : Dfn := ⟨st 51, c__law_many, ["pail"], true, Pk.ir__law_many_v2⟩
@[simp] theorem pk__law_many : d__law_many.f = Pk._law_many_v2 := rfl
theorem ok__law_many : DefOk d__law_many.c d__law_many.ps (defScope d__law_many.st) (defBody d__law_many.st) d__law_many.ir := ⟨⟨rfl, rfl, rfl, by decide +kernel, rfl, by decide +kernel, by decide +kernel⟩, rfl, by kernel_rfl⟩
def n_is_whole : List Str := ["value"]
def c_is_whole : Cc := ⟨⟨n_is_whole, defScope (st 9), [], CON, true, FREE⟩, cellsOf (defScope (st 9)), [], []⟩
def d_is_whole : Dfn := ⟨st 9, c_is_whole, ["value"], false, Pk.ir_is_whole⟩
@[simp] theorem pk_is_whole : d_is_whole.f = Pk.is_whole := rfl
theorem ok_is_whole : DefOk d_is_whole.c d_is_whole.ps (defScope d_is_whole.st) (defBody d_is_whole.st) d_is_whole.ir := ⟨⟨rfl, rfl, rfl, by decide +kernel, rfl, by decide +kernel, by decide +kernel⟩, rfl, by kernel_rfl⟩
def n_is_frac : List Str := ["value"]
def c_is_frac : Cc := ⟨⟨n_is_frac, defScope (st 10), [Pk.E_is_whole_1], CON, true, FREE⟩, cellsOf (defScope (st 10)), [], []⟩
def d_is_frac : Dfn := ⟨st 10, c_is_frac, ["value"], false, Pk.ir_is_frac⟩
@[simp] theorem pk_is_frac : d_is_frac.f = Pk.is_frac := rfl
theorem ok_is_frac : DefOk d_is_frac.c d_is_frac.ps (defScope d_is_frac.st) (defBody d_is_frac.st) d_is_frac.ir := ⟨⟨rfl, rfl, rfl, by decide +kernel, rfl, by decide +kernel, by decide +kernel⟩, rfl, by kernel_rfl⟩
def n_is_num : List Str := ["value"]
def c_is_num : Cc := ⟨⟨n_is_num, defScope (st 11), [Pk.E_is_frac_1], CON, true, FREE⟩, cellsOf (defScope (st 11)), [], []⟩
def d_is_num : Dfn := ⟨st 11, c_is_num, ["value"], false, Pk.ir_is_num⟩
@[simp] theorem pk_is_num : d_is_num.f = Pk.is_num := rfl
theorem ok_is_num : DefOk d_is_num.c d_is_num.ps (defScope d_is_num.st) (defBody d_is_num.st) d_is_num.ir := ⟨⟨rfl, rfl, rfl, by decide +kernel, rfl, by decide +kernel, by decide +kernel⟩, rfl, by kernel_rfl⟩
def n_is_a_row : List Str := ["value", "each"]
def c_is_a_row : Cc := ⟨⟨n_is_a_row, defScope (st 23), [Pk.E_is_num_1], CON, true, FREE⟩, cellsOf (defScope (st 23)), [], []⟩
def d_is_a_row : Dfn := ⟨st 23, c_is_a_row, ["value"], false, Pk.ir_is_a_row⟩
@[simp] theorem pk_is_a_row : d_is_a_row.f = Pk.is_a_row := rfl
theorem ok_is_a_row : DefOk d_is_a_row.c d_is_a_row.ps (defScope d_is_a_row.st) (defBody d_is_a_row.st) d_is_a_row.ir := ⟨⟨rfl, rfl, rfl, by decide +kernel, rfl, by decide +kernel, by decide +kernel⟩, rfl, by kernel_rfl⟩
def n_check_row : List Str := ["value"]
def c_check_row : Cc := ⟨⟨n_check_row, defScope (st 30), [Pk.E_is_a_row_1], CON, true, FREE⟩, cellsOf (defScope (st 30)), [], []⟩
def d_check_row : Dfn := ⟨st 30, c_check_row, ["value"], false, Pk.ir_check_row⟩
@[simp] theorem pk_check_row : d_check_row.f = Pk.check_row := rfl
theorem ok_check_row : DefOk d_check_row.c d_check_row.ps (defScope d_check_row.st) (defBody d_check_row.st) d_check_row.ir := ⟨⟨rfl, rfl, rfl, by decide +kernel, rfl, by decide +kernel, by decide +kernel⟩, rfl, by kernel_rfl⟩
def n_frac_reduced : List Str := ["n", "m", "divisor"]
def c_frac_reduced : Cc := ⟨⟨n_frac_reduced, defScope (st 12), [], CON, true, FREE⟩, cellsOf (defScope (st 12)), [], []⟩
def d_frac_reduced : Dfn := ⟨st 12, c_frac_reduced, ["n", "m"], false, Pk.ir_frac_reduced⟩
@[simp] theorem pk_frac_reduced : d_frac_reduced.f = Pk.frac_reduced := rfl
theorem ok_frac_reduced : DefOk d_frac_reduced.c d_frac_reduced.ps (defScope d_frac_reduced.st) (defBody d_frac_reduced.st) d_frac_reduced.ir := ⟨⟨rfl, rfl, rfl, by decide +kernel, rfl, by decide +kernel, by decide +kernel⟩, rfl, by kernel_rfl⟩
def n_frac_product : List Str := ["x", "y"]
def c_frac_product : Cc := ⟨⟨n_frac_product, defScope (st 14), [Pk.E_frac_reduced_2], CON, true, FREE⟩, cellsOf (defScope (st 14)), [], []⟩
def d_frac_product : Dfn := ⟨st 14, c_frac_product, ["x", "y"], false, Pk.ir_frac_product⟩
@[simp] theorem pk_frac_product : d_frac_product.f = Pk.frac_product := rfl
theorem ok_frac_product : DefOk d_frac_product.c d_frac_product.ps (defScope d_frac_product.st) (defBody d_frac_product.st) d_frac_product.ir := ⟨⟨rfl, rfl, rfl, by decide +kernel, rfl, by decide +kernel, by decide +kernel⟩, rfl, by kernel_rfl⟩
def n_num_scaled : List Str := ["x", "fraction"]
def c_num_scaled : Cc := ⟨⟨n_num_scaled, defScope (st 18), [Pk.E_frac_product_2], CON, true, FREE⟩, cellsOf (defScope (st 18)), [], []⟩
def d_num_scaled : Dfn := ⟨st 18, c_num_scaled, ["x", "fraction"], false, Pk.ir_num_scaled⟩
@[simp] theorem pk_num_scaled : d_num_scaled.f = Pk.num_scaled := rfl
theorem ok_num_scaled : DefOk d_num_scaled.c d_num_scaled.ps (defScope d_num_scaled.st) (defBody d_num_scaled.st) d_num_scaled.ir := ⟨⟨rfl, rfl, rfl, by decide +kernel, rfl, by decide +kernel, by decide +kernel⟩, rfl, by kernel_rfl⟩
def n_num_product : List Str := ["x", "y", "a", "b", "c", "d", "p", "q", "r", "s", "under"]
def c_num_product : Cc := ⟨⟨n_num_product, defScope (st 17), [Pk.E_frac_reduced_2], CON, true, FREE⟩, cellsOf (defScope (st 17)), [], []⟩
def d_num_product : Dfn := ⟨st 17, c_num_product, ["x", "y"], false, Pk.ir_num_product⟩
@[simp] theorem pk_num_product : d_num_product.f = Pk.num_product := rfl
theorem ok_num_product : DefOk d_num_product.c d_num_product.ps (defScope d_num_product.st) (defBody d_num_product.st) d_num_product.ir := ⟨⟨rfl, rfl, rfl, by decide +kernel, rfl, by decide +kernel, by decide +kernel⟩, rfl, by kernel_rfl⟩
def n_frac_over : List Str := ["x", "y"]
def c_frac_over : Cc := ⟨⟨n_frac_over, defScope (st 15), [Pk.E_frac_reduced_2], CON, true, FREE⟩, cellsOf (defScope (st 15)), [], []⟩
def d_frac_over : Dfn := ⟨st 15, c_frac_over, ["x", "y"], false, Pk.ir_frac_over⟩
@[simp] theorem pk_frac_over : d_frac_over.f = Pk.frac_over := rfl
theorem ok_frac_over : DefOk d_frac_over.c d_frac_over.ps (defScope d_frac_over.st) (defBody d_frac_over.st) d_frac_over.ir := ⟨⟨rfl, rfl, rfl, by decide +kernel, rfl, by decide +kernel, by decide +kernel⟩, rfl, by kernel_rfl⟩
def n_num_mirrored : List Str := ["x"]
def c_num_mirrored : Cc := ⟨⟨n_num_mirrored, defScope (st 19), [], CON, true, FREE⟩, cellsOf (defScope (st 19)), [], []⟩
def d_num_mirrored : Dfn := ⟨st 19, c_num_mirrored, ["x"], false, Pk.ir_num_mirrored⟩
@[simp] theorem pk_num_mirrored : d_num_mirrored.f = Pk.num_mirrored := rfl
theorem ok_num_mirrored : DefOk d_num_mirrored.c d_num_mirrored.ps (defScope d_num_mirrored.st) (defBody d_num_mirrored.st) d_num_mirrored.ir := ⟨⟨rfl, rfl, rfl, by decide +kernel, rfl, by decide +kernel, by decide +kernel⟩, rfl, by kernel_rfl⟩
def n_num_size : List Str := ["x", "a", "b", "c", "d"]
def c_num_size : Cc := ⟨⟨n_num_size, defScope (st 20), [Pk.E_frac_reduced_2], CON, true, FREE⟩, cellsOf (defScope (st 20)), [], []⟩
def d_num_size : Dfn := ⟨st 20, c_num_size, ["x"], false, Pk.ir_num_size⟩
@[simp] theorem pk_num_size : d_num_size.f = Pk.num_size := rfl
theorem ok_num_size : DefOk d_num_size.c d_num_size.ps (defScope d_num_size.st) (defBody d_num_size.st) d_num_size.ir := ⟨⟨rfl, rfl, rfl, by decide +kernel, rfl, by decide +kernel, by decide +kernel⟩, rfl, by kernel_rfl⟩
def n_num_over : List Str := ["x", "y"]
def c_num_over : Cc := ⟨⟨n_num_over, defScope (st 21), [Pk.E_num_scaled_2, Pk.E_num_product_2, Pk.E_frac_over_2, Pk.E_num_mirrored_1, Pk.E_num_size_1], CON, true, FREE⟩, cellsOf (defScope (st 21)), [], []⟩
def d_num_over : Dfn := ⟨st 21, c_num_over, ["x", "y"], false, Pk.ir_num_over⟩
@[simp] theorem pk_num_over : d_num_over.f = Pk.num_over := rfl
theorem ok_num_over : DefOk d_num_over.c d_num_over.ps (defScope d_num_over.st) (defBody d_num_over.st) d_num_over.ir := ⟨⟨rfl, rfl, rfl, by decide +kernel, rfl, by decide +kernel, by decide +kernel⟩, rfl, by kernel_rfl⟩
def n_row_trimmed : List Str := ["numbers", "many"]
def c_row_trimmed : Cc := ⟨⟨n_row_trimmed, defScope (st 24), [], CON, true, FREE⟩, cellsOf (defScope (st 24)), [], []⟩
def d_row_trimmed : Dfn := ⟨st 24, c_row_trimmed, ["numbers"], false, Pk.ir_row_trimmed⟩
@[simp] theorem pk_row_trimmed : d_row_trimmed.f = Pk.row_trimmed := rfl
theorem ok_row_trimmed : DefOk d_row_trimmed.c d_row_trimmed.ps (defScope d_row_trimmed.st) (defBody d_row_trimmed.st) d_row_trimmed.ir := ⟨⟨rfl, rfl, rfl, by decide +kernel, rfl, by decide +kernel, by decide +kernel⟩, rfl, by kernel_rfl⟩
def n_frac_less : List Str := ["x", "y"]
def c_frac_less : Cc := ⟨⟨n_frac_less, defScope (st 13), [Pk.E_frac_reduced_2], CON, true, FREE⟩, cellsOf (defScope (st 13)), [], []⟩
def d_frac_less : Dfn := ⟨st 13, c_frac_less, ["x", "y"], false, Pk.ir_frac_less⟩
@[simp] theorem pk_frac_less : d_frac_less.f = Pk.frac_less := rfl
theorem ok_frac_less : DefOk d_frac_less.c d_frac_less.ps (defScope d_frac_less.st) (defBody d_frac_less.st) d_frac_less.ir := ⟨⟨rfl, rfl, rfl, by decide +kernel, rfl, by decide +kernel, by decide +kernel⟩, rfl, by kernel_rfl⟩
def n_num_less : List Str := ["x", "y"]
def c_num_less : Cc := ⟨⟨n_num_less, defScope (st 16), [Pk.E_frac_less_2], CON, true, FREE⟩, cellsOf (defScope (st 16)), [], []⟩
def d_num_less : Dfn := ⟨st 16, c_num_less, ["x", "y"], false, Pk.ir_num_less⟩
@[simp] theorem pk_num_less : d_num_less.f = Pk.num_less := rfl
theorem ok_num_less : DefOk d_num_less.c d_num_less.ps (defScope d_num_less.st) (defBody d_num_less.st) d_num_less.ir := ⟨⟨rfl, rfl, rfl, by decide +kernel, rfl, by decide +kernel, by decide +kernel⟩, rfl, by kernel_rfl⟩
def n_row_rest : List Str := ["row", "other", "rest", "factor", "last", "start", "number", "by", "each"]
def c_row_rest : Cc := ⟨⟨n_row_rest, defScope (st 26), [Pk.E_num_over_2, Pk.E_num_product_2, Pk.E_row_trimmed_1, Pk.E_num_less_2], CON, true, FREE⟩, cellsOf (defScope (st 26)), [], []⟩
def d_row_rest : Dfn := ⟨st 26, c_row_rest, ["row", "other"], false, Pk.ir_row_rest⟩
@[simp] theorem pk_row_rest : d_row_rest.f = Pk.row_rest := rfl
theorem ok_row_rest : DefOk d_row_rest.c d_row_rest.ps (defScope d_row_rest.st) (defBody d_row_rest.st) d_row_rest.ir := ⟨⟨rfl, rfl, rfl, by decide +kernel, rfl, by decide +kernel, by decide +kernel⟩, rfl, by kernel_rfl⟩
def n_row_divided : List Str := ["row", "other"]
def c_row_divided : Cc := ⟨⟨n_row_divided, defScope (st 31), [Pk.E_check_row_1, Pk.E_row_rest_2], CON, true, FREE⟩, cellsOf (defScope (st 31)), [], []⟩
def d_row_divided : Dfn := ⟨st 31, c_row_divided, ["row", "other"], false, Pk.ir_row_divided⟩
@[simp] theorem pk_row_divided : d_row_divided.f = Pk.row_divided := rfl
theorem ok_row_divided : DefOk d_row_divided.c d_row_divided.ps (defScope d_row_divided.st) (defBody d_row_divided.st) d_row_divided.ir := ⟨⟨rfl, rfl, rfl, by decide +kernel, rfl, by decide +kernel, by decide +kernel⟩, rfl, by kernel_rfl⟩
def n__law_divided : List Str := ["pail", "other", "factor", "rest", "row", "due", "first", "second"]
def c__law_divided : Cc := ⟨⟨n__law_divided, defScope (st 54), [Pk.E__law_trim_1, Pk.E__law_row_sum_2, Pk.E__law_row_2, Pk.E__law_row_times_2, Pk.E__law_told_row_1, Pk.E__law_many_v2_1, Pk.E_row_divided_2, Pk.E_row_divided_0_other_row], CON, true, FREE⟩, cellsOf (defScope (st 54)), [], []⟩
def d__law_divided : Dfn := ⟨st 54, c__law_divided, ["pail"], true, Pk.ir__law_divided⟩
@[simp] theorem pk__law_divided : d__law_divided.f = Pk._law_divided := rfl
theorem ok__law_divided : DefOk d__law_divided.c d__law_divided.ps (defScope d__law_divided.st) (defBody d__law_divided.st) d__law_divided.ir := ⟨⟨rfl, rfl, rfl, by decide +kernel, rfl, by decide +kernel, by decide +kernel⟩, rfl, by kernel_rfl⟩
def n__law_spread : List Str := ["roots", "times", "found", "k"]
def c__law_spread : Cc := ⟨⟨n__law_spread, defScope (st 53), [], CON, true, FREE⟩, cellsOf (defScope (st 53)), [], []⟩
def d__law_spread : Dfn := ⟨st 53, c__law_spread, ["roots", "times"], false, Pk.ir__law_spread⟩
@[simp] theorem pk__law_spread : d__law_spread.f = Pk._law_spread := rfl
theorem ok__law_spread : DefOk d__law_spread.c d__law_spread.ps (defScope d__law_spread.st) (defBody d__law_spread.st) d__law_spread.ir := ⟨⟨rfl, rfl, rfl, by decide +kernel, rfl, by decide +kernel, by decide +kernel⟩, rfl, by kernel_rfl⟩
def n__law_over : List Str := ["x", "y", "down"]
def c__law_over : Cc := ⟨⟨n__law_over, defScope (st 49), [Pk.E__law_cut_3], CON, true, FREE⟩, cellsOf (defScope (st 49)), [], []⟩
def d__law_over : Dfn := ⟨st 49, c__law_over, ["x", "y"], false, Pk.ir__law_over⟩
@[simp] theorem pk__law_over : d__law_over.f = Pk._law_over := rfl
theorem ok__law_over : DefOk d__law_over.c d__law_over.ps (defScope d__law_over.st) (defBody d__law_over.st) d__law_over.ir := ⟨⟨rfl, rfl, rfl, by decide +kernel, rfl, by decide +kernel, by decide +kernel⟩, rfl, by kernel_rfl⟩
def n_row_scaled : List Str := ["row", "number", "each"]
def c_row_scaled : Cc := ⟨⟨n_row_scaled, defScope (st 25), [Pk.E_row_trimmed_1, Pk.E_num_product_2], CON, true, FREE⟩, cellsOf (defScope (st 25)), [], []⟩
def d_row_scaled : Dfn := ⟨st 25, c_row_scaled, ["row", "number"], false, Pk.ir_row_scaled⟩
@[simp] theorem pk_row_scaled : d_row_scaled.f = Pk.row_scaled := rfl
theorem ok_row_scaled : DefOk d_row_scaled.c d_row_scaled.ps (defScope d_row_scaled.st) (defBody d_row_scaled.st) d_row_scaled.ir := ⟨⟨rfl, rfl, rfl, by decide +kernel, rfl, by decide +kernel, by decide +kernel⟩, rfl, by kernel_rfl⟩
def n_row_last_one : List Str := ["row"]
def c_row_last_one : Cc := ⟨⟨n_row_last_one, defScope (st 27), [Pk.E_row_scaled_2, Pk.E_num_over_2], CON, true, FREE⟩, cellsOf (defScope (st 27)), [], []⟩
def d_row_last_one : Dfn := ⟨st 27, c_row_last_one, ["row"], false, Pk.ir_row_last_one⟩
@[simp] theorem pk_row_last_one : d_row_last_one.f = Pk.row_last_one := rfl
theorem ok_row_last_one : DefOk d_row_last_one.c d_row_last_one.ps (defScope d_row_last_one.st) (defBody d_row_last_one.st) d_row_last_one.ir := ⟨⟨rfl, rfl, rfl, by decide +kernel, rfl, by decide +kernel, by decide +kernel⟩, rfl, by kernel_rfl⟩
def n_row_divisor : List Str := ["row", "other", "one", "two"]
def c_row_divisor : Cc := ⟨⟨n_row_divisor, defScope (st 28), [Pk.E_row_last_one_1, Pk.E_row_rest_2], CON, true, FREE⟩, cellsOf (defScope (st 28)), [], []⟩
def d_row_divisor : Dfn := ⟨st 28, c_row_divisor, ["row", "other"], false, Pk.ir_row_divisor⟩
@[simp] theorem pk_row_divisor : d_row_divisor.f = Pk.row_divisor := rfl
theorem ok_row_divisor : DefOk d_row_divisor.c d_row_divisor.ps (defScope d_row_divisor.st) (defBody d_row_divisor.st) d_row_divisor.ir := ⟨⟨rfl, rfl, rfl, by decide +kernel, rfl, by decide +kernel, by decide +kernel⟩, rfl, by kernel_rfl⟩
def n_row_common : List Str := ["row", "other"]
def c_row_common : Cc := ⟨⟨n_row_common, defScope (st 32), [Pk.E_check_row_1, Pk.E_row_divisor_2], CON, true, FREE⟩, cellsOf (defScope (st 32)), [], []⟩
def d_row_common : Dfn := ⟨st 32, c_row_common, ["row", "other"], false, Pk.ir_row_common⟩
@[simp] theorem pk_row_common : d_row_common.f = Pk.row_common := rfl
theorem ok_row_common : DefOk d_row_common.c d_row_common.ps (defScope d_row_common.st) (defBody d_row_common.st) d_row_common.ir := ⟨⟨rfl, rfl, rfl, by decide +kernel, rfl, by decide +kernel, by decide +kernel⟩, rfl, by kernel_rfl⟩
def n__law_right : List Str := ["pail", "roots", "one", "two", "low", "common", "lead", "far", "left", "right", "first", "second", "a", "b", "due", "whole", "each", "k"]
def c__law_right : Cc := ⟨⟨n__law_right, defScope (st 55), [Pk.E__law_roots_1, Pk.E__law_monic_1, Pk.E__law_scaled_2, Pk.E__law_told_row_1, Pk.E__law_divided_1, Pk.E__law_spread_2, Pk.E__law_many_v2_1, Pk.E__law_row_times_2, Pk.E__law_dip_2, Pk.E_row_divided_2, Pk.E__law_over_2, Pk.E_row_common_2, Pk.E_row_common_0_other_row], CON, true, FREE⟩, cellsOf (defScope (st 55)), [], []⟩
def ir__law_right : List IS := [(.ife (.not (.callm Pk._law_divided 0 [])) [(.ret (.cst (.bool false)))] []), (.set 1 (.callm Pk._law_roots 0 [])), (.par [2, 3] [(.lc [16] (.nm 16) .seq [(.var 1)] [] (.callm F1.dip 0 [(.cst (.int (3)))])), (.lc [16] (.nm 16) .seq [(.var 1)] [] (.callm F1.dip 0 [(.cst (.int (3)))]))]), (.set 4 (.lc [17] (.nm 17) .rng1 [(.lenv 1)] [] (.bi .min2 [(.ixv 2 (.var 17)), (.ixv 3 (.var 17))]))), (.set 5 (.call Pk._law_monic Pk.E__law_monic_1.pm [(.call Pk._law_spread Pk.E__law_spread_2.pm [(.var 1), (.var 4)])])), (.par [6, 7] [(.callm Pk._law_many_v2 0 []), (.callm Pk._law_many_v2 0 [])]), (.set 8 (.call Pk._law_scaled Pk.E__law_scaled_2.pm [(.call Pk._law_monic Pk.E__law_monic_1.pm [(.call Pk._law_spread Pk.E__law_spread_2.pm [(.var 1), (.lc [17] (.nm 17) .rng1 [(.lenv 1)] [] (.bin .sub (.ixv 2 (.var 17)) (.ixv 4 (.var 17))))])]), (.var 6)])), (.set 9 (.call Pk._law_scaled Pk.E__law_scaled_2.pm [(.call Pk._law_monic Pk.E__law_monic_1.pm [(.call Pk._law_spread Pk.E__law_spread_2.pm [(.var 1), (.lc [17] (.nm 17) .rng1 [(.lenv 1)] [] (.bin .sub (.ixv 3 (.var 17)) (.ixv 4 (.var 17))))])]), (.var 7)])), (.par [10, 11] [(.call Pk._law_row_times Pk.E__law_row_times_2.pm [(.var 5), (.var 8)]), (.call Pk._law_row_times Pk.E__law_row_times_2.pm [(.var 5), (.var 9)])]), (.par [12, 13, 14] [(.call Pk._law_told_row Pk.E__law_told_row_1.pm [(.var 10)]), (.call Pk._law_told_row Pk.E__law_told_row_1.pm [(.var 11)]), (.call Pk._law_told_row Pk.E__law_told_row_1.pm [(.var 5)])]), (.ife (.cmp .ne (.bi .repr [(.lst [(.call Pk.row_common Pk.E_row_common_2.pm [(.var 12), (.var 13)]), (.call Pk.row_common Pk.E_row_common_0_other_row.pm [(.var 12), (.var 13)]), (.call Pk.row_divided Pk.E_row_divided_2.pm [(.var 12), (.var 14)])])]) (.bi .repr [(.lst [(.var 14), (.var 14), (.tup [(.call Pk._law_told_row Pk.E__law_told_row_1.pm [(.var 8)]), (.tup [])])])])) [(.ret (.cst (.bool false)))] []), (.ife (.cmp .ne (.bi .repr [(.call Pk.row_divided Pk.E_row_divided_2.pm [(.var 13), (.call Pk.row_common Pk.E_row_common_2.pm [(.var 12), (.var 13)])])]) (.bi .repr [(.tup [(.call Pk._law_told_row Pk.E__law_told_row_1.pm [(.var 9)]), (.tup [])])])) [(.ret (.cst (.bool false)))] []), (.set 15 (.call Pk._law_told_row Pk.E__law_told_row_1.pm [(.call Pk._law_scaled Pk.E__law_scaled_2.pm [(.var 10), (.call Pk._law_over Pk.E__law_over_2.pm [(.tup [(.cst (.int (1))), (.cst (.int (0))), (.cst (.int (1)))]), (.var 6)])])])), (.ret (.cmp .eq (.bi .repr [(.lst [(.call Pk.row_common Pk.E_row_common_2.pm [(.var 12), (.tup [])]), (.call Pk.row_common Pk.E_row_common_2.pm [(.tup []), (.var 12)]), (.call Pk.row_common Pk.E_row_common_2.pm [(.tup []), (.tup [])])])]) (.bi .repr [(.lst [(.var 15), (.var 15), (.tup [])])])))]
def d__law_right : Dfn := ⟨st 55, c__law_right, ["pail"], true, ir__law_right⟩
theorem ok__law_right : DefOk d__law_right.c d__law_right.ps (defScope d__law_right.st) (defBody d__law_right.st) d__law_right.ir := ⟨⟨rfl, rfl, rfl, by decide +kernel, rfl, by decide +kernel, by decide +kernel⟩, rfl, by kernel_rfl⟩
def E__law_right_1 : FnE := ⟨"_law_right", 1, [], d__law_right.f, [.inl 0], []⟩
def n__law_pail : List Str := ["script", "turn", "cell", "mixed", "each", "rich"]
def c__law_pail : Cc := ⟨⟨n__law_pail, defScope (st 34), [], CON, true, FREE⟩, cellsOf (defScope (st 34)), [], []⟩
def d__law_pail : Dfn := ⟨st 34, c__law_pail, ["script", "turn"], false, F1.pailI⟩
@[simp] theorem pk__law_pail : d__law_pail.f = F1.pail := rfl
theorem ok__law_pail : DefOk d__law_pail.c d__law_pail.ps (defScope d__law_pail.st) (defBody d__law_pail.st) d__law_pail.ir := ⟨⟨rfl, rfl, rfl, by decide +kernel, rfl, by decide +kernel, by decide +kernel⟩, rfl, by kernel_rfl⟩
def n_law : List Str := ["script", "turn"]
def c_law : Cc := ⟨⟨n_law, defScope (st 56), [E__law_right_1, Pk.E__law_pail_2], CON, true, FREE⟩, cellsOf (defScope (st 56)), [], []⟩
def ir_law : List IS := [(.ret (.bi .all [(.lc [1] (.nm 1) .rng1 [(.bi .max2 [(.cst (.int (2))), (.bi .min2 [(.lenv 0), (.cst (.int (3)))])])] [] (.callt d__law_right.f (.call F1.pail Pk.E__law_pail_2.pm [(.var 0), (.var 1)])))]))]
def d_law : Dfn := ⟨st 56, c_law, ["script"], false, ir_law⟩
theorem ok_law : DefOk d_law.c d_law.ps (defScope d_law.st) (defBody d_law.st) d_law.ir := ⟨⟨rfl, rfl, rfl, by decide +kernel, rfl, by decide +kernel, by decide +kernel⟩, rfl, by kernel_rfl⟩
def DFL : List ((Str × Nat) × PyData) := []
def asked : Asked := ⟨FREE, [d__law_dip.dd [], d__law_gcd.dd [], d__law_cut.dd [], d__law_drawn.dd [], d__law_roots.dd [], d__law_trim.dd [], d__law_row_times.dd [], d__law_monic.dd [], d__law_times.dd [], d__law_scaled.dd [], d__law_fraction.dd [], d__law_told.dd [], d__law_told_row.dd [], d__law_add.dd [], d__law_row_sum.dd [], d__law_row.dd [], d__law_many.dd [], d_is_whole.dd [], d_is_frac.dd [], d_is_num.dd [], d_is_a_row.dd [], d_check_row.dd [], d_frac_reduced.dd [], d_frac_product.dd [], d_num_scaled.dd [], d_num_product.dd [], d_frac_over.dd [], d_num_mirrored.dd [], d_num_size.dd [], d_num_over.dd [], d_row_trimmed.dd [], d_frac_less.dd [], d_num_less.dd [], d_row_rest.dd [], d_row_divided.dd [], d__law_divided.dd [], d__law_spread.dd [], d__law_over.dd [], d_row_scaled.dd [], d_row_last_one.dd [], d_row_divisor.dd [], d_row_common.dd [], d__law_right.dd [], d__law_pail.dd [], d_law.dd []], CON, true, DFL⟩
section
variable {P : Program} {w : World} {K : PySem.W.Frag} {mg : Str → Option Value} {base : Heap}
theorem b_E__law_gcd_2 (kV doc pm : Value) (an : Option Addr) (cdv ct : Value) (us ws : List Value) (h1 : us.length = Pk.E__law_gcd_2.np) (h2 : ws.length = Pk.E__law_gcd_2.kws.length) : bindArgs (PySem.W.fnOf (stName d__law_gcd.st) (stName d__law_gcd.st) (defArgs d__law_gcd.st) (defBody d__law_gcd.st) (defScope d__law_gcd.st) .none kV doc pm an cdv ct) ⟨us, Pk.E__law_gcd_2.kws.zip ws⟩ = pure (d__law_gcd.ps.zip (arr .none Pk.E__law_gcd_2.ar [] (us ++ ws))) :=
  match us, ws, h1, h2 with | [_, _], [], _, _ => rfl
theorem b_E__law_cut_3 (kV doc pm : Value) (an : Option Addr) (cdv ct : Value) (us ws : List Value) (h1 : us.length = Pk.E__law_cut_3.np) (h2 : ws.length = Pk.E__law_cut_3.kws.length) : bindArgs (PySem.W.fnOf (stName d__law_cut.st) (stName d__law_cut.st) (defArgs d__law_cut.st) (defBody d__law_cut.st) (defScope d__law_cut.st) .none kV doc pm an cdv ct) ⟨us, Pk.E__law_cut_3.kws.zip ws⟩ = pure (d__law_cut.ps.zip (arr .none Pk.E__law_cut_3.ar [] (us ++ ws))) :=
  match us, ws, h1, h2 with | [_, _, _], [], _, _ => rfl
theorem b_E__law_dip_2 (kV doc pm : Value) (an : Option Addr) (cdv ct : Value) (us ws : List Value) (h1 : us.length = Pk.E__law_dip_2.np) (h2 : ws.length = Pk.E__law_dip_2.kws.length) : bindArgs (PySem.W.fnOf (stName d__law_dip.st) (stName d__law_dip.st) (defArgs d__law_dip.st) (defBody d__law_dip.st) (defScope d__law_dip.st) .none kV doc pm an cdv ct) ⟨us, Pk.E__law_dip_2.kws.zip ws⟩ = pure (d__law_dip.ps.zip (arr .none Pk.E__law_dip_2.ar [] (us ++ ws))) :=
  match us, ws, h1, h2 with | [_, _], [], _, _ => rfl
theorem b_E__law_drawn_3 (kV doc pm : Value) (an : Option Addr) (cdv ct : Value) (us ws : List Value) (h1 : us.length = Pk.E__law_drawn_3.np) (h2 : ws.length = Pk.E__law_drawn_3.kws.length) : bindArgs (PySem.W.fnOf (stName d__law_drawn.st) (stName d__law_drawn.st) (defArgs d__law_drawn.st) (defBody d__law_drawn.st) (defScope d__law_drawn.st) .none kV doc pm an cdv ct) ⟨us, Pk.E__law_drawn_3.kws.zip ws⟩ = pure (d__law_drawn.ps.zip (arr .none Pk.E__law_drawn_3.ar [] (us ++ ws))) :=
  match us, ws, h1, h2 with | [_, _, _], [], _, _ => rfl
theorem b_E__law_trim_1 (kV doc pm : Value) (an : Option Addr) (cdv ct : Value) (us ws : List Value) (h1 : us.length = Pk.E__law_trim_1.np) (h2 : ws.length = Pk.E__law_trim_1.kws.length) : bindArgs (PySem.W.fnOf (stName d__law_trim.st) (stName d__law_trim.st) (defArgs d__law_trim.st) (defBody d__law_trim.st) (defScope d__law_trim.st) .none kV doc pm an cdv ct) ⟨us, Pk.E__law_trim_1.kws.zip ws⟩ = pure (d__law_trim.ps.zip (arr .none Pk.E__law_trim_1.ar [] (us ++ ws))) :=
  match us, ws, h1, h2 with | [_], [], _, _ => rfl
theorem b_E__law_row_times_2 (kV doc pm : Value) (an : Option Addr) (cdv ct : Value) (us ws : List Value) (h1 : us.length = Pk.E__law_row_times_2.np) (h2 : ws.length = Pk.E__law_row_times_2.kws.length) : bindArgs (PySem.W.fnOf (stName d__law_row_times.st) (stName d__law_row_times.st) (defArgs d__law_row_times.st) (defBody d__law_row_times.st) (defScope d__law_row_times.st) .none kV doc pm an cdv ct) ⟨us, Pk.E__law_row_times_2.kws.zip ws⟩ = pure (d__law_row_times.ps.zip (arr .none Pk.E__law_row_times_2.ar [] (us ++ ws))) :=
  match us, ws, h1, h2 with | [_, _], [], _, _ => rfl
theorem b_E__law_times_2 (kV doc pm : Value) (an : Option Addr) (cdv ct : Value) (us ws : List Value) (h1 : us.length = Pk.E__law_times_2.np) (h2 : ws.length = Pk.E__law_times_2.kws.length) : bindArgs (PySem.W.fnOf (stName d__law_times.st) (stName d__law_times.st) (defArgs d__law_times.st) (defBody d__law_times.st) (defScope d__law_times.st) .none kV doc pm an cdv ct) ⟨us, Pk.E__law_times_2.kws.zip ws⟩ = pure (d__law_times.ps.zip (arr .none Pk.E__law_times_2.ar [] (us ++ ws))) :=
  match us, ws, h1, h2 with | [_, _], [], _, _ => rfl
theorem b_E__law_fraction_2 (kV doc pm : Value) (an : Option Addr) (cdv ct : Value) (us ws : List Value) (h1 : us.length = Pk.E__law_fraction_2.np) (h2 : ws.length = Pk.E__law_fraction_2.kws.length) : bindArgs (PySem.W.fnOf (stName d__law_fraction.st) (stName d__law_fraction.st) (defArgs d__law_fraction.st) (defBody d__law_fraction.st) (defScope d__law_fraction.st) .none kV doc pm an cdv ct) ⟨us, Pk.E__law_fraction_2.kws.zip ws⟩ = pure (d__law_fraction.ps.zip (arr .none Pk.E__law_fraction_2.ar [] (us ++ ws))) :=
  match us, ws, h1, h2 with | [_, _], [], _, _ => rfl
theorem b_E__law_told_1 (kV doc pm : Value) (an : Option Addr) (cdv ct : Value) (us ws : List Value) (h1 : us.length = Pk.E__law_told_1.np) (h2 : ws.length = Pk.E__law_told_1.kws.length) : bindArgs (PySem.W.fnOf (stName d__law_told.st) (stName d__law_told.st) (defArgs d__law_told.st) (defBody d__law_told.st) (defScope d__law_told.st) .none kV doc pm an cdv ct) ⟨us, Pk.E__law_told_1.kws.zip ws⟩ = pure (d__law_told.ps.zip (arr .none Pk.E__law_told_1.ar [] (us ++ ws))) :=
  match us, ws, h1, h2 with | [_], [], _, _ => rfl
theorem b_E__law_add_2 (kV doc pm : Value) (an : Option Addr) (cdv ct : Value) (us ws : List Value) (h1 : us.length = Pk.E__law_add_2.np) (h2 : ws.length = Pk.E__law_add_2.kws.length) : bindArgs (PySem.W.fnOf (stName d__law_add.st) (stName d__law_add.st) (defArgs d__law_add.st) (defBody d__law_add.st) (defScope d__law_add.st) .none kV doc pm an cdv ct) ⟨us, Pk.E__law_add_2.kws.zip ws⟩ = pure (d__law_add.ps.zip (arr .none Pk.E__law_add_2.ar [] (us ++ ws))) :=
  match us, ws, h1, h2 with | [_, _], [], _, _ => rfl
theorem b_E_is_whole_1 (kV doc pm : Value) (an : Option Addr) (cdv ct : Value) (us ws : List Value) (h1 : us.length = Pk.E_is_whole_1.np) (h2 : ws.length = Pk.E_is_whole_1.kws.length) : bindArgs (PySem.W.fnOf (stName d_is_whole.st) (stName d_is_whole.st) (defArgs d_is_whole.st) (defBody d_is_whole.st) (defScope d_is_whole.st) .none kV doc pm an cdv ct) ⟨us, Pk.E_is_whole_1.kws.zip ws⟩ = pure (d_is_whole.ps.zip (arr .none Pk.E_is_whole_1.ar [] (us ++ ws))) :=
  match us, ws, h1, h2 with | [_], [], _, _ => rfl
theorem b_E_is_frac_1 (kV doc pm : Value) (an : Option Addr) (cdv ct : Value) (us ws : List Value) (h1 : us.length = Pk.E_is_frac_1.np) (h2 : ws.length = Pk.E_is_frac_1.kws.length) : bindArgs (PySem.W.fnOf (stName d_is_frac.st) (stName d_is_frac.st) (defArgs d_is_frac.st) (defBody d_is_frac.st) (defScope d_is_frac.st) .none kV doc pm an cdv ct) ⟨us, Pk.E_is_frac_1.kws.zip ws⟩ = pure (d_is_frac.ps.zip (arr .none Pk.E_is_frac_1.ar [] (us ++ ws))) :=
  match us, ws, h1, h2 with | [_], [], _, _ => rfl
theorem b_E_is_num_1 (kV doc pm : Value) (an : Option Addr) (cdv ct : Value) (us ws : List Value) (h1 : us.length = Pk.E_is_num_1.np) (h2 : ws.length = Pk.E_is_num_1.kws.length) : bindArgs (PySem.W.fnOf (stName d_is_num.st) (stName d_is_num.st) (defArgs d_is_num.st) (defBody d_is_num.st) (defScope d_is_num.st) .none kV doc pm an cdv ct) ⟨us, Pk.E_is_num_1.kws.zip ws⟩ = pure (d_is_num.ps.zip (arr .none Pk.E_is_num_1.ar [] (us ++ ws))) :=
  match us, ws, h1, h2 with | [_], [], _, _ => rfl
theorem b_E_is_a_row_1 (kV doc pm : Value) (an : Option Addr) (cdv ct : Value) (us ws : List Value) (h1 : us.length = Pk.E_is_a_row_1.np) (h2 : ws.length = Pk.E_is_a_row_1.kws.length) : bindArgs (PySem.W.fnOf (stName d_is_a_row.st) (stName d_is_a_row.st) (defArgs d_is_a_row.st) (defBody d_is_a_row.st) (defScope d_is_a_row.st) .none kV doc pm an cdv ct) ⟨us, Pk.E_is_a_row_1.kws.zip ws⟩ = pure (d_is_a_row.ps.zip (arr .none Pk.E_is_a_row_1.ar [] (us ++ ws))) :=
  match us, ws, h1, h2 with | [_], [], _, _ => rfl
theorem b_E_frac_reduced_2 (kV doc pm : Value) (an : Option Addr) (cdv ct : Value) (us ws : List Value) (h1 : us.length = Pk.E_frac_reduced_2.np) (h2 : ws.length = Pk.E_frac_reduced_2.kws.length) : bindArgs (PySem.W.fnOf (stName d_frac_reduced.st) (stName d_frac_reduced.st) (defArgs d_frac_reduced.st) (defBody d_frac_reduced.st) (defScope d_frac_reduced.st) .none kV doc pm an cdv ct) ⟨us, Pk.E_frac_reduced_2.kws.zip ws⟩ = pure (d_frac_reduced.ps.zip (arr .none Pk.E_frac_reduced_2.ar [] (us ++ ws))) :=
  match us, ws, h1, h2 with | [_, _], [], _, _ => rfl
theorem b_E_frac_product_2 (kV doc pm : Value) (an : Option Addr) (cdv ct : Value) (us ws : List Value) (h1 : us.length = Pk.E_frac_product_2.np) (h2 : ws.length = Pk.E_frac_product_2.kws.length) : bindArgs (PySem.W.fnOf (stName d_frac_product.st) (stName d_frac_product.st) (defArgs d_frac_product.st) (defBody d_frac_product.st) (defScope d_frac_product.st) .none kV doc pm an cdv ct) ⟨us, Pk.E_frac_product_2.kws.zip ws⟩ = pure (d_frac_product.ps.zip (arr .none Pk.E_frac_product_2.ar [] (us ++ ws))) :=
  match us, ws, h1, h2 with | [_, _], [], _, _ => rfl
theorem b_E_num_scaled_2 (kV doc pm : Value) (an : Option Addr) (cdv ct : Value) (us ws : List Value) (h1 : us.length = Pk.E_num_scaled_2.np) (h2 : ws.length = Pk.E_num_scaled_2.kws.length) : bindArgs (PySem.W.fnOf (stName d_num_scaled.st) (stName d_num_scaled.st) (defArgs d_num_scaled.st) (defBody d_num_scaled.st) (defScope d_num_scaled.st) .none kV doc pm an cdv ct) ⟨us, Pk.E_num_scaled_2.kws.zip ws⟩ = pure (d_num_scaled.ps.zip (arr .none Pk.E_num_scaled_2.ar [] (us ++ ws))) :=
  match us, ws, h1, h2 with | [_, _], [], _, _ => rfl
theorem b_E_num_product_2 (kV doc pm : Value) (an : Option Addr) (cdv ct : Value) (us ws : List Value) (h1 : us.length = Pk.E_num_product_2.np) (h2 : ws.length = Pk.E_num_product_2.kws.length) : bindArgs (PySem.W.fnOf (stName d_num_product.st) (stName d_num_product.st) (defArgs d_num_product.st) (defBody d_num_product.st) (defScope d_num_product.st) .none kV doc pm an cdv ct) ⟨us, Pk.E_num_product_2.kws.zip ws⟩ = pure (d_num_product.ps.zip (arr .none Pk.E_num_product_2.ar [] (us ++ ws))) :=
  match us, ws, h1, h2 with | [_, _], [], _, _ => rfl
theorem b_E_frac_over_2 (kV doc pm : Value) (an : Option Addr) (cdv ct : Value) (us ws : List Value) (h1 : us.length = Pk.E_frac_over_2.np) (h2 : ws.length = Pk.E_frac_over_2.kws.length) : bindArgs (PySem.W.fnOf (stName d_frac_over.st) (stName d_frac_over.st) (defArgs d_frac_over.st) (defBody d_frac_over.st) (defScope d_frac_over.st) .none kV doc pm an cdv ct) ⟨us, Pk.E_frac_over_2.kws.zip ws⟩ = pure (d_frac_over.ps.zip (arr .none Pk.E_frac_over_2.ar [] (us ++ ws))) :=
  match us, ws, h1, h2 with | [_, _], [], _, _ => rfl
theorem b_E_num_mirrored_1 (kV doc pm : Value) (an : Option Addr) (cdv ct : Value) (us ws : List Value) (h1 : us.length = Pk.E_num_mirrored_1.np) (h2 : ws.length = Pk.E_num_mirrored_1.kws.length) : bindArgs (PySem.W.fnOf (stName d_num_mirrored.st) (stName d_num_mirrored.st) (defArgs d_num_mirrored.st) (defBody d_num_mirrored.st) (defScope d_num_mirrored.st) .none kV doc pm an cdv ct) ⟨us, Pk.E_num_mirrored_1.kws.zip ws⟩ = pure (d_num_mirrored.ps.zip (arr .none Pk.E_num_mirrored_1.ar [] (us ++ ws))) :=
  match us, ws, h1, h2 with | [_], [], _, _ => rfl
theorem b_E_num_size_1 (kV doc pm : Value) (an : Option Addr) (cdv ct : Value) (us ws : List Value) (h1 : us.length = Pk.E_num_size_1.np) (h2 : ws.length = Pk.E_num_size_1.kws.length) : bindArgs (PySem.W.fnOf (stName d_num_size.st) (stName d_num_size.st) (defArgs d_num_size.st) (defBody d_num_size.st) (defScope d_num_size.st) .none kV doc pm an cdv ct) ⟨us, Pk.E_num_size_1.kws.zip ws⟩ = pure (d_num_size.ps.zip (arr .none Pk.E_num_size_1.ar [] (us ++ ws))) :=
  match us, ws, h1, h2 with | [_], [], _, _ => rfl
theorem b_E_frac_less_2 (kV doc pm : Value) (an : Option Addr) (cdv ct : Value) (us ws : List Value) (h1 : us.length = Pk.E_frac_less_2.np) (h2 : ws.length = Pk.E_frac_less_2.kws.length) : bindArgs (PySem.W.fnOf (stName d_frac_less.st) (stName d_frac_less.st) (defArgs d_frac_less.st) (defBody d_frac_less.st) (defScope d_frac_less.st) .none kV doc pm an cdv ct) ⟨us, Pk.E_frac_less_2.kws.zip ws⟩ = pure (d_frac_less.ps.zip (arr .none Pk.E_frac_less_2.ar [] (us ++ ws))) :=
  match us, ws, h1, h2 with | [_, _], [], _, _ => rfl
theorem b_E_num_over_2 (kV doc pm : Value) (an : Option Addr) (cdv ct : Value) (us ws : List Value) (h1 : us.length = Pk.E_num_over_2.np) (h2 : ws.length = Pk.E_num_over_2.kws.length) : bindArgs (PySem.W.fnOf (stName d_num_over.st) (stName d_num_over.st) (defArgs d_num_over.st) (defBody d_num_over.st) (defScope d_num_over.st) .none kV doc pm an cdv ct) ⟨us, Pk.E_num_over_2.kws.zip ws⟩ = pure (d_num_over.ps.zip (arr .none Pk.E_num_over_2.ar [] (us ++ ws))) :=
  match us, ws, h1, h2 with | [_, _], [], _, _ => rfl
theorem b_E_row_trimmed_1 (kV doc pm : Value) (an : Option Addr) (cdv ct : Value) (us ws : List Value) (h1 : us.length = Pk.E_row_trimmed_1.np) (h2 : ws.length = Pk.E_row_trimmed_1.kws.length) : bindArgs (PySem.W.fnOf (stName d_row_trimmed.st) (stName d_row_trimmed.st) (defArgs d_row_trimmed.st) (defBody d_row_trimmed.st) (defScope d_row_trimmed.st) .none kV doc pm an cdv ct) ⟨us, Pk.E_row_trimmed_1.kws.zip ws⟩ = pure (d_row_trimmed.ps.zip (arr .none Pk.E_row_trimmed_1.ar [] (us ++ ws))) :=
  match us, ws, h1, h2 with | [_], [], _, _ => rfl
theorem b_E_num_less_2 (kV doc pm : Value) (an : Option Addr) (cdv ct : Value) (us ws : List Value) (h1 : us.length = Pk.E_num_less_2.np) (h2 : ws.length = Pk.E_num_less_2.kws.length) : bindArgs (PySem.W.fnOf (stName d_num_less.st) (stName d_num_less.st) (defArgs d_num_less.st) (defBody d_num_less.st) (defScope d_num_less.st) .none kV doc pm an cdv ct) ⟨us, Pk.E_num_less_2.kws.zip ws⟩ = pure (d_num_less.ps.zip (arr .none Pk.E_num_less_2.ar [] (us ++ ws))) :=
  match us, ws, h1, h2 with | [_, _], [], _, _ => rfl
theorem b_E_check_row_1 (kV doc pm : Value) (an : Option Addr) (cdv ct : Value) (us ws : List Value) (h1 : us.length = Pk.E_check_row_1.np) (h2 : ws.length = Pk.E_check_row_1.kws.length) : bindArgs (PySem.W.fnOf (stName d_check_row.st) (stName d_check_row.st) (defArgs d_check_row.st) (defBody d_check_row.st) (defScope d_check_row.st) .none kV doc pm an cdv ct) ⟨us, Pk.E_check_row_1.kws.zip ws⟩ = pure (d_check_row.ps.zip (arr .none Pk.E_check_row_1.ar [] (us ++ ws))) :=
  match us, ws, h1, h2 with | [_], [], _, _ => rfl
theorem b_E_row_rest_2 (kV doc pm : Value) (an : Option Addr) (cdv ct : Value) (us ws : List Value) (h1 : us.length = Pk.E_row_rest_2.np) (h2 : ws.length = Pk.E_row_rest_2.kws.length) : bindArgs (PySem.W.fnOf (stName d_row_rest.st) (stName d_row_rest.st) (defArgs d_row_rest.st) (defBody d_row_rest.st) (defScope d_row_rest.st) .none kV doc pm an cdv ct) ⟨us, Pk.E_row_rest_2.kws.zip ws⟩ = pure (d_row_rest.ps.zip (arr .none Pk.E_row_rest_2.ar [] (us ++ ws))) :=
  match us, ws, h1, h2 with | [_, _], [], _, _ => rfl
theorem b_E__law_row_sum_2 (kV doc pm : Value) (an : Option Addr) (cdv ct : Value) (us ws : List Value) (h1 : us.length = Pk.E__law_row_sum_2.np) (h2 : ws.length = Pk.E__law_row_sum_2.kws.length) : bindArgs (PySem.W.fnOf (stName d__law_row_sum.st) (stName d__law_row_sum.st) (defArgs d__law_row_sum.st) (defBody d__law_row_sum.st) (defScope d__law_row_sum.st) .none kV doc pm an cdv ct) ⟨us, Pk.E__law_row_sum_2.kws.zip ws⟩ = pure (d__law_row_sum.ps.zip (arr .none Pk.E__law_row_sum_2.ar [] (us ++ ws))) :=
  match us, ws, h1, h2 with | [_, _], [], _, _ => rfl
theorem b_E__law_row_2 (kV doc pm : Value) (an : Option Addr) (cdv ct : Value) (us ws : List Value) (h1 : us.length = Pk.E__law_row_2.np) (h2 : ws.length = Pk.E__law_row_2.kws.length) : bindArgs (PySem.W.fnOf (stName d__law_row.st) (stName d__law_row.st) (defArgs d__law_row.st) (defBody d__law_row.st) (defScope d__law_row.st) .none kV doc pm an cdv ct) ⟨us, Pk.E__law_row_2.kws.zip ws⟩ = pure (d__law_row.ps.zip (arr .none Pk.E__law_row_2.ar [] (us ++ ws))) :=
  match us, ws, h1, h2 with | [_, _], [], _, _ => rfl
theorem b_E__law_told_row_1 (kV doc pm : Value) (an : Option Addr) (cdv ct : Value) (us ws : List Value) (h1 : us.length = Pk.E__law_told_row_1.np) (h2 : ws.length = Pk.E__law_told_row_1.kws.length) : bindArgs (PySem.W.fnOf (stName d__law_told_row.st) (stName d__law_told_row.st) (defArgs d__law_told_row.st) (defBody d__law_told_row.st) (defScope d__law_told_row.st) .none kV doc pm an cdv ct) ⟨us, Pk.E__law_told_row_1.kws.zip ws⟩ = pure (d__law_told_row.ps.zip (arr .none Pk.E__law_told_row_1.ar [] (us ++ ws))) :=
  match us, ws, h1, h2 with | [_], [], _, _ => rfl
theorem b_E__law_many_1 (kV doc pm : Value) (an : Option Addr) (cdv ct : Value) (us ws : List Value) (h1 : us.length = Pk.E__law_many_v2_1.np) (h2 : ws.length = Pk.E__law_many_v2_1.kws.length) : bindArgs (PySem.W.fnOf (stName d__law_many.st) (stName d__law_many.st) (defArgs d__law_many.st) (defBody d__law_many.st) (defScope d__law_many.st) .none kV doc pm an cdv ct) ⟨us, Pk.E__law_many_v2_1.kws.zip ws⟩ = pure (d__law_many.ps.zip (arr .none Pk.E__law_many_v2_1.ar [] (us ++ ws))) :=
  match us, ws, h1, h2 with | [_], [], _, _ => rfl
theorem b_E_row_divided_2 (kV doc pm : Value) (an : Option Addr) (cdv ct : Value) (us ws : List Value) (h1 : us.length = Pk.E_row_divided_2.np) (h2 : ws.length = Pk.E_row_divided_2.kws.length) : bindArgs (PySem.W.fnOf (stName d_row_divided.st) (stName d_row_divided.st) (defArgs d_row_divided.st) (defBody d_row_divided.st) (defScope d_row_divided.st) .none kV doc pm an cdv ct) ⟨us, Pk.E_row_divided_2.kws.zip ws⟩ = pure (d_row_divided.ps.zip (arr .none Pk.E_row_divided_2.ar [] (us ++ ws))) :=
  match us, ws, h1, h2 with | [_, _], [], _, _ => rfl
theorem b_E_row_divided_0_other_row (kV doc pm : Value) (an : Option Addr) (cdv ct : Value) (us ws : List Value) (h1 : us.length = Pk.E_row_divided_0_other_row.np) (h2 : ws.length = Pk.E_row_divided_0_other_row.kws.length) : bindArgs (PySem.W.fnOf (stName d_row_divided.st) (stName d_row_divided.st) (defArgs d_row_divided.st) (defBody d_row_divided.st) (defScope d_row_divided.st) .none kV doc pm an cdv ct) ⟨us, Pk.E_row_divided_0_other_row.kws.zip ws⟩ = pure (d_row_divided.ps.zip (arr .none Pk.E_row_divided_0_other_row.ar [] (us ++ ws))) :=
  match us, ws, h1, h2 with | [], [_, _], _, _ => rfl
theorem b_E_row_scaled_2 (kV doc pm : Value) (an : Option Addr) (cdv ct : Value) (us ws : List Value) (h1 : us.length = Pk.E_row_scaled_2.np) (h2 : ws.length = Pk.E_row_scaled_2.kws.length) : bindArgs (PySem.W.fnOf (stName d_row_scaled.st) (stName d_row_scaled.st) (defArgs d_row_scaled.st) (defBody d_row_scaled.st) (defScope d_row_scaled.st) .none kV doc pm an cdv ct) ⟨us, Pk.E_row_scaled_2.kws.zip ws⟩ = pure (d_row_scaled.ps.zip (arr .none Pk.E_row_scaled_2.ar [] (us ++ ws))) :=
  match us, ws, h1, h2 with | [_, _], [], _, _ => rfl
theorem b_E_row_last_one_1 (kV doc pm : Value) (an : Option Addr) (cdv ct : Value) (us ws : List Value) (h1 : us.length = Pk.E_row_last_one_1.np) (h2 : ws.length = Pk.E_row_last_one_1.kws.length) : bindArgs (PySem.W.fnOf (stName d_row_last_one.st) (stName d_row_last_one.st) (defArgs d_row_last_one.st) (defBody d_row_last_one.st) (defScope d_row_last_one.st) .none kV doc pm an cdv ct) ⟨us, Pk.E_row_last_one_1.kws.zip ws⟩ = pure (d_row_last_one.ps.zip (arr .none Pk.E_row_last_one_1.ar [] (us ++ ws))) :=
  match us, ws, h1, h2 with | [_], [], _, _ => rfl
theorem b_E_row_divisor_2 (kV doc pm : Value) (an : Option Addr) (cdv ct : Value) (us ws : List Value) (h1 : us.length = Pk.E_row_divisor_2.np) (h2 : ws.length = Pk.E_row_divisor_2.kws.length) : bindArgs (PySem.W.fnOf (stName d_row_divisor.st) (stName d_row_divisor.st) (defArgs d_row_divisor.st) (defBody d_row_divisor.st) (defScope d_row_divisor.st) .none kV doc pm an cdv ct) ⟨us, Pk.E_row_divisor_2.kws.zip ws⟩ = pure (d_row_divisor.ps.zip (arr .none Pk.E_row_divisor_2.ar [] (us ++ ws))) :=
  match us, ws, h1, h2 with | [_, _], [], _, _ => rfl
theorem b_E__law_roots_1 (kV doc pm : Value) (an : Option Addr) (cdv ct : Value) (us ws : List Value) (h1 : us.length = Pk.E__law_roots_1.np) (h2 : ws.length = Pk.E__law_roots_1.kws.length) : bindArgs (PySem.W.fnOf (stName d__law_roots.st) (stName d__law_roots.st) (defArgs d__law_roots.st) (defBody d__law_roots.st) (defScope d__law_roots.st) .none kV doc pm an cdv ct) ⟨us, Pk.E__law_roots_1.kws.zip ws⟩ = pure (d__law_roots.ps.zip (arr .none Pk.E__law_roots_1.ar [] (us ++ ws))) :=
  match us, ws, h1, h2 with | [_], [], _, _ => rfl
theorem b_E__law_monic_1 (kV doc pm : Value) (an : Option Addr) (cdv ct : Value) (us ws : List Value) (h1 : us.length = Pk.E__law_monic_1.np) (h2 : ws.length = Pk.E__law_monic_1.kws.length) : bindArgs (PySem.W.fnOf (stName d__law_monic.st) (stName d__law_monic.st) (defArgs d__law_monic.st) (defBody d__law_monic.st) (defScope d__law_monic.st) .none kV doc pm an cdv ct) ⟨us, Pk.E__law_monic_1.kws.zip ws⟩ = pure (d__law_monic.ps.zip (arr .none Pk.E__law_monic_1.ar [] (us ++ ws))) :=
  match us, ws, h1, h2 with | [_], [], _, _ => rfl
theorem b_E__law_scaled_2 (kV doc pm : Value) (an : Option Addr) (cdv ct : Value) (us ws : List Value) (h1 : us.length = Pk.E__law_scaled_2.np) (h2 : ws.length = Pk.E__law_scaled_2.kws.length) : bindArgs (PySem.W.fnOf (stName d__law_scaled.st) (stName d__law_scaled.st) (defArgs d__law_scaled.st) (defBody d__law_scaled.st) (defScope d__law_scaled.st) .none kV doc pm an cdv ct) ⟨us, Pk.E__law_scaled_2.kws.zip ws⟩ = pure (d__law_scaled.ps.zip (arr .none Pk.E__law_scaled_2.ar [] (us ++ ws))) :=
  match us, ws, h1, h2 with | [_, _], [], _, _ => rfl
theorem b_E__law_divided_1 (kV doc pm : Value) (an : Option Addr) (cdv ct : Value) (us ws : List Value) (h1 : us.length = Pk.E__law_divided_1.np) (h2 : ws.length = Pk.E__law_divided_1.kws.length) : bindArgs (PySem.W.fnOf (stName d__law_divided.st) (stName d__law_divided.st) (defArgs d__law_divided.st) (defBody d__law_divided.st) (defScope d__law_divided.st) .none kV doc pm an cdv ct) ⟨us, Pk.E__law_divided_1.kws.zip ws⟩ = pure (d__law_divided.ps.zip (arr .none Pk.E__law_divided_1.ar [] (us ++ ws))) :=
  match us, ws, h1, h2 with | [_], [], _, _ => rfl
theorem b_E__law_spread_2 (kV doc pm : Value) (an : Option Addr) (cdv ct : Value) (us ws : List Value) (h1 : us.length = Pk.E__law_spread_2.np) (h2 : ws.length = Pk.E__law_spread_2.kws.length) : bindArgs (PySem.W.fnOf (stName d__law_spread.st) (stName d__law_spread.st) (defArgs d__law_spread.st) (defBody d__law_spread.st) (defScope d__law_spread.st) .none kV doc pm an cdv ct) ⟨us, Pk.E__law_spread_2.kws.zip ws⟩ = pure (d__law_spread.ps.zip (arr .none Pk.E__law_spread_2.ar [] (us ++ ws))) :=
  match us, ws, h1, h2 with | [_, _], [], _, _ => rfl
theorem b_E__law_over_2 (kV doc pm : Value) (an : Option Addr) (cdv ct : Value) (us ws : List Value) (h1 : us.length = Pk.E__law_over_2.np) (h2 : ws.length = Pk.E__law_over_2.kws.length) : bindArgs (PySem.W.fnOf (stName d__law_over.st) (stName d__law_over.st) (defArgs d__law_over.st) (defBody d__law_over.st) (defScope d__law_over.st) .none kV doc pm an cdv ct) ⟨us, Pk.E__law_over_2.kws.zip ws⟩ = pure (d__law_over.ps.zip (arr .none Pk.E__law_over_2.ar [] (us ++ ws))) :=
  match us, ws, h1, h2 with | [_, _], [], _, _ => rfl
theorem b_E_row_common_2 (kV doc pm : Value) (an : Option Addr) (cdv ct : Value) (us ws : List Value) (h1 : us.length = Pk.E_row_common_2.np) (h2 : ws.length = Pk.E_row_common_2.kws.length) : bindArgs (PySem.W.fnOf (stName d_row_common.st) (stName d_row_common.st) (defArgs d_row_common.st) (defBody d_row_common.st) (defScope d_row_common.st) .none kV doc pm an cdv ct) ⟨us, Pk.E_row_common_2.kws.zip ws⟩ = pure (d_row_common.ps.zip (arr .none Pk.E_row_common_2.ar [] (us ++ ws))) :=
  match us, ws, h1, h2 with | [_, _], [], _, _ => rfl
theorem b_E_row_common_0_other_row (kV doc pm : Value) (an : Option Addr) (cdv ct : Value) (us ws : List Value) (h1 : us.length = Pk.E_row_common_0_other_row.np) (h2 : ws.length = Pk.E_row_common_0_other_row.kws.length) : bindArgs (PySem.W.fnOf (stName d_row_common.st) (stName d_row_common.st) (defArgs d_row_common.st) (defBody d_row_common.st) (defScope d_row_common.st) .none kV doc pm an cdv ct) ⟨us, Pk.E_row_common_0_other_row.kws.zip ws⟩ = pure (d_row_common.ps.zip (arr .none Pk.E_row_common_0_other_row.ar [] (us ++ ws))) :=
  match us, ws, h1, h2 with | [], [_, _], _, _ => rfl
theorem b_E__law_right_1 (kV doc pm : Value) (an : Option Addr) (cdv ct : Value) (us ws : List Value) (h1 : us.length = E__law_right_1.np) (h2 : ws.length = E__law_right_1.kws.length) : bindArgs (PySem.W.fnOf (stName d__law_right.st) (stName d__law_right.st) (defArgs d__law_right.st) (defBody d__law_right.st) (defScope d__law_right.st) .none kV doc pm an cdv ct) ⟨us, E__law_right_1.kws.zip ws⟩ = pure (d__law_right.ps.zip (arr .none E__law_right_1.ar [] (us ++ ws))) :=
  match us, ws, h1, h2 with | [_], [], _, _ => rfl
theorem b_E__law_pail_2 (kV doc pm : Value) (an : Option Addr) (cdv ct : Value) (us ws : List Value) (h1 : us.length = Pk.E__law_pail_2.np) (h2 : ws.length = Pk.E__law_pail_2.kws.length) : bindArgs (PySem.W.fnOf (stName d__law_pail.st) (stName d__law_pail.st) (defArgs d__law_pail.st) (defBody d__law_pail.st) (defScope d__law_pail.st) .none kV doc pm an cdv ct) ⟨us, Pk.E__law_pail_2.kws.zip ws⟩ = pure (d__law_pail.ps.zip (arr .none Pk.E__law_pail_2.ar [] (us ++ ws))) :=
  match us, ws, h1, h2 with | [_, _], [], _, _ => rfl
theorem table (htr : P.given.tree = none) {h : Heap} (X : K.In h) (G : h.Ns mainGlobals mg) (c : obsN asked K = valN asked) : ∃ (fa : Addr) (fd : FuncData), mg "law" = some (.ref fa) ∧ (∀ (s : Shared) (u : Value), BindsTo s fd ⟨[u], []⟩ [("script", u)]) ∧
    ∀ base : Heap, K.In base → base.Ns mainGlobals mg → base.NoSeer → FnG P w K mg base 9 fa fd d_law.ps (spD K d_law.f) := by
  obtain ⟨fd__law_dip, F__law_dip, m__law_dip⟩ := said_fn c X G 0 (d := d__law_dip.dd []) rfl rfl
  obtain ⟨fd__law_gcd, F__law_gcd, m__law_gcd⟩ := said_fn c X G 1 (d := d__law_gcd.dd []) rfl rfl
  obtain ⟨fd__law_cut, F__law_cut, m__law_cut⟩ := said_fn c X G 2 (d := d__law_cut.dd []) rfl rfl
  obtain ⟨fd__law_drawn, F__law_drawn, m__law_drawn⟩ := said_fn c X G 3 (d := d__law_drawn.dd []) rfl rfl
  obtain ⟨fd__law_roots, F__law_roots, m__law_roots⟩ := said_fn c X G 4 (d := d__law_roots.dd []) rfl rfl
  obtain ⟨fd__law_trim, F__law_trim, m__law_trim⟩ := said_fn c X G 5 (d := d__law_trim.dd []) rfl rfl
  obtain ⟨fd__law_row_times, F__law_row_times, m__law_row_times⟩ := said_fn c X G 6 (d := d__law_row_times.dd []) rfl rfl
  obtain ⟨fd__law_monic, F__law_monic, m__law_monic⟩ := said_fn c X G 7 (d := d__law_monic.dd []) rfl rfl
  obtain ⟨fd__law_times, F__law_times, m__law_times⟩ := said_fn c X G 8 (d := d__law_times.dd []) rfl rfl
  obtain ⟨fd__law_scaled, F__law_scaled, m__law_scaled⟩ := said_fn c X G 9 (d := d__law_scaled.dd []) rfl rfl
  obtain ⟨fd__law_fraction, F__law_fraction, m__law_fraction⟩ := said_fn c X G 10 (d := d__law_fraction.dd []) rfl rfl
  obtain ⟨fd__law_told, F__law_told, m__law_told⟩ := said_fn c X G 11 (d := d__law_told.dd []) rfl rfl
  obtain ⟨fd__law_told_row, F__law_told_row, m__law_told_row⟩ := said_fn c X G 12 (d := d__law_told_row.dd []) rfl rfl
  obtain ⟨fd__law_add, F__law_add, m__law_add⟩ := said_fn c X G 13 (d := d__law_add.dd []) rfl rfl
  obtain ⟨fd__law_row_sum, F__law_row_sum, m__law_row_sum⟩ := said_fn c X G 14 (d := d__law_row_sum.dd []) rfl rfl
  obtain ⟨fd__law_row, F__law_row, m__law_row⟩ := said_fn c X G 15 (d := d__law_row.dd []) rfl rfl
  obtain ⟨fd__law_many, F__law_many, m__law_many⟩ := said_fn c X G 16 (d := d__law_many.dd []) rfl rfl
  obtain ⟨fd_is_whole, F_is_whole, m_is_whole⟩ := said_fn c X G 17 (d := d_is_whole.dd []) rfl rfl
  obtain ⟨fd_is_frac, F_is_frac, m_is_frac⟩ := said_fn c X G 18 (d := d_is_frac.dd []) rfl rfl
  obtain ⟨fd_is_num, F_is_num, m_is_num⟩ := said_fn c X G 19 (d := d_is_num.dd []) rfl rfl
  obtain ⟨fd_is_a_row, F_is_a_row, m_is_a_row⟩ := said_fn c X G 20 (d := d_is_a_row.dd []) rfl rfl
  obtain ⟨fd_check_row, F_check_row, m_check_row⟩ := said_fn c X G 21 (d := d_check_row.dd []) rfl rfl
  obtain ⟨fd_frac_reduced, F_frac_reduced, m_frac_reduced⟩ := said_fn c X G 22 (d := d_frac_reduced.dd []) rfl rfl
  obtain ⟨fd_frac_product, F_frac_product, m_frac_product⟩ := said_fn c X G 23 (d := d_frac_product.dd []) rfl rfl
  obtain ⟨fd_num_scaled, F_num_scaled, m_num_scaled⟩ := said_fn c X G 24 (d := d_num_scaled.dd []) rfl rfl
  obtain ⟨fd_num_product, F_num_product, m_num_product⟩ := said_fn c X G 25 (d := d_num_product.dd []) rfl rfl
  obtain ⟨fd_frac_over, F_frac_over, m_frac_over⟩ := said_fn c X G 26 (d := d_frac_over.dd []) rfl rfl
  obtain ⟨fd_num_mirrored, F_num_mirrored, m_num_mirrored⟩ := said_fn c X G 27 (d := d_num_mirrored.dd []) rfl rfl
  obtain ⟨fd_num_size, F_num_size, m_num_size⟩ := said_fn c X G 28 (d := d_num_size.dd []) rfl rfl
  obtain ⟨fd_num_over, F_num_over, m_num_over⟩ := said_fn c X G 29 (d := d_num_over.dd []) rfl rfl
  obtain ⟨fd_row_trimmed, F_row_trimmed, m_row_trimmed⟩ := said_fn c X G 30 (d := d_row_trimmed.dd []) rfl rfl
  obtain ⟨fd_frac_less, F_frac_less, m_frac_less⟩ := said_fn c X G 31 (d := d_frac_less.dd []) rfl rfl
  obtain ⟨fd_num_less, F_num_less, m_num_less⟩ := said_fn c X G 32 (d := d_num_less.dd []) rfl rfl
  obtain ⟨fd_row_rest, F_row_rest, m_row_rest⟩ := said_fn c X G 33 (d := d_row_rest.dd []) rfl rfl
  obtain ⟨fd_row_divided, F_row_divided, m_row_divided⟩ := said_fn c X G 34 (d := d_row_divided.dd []) rfl rfl
  obtain ⟨fd__law_divided, F__law_divided, m__law_divided⟩ := said_fn c X G 35 (d := d__law_divided.dd []) rfl rfl
  obtain ⟨fd__law_spread, F__law_spread, m__law_spread⟩ := said_fn c X G 36 (d := d__law_spread.dd []) rfl rfl
  obtain ⟨fd__law_over, F__law_over, m__law_over⟩ := said_fn c X G 37 (d := d__law_over.dd []) rfl rfl
  obtain ⟨fd_row_scaled, F_row_scaled, m_row_scaled⟩ := said_fn c X G 38 (d := d_row_scaled.dd []) rfl rfl
  obtain ⟨fd_row_last_one, F_row_last_one, m_row_last_one⟩ := said_fn c X G 39 (d := d_row_last_one.dd []) rfl rfl
  obtain ⟨fd_row_divisor, F_row_divisor, m_row_divisor⟩ := said_fn c X G 40 (d := d_row_divisor.dd []) rfl rfl
  obtain ⟨fd_row_common, F_row_common, m_row_common⟩ := said_fn c X G 41 (d := d_row_common.dd []) rfl rfl
  obtain ⟨fd__law_right, F__law_right, m__law_right⟩ := said_fn c X G 42 (d := d__law_right.dd []) rfl rfl
  obtain ⟨fd__law_pail, F__law_pail, m__law_pail⟩ := said_fn c X G 43 (d := d__law_pail.dd []) rfl rfl
  obtain ⟨fd_law, F_law, m_law⟩ := said_fn c X G 44 (d := d_law.dd []) rfl rfl
  refine ⟨_, fd_law, m_law, fun s u => FunD.bindsA (ps := ["script"]) F_law (fun _ _ _ _ _ _ us hl => match us, hl with | [_], _ => rfl) s [u] rfl, fun base _ _ hse => ?_⟩
  have con : ∀ p ∈ CON, ∃ v u, mg p.1 = some u ∧ L2.RelV v u ∧ ∀ H, Dq K H v p.2 := fun p hp => conB_ok X G (said_con c hp)
  have fre : ∀ x ∈ FREE, mg x = none := fun x hx => said_free c X G hx
  have gc : asked.gcd = true → mg "gcd" = some (.builtin "math.gcd") := fun hh => gcdB_ok X G (said_gcd c hh)
  have g__law_dip : FnG P w K mg base 1 _ fd__law_dip d__law_dip.ps (spD K d__law_dip.f) := dfn_G (d := d__law_dip) (k := 0) F__law_dip ok__law_dip fns_nil con gc fre htr hse
  have a_E__law_dip_2 : FnAt P w K mg base 1 Pk.E__law_dip_2 := at_0 (d := d__law_dip) F__law_dip m__law_dip g__law_dip rfl rfl rfl b_E__law_dip_2
  have g__law_gcd : FnG P w K mg base 1 _ fd__law_gcd d__law_gcd.ps (spD K d__law_gcd.f) := dfn_G (d := d__law_gcd) (k := 0) F__law_gcd ok__law_gcd fns_nil con gc fre htr hse
  have a_E__law_gcd_2 : FnAt P w K mg base 1 Pk.E__law_gcd_2 := at_0 (d := d__law_gcd) F__law_gcd m__law_gcd g__law_gcd rfl rfl rfl b_E__law_gcd_2
  have g__law_cut : FnG P w K mg base 2 _ fd__law_cut d__law_cut.ps (spD K d__law_cut.f) := dfn_G (d := d__law_cut) (k := 1) F__law_cut ok__law_cut (fns_cons (a_E__law_gcd_2.up (by decide)) fns_nil) con gc fre htr hse
  have a_E__law_cut_3 : FnAt P w K mg base 2 Pk.E__law_cut_3 := at_0 (d := d__law_cut) F__law_cut m__law_cut g__law_cut rfl rfl rfl b_E__law_cut_3
  have g__law_drawn : FnG P w K mg base 3 _ fd__law_drawn d__law_drawn.ps (spD K d__law_drawn.f) := dfn_G (d := d__law_drawn) (k := 2) F__law_drawn ok__law_drawn (fns_cons (a_E__law_cut_3.up (by decide)) (fns_cons (a_E__law_dip_2.up (by decide)) fns_nil)) con gc fre htr hse
  have a_E__law_drawn_3 : FnAt P w K mg base 3 Pk.E__law_drawn_3 := at_0 (d := d__law_drawn) F__law_drawn m__law_drawn g__law_drawn rfl rfl rfl b_E__law_drawn_3
  have g__law_roots : FnG P w K mg base 4 _ fd__law_roots d__law_roots.ps (spD K d__law_roots.f) := dfn_G (d := d__law_roots) (k := 3) F__law_roots ok__law_roots (fns_cons (a_E__law_dip_2.up (by decide)) (fns_cons (a_E__law_drawn_3.up (by decide)) fns_nil)) con gc fre htr hse
  have a_E__law_roots_1 : FnAt P w K mg base 4 Pk.E__law_roots_1 := at_0 (d := d__law_roots) F__law_roots m__law_roots g__law_roots rfl rfl rfl b_E__law_roots_1
  have g__law_trim : FnG P w K mg base 1 _ fd__law_trim d__law_trim.ps (spD K d__law_trim.f) := dfn_G (d := d__law_trim) (k := 0) F__law_trim ok__law_trim fns_nil con gc fre htr hse
  have a_E__law_trim_1 : FnAt P w K mg base 1 Pk.E__law_trim_1 := at_0 (d := d__law_trim) F__law_trim m__law_trim g__law_trim rfl rfl rfl b_E__law_trim_1
  have g__law_row_times : FnG P w K mg base 3 _ fd__law_row_times d__law_row_times.ps (spD K d__law_row_times.f) := dfn_G (d := d__law_row_times) (k := 2) F__law_row_times ok__law_row_times (fns_cons (a_E__law_trim_1.up (by decide)) (fns_cons (a_E__law_cut_3.up (by decide)) (fns_cons (a_E__law_gcd_2.up (by decide)) fns_nil))) con gc fre htr hse
  have a_E__law_row_times_2 : FnAt P w K mg base 3 Pk.E__law_row_times_2 := at_0 (d := d__law_row_times) F__law_row_times m__law_row_times g__law_row_times rfl rfl rfl b_E__law_row_times_2
  have g__law_monic : FnG P w K mg base 4 _ fd__law_monic d__law_monic.ps (spD K d__law_monic.f) := dfn_G (d := d__law_monic) (k := 3) F__law_monic ok__law_monic (fns_cons (a_E__law_row_times_2.up (by decide)) fns_nil) con gc fre htr hse
  have a_E__law_monic_1 : FnAt P w K mg base 4 Pk.E__law_monic_1 := at_0 (d := d__law_monic) F__law_monic m__law_monic g__law_monic rfl rfl rfl b_E__law_monic_1
  have g__law_times : FnG P w K mg base 3 _ fd__law_times d__law_times.ps (spD K d__law_times.f) := dfn_G (d := d__law_times) (k := 2) F__law_times ok__law_times (fns_cons (a_E__law_cut_3.up (by decide)) fns_nil) con gc fre htr hse
  have a_E__law_times_2 : FnAt P w K mg base 3 Pk.E__law_times_2 := at_0 (d := d__law_times) F__law_times m__law_times g__law_times rfl rfl rfl b_E__law_times_2
  have g__law_scaled : FnG P w K mg base 4 _ fd__law_scaled d__law_scaled.ps (spD K d__law_scaled.f) := dfn_G (d := d__law_scaled) (k := 3) F__law_scaled ok__law_scaled (fns_cons (a_E__law_times_2.up (by decide)) fns_nil) con gc fre htr hse
  have a_E__law_scaled_2 : FnAt P w K mg base 4 Pk.E__law_scaled_2 := at_0 (d := d__law_scaled) F__law_scaled m__law_scaled g__law_scaled rfl rfl rfl b_E__law_scaled_2
  have g__law_fraction : FnG P w K mg base 2 _ fd__law_fraction d__law_fraction.ps (spD K d__law_fraction.f) := dfn_G (d := d__law_fraction) (k := 1) F__law_fraction ok__law_fraction (fns_cons (a_E__law_gcd_2.up (by decide)) fns_nil) con gc fre htr hse
  have a_E__law_fraction_2 : FnAt P w K mg base 2 Pk.E__law_fraction_2 := at_0 (d := d__law_fraction) F__law_fraction m__law_fraction g__law_fraction rfl rfl rfl b_E__law_fraction_2
  have g__law_told : FnG P w K mg base 3 _ fd__law_told d__law_told.ps (spD K d__law_told.f) := dfn_G (d := d__law_told) (k := 2) F__law_told ok__law_told (fns_cons (a_E__law_fraction_2.up (by decide)) fns_nil) con gc fre htr hse
  have a_E__law_told_1 : FnAt P w K mg base 3 Pk.E__law_told_1 := at_0 (d := d__law_told) F__law_told m__law_told g__law_told rfl rfl rfl b_E__law_told_1
  have g__law_told_row : FnG P w K mg base 4 _ fd__law_told_row d__law_told_row.ps (spD K d__law_told_row.f) := dfn_G (d := d__law_told_row) (k := 3) F__law_told_row ok__law_told_row (fns_cons (a_E__law_told_1.up (by decide)) (fns_cons (a_E__law_trim_1.up (by decide)) fns_nil)) con gc fre htr hse
  have a_E__law_told_row_1 : FnAt P w K mg base 4 Pk.E__law_told_row_1 := at_0 (d := d__law_told_row) F__law_told_row m__law_told_row g__law_told_row rfl rfl rfl b_E__law_told_row_1
  have g__law_add : FnG P w K mg base 3 _ fd__law_add d__law_add.ps (spD K d__law_add.f) := dfn_G (d := d__law_add) (k := 2) F__law_add ok__law_add (fns_cons (a_E__law_cut_3.up (by decide)) fns_nil) con gc fre htr hse
  have a_E__law_add_2 : FnAt P w K mg base 3 Pk.E__law_add_2 := at_0 (d := d__law_add) F__law_add m__law_add g__law_add rfl rfl rfl b_E__law_add_2
  have g__law_row_sum : FnG P w K mg base 4 _ fd__law_row_sum d__law_row_sum.ps (spD K d__law_row_sum.f) := dfn_G (d := d__law_row_sum) (k := 3) F__law_row_sum ok__law_row_sum (fns_cons (a_E__law_trim_1.up (by decide)) (fns_cons (a_E__law_add_2.up (by decide)) fns_nil)) con gc fre htr hse
  have a_E__law_row_sum_2 : FnAt P w K mg base 4 Pk.E__law_row_sum_2 := at_0 (d := d__law_row_sum) F__law_row_sum m__law_row_sum g__law_row_sum rfl rfl rfl b_E__law_row_sum_2
  have g__law_row : FnG P w K mg base 4 _ fd__law_row d__law_row.ps (spD K d__law_row.f) := dfn_G (d := d__law_row) (k := 3) F__law_row ok__law_row (fns_cons (a_E__law_trim_1.up (by decide)) (fns_cons (a_E__law_drawn_3.up (by decide)) (fns_cons (a_E__law_dip_2.up (by decide)) fns_nil))) con gc fre htr hse
  have a_E__law_row_2 : FnAt P w K mg base 4 Pk.E__law_row_2 := at_0 (d := d__law_row) F__law_row m__law_row g__law_row rfl rfl rfl b_E__law_row_2
  have g__law_many : FnG P w K mg base 4 _ fd__law_many d__law_many.ps (spD K d__law_many.f) := dfn_G (d := d__law_many) (k := 3) F__law_many ok__law_many (fns_cons (a_E__law_drawn_3.up (by decide)) fns_nil) con gc fre htr hse
  have a_E__law_many_1 : FnAt P w K mg base 4 Pk.E__law_many_v2_1 := at_0 (d := d__law_many) F__law_many m__law_many g__law_many rfl rfl rfl b_E__law_many_1
  have g_is_whole : FnG P w K mg base 1 _ fd_is_whole d_is_whole.ps (spD K d_is_whole.f) := dfn_G (d := d_is_whole) (k := 0) F_is_whole ok_is_whole fns_nil con gc fre htr hse
  have a_E_is_whole_1 : FnAt P w K mg base 1 Pk.E_is_whole_1 := at_0 (d := d_is_whole) F_is_whole m_is_whole g_is_whole rfl rfl rfl b_E_is_whole_1
  have g_is_frac : FnG P w K mg base 2 _ fd_is_frac d_is_frac.ps (spD K d_is_frac.f) := dfn_G (d := d_is_frac) (k := 1) F_is_frac ok_is_frac (fns_cons (a_E_is_whole_1.up (by decide)) fns_nil) con gc fre htr hse
  have a_E_is_frac_1 : FnAt P w K mg base 2 Pk.E_is_frac_1 := at_0 (d := d_is_frac) F_is_frac m_is_frac g_is_frac rfl rfl rfl b_E_is_frac_1
  have g_is_num : FnG P w K mg base 3 _ fd_is_num d_is_num.ps (spD K d_is_num.f) := dfn_G (d := d_is_num) (k := 2) F_is_num ok_is_num (fns_cons (a_E_is_frac_1.up (by decide)) fns_nil) con gc fre htr hse
  have a_E_is_num_1 : FnAt P w K mg base 3 Pk.E_is_num_1 := at_0 (d := d_is_num) F_is_num m_is_num g_is_num rfl rfl rfl b_E_is_num_1
  have g_is_a_row : FnG P w K mg base 4 _ fd_is_a_row d_is_a_row.ps (spD K d_is_a_row.f) := dfn_G (d := d_is_a_row) (k := 3) F_is_a_row ok_is_a_row (fns_cons (a_E_is_num_1.up (by decide)) fns_nil) con gc fre htr hse
  have a_E_is_a_row_1 : FnAt P w K mg base 4 Pk.E_is_a_row_1 := at_0 (d := d_is_a_row) F_is_a_row m_is_a_row g_is_a_row rfl rfl rfl b_E_is_a_row_1
  have g_check_row : FnG P w K mg base 5 _ fd_check_row d_check_row.ps (spD K d_check_row.f) := dfn_G (d := d_check_row) (k := 4) F_check_row ok_check_row (fns_cons (a_E_is_a_row_1.up (by decide)) fns_nil) con gc fre htr hse
  have a_E_check_row_1 : FnAt P w K mg base 5 Pk.E_check_row_1 := at_0 (d := d_check_row) F_check_row m_check_row g_check_row rfl rfl rfl b_E_check_row_1
  have g_frac_reduced : FnG P w K mg base 1 _ fd_frac_reduced d_frac_reduced.ps (spD K d_frac_reduced.f) := dfn_G (d := d_frac_reduced) (k := 0) F_frac_reduced ok_frac_reduced fns_nil con gc fre htr hse
  have a_E_frac_reduced_2 : FnAt P w K mg base 1 Pk.E_frac_reduced_2 := at_0 (d := d_frac_reduced) F_frac_reduced m_frac_reduced g_frac_reduced rfl rfl rfl b_E_frac_reduced_2
  have g_frac_product : FnG P w K mg base 2 _ fd_frac_product d_frac_product.ps (spD K d_frac_product.f) := dfn_G (d := d_frac_product) (k := 1) F_frac_product ok_frac_product (fns_cons (a_E_frac_reduced_2.up (by decide)) fns_nil) con gc fre htr hse
  have a_E_frac_product_2 : FnAt P w K mg base 2 Pk.E_frac_product_2 := at_0 (d := d_frac_product) F_frac_product m_frac_product g_frac_product rfl rfl rfl b_E_frac_product_2
  have g_num_scaled : FnG P w K mg base 3 _ fd_num_scaled d_num_scaled.ps (spD K d_num_scaled.f) := dfn_G (d := d_num_scaled) (k := 2) F_num_scaled ok_num_scaled (fns_cons (a_E_frac_product_2.up (by decide)) fns_nil) con gc fre htr hse
  have a_E_num_scaled_2 : FnAt P w K mg base 3 Pk.E_num_scaled_2 := at_0 (d := d_num_scaled) F_num_scaled m_num_scaled g_num_scaled rfl rfl rfl b_E_num_scaled_2
  have g_num_product : FnG P w K mg base 2 _ fd_num_product d_num_product.ps (spD K d_num_product.f) := dfn_G (d := d_num_product) (k := 1) F_num_product ok_num_product (fns_cons (a_E_frac_reduced_2.up (by decide)) fns_nil) con gc fre htr hse
  have a_E_num_product_2 : FnAt P w K mg base 2 Pk.E_num_product_2 := at_0 (d := d_num_product) F_num_product m_num_product g_num_product rfl rfl rfl b_E_num_product_2
  have g_frac_over : FnG P w K mg base 2 _ fd_frac_over d_frac_over.ps (spD K d_frac_over.f) := dfn_G (d := d_frac_over) (k := 1) F_frac_over ok_frac_over (fns_cons (a_E_frac_reduced_2.up (by decide)) fns_nil) con gc fre htr hse
  have a_E_frac_over_2 : FnAt P w K mg base 2 Pk.E_frac_over_2 := at_0 (d := d_frac_over) F_frac_over m_frac_over g_frac_over rfl rfl rfl b_E_frac_over_2
  have g_num_mirrored : FnG P w K mg base 1 _ fd_num_mirrored d_num_mirrored.ps (spD K d_num_mirrored.f) := dfn_G (d := d_num_mirrored) (k := 0) F_num_mirrored ok_num_mirrored fns_nil con gc fre htr hse
  have a_E_num_mirrored_1 : FnAt P w K mg base 1 Pk.E_num_mirrored_1 := at_0 (d := d_num_mirrored) F_num_mirrored m_num_mirrored g_num_mirrored rfl rfl rfl b_E_num_mirrored_1
  have g_num_size : FnG P w K mg base 2 _ fd_num_size d_num_size.ps (spD K d_num_size.f) := dfn_G (d := d_num_size) (k := 1) F_num_size ok_num_size (fns_cons (a_E_frac_reduced_2.up (by decide)) fns_nil) con gc fre htr hse
  have a_E_num_size_1 : FnAt P w K mg base 2 Pk.E_num_size_1 := at_0 (d := d_num_size) F_num_size m_num_size g_num_size rfl rfl rfl b_E_num_size_1
  have g_num_over : FnG P w K mg base 4 _ fd_num_over d_num_over.ps (spD K d_num_over.f) := dfn_G (d := d_num_over) (k := 3) F_num_over ok_num_over (fns_cons (a_E_num_scaled_2.up (by decide)) (fns_cons (a_E_num_product_2.up (by decide)) (fns_cons (a_E_frac_over_2.up (by decide)) (fns_cons (a_E_num_mirrored_1.up (by decide)) (fns_cons (a_E_num_size_1.up (by decide)) fns_nil))))) con gc fre htr hse
  have a_E_num_over_2 : FnAt P w K mg base 4 Pk.E_num_over_2 := at_0 (d := d_num_over) F_num_over m_num_over g_num_over rfl rfl rfl b_E_num_over_2
  have g_row_trimmed : FnG P w K mg base 1 _ fd_row_trimmed d_row_trimmed.ps (spD K d_row_trimmed.f) := dfn_G (d := d_row_trimmed) (k := 0) F_row_trimmed ok_row_trimmed fns_nil con gc fre htr hse
  have a_E_row_trimmed_1 : FnAt P w K mg base 1 Pk.E_row_trimmed_1 := at_0 (d := d_row_trimmed) F_row_trimmed m_row_trimmed g_row_trimmed rfl rfl rfl b_E_row_trimmed_1
  have g_frac_less : FnG P w K mg base 2 _ fd_frac_less d_frac_less.ps (spD K d_frac_less.f) := dfn_G (d := d_frac_less) (k := 1) F_frac_less ok_frac_less (fns_cons (a_E_frac_reduced_2.up (by decide)) fns_nil) con gc fre htr hse
  have a_E_frac_less_2 : FnAt P w K mg base 2 Pk.E_frac_less_2 := at_0 (d := d_frac_less) F_frac_less m_frac_less g_frac_less rfl rfl rfl b_E_frac_less_2
  have g_num_less : FnG P w K mg base 3 _ fd_num_less d_num_less.ps (spD K d_num_less.f) := dfn_G (d := d_num_less) (k := 2) F_num_less ok_num_less (fns_cons (a_E_frac_less_2.up (by decide)) fns_nil) con gc fre htr hse
  have a_E_num_less_2 : FnAt P w K mg base 3 Pk.E_num_less_2 := at_0 (d := d_num_less) F_num_less m_num_less g_num_less rfl rfl rfl b_E_num_less_2
  have g_row_rest : FnG P w K mg base 5 _ fd_row_rest d_row_rest.ps (spD K d_row_rest.f) := dfn_G (d := d_row_rest) (k := 4) F_row_rest ok_row_rest (fns_cons (a_E_num_over_2.up (by decide)) (fns_cons (a_E_num_product_2.up (by decide)) (fns_cons (a_E_row_trimmed_1.up (by decide)) (fns_cons (a_E_num_less_2.up (by decide)) fns_nil)))) con gc fre htr hse
  have a_E_row_rest_2 : FnAt P w K mg base 5 Pk.E_row_rest_2 := at_0 (d := d_row_rest) F_row_rest m_row_rest g_row_rest rfl rfl rfl b_E_row_rest_2
  have g_row_divided : FnG P w K mg base 6 _ fd_row_divided d_row_divided.ps (spD K d_row_divided.f) := dfn_G (d := d_row_divided) (k := 5) F_row_divided ok_row_divided (fns_cons (a_E_check_row_1.up (by decide)) (fns_cons (a_E_row_rest_2.up (by decide)) fns_nil)) con gc fre htr hse
  have a_E_row_divided_2 : FnAt P w K mg base 6 Pk.E_row_divided_2 := at_0 (d := d_row_divided) F_row_divided m_row_divided g_row_divided rfl rfl rfl b_E_row_divided_2
  have a_E_row_divided_0_other_row : FnAt P w K mg base 6 Pk.E_row_divided_0_other_row := at_0 (d := d_row_divided) F_row_divided m_row_divided g_row_divided rfl rfl rfl b_E_row_divided_0_other_row
  have g__law_divided : FnG P w K mg base 7 _ fd__law_divided d__law_divided.ps (spD K d__law_divided.f) := dfn_G (d := d__law_divided) (k := 6) F__law_divided ok__law_divided (fns_cons (a_E__law_trim_1.up (by decide)) (fns_cons (a_E__law_row_sum_2.up (by decide)) (fns_cons (a_E__law_row_2.up (by decide)) (fns_cons (a_E__law_row_times_2.up (by decide)) (fns_cons (a_E__law_told_row_1.up (by decide)) (fns_cons (a_E__law_many_1.up (by decide)) (fns_cons (a_E_row_divided_2.up (by decide)) (fns_cons (a_E_row_divided_0_other_row.up (by decide)) fns_nil)))))))) con gc fre htr hse
  have a_E__law_divided_1 : FnAt P w K mg base 7 Pk.E__law_divided_1 := at_0 (d := d__law_divided) F__law_divided m__law_divided g__law_divided rfl rfl rfl b_E__law_divided_1
  have g__law_spread : FnG P w K mg base 1 _ fd__law_spread d__law_spread.ps (spD K d__law_spread.f) := dfn_G (d := d__law_spread) (k := 0) F__law_spread ok__law_spread fns_nil con gc fre htr hse
  have a_E__law_spread_2 : FnAt P w K mg base 1 Pk.E__law_spread_2 := at_0 (d := d__law_spread) F__law_spread m__law_spread g__law_spread rfl rfl rfl b_E__law_spread_2
  have g__law_over : FnG P w K mg base 3 _ fd__law_over d__law_over.ps (spD K d__law_over.f) := dfn_G (d := d__law_over) (k := 2) F__law_over ok__law_over (fns_cons (a_E__law_cut_3.up (by decide)) fns_nil) con gc fre htr hse
  have a_E__law_over_2 : FnAt P w K mg base 3 Pk.E__law_over_2 := at_0 (d := d__law_over) F__law_over m__law_over g__law_over rfl rfl rfl b_E__law_over_2
  have g_row_scaled : FnG P w K mg base 3 _ fd_row_scaled d_row_scaled.ps (spD K d_row_scaled.f) := dfn_G (d := d_row_scaled) (k := 2) F_row_scaled ok_row_scaled (fns_cons (a_E_row_trimmed_1.up (by decide)) (fns_cons (a_E_num_product_2.up (by decide)) fns_nil)) con gc fre htr hse
  have a_E_row_scaled_2 : FnAt P w K mg base 3 Pk.E_row_scaled_2 := at_0 (d := d_row_scaled) F_row_scaled m_row_scaled g_row_scaled rfl rfl rfl b_E_row_scaled_2
  have g_row_last_one : FnG P w K mg base 5 _ fd_row_last_one d_row_last_one.ps (spD K d_row_last_one.f) := dfn_G (d := d_row_last_one) (k := 4) F_row_last_one ok_row_last_one (fns_cons (a_E_row_scaled_2.up (by decide)) (fns_cons (a_E_num_over_2.up (by decide)) fns_nil)) con gc fre htr hse
  have a_E_row_last_one_1 : FnAt P w K mg base 5 Pk.E_row_last_one_1 := at_0 (d := d_row_last_one) F_row_last_one m_row_last_one g_row_last_one rfl rfl rfl b_E_row_last_one_1
  have g_row_divisor : FnG P w K mg base 6 _ fd_row_divisor d_row_divisor.ps (spD K d_row_divisor.f) := dfn_G (d := d_row_divisor) (k := 5) F_row_divisor ok_row_divisor (fns_cons (a_E_row_last_one_1.up (by decide)) (fns_cons (a_E_row_rest_2.up (by decide)) fns_nil)) con gc fre htr hse
  have a_E_row_divisor_2 : FnAt P w K mg base 6 Pk.E_row_divisor_2 := at_0 (d := d_row_divisor) F_row_divisor m_row_divisor g_row_divisor rfl rfl rfl b_E_row_divisor_2
  have g_row_common : FnG P w K mg base 7 _ fd_row_common d_row_common.ps (spD K d_row_common.f) := dfn_G (d := d_row_common) (k := 6) F_row_common ok_row_common (fns_cons (a_E_check_row_1.up (by decide)) (fns_cons (a_E_row_divisor_2.up (by decide)) fns_nil)) con gc fre htr hse
  have a_E_row_common_2 : FnAt P w K mg base 7 Pk.E_row_common_2 := at_0 (d := d_row_common) F_row_common m_row_common g_row_common rfl rfl rfl b_E_row_common_2
  have a_E_row_common_0_other_row : FnAt P w K mg base 7 Pk.E_row_common_0_other_row := at_0 (d := d_row_common) F_row_common m_row_common g_row_common rfl rfl rfl b_E_row_common_0_other_row
  have g__law_right : FnG P w K mg base 8 _ fd__law_right d__law_right.ps (spD K d__law_right.f) := dfn_G (d := d__law_right) (k := 7) F__law_right ok__law_right (fns_cons (a_E__law_roots_1.up (by decide)) (fns_cons (a_E__law_monic_1.up (by decide)) (fns_cons (a_E__law_scaled_2.up (by decide)) (fns_cons (a_E__law_told_row_1.up (by decide)) (fns_cons (a_E__law_divided_1.up (by decide)) (fns_cons (a_E__law_spread_2.up (by decide)) (fns_cons (a_E__law_many_1.up (by decide)) (fns_cons (a_E__law_row_times_2.up (by decide)) (fns_cons (a_E__law_dip_2.up (by decide)) (fns_cons (a_E_row_divided_2.up (by decide)) (fns_cons (a_E__law_over_2.up (by decide)) (fns_cons (a_E_row_common_2.up (by decide)) (fns_cons (a_E_row_common_0_other_row.up (by decide)) fns_nil))))))))))))) con gc fre htr hse
  have a_E__law_right_1 : FnAt P w K mg base 8 E__law_right_1 := at_0 (d := d__law_right) F__law_right m__law_right g__law_right rfl rfl rfl b_E__law_right_1
  have g__law_pail : FnG P w K mg base 1 _ fd__law_pail d__law_pail.ps (spD K d__law_pail.f) := dfn_G (d := d__law_pail) (k := 0) F__law_pail ok__law_pail fns_nil con gc fre htr hse
  have a_E__law_pail_2 : FnAt P w K mg base 1 Pk.E__law_pail_2 := at_0 (d := d__law_pail) F__law_pail m__law_pail g__law_pail rfl rfl rfl b_E__law_pail_2
  have g_law : FnG P w K mg base 9 _ fd_law d_law.ps (spD K d_law.f) := dfn_G (d := d_law) (k := 8) F_law ok_law (fns_cons (a_E__law_right_1.up (by decide)) (fns_cons (a_E__law_pail_2.up (by decide)) fns_nil)) con gc fre htr hse
  exact g_law
end
@[simp] theorem mt__law_right : d__law_right.f.mt = true := rfl
theorem run__law_right : d__law_right.f.run = runB true 1 18 ir__law_right := rfl
@[simp] theorem mt_law : d_law.f.mt = false := rfl
theorem run_law : d_law.f.run = runB false 1 2 ir_law := rfl
end K05

set_option Elab.async false
set_option linter.all false
set_option maxRecDepth 100000
set_option maxHeartbeats 0
namespace K05
open PySem PySem.Spec PyProof.Rows L2 EvL
abbrev RR : PySem.W.OpenRow := PySem.W.OpenLaw.row QQ
abbrev vw : Program := PySem.W.view RR.prog [0, 56]
def loose : List Str := (["RimError", "InvalidRow", "NotNow", "FRAC_ONE", "NOUGHT", "ONE", "is_whole", "is_frac", "is_num", "frac_reduced", "frac_less", "frac_product", "frac_over", "num_less", "num_product", "num_scaled", "num_mirrored", "num_size", "num_over", "is_a_row", "row_trimmed", "row_scaled", "row_rest", "row_last_one", "row_divisor", "check_row", "row_divided", "row_common", "_law_pail", "_law_dip"] : List Str) ++ (["_law_gcd", "_law_cut", "_law_drawn", "_law_trim", "_law_row", "_law_add", "_law_row_sum", "_law_times", "_law_row_times", "_law_fraction", "_law_told", "_law_told_row", "_law_monic", "_law_over", "_law_scaled", "_law_many", "_law_roots", "_law_spread", "_law_divided", "_law_right"] : List Str)
theorem run (w : World) : HandSHeadRun.RunEqI RR vw (hookN 6 asked) (obsT 6 asked) 20000 loose w := by
  unfold HandSHeadRun.RunEqI
  kernel_rfl
end K05

set_option Elab.async false
set_option linter.all false
set_option maxRecDepth 100000
set_option maxHeartbeats 1900000
namespace EvL
open PySem PySem.Spec PyProof.Rows L2
namespace Pk
/-! ### what the shared defs compute: numbers -/
theorem alg1 {a b c d p q r s : Rat} (hb : b ≠ 0) (hd : d ≠ 0) (hq : q ≠ 0) (hs : s ≠ 0) : (a*p*d*s - c*r*b*q)/(b*d*q*s) = (a/b)*(p/q) - (c/d)*(r/s) := by grind
theorem alg2 {a b c d p q r s : Rat} (hb : b ≠ 0) (hd : d ≠ 0) (hq : q ≠ 0) (hs : s ≠ 0) : (a*r*d*q + c*p*b*s)/(b*d*q*s) = (a/b)*(r/s) + (c/d)*(p/q) := by grind
theorem alg3 {a b c d : Rat} (hb : b ≠ 0) (hd : d ≠ 0) : (a*a*d*d + c*c*b*b)/(b*b*d*d) = (a/b)*(a/b) + (c/d)*(c/d) := by grind
theorem alg4 {a b c p q r : Rat} (hc : c ≠ 0) (hr : r ≠ 0) (h : p * p + q * q ≠ 0) : ((a*p+b*q)*r)/(c*(p*p+q*q)) = (a/c) * ((p/r) / ((p/r)*(p/r) + (q/r)*(q/r))) - (b/c) * (-(q/r) / ((p/r)*(p/r) + (q/r)*(q/r))) := by
  have e : (p/r)*(p/r) + (q/r)*(q/r) = (p*p+q*q)/(r*r) := by grind
  rw [e]; grind
theorem alg5 {a b c p q r : Rat} (hc : c ≠ 0) (hr : r ≠ 0) (h : p * p + q * q ≠ 0) : ((b*p-a*q)*r)/(c*(p*p+q*q)) = (a/c) * (-(q/r) / ((p/r)*(p/r) + (q/r)*(q/r))) + (b/c) * ((p/r) / ((p/r)*(p/r) + (q/r)*(q/r))) := by
  have e : (p/r)*(p/r) + (q/r)*(q/r) = (p*p+q*q)/(r*r) := by grind
  rw [e]; grind
theorem nz {a b : Int} (h : a ≠ 0) (g : b ≠ 0) : a * b ≠ 0 := Int.mul_ne_zero h g
theorem sg_sz {b : Nat} {n m : Int} (h : m ≠ 0) (hm : Sz b m) : Sz b (sg n m) := by
  have hd := (sg_dvd n m).2
  unfold Sz at *
  have : (sg n m).natAbs ≤ m.natAbs := Nat.le_of_dvd (by omega) (Int.natAbs_dvd_natAbs.mpr hd)
  omega
theorem reduced_run {n m : Int} (h : m ≠ 0) (hm : Sz 8900000 m) : frac_reduced.run [.int n, .int m] = some (.fz (qD ((n : Rat) / (m : Rat))), []) := by
  have s1 : divOk n (sg n m) = true := divOk_of (sg_sz h hm) (by decide) (sg_ne h)
  have s2 : divOk m (sg n m) = true := divOk_of (sg_sz h hm) (by decide) (sg_ne h)
  rw [run_frac_reduced, ← fD_rat h]
  by_cases h0 : 0 < m
  · have e : sg n m = (Int.gcd n m : Int) := if_pos h0
    rw [e] at s1 s2
    simp [runB, List.replicate, ir_frac_reduced, h0, s1, s2, fD, fr, e]
  · have e : sg n m = -(Int.gcd n m : Int) := if_neg h0
    rw [e] at s1 s2
    simp [runB, List.replicate, ir_frac_reduced, h0, s1, s2, fD, fr, e]
theorem lfraction_run {n m : Int} (h : m ≠ 0) (hm : Sz 8900000 m) : _law_fraction.run [.int n, .int m] = some (.fz (qD ((n : Rat) / (m : Rat))), []) := by
  have g := F1.gcd_run (a := n) hm
  have s1 : divOk n (sg n m) = true := divOk_of (sg_sz h hm) (by decide) (sg_ne h)
  have s2 : divOk m (sg n m) = true := divOk_of (sg_sz h hm) (by decide) (sg_ne h)
  rw [run__law_fraction, ← fD_rat h]
  by_cases h0 : m < 0
  · have e : sg n m = -(Int.gcd n m : Int) := if_neg (by omega)
    rw [e] at s1 s2
    simp [runB, List.replicate, ir__law_fraction, g, h0, s1, s2, fD, fr, e]
  · have e : sg n m = (Int.gcd n m : Int) := if_pos (by omega)
    rw [e] at s1 s2
    simp [runB, List.replicate, ir__law_fraction, g, h0, s1, s2, fD, fr, e]
@[simp] theorem whole_i (n : Int) : is_whole.run [.int n] = some (.fz (.bool true), []) := by
  rw [run_is_whole]; simp [runB, List.replicate, ir_is_whole, isD]
@[simp] theorem whole_b (b : Bool) : is_whole.run [.bool b] = some (.fz (.bool false), []) := by
  rw [run_is_whole]; simp [runB, List.replicate, ir_is_whole, isD]
@[simp] theorem whole_t (xs : List PyData) : is_whole.run [.tuple xs] = some (.fz (.bool false), []) := by
  rw [run_is_whole]; simp [runB, List.replicate, ir_is_whole, isD]
@[simp] theorem whole_l (xs : List PyData) : is_whole.run [.list xs] = some (.fz (.bool false), []) := by
  rw [run_is_whole]; simp [runB, List.replicate, ir_is_whole, isD]
@[simp] theorem whole_n : is_whole.run [.none] = some (.fz (.bool false), []) := by
  rw [run_is_whole]; simp [runB, List.replicate, ir_is_whole, isD]
@[simp] theorem whole_s (s : Str) : is_whole.run [.str s] = some (.fz (.bool false), []) := by
  rw [run_is_whole]; simp [runB, List.replicate, ir_is_whole, isD]
@[simp] theorem frac_ii (n m : Int) : is_frac.run [.tuple [.int n, .int m]] = some (.fz (.bool (decide (0 < m) && decide (Int.gcd n m = 1))), []) := by
  rw [run_is_frac]
  by_cases h : 0 < m <;> simp [runB, List.replicate, ir_is_frac, isD, h]
  norm_cast
@[simp] theorem frac_of (r : Rat) : is_frac.run [qD r] = some (.fz (.bool true), []) := by
  rw [show qD r = .tuple [.int r.num, .int r.den] from rfl, frac_ii]
  have h1 := den_pos r
  have h2 := num_gcd r
  have h3 : 0 < r.den := by omega
  simp [h3, h2]
@[simp] theorem ck_frac (r : Rat) : check_fraction.run [qD r] = some (.fz .none, []) := by
  rw [run_check_fraction]; simp [runB, List.replicate, ir_check_fraction]
@[simp] theorem num_of (x : GQ) : is_num.run [gD x] = some (.fz (.bool true), []) := by
  rw [run_is_num]; simp [runB, List.replicate, ir_is_num, isD, gD]
@[simp] theorem ck_num (x : GQ) : check_number.run [gD x] = some (.fz .none, []) := by
  rw [run_check_number]; simp [runB, List.replicate, ir_check_number]
@[simp] theorem frac_n : is_frac.run [.none] = some (.fz (.bool false), []) := by
  rw [run_is_frac]; simp [runB, List.replicate, ir_is_frac, isD]
@[simp] theorem frac_i (n : Int) : is_frac.run [.int n] = some (.fz (.bool false), []) := by
  rw [run_is_frac]; simp [runB, List.replicate, ir_is_frac, isD]
@[simp] theorem frac_b (n : Bool) : is_frac.run [.bool n] = some (.fz (.bool false), []) := by
  rw [run_is_frac]; simp [runB, List.replicate, ir_is_frac, isD]
@[simp] theorem frac_s (n : Str) : is_frac.run [.str n] = some (.fz (.bool false), []) := by
  rw [run_is_frac]; simp [runB, List.replicate, ir_is_frac, isD]
@[simp] theorem frac_l (n : List PyData) : is_frac.run [.list n] = some (.fz (.bool false), []) := by
  rw [run_is_frac]; simp [runB, List.replicate, ir_is_frac, isD]
@[simp] theorem frac_0 : is_frac.run [.tuple []] = some (.fz (.bool false), []) := by
  rw [run_is_frac]; simp [runB, List.replicate, ir_is_frac, isD]
@[simp] theorem frac_1 (a : PyData) : is_frac.run [.tuple [a]] = some (.fz (.bool false), []) := by
  rw [run_is_frac]; simp [runB, List.replicate, ir_is_frac, isD]
@[simp] theorem frac_tt (a b : List PyData) : is_frac.run [.tuple [.tuple a, .tuple b]] = some (.fz (.bool false), []) := by
  rw [run_is_frac]; simp [runB, List.replicate, ir_is_frac, isD]
@[simp] theorem frac_g (x : GQ) : is_frac.run [gD x] = some (.fz (.bool false), []) := frac_tt _ _
@[simp] theorem num_n : is_num.run [.none] = some (.fz (.bool false), []) := by
  rw [run_is_num]; simp [runB, List.replicate, ir_is_num, isD]
@[simp] theorem num_i (n : Int) : is_num.run [.int n] = some (.fz (.bool false), []) := by
  rw [run_is_num]; simp [runB, List.replicate, ir_is_num, isD]
@[simp] theorem num_b (n : Bool) : is_num.run [.bool n] = some (.fz (.bool false), []) := by
  rw [run_is_num]; simp [runB, List.replicate, ir_is_num, isD]
@[simp] theorem num_s (n : Str) : is_num.run [.str n] = some (.fz (.bool false), []) := by
  rw [run_is_num]; simp [runB, List.replicate, ir_is_num, isD]
@[simp] theorem num_l (n : List PyData) : is_num.run [.list n] = some (.fz (.bool false), []) := by
  rw [run_is_num]; simp [runB, List.replicate, ir_is_num, isD]
@[simp] theorem num_q (r : Rat) : is_num.run [qD r] = some (.fz (.bool false), []) := by
  rw [run_is_num]; simp [runB, List.replicate, ir_is_num, isD, qD]
@[simp] theorem num_0 : is_num.run [.tuple []] = some (.fz (.bool false), []) := by
  rw [run_is_num]; simp [runB, List.replicate, ir_is_num, isD]
@[simp] theorem num_1 (a : PyData) : is_num.run [.tuple [a]] = some (.fz (.bool false), []) := by
  rw [run_is_num]; simp [runB, List.replicate, ir_is_num, isD]
@[simp] theorem num_ii (a b : Int) : is_num.run [.tuple [.int a, .int b]] = some (.fz (.bool false), []) := by
  rw [run_is_num]; simp [runB, List.replicate, ir_is_num, isD]
@[simp] theorem num_gg (a b : GQ) : is_num.run [.tuple [gD a, gD b]] = some (.fz (.bool false), []) := by
  rw [run_is_num]; simp [runB, List.replicate, ir_is_num, isD]
/-! arithmetic -/
section
variable {x y : Rat} (hx : Qz 1900000 x) (hy : Qz 1900000 y)
include hx hy
end
section
variable {x y : GQ} (hx : Gz 1900000 x) (hy : Gz 1900000 y)
include hx hy
theorem num_product_run : num_product.run [gD x, gD y] = some (.fz (gD (x * y)), []) := by
  obtain ⟨a1, a2⟩ := hx.re; obtain ⟨b1, b2⟩ := hx.im
  obtain ⟨c1, c2⟩ := hy.re; obtain ⟨d1, d2⟩ := hy.im
  have s1 := a2.mul b2; have s2 := s1.mul c2; have s3 := s2.mul d2
  have n0 := nz (nz (nz (den_ne x.re) (den_ne x.im)) (den_ne y.re)) (den_ne y.im)
  have q1 := reduced_run (n := x.re.num * y.re.num * x.im.den * y.im.den - x.im.num * y.im.num * x.re.den * y.re.den) (m := x.re.den * x.im.den * y.re.den * y.im.den) n0 (s3.mono (by decide))
  have q2 := reduced_run (n := x.re.num * y.im.num * x.im.den * y.re.den + x.im.num * y.re.num * x.re.den * y.im.den) (m := x.re.den * x.im.den * y.re.den * y.im.den) n0 (s3.mono (by decide))
  have e1 := num_den' x.re; have e2 := num_den' x.im; have e3 := num_den' y.re; have e4 := num_den' y.im
  have f1 := ic_ne (den_ne x.re); have f2 := ic_ne (den_ne x.im); have f3 := ic_ne (den_ne y.re); have f4 := ic_ne (den_ne y.im)
  have r1 : (((x.re.num * y.re.num * x.im.den * y.im.den - x.im.num * y.im.num * x.re.den * y.re.den : Int)) : Rat) / ((x.re.den * x.im.den * y.re.den * y.im.den : Int) : Rat) = x.re * y.re - x.im * y.im := by
    simp only [ic_sub, ic_mul]; rw [alg1 f1 f2 f3 f4, ← e1, ← e2, ← e3, ← e4]
  have r2 : (((x.re.num * y.im.num * x.im.den * y.re.den + x.im.num * y.re.num * x.re.den * y.im.den : Int)) : Rat) / ((x.re.den * x.im.den * y.re.den * y.im.den : Int) : Rat) = x.re * y.im + x.im * y.re := by
    simp only [ic_add, ic_mul]; rw [alg2 f1 f2 f3 f4, ← e1, ← e2, ← e3, ← e4]
  rw [r1] at q1; rw [r2] at q2
  have t1 := a1.mul c1; have t2 := t1.mul b2; have t3 := b1.mul d1; have t4 := t3.mul a2
  have t5 := a1.mul d1; have t6 := t5.mul b2; have t7 := b1.mul c1; have t8 := t7.mul a2
  rw [run_num_product]
  simp (disch := first | assumption | (simp; done) | exact EvL.mulOk_of (by assumption) (by assumption) (by decide)) [qD] at q1 q2
  simp (disch := first | assumption | (simp; done) | exact EvL.mulOk_of (by assumption) (by assumption) (by decide)) [runB, List.replicate, ir_num_product, gD, qD, q1, q2]
end
theorem num_mirrored_run (x : GQ) : num_mirrored.run [gD x] = some (.fz (gD x.bent), []) := by
  rw [run_num_mirrored]
  simp [runB, List.replicate, ir_num_mirrored, gD, qD]
/-! the laws' own triples -/
theorem cut_run {k m : Nat} {a b d : Int} (h : d ≠ 0) (h2 : Sz k b) (h3 : Sz m d) (hk : k ≤ 90000000 := by decide) (hm : m ≤ 8900000 := by decide) : _law_cut.run [.int a, .int b, .int d] = some (.fz (tN ⟨(a : Rat) / (d : Rat), (b : Rat) / (d : Rat)⟩), []) := by
  have g1 := F1.gcd_run (a := a) (b := b) h2
  have g2 := F1.gcd_run (a := Int.gcd a b) (b := d) h3
  have s0 := cutG_ne (a := a) (b := b) h
  have s1 : Sz m (cutG a b d) := sz_dvd' (cut_mul (a := a) (b := b) h).2.2 h h3
  have v : ∀ x, divOk x (cutG a b d) = true := fun x => divOk_of s1 (by omega) s0
  unfold tN
  rw [run__law_cut, tri_cut h]
  by_cases hd : d < 0
  · have e : cutG a b d = -(Int.gcd (Int.gcd a b) d : Int) := if_pos hd
    rw [e] at v
    simp [runB, List.replicate, ir__law_cut, g1, g2, hd, v, tD, cut, e]
  · have e : cutG a b d = (Int.gcd (Int.gcd a b) d : Int) := if_neg hd
    rw [e] at v
    simp [runB, List.replicate, ir__law_cut, g1, g2, hd, v, tD, cut, e]
theorem cut_ex {k : Nat} {a b d : Int} (h : d ≠ 0) (h1 : Sz k a) (h2 : Sz k b) (h3 : Sz k d) (hk : k ≤ 8900000 := by decide) : ∃ z : GQ, _law_cut.run [.int a, .int b, .int d] = some (.fz (tN z), []) ∧ Gz k z ∧ z.re = (a : Rat) / (d : Rat) ∧ z.im = (b : Rat) / (d : Rat) := by
  refine ⟨_, cut_run h h2 h3 (by omega) hk, ?_, rfl, rfl⟩
  rcases Int.lt_or_lt_of_ne h with q | q
  · refine ⟨-a, -b, -d, by omega, ?_, ?_, h1.neg, h2.neg, h3.neg⟩
    · have := ic_ne h; simp only [ic_neg]; grind
    · have := ic_ne h; simp only [ic_neg]; grind
  · exact ⟨a, b, d, q, rfl, rfl, h1, h2, h3⟩
section
variable {x y : GQ} (hx : Gz 1900000 x) (hy : Gz 1900000 y)
include hx hy
theorem ladd_run : _law_add.run [tN x, tN y] = some (.fz (tN (x + y)), []) := by
  obtain ⟨x1, x2, x3⟩ := hx.tri; obtain ⟨y1, y2, y3⟩ := hy.tri
  have n1 := tri_ne x; have n2 := tri_ne y
  have q := cut_run (a := (tri x).1 * (tri y).2.2 + (tri y).1 * (tri x).2.2) (b := (tri x).2.1 * (tri y).2.2 + (tri y).2.1 * (tri x).2.2) (d := (tri x).2.2 * (tri y).2.2) (nz n1 n2) ((x2.mul y3).add (y2.mul x3)) (x3.mul y3)
  have m1 := ic_ne n1; have m2 := ic_ne n2
  have e1 := tri_re x; have e2 := tri_im x; have e3 := tri_re y; have e4 := tri_im y
  have r : (⟨(((tri x).1 * (tri y).2.2 + (tri y).1 * (tri x).2.2 : Int) : Rat) / (((tri x).2.2 * (tri y).2.2 : Int) : Rat), (((tri x).2.1 * (tri y).2.2 + (tri y).2.1 * (tri x).2.2 : Int) : Rat) / (((tri x).2.2 * (tri y).2.2 : Int) : Rat)⟩ : GQ) = x + y := by
    simp only [ic_add, ic_mul]
    ext
    · simp; grind
    · simp; grind
  rw [r] at q
  rw [run__law_add]
  simp (disch := first | assumption | (simp; done) | exact EvL.mulOk_of (by assumption) (by assumption) (by decide)) [runB, List.replicate, ir__law_add, tN, tD] at q ⊢
  simp [q]
theorem ltimes_run : _law_times.run [tN x, tN y] = some (.fz (tN (x * y)), []) := by
  obtain ⟨x1, x2, x3⟩ := hx.tri; obtain ⟨y1, y2, y3⟩ := hy.tri
  have n1 := tri_ne x; have n2 := tri_ne y
  have q := cut_run (a := (tri x).1 * (tri y).1 - (tri x).2.1 * (tri y).2.1) (b := (tri x).1 * (tri y).2.1 + (tri x).2.1 * (tri y).1) (d := (tri x).2.2 * (tri y).2.2) (nz n1 n2) ((x1.mul y2).add (x2.mul y1)) (x3.mul y3)
  have m1 := ic_ne n1; have m2 := ic_ne n2
  have e1 := tri_re x; have e2 := tri_im x; have e3 := tri_re y; have e4 := tri_im y
  have r : (⟨(((tri x).1 * (tri y).1 - (tri x).2.1 * (tri y).2.1 : Int) : Rat) / (((tri x).2.2 * (tri y).2.2 : Int) : Rat), (((tri x).1 * (tri y).2.1 + (tri x).2.1 * (tri y).1 : Int) : Rat) / (((tri x).2.2 * (tri y).2.2 : Int) : Rat)⟩ : GQ) = x * y := by
    simp only [ic_sub, ic_add, ic_mul]
    ext
    · simp; grind
    · simp; grind
  rw [r] at q
  rw [run__law_times]
  simp (disch := first | assumption | (simp; done) | exact EvL.mulOk_of (by assumption) (by assumption) (by decide)) [runB, List.replicate, ir__law_times, tN, tD] at q ⊢
  simp [q]
theorem lover_run (hk : Gz 2900000 x) (hl : Gz 2900000 y) (y0 : y ≠ 0) : _law_over.run [tN x, tN y] = some (.fz (tN (x / y)), []) := by
  obtain ⟨x1, x2, x3⟩ := hk.tri; obtain ⟨y1, y2, y3⟩ := hl.tri
  have n1 := tri_ne x; have n2 := tri_ne y
  have m1 := ic_ne n1; have m2 := ic_ne n2
  have e1 := tri_re x; have e2 := tri_im x; have e3 := tri_re y; have e4 := tri_im y
  have s0 := GQ.size_ne y0
  have es : y.size = (((tri y).1 * (tri y).1 + (tri y).2.1 * (tri y).2.1 : Int) : Rat) / (((tri y).2.2 * (tri y).2.2 : Int) : Rat) := by
    unfold GQ.size
    rw [e3, e4, ic_mul, ic_add, ic_mul, ic_mul]; grind
  have t0 : (tri y).1 * (tri y).1 + (tri y).2.1 * (tri y).2.1 ≠ 0 := fun z => s0 (by rw [es, z]; grind)
  have z1 := (y1.mul y1).add (y2.mul y2)
  have z2 := (x1.mul y1).add (x2.mul y2)
  have z3 := (x2.mul y1).sub (x1.mul y2)
  have h0 : ((tri y).1 : Rat) * ((tri y).1 : Rat) + ((tri y).2.1 : Rat) * ((tri y).2.1 : Rat) ≠ 0 := by
    have := ic_ne t0
    simpa only [ic_add, ic_mul] using this
  have q := cut_run (a := ((tri x).1 * (tri y).1 + (tri x).2.1 * (tri y).2.1) * (tri y).2.2) (b := ((tri x).2.1 * (tri y).1 - (tri x).1 * (tri y).2.1) * (tri y).2.2) (d := (tri x).2.2 * ((tri y).1 * (tri y).1 + (tri y).2.1 * (tri y).2.1)) (nz n1 t0) (z3.mul y3) (x3.mul z1)
  have r : (⟨((((tri x).1 * (tri y).1 + (tri x).2.1 * (tri y).2.1) * (tri y).2.2 : Int) : Rat) / (((tri x).2.2 * ((tri y).1 * (tri y).1 + (tri y).2.1 * (tri y).2.1) : Int) : Rat), ((((tri x).2.1 * (tri y).1 - (tri x).1 * (tri y).2.1) * (tri y).2.2 : Int) : Rat) / (((tri x).2.2 * ((tri y).1 * (tri y).1 + (tri y).2.1 * (tri y).2.1) : Int) : Rat)⟩ : GQ) = x / y := by
    rw [GQ.div_def]
    refine GQ.ext ?_ ?_
    · rw [GQ.mul_re, GQ.inv_re, GQ.inv_im]
      unfold GQ.size
      simp only [ic_sub, ic_add, ic_mul]
      rw [alg4 m1 m2 h0, ← e1, ← e2, ← e3, ← e4]
    · rw [GQ.mul_im, GQ.inv_re, GQ.inv_im]
      unfold GQ.size
      simp only [ic_sub, ic_add, ic_mul]
      rw [alg5 m1 m2 h0, ← e1, ← e2, ← e3, ← e4]
  rw [r] at q
  have w1 := x1.mul y1
  rw [run__law_over]
  simp (disch := first | assumption | (simp; done) | exact EvL.mulOk_of (by assumption) (by assumption) (by decide)) [runB, List.replicate, ir__law_over, tN, tD] at q ⊢
  simp [q]
end
theorem ltold_run {x : GQ} (hx : Gz 8900000 x) : _law_told.run [tN x] = some (.fz (gD x), []) := by
  obtain ⟨x1, x2, x3⟩ := hx.tri
  have n1 := tri_ne x
  have q1 := lfraction_run (n := (tri x).1) n1 x3
  have q2 := lfraction_run (n := (tri x).2.1) n1 x3
  rw [← tri_re] at q1
  rw [← tri_im] at q2
  rw [run__law_told]
  simp [runB, List.replicate, ir__law_told, tN, tD, gD, q1, q2]
/-! the package's doors -/
section
variable {x y : GQ}
theorem g0D : gD 0 = .tuple [.tuple [.int 0, .int 1], .tuple [.int 0, .int 1]] := rfl
theorem g1D : gD 1 = .tuple [.tuple [.int 1, .int 1], .tuple [.int 0, .int 1]] := rfl
theorem eq_gD (x y : GQ) : eqD (gD x) (gD y) = some (decide (x = y)) := by
  unfold gD qD
  rw [eq_shaped (by simp [SeqAt.shaped, PyData.canLay0, PyData.canLayAll0, PyData.depth, PyData.depthAll]) (by simp [SeqAt.shaped, PyData.canLay0, PyData.canLayAll0, PyData.depth, PyData.depthAll]) (.inl fun x => by simp)]
  simp [PyData.eqv, PyData.eqvAll]
  rw [Bool.eq_iff_iff]
  simp
  constructor
  · rintro ⟨⟨a, b⟩, c, d⟩
    exact GQ.ext (Rat.ext a (by exact_mod_cast b)) (Rat.ext c (by exact_mod_cast d))
  · rintro rfl; exact ⟨⟨rfl, rfl⟩, rfl, rfl⟩
end
end Pk
end EvL

set_option Elab.async false
set_option linter.all false
set_option maxRecDepth 100000
set_option maxHeartbeats 1900000
namespace EvL
open PySem PySem.Spec PyProof.Rows L2
/-! ### numbers taken apart -/
@[simp] theorem ix_qD0 (r : Rat) : ixD (qD r) (.int 0) = some (.int r.num) := by simp [qD]
@[simp] theorem ix_qD1 (r : Rat) : ixD (qD r) (.int 1) = some (.int r.den) := by simp [qD]
@[simp] theorem ix_gD0 (z : GQ) : ixD (gD z) (.int 0) = some (qD z.re) := by simp [gD]
@[simp] theorem ix_gD1 (z : GQ) : ixD (gD z) (.int 1) = some (qD z.im) := by simp [gD]
@[simp] theorem ix_tN0 (z : GQ) : ixD (tN z) (.int 0) = some (.int (tri z).1) := by simp [tN, tD]
@[simp] theorem ix_tN1 (z : GQ) : ixD (tN z) (.int 1) = some (.int (tri z).2.1) := by simp [tN, tD]
@[simp] theorem ix_tN2 (z : GQ) : ixD (tN z) (.int 2) = some (.int (tri z).2.2) := by simp [tN, tD]
@[simp] theorem as_qD (t u : Tg) (r : Rat) (Γ : Ga) : asg (.tp [t, u]) (qD r) Γ = (asg t (.int r.num) Γ).bind fun Γ => asg u (.int r.den) Γ := by
  simp [qD]
@[simp] theorem as_gD (t u : Tg) (z : GQ) (Γ : Ga) : asg (.tp [t, u]) (gD z) Γ = (asg t (qD z.re) Γ).bind fun Γ => asg u (qD z.im) Γ := by
  simp [gD]
theorem sh_qD {b : Nat} {r : Rat} (h : Qz b r) (hb : b < 1920) : Sh 1 1207 (qD r) := .tup (.cons (.int h.1 hb) (.cons (.int h.2 hb) .nil))
theorem sh_gD {b : Nat} {z : GQ} (h : Gz b z) (hb : b < 1920) : Sh 2 2421 (gD z) := .tup (.cons (sh_qD h.re hb) (.cons (sh_qD h.im hb) .nil))
theorem tN_of {a b d : Int} (h : 0 < d) (g : Int.gcd (Int.gcd a b) d = 1) : tN ⟨(a : Rat) / (d : Rat), (b : Rat) / (d : Rat)⟩ = .tuple [.int a, .int b, .int d] := by
  unfold tN
  rw [tri_of h g rfl rfl]; rfl
theorem div1 (r : Rat) : r / 1 = r := by grind
theorem tN_int (a b : Int) : tN ⟨(a : Rat), (b : Rat)⟩ = .tuple [.int a, .int b, .int 1] := by
  have := tN_of (a := a) (b := b) (d := 1) (by decide) (by simp)
  rw [show ((1 : Int) : Rat) = 1 from rfl, div1, div1] at this
  exact this
theorem tN_0 : tN 0 = .tuple [.int 0, .int 0, .int 1] := tN_int 0 0
theorem tN_1 : tN 1 = .tuple [.int 1, .int 0, .int 1] := tN_int 1 0
theorem eq_tN (x y : GQ) : eqD (tN x) (tN y) = some (decide (x = y)) := by
  have inj : tri x = tri y ↔ x = y := ⟨fun h => tG_inj (by unfold tN; rw [h]), fun h => by rw [h]⟩
  unfold tN tD
  rw [eq_shaped (by simp [SeqAt.shaped, PyData.canLay0, PyData.canLayAll0, PyData.depth, PyData.depthAll]) (by simp [SeqAt.shaped, PyData.canLay0, PyData.canLayAll0, PyData.depth, PyData.depthAll]) (.inl fun x => by simp)]
  simp [PyData.eqv, PyData.eqvAll]
  rw [Bool.eq_iff_iff]
  simp
  rw [← inj]
  constructor
  · rintro ⟨a, b, c⟩
    exact Prod.ext a (Prod.ext b c)
  · intro h; rw [h]; exact ⟨rfl, rfl, rfl⟩
theorem Qz.nd {b : Nat} {n d : Int} (h : d ≠ 0) (h1 : Sz b n) (h2 : Sz b d) : Qz b ((n : Rat) / (d : Rat)) := Qz.of h h1 h2
theorem Gz.nd {b : Nat} {n m d : Int} (h : d ≠ 0) (h1 : Sz b n) (h2 : Sz b m) (h3 : Sz b d) : Gz b ⟨(n : Rat) / (d : Rat), (m : Rat) / (d : Rat)⟩ := by
  rcases Int.lt_or_lt_of_ne h with q | q
  · refine ⟨-n, -m, -d, by omega, ?_, ?_, h1.neg, h2.neg, h3.neg⟩
    · have := ic_ne h; simp only [ic_neg]; grind
    · have := ic_ne h; simp only [ic_neg]; grind
  · exact ⟨n, m, d, q, rfl, rfl, h1, h2, h3⟩
/-! the law's end: all draws right -/
theorem all_true' (n : Nat) : allD (List.replicate n (.bool true)) = some true := by
  induction n with
  | zero => rfl
  | succ n ih => rw [List.replicate_succ, allD, ih]; rfl
theorem map_const_rep {α : Type} (n : Nat) (x : α) : (List.range n).map (fun _ => x) = List.replicate n x := by
  induction n with
  | zero => rfl
  | succ n ih => rw [List.range_succ, List.map_append, ih, List.replicate_succ']; rfl
theorem law_main {R : FnD} {N : Int} (hm : R.mt = true) (hN : 0 ≤ N ∧ N ≤ 900) (h : ∀ l, F1.Pail 0 l → ∃ l', R.run [.list l] = some (.fz (.bool true), l')) :
    ∀ ns : List Int, ns.length ≤ 63 → runB false 1 2 [(.ret (.bi .all [(.lc [1] (.nm 1) .rng1 [(.bi .max2 [(.cst (.int (2))), (.bi .min2 [(.lenv 0), (.cst (.int N))])])] [] (.callt R (.call F1.pail Pk.E__law_pail_2.pm [(.var 0), (.var 1)])))]))] [.list (ns.map .int)] = some (.fz (.bool true), []) := by
  intro ns hl
  let J : Int := if (if N < (ns.length : Int) then N else (ns.length : Int)) > 2 then (if N < (ns.length : Int) then N else (ns.length : Int)) else 2
  have hJ : 0 ≤ J ∧ J ≤ 900 := by simp only [J]; split <;> split <;> omega
  obtain ⟨n, hn⟩ : ∃ n : Nat, J = n := ⟨J.toNat, by omega⟩
  have hn9 : n ≤ 900 := by omega
  have w2 : evX (.lc [1] (.nm 1) .rng1 [(.bi .max2 [(.cst (.int 2)), (.bi .min2 [(.lenv 0), (.cst (.int N))])])] [] (.callt R (.call F1.pail Pk.E__law_pail_2.pm [.var 0, .var 1]))) [.fz (.list (ns.map .int)), .un] = some (.ow ((List.range n).map fun _ => .bool true), [.fz (.list (ns.map .int)), .un]) := by
    have i1 : evs [(.bi .max2 [(.cst (.int 2)), (.bi .min2 [(.lenv 0), (.cst (.int N))])])] [.fz (.list (ns.map .int)), .un] = some ([.int J], [.fz (.list (ns.map .int)), .un]) := by
      simp [J]
    exact lc_map (f := fun (k : Nat) => PyData.int k) (g := fun _ => .bool true) (l := List.range n) i1 (by rw [it_r1 (by omega), rng0' n hn]) (by rw [List.length_range]; omega) fun x hx => by
      have hx := List.mem_range.mp hx
      obtain ⟨l, e1, hp⟩ := F1.pail_run (ns := ns) (t := x) (by omega) (by omega) (by omega)
      obtain ⟨l', e2⟩ := h l hp
      exact ⟨[.fz (.list (ns.map .int)), .fz (.int x)], .fz (.bool true), [.fz (.list (ns.map .int)), .fz (.int x)], by simp [wipeG], by simp [e1, e2, hm], rfl, rfl⟩
  rw [run0 (np := 1) (n := 2) (ds := [.list (ns.map .int)]) rfl]
  simp only [List.map_cons, List.map_nil, List.replicate, List.cons_append, List.nil_append, b_cons', v_ret, x_bi, s_cons', w2, Option.bind_some]
  simp [map_const_rep, all_true']
end EvL

set_option Elab.async false
set_option linter.all false
set_option maxRecDepth 100000
set_option maxHeartbeats 1900000
namespace EvL
open PySem PySem.Spec PyProof.Rows L2
/-! ### places and parts of lists -/
theorem ixN_of {len : Nat} {k : Int} {n : Nat} (hk : k = n) (h : n < len) : L2.ixN len k = some n := by
  subst hk
  unfold L2.ixN
  rw [if_pos (by omega), if_pos (by omega)]; simp
theorem atI_of {xs : List D} {k : Int} {n : Nat} (hk : k = n) : L2.atI xs k = xs[n]? := by
  unfold L2.atI
  by_cases h : n < xs.length
  · rw [ixN_of hk h]; rfl
  · subst hk
    unfold L2.ixN
    rw [if_pos (by omega), if_neg (by omega), List.getElem?_eq_none (by omega)]; rfl
theorem atI_last {xs : List D} : L2.atI xs (-1) = xs.getLast? := by
  unfold L2.atI L2.ixN
  rw [if_neg (by decide)]
  cases xs with
  | nil => simp
  | cons a as =>
    rw [if_pos (by simp; omega)]
    have : (-1 + ((a :: as).length : Int)).toNat = as.length := by simp; omega
    rw [this, List.getLast?_eq_getElem?]; simp
theorem cut_to {xs : List D} {k : Int} {m : Nat} (hk : k = m) : cutD xs none (some k) = xs.take m := by
  subst hk
  unfold cutD
  rw [HT.sIx_none, HT.sIx_nat]
  simp
theorem en_map {α : Type} (f : α → D) (p : List α) : (p.map f).mapIdx (fun k x => PyData.tuple [.int k, x]) = (List.range p.length).map fun (i : Nat) => PyData.tuple [.int i, (p.map f).getD i .none] := by
  refine List.ext_getElem? fun i => ?_
  rw [List.getElem?_mapIdx, List.getElem?_map, List.getElem?_map]
  by_cases h : i < p.length
  · rw [List.getElem?_range h, List.getElem?_eq_getElem h]
    simp only [Option.map_some]
    rw [List.getD_eq_getElem?_getD, List.getElem?_map, List.getElem?_eq_getElem h]; rfl
  · rw [List.getElem?_eq_none (by omega), List.getElem?_eq_none (by simp; omega)]; rfl
/-! equality of lists and tuples -/
theorem lay_all {k : Nat} : ∀ {xs : List D}, (∀ x ∈ xs, x.canLay0 = true ∧ x.depth ≤ k) → PyData.canLayAll0 xs = true ∧ PyData.depthAll xs ≤ k
  | [], _ => ⟨by simp [PyData.canLayAll0], by simp [PyData.depthAll]⟩
  | x :: xs, h => by
    obtain ⟨a, b⟩ := h x (List.mem_cons_self ..)
    obtain ⟨c, d⟩ := lay_all fun y hy => h y (List.mem_cons_of_mem _ hy)
    exact ⟨by simp [PyData.canLayAll0, a, c], by simp only [PyData.depthAll]; omega⟩
theorem shaped_t {k : Nat} {xs : List D} (h : ∀ x ∈ xs, x.canLay0 = true ∧ x.depth ≤ k) (hk : k < 60) : SeqAt.shaped (.tuple xs) = true := by
  obtain ⟨a, b⟩ := lay_all h
  have e : ∀ n, n ≤ 60 → decide (n + 1 ≤ 64) = true := fun n hn => decide_eq_true (by omega)
  simp only [SeqAt.shaped, PyData.canLay0, a, PyData.depth, Bool.true_and]
  exact e _ (by omega)
theorem shaped_l {k : Nat} {xs : List D} (h : ∀ x ∈ xs, x.canLay0 = true ∧ x.depth ≤ k) (hk : k < 60) : SeqAt.shaped (.list xs) = true := by
  obtain ⟨a, b⟩ := lay_all h
  have e : ∀ n, n ≤ 60 → decide (n + 1 ≤ 64) = true := fun n hn => decide_eq_true (by omega)
  simp only [SeqAt.shaped, PyData.canLay0, a, PyData.depth, Bool.true_and]
  exact e _ (by omega)
theorem eq_tnil {k : Nat} {xs : List D} (h : ∀ x ∈ xs, x.canLay0 = true ∧ x.depth ≤ k) (hk : k < 60) : eqD (.tuple xs) (.tuple []) = some (decide (xs = [])) := by
  rw [eq_shaped (shaped_t h hk) (by decide) (.inl fun x => by simp)]
  cases xs <;> simp [PyData.eqv, PyData.eqvAll]
theorem eq_lnil {k : Nat} {xs : List D} (h : ∀ x ∈ xs, x.canLay0 = true ∧ x.depth ≤ k) (hk : k < 60) : eqD (.list xs) (.list []) = some (decide (xs = [])) := by
  rw [eq_shaped (shaped_l h hk) (by decide) (.inl fun x => by simp)]
  cases xs <;> simp [PyData.eqv, PyData.eqvAll]
theorem lay_g (z : GQ) : (gD z).canLay0 = true ∧ (gD z).depth ≤ 2 := by
  simp [gD, qD, PyData.canLay0, PyData.canLayAll0, PyData.depth, PyData.depthAll]
theorem lay_tN (z : GQ) : (tN z).canLay0 = true ∧ (tN z).depth ≤ 1 := by
  simp [tN, tD, PyData.canLay0, PyData.canLayAll0, PyData.depth, PyData.depthAll]
/-! ### rows as data -/
def rD (p : List GQ) : D := .tuple (p.map gD)
theorem lay_r (p : List GQ) : ∀ x ∈ p.map gD, x.canLay0 = true ∧ x.depth ≤ 2 := fun x hx => by
  obtain ⟨z, _, rfl⟩ := List.mem_map.mp hx
  exact lay_g z
@[simp] theorem len_rD (p : List GQ) : biD .len [rD p] = some (.fz (.int p.length)) := by simp [rD]
theorem getD_map {p : List GQ} {n : Nat} (hn : n < p.length) : (p.map gD).getD n .none = gD (Po.co p n) := by
  rw [List.getD_eq_getElem?_getD, List.getElem?_map, List.getElem?_eq_getElem hn, Po.co_lt hn]; rfl
theorem en_rD (p : List GQ) : (p.map gD).mapIdx (fun k x => PyData.tuple [.int k, x]) = (List.range p.length).map fun (i : Nat) => PyData.tuple [.int i, gD (Po.co p i)] := by
  rw [en_map]
  refine List.map_congr_left fun i hi => ?_
  rw [getD_map (List.mem_range.mp hi)]
theorem rD_nil : rD [] = .tuple [] := rfl
/-- all numbers small -/
def Rz (b : Nat) (p : List GQ) : Prop := ∀ z ∈ p, Gz b z
theorem Rz.mono {a b : Nat} {p : List GQ} (h : Rz a p) (hb : a ≤ b) : Rz b p := fun z hz => (h z hz).mono hb
theorem Rz.co {b : Nat} {p : List GQ} (h : Rz b p) (hb : 1 ≤ b) (k : Nat) : Gz b (Po.co p k) := by
  by_cases hk : k < p.length
  · rw [Po.co_lt hk]; exact h _ (List.getElem_mem hk)
  · rw [Po.co_ge (by omega)]; exact Gz.zero hb
theorem Rz.of_co {b : Nat} {p : List GQ} (h : ∀ k, k < p.length → Gz b (Po.co p k)) : Rz b p := fun z hz => by
  obtain ⟨k, hk, rfl⟩ := List.mem_iff_getElem.mp hz
  rw [← Po.co_lt hk]; exact h k hk
theorem Rz.trim {b : Nat} {p : List GQ} (h : Rz b p) (hb : 1 ≤ b) : Rz b (Po.trim p) := Rz.of_co fun k _ => by rw [Po.co_trim]; exact h.co hb k
theorem Rz.map {b : Nat} {n : Nat} {f : Nat → GQ} (h : ∀ k, k < n → Gz b (f k)) : Rz b ((List.range n).map f) := fun z hz => by
  obtain ⟨k, hk, rfl⟩ := List.mem_map.mp hz
  exact h k (List.mem_range.mp hk)
theorem Gz.sum {c : Nat} {f : Nat → GQ} : ∀ {n : Nat}, (∀ j, j < n → Gz c (f j)) → Gz (n * (c + 1) + 1) (Po.sum n f)
  | 0, _ => Gz.zero (by omega)
  | n + 1, h => by
    have q := (Gz.sum (n := n) fun j hj => h j (by omega)).add (h n (by omega))
    rw [Po.sum_succ]
    exact q.mono (by rw [Nat.succ_mul]; omega)
/-- what repr may show, without the exact bounds -/
def Shw (k n : Nat) (d : D) : Prop := ∃ k' n', k' ≤ k ∧ n' ≤ n ∧ Sh k' n' d
theorem Sh.w {k n : Nat} {d : D} (h : Sh k n d) : Shw k n d := ⟨k, n, Nat.le_refl _, Nat.le_refl _, h⟩
theorem Shw.mono {k n k2 n2 : Nat} {d : D} (h : Shw k n d) (h1 : k ≤ k2) (h2 : n ≤ n2) : Shw k2 n2 d := by
  obtain ⟨a, b, c, e, f⟩ := h
  exact ⟨a, b, by omega, by omega, f⟩
theorem shws {k n : Nat} : ∀ {ds : List D}, (∀ d ∈ ds, Shw k n d) → ∃ k' n', k' ≤ k ∧ n' ≤ ds.length * (n + 2) ∧ Shs k' n' ds
  | [], _ => ⟨0, 0, by omega, by omega, .nil⟩
  | d :: ds, h => by
    obtain ⟨k1, n1, a1, a2, a3⟩ := h d (List.mem_cons_self ..)
    obtain ⟨k2, n2, b1, b2, b3⟩ := shws fun y hy => h y (List.mem_cons_of_mem _ hy)
    exact ⟨max k1 k2, n1 + n2 + 2, by omega, by rw [List.length_cons, Nat.succ_mul]; omega, .cons a3 b3⟩
theorem Shw.tup {k n : Nat} {ds : List D} (h : ∀ d ∈ ds, Shw k n d) : Shw (k + 1) (ds.length * (n + 2) + 3) (.tuple ds) := by
  obtain ⟨a, b, c, e, f⟩ := shws h
  exact ⟨a + 1, b + 3, by omega, by omega, .tup f⟩
theorem Shw.lst {k n : Nat} {ds : List D} (h : ∀ d ∈ ds, Shw k n d) : Shw (k + 1) (ds.length * (n + 2) + 3) (.list ds) := by
  obtain ⟨a, b, c, e, f⟩ := shws h
  exact ⟨a + 1, b + 2, by omega, by omega, .lst f⟩
theorem reprOk_w {k n : Nat} {d : D} (h : Shw k n d) (hd : (isDisplay d || isAtom d) = true) (hk : k ≤ 50) (hn : n ≤ 10000000) : reprOk d = true := by
  obtain ⟨a, b, c, e, f⟩ := h
  exact reprOk_of f hd (by omega) (by omega)
theorem shw_rD {b : Nat} {p : List GQ} (h : Rz b p) (hb : b < 1920) (hl : p.length ≤ 100) : Shw 3 300000 (rD p) :=
  (Shw.tup (k := 2) (n := 2421) (ds := p.map gD) fun d hd => by
    obtain ⟨z, hz, rfl⟩ := List.mem_map.mp hd
    exact (sh_gD (h z hz) hb).w).mono (by omega) (by rw [List.length_map]; omega)
theorem all_cons {P : D → Prop} {d : D} {ds : List D} (h : P d) (g : ∀ x ∈ ds, P x) : ∀ x ∈ d :: ds, P x := fun x hx => by
  rcases List.mem_cons.mp hx with rfl | hx
  · exact h
  · exact g x hx
namespace Pk
theorem trim_loop {p : List GQ} {d : D} (hd : ∀ k, ixD d (.int k) = L2.atI (p.map gD) k) : ∀ (m : Nat), m ≤ p.length → (∀ k, m ≤ k → Po.co p k = 0) →
    ∃ m' : Nat, evW (evT (.and (.cmp .gt (.var 1) (.cst (.int (0)))) (.cmp .eq (.ixv 0 (.bin .sub (.var 1) (.cst (.int (1))))) (.cst (.tuple [(.tuple [(.int (0)), (.int (1))]), (.tuple [(.int (0)), (.int (1))])])))))
      (evB [(.aug 1 .sub (.cst (.int (1))))]) (m + 1) [.fz d, .fz (.int m)] = some (.nx [.fz d, .fz (.int m')]) ∧ (p.take m' = Po.trim p)
  | 0, _, hz => ⟨0, by rw [F1.evW_succ]; simp, by
      have := (Po.trim_nil_iff p).mpr fun k => hz k (by omega)
      rw [this]; rfl⟩
  | m + 1, hm, hz => by
    have e0 := eq_gD (Po.co p m) 0
    rw [g0D] at e0
    have a0 : L2.atI (p.map gD) (m : Int) = some (gD (Po.co p m)) := by
      rw [atI_of rfl, List.getElem?_map, List.getElem?_eq_getElem (by omega), Po.co_lt (by omega)]; rfl
    by_cases h : Po.co p m = 0
    · obtain ⟨m', e, ht⟩ := trim_loop hd m (by omega) (fun k hk => by
        rcases Nat.lt_or_eq_of_le hk with q | q
        · exact hz k q
        · rw [← q]; exact h)
      refine ⟨m', ?_, ht⟩
      rw [F1.evW_succ]
      have g1 : (0 : Int) < (m : Int) + 1 := by omega
      simp [hd, a0, e0, h, g1, show ((m : Int) + 1 - 1) = m by omega, augD]
      rw [g0D, show eqD (.tuple [.tuple [.int 0, .int 1], .tuple [.int 0, .int 1]]) (.tuple [.tuple [.int 0, .int 1], .tuple [.int 0, .int 1]]) = some true from by rw [← g0D, eq_gD]; simp]
      simpa [augD] using e
    · refine ⟨m + 1, ?_, Po.take_trim hm hz fun n hn => by rw [show n = m by omega]; exact h⟩
      rw [F1.evW_succ]
      have g1 : (0 : Int) < (m : Int) + 1 := by omega
      simp [hd, a0, e0, h, g1, show ((m : Int) + 1 - 1) = m by omega]
theorem trimmed_l {p : List GQ} (hp : p.length ≤ 900000) : row_trimmed.run [.list (p.map gD)] = some (.fz (rD (Po.trim p)), []) := by
  obtain ⟨m', e, ht⟩ := trim_loop (p := p) (d := .list (p.map gD)) (fun k => rfl) p.length (Nat.le_refl _) (fun k hk => Po.co_ge hk)
  have e := evW_up (m := WF) e (by unfold WF; omega)
  rw [run_row_trimmed]
  simp [runB, List.replicate, ir_row_trimmed, v_whl, e, cut_to rfl, ← List.map_take, ht, rD]
end Pk
end EvL

set_option Elab.async false
set_option linter.all false
set_option maxRecDepth 100000
set_option maxHeartbeats 1900000
namespace EvL
open PySem PySem.Spec PyProof.Rows L2
theorem set_rng {α : Type} {n m : Nat} {g : Nat → α} {v : α} : ((List.range n).map g).set m v = (List.range n).map fun x => if x = m then v else g x := by
  refine List.ext_getElem? fun i => ?_
  rw [List.getElem?_set, List.getElem?_map, List.getElem?_map, List.length_map, List.length_range]
  by_cases h : i < n
  · rw [List.getElem?_range h]
    by_cases e : m = i
    · subst e; simp [h]
    · rw [if_neg e]; simp [show ¬ i = m from fun z => e z.symm]
  · rw [List.getElem?_eq_none (l := List.range n) (by simpa using h)]
    by_cases e : m = i
    · subst e; simp [h]
    · rw [if_neg e]; simp
theorem at_rng {n m : Nat} {g : Nat → D} {k : Int} (hk : k = m) (hm : m < n) : L2.atI ((List.range n).map g) k = some (g m) := by
  rw [atI_of hk, List.getElem?_map, List.getElem?_range hm]; rfl
namespace Pk
end Pk
end EvL

set_option Elab.async false
set_option linter.all false
set_option maxRecDepth 100000
set_option maxHeartbeats 1900000
namespace EvL
open PySem PySem.Spec PyProof.Rows L2
instance (p : List GQ) : Decidable (Po.Row p) := inferInstanceAs (Decidable (Po.trim p = p))
namespace Pk
theorem row_lc {xs : List D} {c : D → Bool} (hc : ∀ x ∈ xs, is_num.run [x] = some (.fz (.bool (c x)), [])) (hl : xs.length ≤ 1000000) :
    evX (.lc [1] (.nm 1) .seq [(.var 0)] [(.not (.call Pk.is_num Pk.E_is_num_1.pm [(.var 1)]))] (.var 1)) [.fz (.tuple xs), .un] = some (.ow (xs.filter fun x => !c x), [.fz (.tuple xs), .un]) := by
  have := lc_filter (f := fun x : D => x) (g := fun x : D => x) (c := fun x => !c x) (vs := [1]) (t := .nm 1) (k := .seq) (its := [(.var 0)]) (ifs := [(.not (.call Pk.is_num Pk.E_is_num_1.pm [(.var 1)]))]) (elt := .var 1) (Γ := [.fz (.tuple xs), .un]) (Γ1 := [.fz (.tuple xs), .un]) (ds := [.tuple xs]) (l := xs) (by simp) (by simp) hl
    (fun x hx => by
      have q := hc x hx
      exact ⟨[.fz (.tuple xs), .fz x], [.fz (.tuple xs), .fz x], by simp [wipeG], by cases hcx : c x <;> simp [q, hcx], fun _ => rfl, fun _ => ⟨.fz x, [.fz (.tuple xs), .fz x], by simp, rfl, rfl⟩⟩)
  simpa [backG] using this
theorem is_row_run {p : List GQ} (hl : p.length ≤ 1000000) : is_a_row.run [rD p] = some (.fz (.bool (decide (Po.Row p))), []) := by
  have e := row_lc (xs := p.map gD) (c := fun _ => true) (fun x hx => by
    obtain ⟨z, _, rfl⟩ := List.mem_map.mp hx
    simp) (by simpa using hl)
  have f0 : (p.map gD).filter (fun _ => !true) = [] := by simp
  rw [f0] at e
  have t1 := eq_tnil (lay_r p) (by decide)
  rw [run_is_a_row, run0 (np := 1) (n := 2) (ds := [rD p]) rfl]
  show (evB ir_is_a_row [.fz (.tuple (p.map gD)), .un]).bind (outM false) = _
  unfold ir_is_a_row
  have w : evT (.or (.not (.bi .istuple [(.var 0)])) (.cmp .ne (.lc [1] (.nm 1) .seq [(.var 0)] [(.not (.call Pk.is_num Pk.E_is_num_1.pm [(.var 1)]))] (.var 1)) (.lst []))) [.fz (.tuple (p.map gD)), .un] = some (false, [.fz (.tuple (p.map gD)), .un]) := by
    have w1 : evT (.cmp .ne (.lc [1] (.nm 1) .seq [(.var 0)] [(.not (.call Pk.is_num Pk.E_is_num_1.pm [(.var 1)]))] (.var 1)) (.lst [])) [.fz (.tuple (p.map gD)), .un] = some (false, [.fz (.tuple (p.map gD)), .un]) := by
      rw [t_cmp', e]
      simp [eq_lnil (xs := []) (k := 1) (by simp) (by decide)]
    rw [t_or', t_not', t_bi']
    simp [-t_cmp', isD, w1]
  rw [b_cons', v_ife, w]
  rw [Option.bind_some]
  show (Option.bind (evB [] _) (onNext _)).bind _ = _
  rw [b_nil', Option.bind_some, onNext_nx]
  by_cases h0 : p = []
  · subst h0
    simp [t1, eq_tnil (xs := []) (k := 1) (by simp) (by decide)]
    exact Po.Row.nil
  · obtain ⟨n, hn⟩ : ∃ n, p.length = n + 1 := ⟨p.length - 1, by have := List.length_pos_iff.mpr h0; omega⟩
    have a1 : L2.atI (p.map gD) (-1) = some (gD (Po.co p n)) := by
      rw [atI_last, List.getLast?_eq_getElem?, List.length_map, hn]
      simp only [Nat.add_sub_cancel]
      rw [List.getElem?_map, List.getElem?_eq_getElem (show n < p.length by omega), Po.co_lt (show n < p.length by omega)]; rfl
    have q := eq_gD (Po.co p n) 0
    rw [g0D] at q
    have iff : (Po.co p n ≠ 0) ↔ Po.Row p := by
      rw [Po.row_iff]
      constructor
      · intro h m hm; rw [show m = n by omega]; exact h
      · intro h; exact h n hn
    simp [t1, h0, a1, q]
    by_cases hr : Po.Row p
    · have := iff.mpr hr
      simp [this, hr]
    · have : Po.co p n = 0 := by
        by_cases z : Po.co p n = 0
        · exact z
        · exact absurd (iff.mp z) hr
      simp [this, hr]
section
variable {b : Nat} {p q : List GQ} (hp : Rz b p) (hq : Rz b q) (rp : Po.Row p) (rq : Po.Row q) (h1 : 1 ≤ b) (lp : p.length ≤ 1000) (lq : q.length ≤ 1000)
include hp hq rp rq h1 lp lq
end
end Pk
end EvL

set_option Elab.async false
set_option linter.all false
set_option maxRecDepth 100000
set_option maxHeartbeats 1900000
namespace EvL
open PySem PySem.Spec PyProof.Rows L2
theorem sl_tN (z : GQ) : slcD (tN z) none (some 2) = some (.fz (.tuple [.int (tri z).1, .int (tri z).2.1])) := rfl
theorem eq00' (a b : Int) : eqD (.tuple [.int a, .int b]) (.tuple [.int 0, .int 0]) = some (decide (a = 0 ∧ b = 0)) := by
  rw [eq_shaped (by simp [SeqAt.shaped, PyData.canLay0, PyData.canLayAll0, PyData.depth, PyData.depthAll]) (by simp [SeqAt.shaped, PyData.canLay0, PyData.canLayAll0, PyData.depth, PyData.depthAll]) (.inl fun x => by simp)]
  simp [PyData.eqv, PyData.eqvAll]
  rw [Bool.eq_iff_iff]
  simp
theorem tri_zero (z : GQ) : ((tri z).1 = 0 ∧ (tri z).2.1 = 0) ↔ z = 0 := by
  have e1 := tri_re z; have e2 := tri_im z
  have n := ic_ne (tri_ne z)
  constructor
  · rintro ⟨h1, h2⟩
    refine GQ.ext ?_ ?_
    · rw [e1, h1]; simp; grind
    · rw [e2, h2]; simp; grind
  · rintro rfl
    have h1 : ((tri 0).1 : Rat) = 0 := by simp at e1; grind
    have h2 : ((tri 0).2.1 : Rat) = 0 := by simp at e2; grind
    exact ⟨by exact_mod_cast h1, by exact_mod_cast h2⟩
theorem at_tN {p : List GQ} {k : Int} {n : Nat} (hk : k = n) (hn : n < p.length) : L2.atI (p.map tN) k = some (tN (Po.co p n)) := by
  rw [atI_of hk, List.getElem?_map, List.getElem?_eq_getElem hn, Po.co_lt hn]; rfl
namespace Pk
theorem ltrim_run {p : List GQ} (hp : p.length ≤ 100000) : _law_trim.run [.list (p.map tN)] = some (.ow ((Po.trim p).map tN), []) := by
  obtain ⟨Γ', e, m, s2, ⟨hm, hz, hl⟩, rfl⟩ := evF_nat (f := fun (i : Nat) => PyData.int i) (t := .nm 2) (b := evB [(.ife (.and (.cmp .eq (.var 1) (.bin .sub (.lenv 0) (.var 2))) (.cmp .eq (.slc false true (.ixv 0 (.bin .sub (.var 1) (.cst (.int (1))))) (.cst .none) (.cst (.int (2)))) (.tup [(.cst (.int (0))), (.cst (.int (0)))]))) [(.set 1 (.bin .sub (.var 1) (.cst (.int (1)))))] [])]) (n := p.length)
    (Γ := [.fz (.list (p.map tN)), .fz (.int p.length), .un])
    (fun i Γ => ∃ (m : Nat) (s2 : MV), (m ≤ p.length ∧ (∀ k, m ≤ k → Po.co p k = 0) ∧ (m = p.length - i ∨ (p.length - i < m ∧ Po.co p (m - 1) ≠ 0))) ∧ Γ = [.fz (.list (p.map tN)), .fz (.int m), s2])
    ⟨p.length, .un, ⟨Nat.le_refl _, fun k hk => Po.co_ge hk, .inl (by omega)⟩, rfl⟩
    (fun i Γ hi ⟨m, s2, ⟨hm, hz, hl⟩, hG⟩ => by
      subst hG
      rcases hl with hl | ⟨hl, hn⟩
      · have g1 : (m : Int) = (p.length : Int) - (i : Int) := by omega
        have a1 := at_tN (p := p) (k := (m : Int) - 1) (n := m - 1) (by omega) (by omega)
        have q := eq00' (tri (Po.co p (m - 1))).1 (tri (Po.co p (m - 1))).2.1
        have iff := tri_zero (Po.co p (m - 1))
        by_cases h0 : Po.co p (m - 1) = 0
        · refine ⟨[.fz (.list (p.map tN)), .fz (.int m), .fz (.int i)], [.fz (.list (p.map tN)), .fz (.int ((m - 1 : Nat) : Int)), .fz (.int i)], by simp, .inl ?_, m - 1, .fz (.int i), ⟨by omega, fun k hk => ?_, .inl (by omega)⟩, rfl⟩
          · have z := iff.mpr h0
            have gg : (p.length : Int) - (i : Int) - 1 = ((m - 1 : Nat) : Int) := by omega
            rw [decide_eq_true z] at q
            have a2 := at_tN (p := p) (k := ((m - 1 : Nat) : Int)) (n := m - 1) rfl (by omega)
            simp only [g1]
            rw [b_cons']; conv in evS _ _ => simp [a2, sl_tN, q, gg]
            rfl
          · rcases Nat.lt_or_ge k m with h | h
            · rw [show k = m - 1 by omega]; exact h0
            · exact hz k h
        · refine ⟨[.fz (.list (p.map tN)), .fz (.int m), .fz (.int i)], [.fz (.list (p.map tN)), .fz (.int m), .fz (.int i)], by simp, .inl ?_, m, .fz (.int i), ⟨hm, hz, .inr ⟨by omega, h0⟩⟩, rfl⟩
          have z : ¬ ((tri (Po.co p (m - 1))).1 = 0 ∧ (tri (Po.co p (m - 1))).2.1 = 0) := fun z => h0 (iff.mp z)
          rw [decide_eq_false z] at q
          simp only [g1] at a1 ⊢
          rw [b_cons']; conv in evS _ _ => simp [a1, sl_tN, q]
          rfl
      · have g1 : ¬ (m : Int) = (p.length : Int) - (i : Int) := by omega
        refine ⟨[.fz (.list (p.map tN)), .fz (.int m), .fz (.int i)], [.fz (.list (p.map tN)), .fz (.int m), .fz (.int i)], by simp, .inl ?_, m, .fz (.int i), ⟨hm, hz, .inr ⟨by omega, hn⟩⟩, rfl⟩
        rw [b_cons']; conv in evS _ _ => simp [g1]
        rfl)
  have ht : p.take m = Po.trim p := Po.take_trim hm hz fun n hn => by
    rcases hl with hl | ⟨hl, h⟩
    · omega
    · rw [hn] at h; exact h
  rw [run__law_trim, run0 (np := 1) (n := 3) (ds := [.list (p.map tN)]) rfl]
  show (evB ir__law_trim [.fz (.list (p.map tN)), .un, .un]).bind (outM false) = _
  unfold ir__law_trim
  rw [b_cons']; conv in evS _ _ => simp
  rw [Option.bind_some, onNext_nx, b_cons', v_fr]
  have i1 : evs [(.lenv 0)] [.fz (.list (p.map tN)), .fz (.int p.length), .un] = some ([.int p.length], [.fz (.list (p.map tN)), .fz (.int p.length), .un]) := by simp
  rw [i1, Option.bind_some]
  show ((((itD .rng1 [.int p.length]).bind _).bind _)).bind _ = _
  rw [it_r1 (by omega), Option.bind_some, rng0, e, Option.bind_some, onNext_nx]
  simp [cut_to rfl, ← List.map_take, ht]
theorem ltold_row_run {b : Nat} {p : List GQ} (hp : Rz b p) (h1 : 1 ≤ b) (hb : b ≤ 8900000) (hl : p.length ≤ 100000) : _law_told_row.run [.list (p.map tN)] = some (.fz (rD (Po.trim p)), []) := by
  have t := ltrim_run hl
  have tl := Po.trim_len p
  have e1 : evX (.lc [1] (.nm 1) .seq [(.call Pk._law_trim Pk.E__law_trim_1.pm [(.var 0)])] [] (.call Pk._law_told Pk.E__law_told_1.pm [(.var 1)])) [.fz (.list (p.map tN)), .un] = some (.ow ((Po.trim p).map gD), [.fz (.list (p.map tN)), .un]) :=
    lc_map (f := tN) (g := gD) (l := Po.trim p) (Γ1 := [.fz (.list (p.map tN)), .un]) (ds := [.list ((Po.trim p).map tN)]) (by simp [t]) rfl (by omega) fun x hx => by
      have q := ltold_run (((hp.trim h1) x hx).mono hb)
      exact ⟨[.fz (.list (p.map tN)), .fz (tN x)], .fz (gD x), [.fz (.list (p.map tN)), .fz (tN x)], by simp [wipeG], by simp [q], rfl, rfl⟩
  rw [run__law_told_row, run0 (np := 1) (n := 2) (ds := [.list (p.map tN)]) rfl]
  show (evB ir__law_told_row [.fz (.list (p.map tN)), .un]).bind (outM false) = _
  unfold ir__law_told_row
  rw [b_cons', v_ret, x_bi, s_cons', e1]
  simp [rD]
end Pk
end EvL

set_option Elab.async false
set_option linter.all false
set_option maxRecDepth 100000
set_option maxHeartbeats 1900000
namespace EvL
open PySem PySem.Spec PyProof.Rows L2
theorem flat_rep {α : Type} (n : Nat) (a : α) : (List.replicate n [a]).flatten = List.replicate n a := by
  induction n with
  | zero => rfl
  | succ n ih => rw [List.replicate_succ, List.flatten_cons, ih, List.replicate_succ]; rfl
theorem rep_map {α β : Type} (f : α → β) (n : Nat) (a : α) : (List.replicate n a).map f = List.replicate n (f a) := List.map_replicate
namespace Pk
theorem lrow_sum_run {b : Nat} {p q : List GQ} (hp : Rz b p) (hq : Rz b q) (h1 : 1 ≤ b) (hb : b ≤ 1900000) (lp : p.length ≤ 1000) (lq : q.length ≤ 1000) : _law_row_sum.run [.list (p.map tN), .list (q.map tN)] = some (.ow ((Po.trim (Po.add p q)).map tN), []) := by
  obtain ⟨M, hM⟩ : ∃ M, M = max p.length q.length := ⟨_, rfl⟩
  have mx : (if p.length < q.length then (q.length : Int) else (p.length : Int)) = (M : Int) := by split <;> omega
  let S3 : MV := .ow false [.list ((p ++ List.replicate (M - p.length) 0).map tN), .list ((q ++ List.replicate (M - q.length) 0).map tN)]
  have e0 : evX (.lc [4] (.nm 4) .seq [(.lst [(.var 0), (.var 1)])] [] (.bin .add (.bi .list [(.var 4)]) (.bin .mul (.lst [(.tup [(.cst (.int (0))), (.cst (.int (0))), (.cst (.int (1)))])]) (.bin .sub (.var 2) (.lenv 4))))) [.fz (.list (p.map tN)), .fz (.list (q.map tN)), .fz (.int M), .un, .un, .un]
      = some (.ow [.list ((p ++ List.replicate (M - p.length) 0).map tN), .list ((q ++ List.replicate (M - q.length) 0).map tN)], [.fz (.list (p.map tN)), .fz (.list (q.map tN)), .fz (.int M), .un, .un, .un]) :=
    lc_map (f := fun r : List GQ => PyData.list (r.map tN)) (g := fun r : List GQ => PyData.list ((r ++ List.replicate (M - r.length) 0).map tN)) (l := [p, q]) (Γ1 := [.fz (.list (p.map tN)), .fz (.list (q.map tN)), .fz (.int M), .un, .un, .un]) (ds := [.list [.list (p.map tN), .list (q.map tN)]]) (by simp) rfl (by simp) fun r hr => by
      have hrl : r.length ≤ M := by
        simp at hr
        rcases hr with rfl | rfl <;> omega
      have c1 : ((M : Int) - (r.length : Int)) ≤ 100000 ∧ -100000 ≤ ((M : Int) - (r.length : Int)) ∧ 1 * ((M : Int) - (r.length : Int)).toNat ≤ 1000000 := by omega
      have c2 : ((M : Int) - (r.length : Int)).toNat = M - r.length := by omega
      have c3 : r.length + (M - r.length) ≤ 1000000 := by omega
      have c4 : M - r.length ≤ 1000000 := by omega
      refine ⟨[.fz (.list (p.map tN)), .fz (.list (q.map tN)), .fz (.int M), .un, .fz (.list (r.map tN)), .un], .ow ((r ++ List.replicate (M - r.length) 0).map tN), [.fz (.list (p.map tN)), .fz (.list (q.map tN)), .fz (.int M), .un, .fz (.list (r.map tN)), .un], by simp [wipeG], ?_, rfl, rfl⟩
      rw [List.map_append, rep_map, tN_0]
      simp [c1.1, c1.2.1, c2, c3, c4, flat_rep]
  have pad : ∀ (r : List GQ) (k : Nat), r.length ≤ M → k < M → L2.atI ((r ++ List.replicate (M - r.length) 0).map tN) (k : Int) = some (tN (Po.co r k)) := fun r k hr hk => by
    rw [at_tN (p := r ++ List.replicate (M - r.length) 0) rfl (by simp; omega)]
    congr 2
    rw [Po.co_append]
    split
    · rfl
    · rw [Po.co_rep0, Po.co_ge (by omega)]
  have e1 : evX (.lc [5] (.nm 5) .rng1 [(.var 2)] [] (.call Pk._law_add Pk.E__law_add_2.pm [(.ix (.ixv 3 (.cst (.int (0)))) (.var 5)), (.ix (.ixv 3 (.cst (.int (1)))) (.var 5))])) [.fz (.list (p.map tN)), .fz (.list (q.map tN)), .fz (.int M), S3, .un, .un]
      = some (.ow (((List.range M).map fun k => Po.co p k + Po.co q k).map tN), [.fz (.list (p.map tN)), .fz (.list (q.map tN)), .fz (.int M), S3, .un, .un]) := by
    rw [List.map_map]
    exact lc_map (f := fun (k : Nat) => PyData.int k) (g := tN ∘ fun k => Po.co p k + Po.co q k) (l := List.range M) (Γ1 := [.fz (.list (p.map tN)), .fz (.list (q.map tN)), .fz (.int M), S3, .un, .un]) (ds := [.int M]) (by simp [S3]) (by rw [it_r1 (by omega), rng0]) (by rw [List.length_range]; omega) fun x hx => by
      have hx := List.mem_range.mp hx
      have a := pad p x (by omega) hx
      have b' := pad q x (by omega) hx
      have c := ladd_run ((hp.co h1 x).mono hb) ((hq.co h1 x).mono hb)
      exact ⟨[.fz (.list (p.map tN)), .fz (.list (q.map tN)), .fz (.int M), S3, .un, .fz (.int x)], .fz (tN (Po.co p x + Po.co q x)), [.fz (.list (p.map tN)), .fz (.list (q.map tN)), .fz (.int M), S3, .un, .fz (.int x)], by simp [wipeG, S3], by simp [-List.map_append, S3, a, b', c], rfl, rfl⟩
  have t := ltrim_run (p := (List.range M).map fun k => Po.co p k + Po.co q k) (by simp; omega)
  have tt : Po.trim ((List.range M).map fun k => Po.co p k + Po.co q k) = Po.trim (Po.add p q) := Po.trim_congr fun k => by
    rw [Po.co_map, Po.co_add]
    split
    · rfl
    · rw [Po.co_ge (p := p) (by omega), Po.co_ge (p := q) (by omega)]; grind
  rw [tt] at t
  rw [run__law_row_sum, run0 (np := 2) (n := 6) (ds := [.list (p.map tN), .list (q.map tN)]) rfl]
  show (evB ir__law_row_sum [.fz (.list (p.map tN)), .fz (.list (q.map tN)), .un, .un, .un, .un]).bind (outM false) = _
  unfold ir__law_row_sum
  rw [b_cons']; conv in evS _ _ => simp [mx]
  rw [Option.bind_some, onNext_nx, b_cons', v_set, e0, Option.bind_some]
  show ((Option.bind (some (Out.nx [.fz (.list (p.map tN)), .fz (.list (q.map tN)), .fz (.int M), S3, .un, .un])) (onNext _))).bind _ = _
  rw [Option.bind_some, onNext_nx, b_cons', v_ret, x_call, s_cons', e1]
  simp [-List.map_map, t]
/-! products by whole numbers -/
def pr (low : Int) (z : GQ) : Int × Int := ((tri z).1 * low.fdiv (tri z).2.2, (tri z).2.1 * low.fdiv (tri z).2.2)
theorem pr_val {low : Int} {z : GQ} (h : (tri z).2.2 ∣ low) : ((pr low z).1 : Rat) = z.re * low ∧ ((pr low z).2 : Rat) = z.im * low := by
  have e := ex_div h (tri_ne z)
  have e1 := tri_re z; have e2 := tri_im z
  have n := ic_ne (tri_ne z)
  unfold pr
  simp only [ic_mul]
  generalize low.fdiv (tri z).2.2 = c at *
  subst e
  rw [ic_mul]
  constructor <;> grind
theorem pr_zero (low : Int) : pr low 0 = (0, 0) := by
  have h := (tri_zero 0).mpr rfl
  unfold pr
  rw [h.1, h.2]; simp
theorem low_step {l d : Int} (hl : 0 < l) (hd : 0 < d) : 0 < l.fdiv (Int.gcd l d) * d ∧ l ∣ l.fdiv (Int.gcd l d) * d ∧ d ∣ l.fdiv (Int.gcd l d) * d := by
  have g0 : (Int.gcd l d : Int) ≠ 0 := by
    intro z
    have z' : Int.gcd l d = 0 := by exact_mod_cast z
    exact absurd (Int.gcd_eq_zero_iff.mp z').1 (by omega)
  have e := ex_div (Int.gcd_dvd_left (a := l) (b := d)) g0
  obtain ⟨c, hc⟩ := Int.gcd_dvd_right (a := l) (b := d)
  have gp : 0 < (Int.gcd l d : Int) := by have : 0 ≤ (Int.gcd l d : Int) := Int.natCast_nonneg _; omega
  generalize (Int.gcd l d : Int) = g at *
  generalize l.fdiv g = m at *
  have m0 : 0 < m := Int.pos_of_mul_pos_right (by omega) gp
  refine ⟨Int.mul_pos m0 hd, ⟨c, ?_⟩, ⟨m, Int.mul_comm ..⟩⟩
  rw [e, hc]; grind
theorem low_loop {b : Nat} {p : List GQ} (hp : Rz b p) (hb : (p.length + 1) * b + 1 ≤ 8900000) {s0 s1 s2 s3 s4 s6 : MV} {r : Ga} :
    ∃ (low : Int) (s6' : MV), evF (.nm 6) (evB [(.set 5 (.bin .mul (.bin .fdiv (.var 5) (.call F1.gcd Pk.E__law_gcd_2.pm [(.var 5), (.ixv 6 (.cst (.int (2))))])) (.ixv 6 (.cst (.int (2))))))]) (p.map tN) (s0 :: s1 :: s2 :: s3 :: s4 :: .fz (.int 1) :: s6 :: r) = some (.nx (s0 :: s1 :: s2 :: s3 :: s4 :: .fz (.int low) :: s6' :: r)) ∧
      0 < low ∧ (∀ z ∈ p, (tri z).2.2 ∣ low) ∧ Sz (p.length * b + 1) low := by
  obtain ⟨Γ', e, ⟨low, s6', h0, hd, hs, rfl⟩⟩ := evF_all (f := tN) (t := .nm 6) (b := evB [(.set 5 (.bin .mul (.bin .fdiv (.var 5) (.call F1.gcd Pk.E__law_gcd_2.pm [(.var 5), (.ixv 6 (.cst (.int (2))))])) (.ixv 6 (.cst (.int (2))))))]) (l := p) (Γ := s0 :: s1 :: s2 :: s3 :: s4 :: .fz (.int 1) :: s6 :: r)
    (fun l Γ => ∃ (low : Int) (s6' : MV), 0 < low ∧ (∀ z ∈ l, (tri z).2.2 ∣ low) ∧ Sz (l.length * b + 1) low ∧ Γ = s0 :: s1 :: s2 :: s3 :: s4 :: .fz (.int low) :: s6' :: r)
    ⟨1, s6, by decide, (fun z hz => nomatch hz), Sz.mono (a := 1) (b := 0 * b + 1) (i := 1) (Sz.lit (by decide)) (by omega), rfl⟩
    (fun l z q Γ e ⟨low, s6', h0, hd, hs, hG⟩ => by
      subst hG
      have hm : z ∈ p := by rw [e]; simp
      have hll : l.length + 1 ≤ p.length := by
        have := congrArg List.length e
        simp at this; omega
      have hbb : (l.length + 1) * b + b + 1 ≤ 8900000 := by
        have : (l.length + 1 + 1) * b ≤ (p.length + 1) * b := Nat.mul_le_mul_right _ (by omega)
        rw [Nat.succ_mul] at this; omega
      obtain ⟨_, _, z3⟩ := (hp z hm).tri
      have zp := tri_pos z
      obtain ⟨a1, a2, a3⟩ := low_step h0 zp
      have hb9 : b ≤ 8900000 := by omega
      have g1 := F1.gcd_run (a := low) (b := (tri z).2.2) z3
      have gz : Sz (l.length * b + 1) (Int.gcd low (tri z).2.2 : Int) := by
        obtain ⟨c, hc⟩ := Int.gcd_dvd_left (a := low) (b := (tri z).2.2)
        exact sz_dvd' hc (by omega) hs
      have g0 : (Int.gcd low (tri z).2.2 : Int) ≠ 0 := by
        intro z
        have z' := Int.gcd_eq_zero_iff.mp (show Int.gcd low _ = 0 by exact_mod_cast z)
        omega
      have s1' : l.length * b + 1 ≤ 8900000 := by rw [Nat.succ_mul] at hbb; omega
      have d1 : divOk low (Int.gcd low (tri z).2.2 : Int) = true := divOk_of gz (by omega) g0
      have f1 : Sz (l.length * b + 1) (low.fdiv (Int.gcd low (tri z).2.2)) := hs.fdiv (by omega)
      have m1 : mulOk (low.fdiv (Int.gcd low (tri z).2.2)) (tri z).2.2 = true := mulOk_of f1 z3 (by omega)
      refine ⟨s0 :: s1 :: s2 :: s3 :: s4 :: .fz (.int low) :: .fz (tN z) :: r, s0 :: s1 :: s2 :: s3 :: s4 :: .fz (.int (low.fdiv (Int.gcd low (tri z).2.2) * (tri z).2.2)) :: .fz (tN z) :: r, by simp, .inl (by simp [g1, d1, m1]), _, .fz (tN z), a1, fun y hy => ?_, ?_, rfl⟩
      · rcases List.mem_append.mp hy with hy | hy
        · exact Int.dvd_trans (hd y hy) a2
        · rw [List.mem_singleton] at hy; subst hy; exact a3
      · rw [List.length_append, List.length_singleton, Nat.succ_mul]
        exact (f1.mul z3).mono (by omega))
  exact ⟨low, s6', e, h0, hd, hs⟩
def isum : Nat → (Nat → Int) → Int
  | 0, _ => 0
  | n + 1, f => isum n f + f n
theorem isum_succ (n : Nat) (f : Nat → Int) : isum (n + 1) f = isum n f + f n := rfl
theorem isum_sz {c : Nat} {f : Nat → Int} : ∀ {n : Nat}, (∀ j, j < n → Sz c (f j)) → Sz (c + n) (isum n f)
  | 0, _ => Sz.lit (by simp [isum]; exact Nat.pow_pos (by decide))
  | n + 1, h => by
    rw [isum_succ]
    exact ((isum_sz (n := n) fun j hj => h j (by omega)).add (h n (by omega))).mono (by omega)
def uv (p : List GQ) (low : Int) (j : Nat) : Int × Int := pr low (Po.co p j)
def cvL (p q : List GQ) (lp lq : Int) (i k : Nat) : Int := isum i fun a => if a ≤ k ∧ k - a < q.length then (uv p lp a).1 * (uv q lq (k - a)).1 - (uv p lp a).2 * (uv q lq (k - a)).2 else 0
def cvR (p q : List GQ) (lp lq : Int) (i k : Nat) : Int := isum i fun a => if a ≤ k ∧ k - a < q.length then (uv p lp a).1 * (uv q lq (k - a)).2 + (uv p lp a).2 * (uv q lq (k - a)).1 else 0
theorem uv_val {p : List GQ} {low : Int} (h : ∀ z ∈ p, (tri z).2.2 ∣ low) (j : Nat) : ((uv p low j).1 : Rat) = (Po.co p j).re * low ∧ ((uv p low j).2 : Rat) = (Po.co p j).im * low := by
  unfold uv
  by_cases hj : j < p.length
  · rw [Po.co_lt hj]; exact pr_val (h _ (List.getElem_mem hj))
  · rw [Po.co_ge (by omega), pr_zero]; simp
theorem cv_val {p q : List GQ} {lp lq : Int} (hp : ∀ z ∈ p, (tri z).2.2 ∣ lp) (hq : ∀ z ∈ q, (tri z).2.2 ∣ lq) (i k : Nat) :
    ((cvL p q lp lq i k : Int) : Rat) = (Po.sum i fun a => if a ≤ k then Po.co p a * Po.co q (k - a) else 0).re * ((lp : Rat) * lq) ∧
    ((cvR p q lp lq i k : Int) : Rat) = (Po.sum i fun a => if a ≤ k then Po.co p a * Po.co q (k - a) else 0).im * ((lp : Rat) * lq) := by
  induction i with
  | zero => simp [cvL, cvR, isum, Po.sum]
  | succ i ih =>
    obtain ⟨i1, i2⟩ := ih
    have u := uv_val hp i
    have v := uv_val hq (k - i)
    unfold cvL cvR at *
    rw [isum_succ, isum_succ, Po.sum_succ, GQ.add_re, GQ.add_im, ic_add, ic_add, i1, i2]
    by_cases h : i ≤ k
    · rw [if_pos h]
      by_cases h2 : k - i < q.length
      · rw [if_pos ⟨h, h2⟩, if_pos ⟨h, h2⟩]
        simp only [ic_sub, ic_add, ic_mul, u.1, u.2, v.1, v.2, GQ.mul_re, GQ.mul_im]
        constructor <;> grind
      · rw [if_neg (by omega), if_neg (by omega), Po.co_ge (p := q) (by omega)]
        simp
        constructor <;> grind
    · rw [if_neg h, if_neg (by omega), if_neg (by omega)]
      simp
      constructor <;> grind
theorem uv_sz {b c : Nat} {p : List GQ} {low : Int} (h : Rz b p) (hl : Sz c low) (h1 : 1 ≤ b) (j : Nat) : Sz (b + c) (uv p low j).1 ∧ Sz (b + c) (uv p low j).2 := by
  obtain ⟨a1, a2, a3⟩ := (h.co h1 j).tri
  have f := hl.fdiv (j := (tri (Po.co p j)).2.2) (by have := tri_pos (Po.co p j); omega)
  exact ⟨a1.mul f, a2.mul f⟩
theorem cv_sz {B : Nat} {p q : List GQ} {lp lq : Int} (hu : ∀ j, Sz B (uv p lp j).1 ∧ Sz B (uv p lp j).2) (hv : ∀ j, Sz B (uv q lq j).1 ∧ Sz B (uv q lq j).2) (i k : Nat) :
    Sz (B + B + 1 + i) (cvL p q lp lq i k) ∧ Sz (B + B + 1 + i) (cvR p q lp lq i k) := by
  have z : Sz (B + B + 1) (0 : Int) := Sz.lit (by simp; exact Nat.pow_pos (by decide))
  constructor
  · refine isum_sz fun j hj => ?_
    split
    · exact (((hu j).1.mul (hv _).1).sub ((hu j).2.mul (hv _).2)).mono (by omega)
    · exact z
  · refine isum_sz fun j hj => ?_
    split
    · exact (((hu j).1.mul (hv _).2).add ((hu j).2.mul (hv _).1)).mono (by omega)
    · exact z
def pD (x : Int × Int) : D := .tuple [.int x.1, .int x.2]
@[simp] theorem as_pD (t u : Tg) (x : Int × Int) (Γ : Ga) : asg (.tp [t, u]) (pD x) Γ = (asg t (.int x.1) Γ).bind fun Γ => asg u (.int x.2) Γ := by
  simp [pD]
theorem at_uv {p : List GQ} {low : Int} {k : Int} {n : Nat} (hk : k = n) (hn : n < p.length) : L2.atI (p.map fun z => pD (pr low z)) k = some (pD (uv p low n)) := by
  rw [atI_of hk, List.getElem?_map, List.getElem?_eq_getElem hn]
  unfold uv
  rw [Po.co_lt hn]; rfl
def ltBody : List IS := [(.asg (.tp [(.nm 12), (.nm 13)]) (.ix (.ixv 2 (.cst (.int (0)))) (.var 10))), (.asg (.tp [(.nm 14), (.nm 15)]) (.ix (.ixv 2 (.cst (.int (1)))) (.var 11))), (.put 8 (.bin .add (.var 10) (.var 11)) (.bin .sub (.bin .add (.ixv 8 (.bin .add (.var 10) (.var 11))) (.bin .mul (.var 12) (.var 14))) (.bin .mul (.var 13) (.var 15)))), (.put 9 (.bin .add (.var 10) (.var 11)) (.bin .add (.bin .add (.ixv 9 (.bin .add (.var 10) (.var 11))) (.bin .mul (.var 12) (.var 15))) (.bin .mul (.var 13) (.var 14))))]
theorem lt_in {B n i : Nat} {p q : List GQ} {lp lq : Int} {f g : Nat → Int} {s0 s1 s3 s4 s5 s6 s7 s11 s12 s13 s14 s15 : MV} (hu : ∀ j, Sz B (uv p lp j).1 ∧ Sz B (uv p lp j).2) (hv : ∀ j, Sz B (uv q lq j).1 ∧ Sz B (uv q lq j).2) (hB : B ≤ 10000000) (hi : i < p.length) (hn : i + q.length ≤ n) :
    ∃ t11 t12 t13 t14 t15, evF (.nm 11) (evB ltBody) ((List.range q.length).map fun (j : Nat) => PyData.int j) [s0, s1, .ow false [.list (p.map fun z => pD (pr lp z)), .list (q.map fun z => pD (pr lq z))], s3, s4, s5, s6, s7, .ow false ((List.range n).map fun k => .int (f k)), .ow false ((List.range n).map fun k => .int (g k)), .fz (.int i), s11, s12, s13, s14, s15] =
      some (.nx [s0, s1, .ow false [.list (p.map fun z => pD (pr lp z)), .list (q.map fun z => pD (pr lq z))], s3, s4, s5, s6, s7, .ow false ((List.range n).map fun k => .int (f k + if i ≤ k ∧ k - i < q.length then (uv p lp i).1 * (uv q lq (k - i)).1 - (uv p lp i).2 * (uv q lq (k - i)).2 else 0)),
        .ow false ((List.range n).map fun k => .int (g k + if i ≤ k ∧ k - i < q.length then (uv p lp i).1 * (uv q lq (k - i)).2 + (uv p lp i).2 * (uv q lq (k - i)).1 else 0)), .fz (.int i), t11, t12, t13, t14, t15]) := by
  obtain ⟨Γ', e, t11, t12, t13, t14, t15, rfl⟩ := evF_nat (f := fun (j : Nat) => PyData.int j) (t := .nm 11) (b := evB ltBody) (n := q.length)
    (Γ := [s0, s1, .ow false [.list (p.map fun z => pD (pr lp z)), .list (q.map fun z => pD (pr lq z))], s3, s4, s5, s6, s7, .ow false ((List.range n).map fun k => .int (f k)), .ow false ((List.range n).map fun k => .int (g k)), .fz (.int i), s11, s12, s13, s14, s15])
    (fun j Γ => ∃ t11 t12 t13 t14 t15, Γ = [s0, s1, .ow false [.list (p.map fun z => pD (pr lp z)), .list (q.map fun z => pD (pr lq z))], s3, s4, s5, s6, s7, .ow false ((List.range n).map fun k => .int (f k + if i ≤ k ∧ k - i < j then (uv p lp i).1 * (uv q lq (k - i)).1 - (uv p lp i).2 * (uv q lq (k - i)).2 else 0)),
        .ow false ((List.range n).map fun k => .int (g k + if i ≤ k ∧ k - i < j then (uv p lp i).1 * (uv q lq (k - i)).2 + (uv p lp i).2 * (uv q lq (k - i)).1 else 0)), .fz (.int i), t11, t12, t13, t14, t15])
    ⟨s11, s12, s13, s14, s15, by
      have : ∀ k (x : Int), (if i ≤ k ∧ k - i < 0 then x else 0) = 0 := fun k x => by rw [if_neg (by omega)]
      simp only [this, Int.add_zero]⟩
    (fun j Γ hj ⟨t11, t12, t13, t14, t15, hG⟩ => by
      subst hG
      have hk : i + j < n := by omega
      have a0 := at_uv (p := p) (low := lp) (k := (i : Int)) rfl hi
      have a1 := at_uv (p := q) (low := lq) (k := (j : Int)) rfl hj
      have a2 := at_rng (n := n) (m := i + j) (g := fun k => PyData.int (f k + if i ≤ k ∧ k - i < j then (uv p lp i).1 * (uv q lq (k - i)).1 - (uv p lp i).2 * (uv q lq (k - i)).2 else 0)) (k := (i : Int) + j) (by omega) hk
      have a3 := at_rng (n := n) (m := i + j) (g := fun k => PyData.int (g k + if i ≤ k ∧ k - i < j then (uv p lp i).1 * (uv q lq (k - i)).2 + (uv p lp i).2 * (uv q lq (k - i)).1 else 0)) (k := (i : Int) + j) (by omega) hk
      have e0 : ∀ x : Int, (if i ≤ i + j ∧ i + j - i < j then x else 0) = 0 := fun x => by rw [if_neg (by omega)]
      simp only [e0, Int.add_zero] at a2 a3
      obtain ⟨u1, u2⟩ := hu i
      obtain ⟨v1, v2⟩ := hv j
      have m1 : mulOk (uv p lp i).1 (uv q lq j).1 = true := mulOk_of u1 v1 (by omega)
      have m2 : mulOk (uv p lp i).2 (uv q lq j).2 = true := mulOk_of u2 v2 (by omega)
      have m3 : mulOk (uv p lp i).1 (uv q lq j).2 = true := mulOk_of u1 v2 (by omega)
      have m4 : mulOk (uv p lp i).2 (uv q lq j).1 = true := mulOk_of u2 v1 (by omega)
      have ix := ixN_of (len := n) (k := (i : Int) + j) (n := i + j) (by omega) hk
      have st : ∀ (F : Nat → Int) (X : Nat → Int), ((List.range n).map fun k => PyData.int (F k + if i ≤ k ∧ k - i < j then X k else 0)).set (i + j) (.int (F (i + j) + X (i + j))) = (List.range n).map fun k => PyData.int (F k + if i ≤ k ∧ k - i < j + 1 then X k else 0) := fun F X => by
        rw [set_rng]
        refine List.map_congr_left fun k hk2 => ?_
        split
        · rename_i h; subst h; rw [if_pos (by omega)]
        · rename_i h
          by_cases h3 : i ≤ k ∧ k - i < j
          · rw [if_pos h3, if_pos (by omega)]
          · rw [if_neg h3, if_neg (by omega)]
      have st1 := st f fun k => (uv p lp i).1 * (uv q lq (k - i)).1 - (uv p lp i).2 * (uv q lq (k - i)).2
      have st2 := st g fun k => (uv p lp i).1 * (uv q lq (k - i)).2 + (uv p lp i).2 * (uv q lq (k - i)).1
      simp only [show i + j - i = j by omega] at st1 st2
      have x1 : f (i + j) + (uv p lp i).1 * (uv q lq j).1 - (uv p lp i).2 * (uv q lq j).2 = f (i + j) + ((uv p lp i).1 * (uv q lq j).1 - (uv p lp i).2 * (uv q lq j).2) := by omega
      have x2 : g (i + j) + (uv p lp i).1 * (uv q lq j).2 + (uv p lp i).2 * (uv q lq j).1 = g (i + j) + ((uv p lp i).1 * (uv q lq j).2 + (uv p lp i).2 * (uv q lq j).1) := by omega
      refine ⟨[s0, s1, .ow false [.list (p.map fun z => pD (pr lp z)), .list (q.map fun z => pD (pr lq z))], s3, s4, s5, s6, s7, .ow false ((List.range n).map fun k => .int (f k + if i ≤ k ∧ k - i < j then (uv p lp i).1 * (uv q lq (k - i)).1 - (uv p lp i).2 * (uv q lq (k - i)).2 else 0)),
        .ow false ((List.range n).map fun k => .int (g k + if i ≤ k ∧ k - i < j then (uv p lp i).1 * (uv q lq (k - i)).2 + (uv p lp i).2 * (uv q lq (k - i)).1 else 0)), .fz (.int i), .fz (.int j), t12, t13, t14, t15], _, by simp, .inl ?_, .fz (.int j), .fz (.int (uv p lp i).1), .fz (.int (uv p lp i).2), .fz (.int (uv q lq j).1), .fz (.int (uv q lq j).2), rfl⟩
      rw [← st1, ← st2, ← x1, ← x2]
      unfold ltBody
      rw [b_cons']; conv in evS _ _ => simp [a0]
      rw [Option.bind_some, onNext_nx, b_cons']; conv in evS _ _ => simp [a1]
      rw [Option.bind_some, onNext_nx, b_cons']; conv in evS _ _ => simp [a2, m1, m2, ix]
      rw [Option.bind_some, onNext_nx, b_cons']; conv in evS _ _ => simp [a3, m3, m4, ix]
      rfl)
  exact ⟨t11, t12, t13, t14, t15, e⟩
end Pk
end EvL

set_option Elab.async false
set_option linter.all false
set_option maxRecDepth 100000
set_option maxHeartbeats 1900000
namespace EvL
open PySem PySem.Spec PyProof.Rows L2
namespace Pk
def lowBody : List IS := [(.set 5 (.bin .mul (.bin .fdiv (.var 5) (.call F1.gcd Pk.E__law_gcd_2.pm [(.var 5), (.ixv 6 (.cst (.int (2))))])) (.ixv 6 (.cst (.int (2))))))]
def nrm : MV → MV
  | .fz d => .fz d
  | _ => .un
def oneBody : List IS := [(.set 5 (.cst (.int (1)))), (.fr (.nm 6) .seq [(.var 4)] lowBody), (.app 2 (.lc [6] (.nm 6) .seq [(.var 4)] [] (.tup [(.bin .mul (.ixv 6 (.cst (.int (0)))) (.bin .fdiv (.var 5) (.ixv 6 (.cst (.int (2)))))), (.bin .mul (.ixv 6 (.cst (.int (1)))) (.bin .fdiv (.var 5) (.ixv 6 (.cst (.int (2))))))]))), (.set 3 (.bin .mul (.var 3) (.var 5)))]
theorem lt_one {b : Nat} {p : List GQ} (hp : Rz b p) (hb : (p.length + 1) * b + 1 ≤ 8900000) (hl : p.length ≤ 100000) {W : List D} (hW : W.length < 10) {dn : Int} (hdn : Sz 9000000 dn) {s0 s1 s5 s6 : MV} {r : Ga} :
    ∃ (low : Int) (s6' : MV), evB oneBody (s0 :: s1 :: .ow false W :: .fz (.int dn) :: .fz (.list (p.map tN)) :: s5 :: s6 :: r) = some (.nx (s0 :: s1 :: .ow false (W ++ [.list (p.map fun z => pD (pr low z))]) :: .fz (.int (dn * low)) :: .fz (.list (p.map tN)) :: .fz (.int low) :: s6' :: r)) ∧
      0 < low ∧ (∀ z ∈ p, (tri z).2.2 ∣ low) ∧ Sz (p.length * b + 1) low := by
  obtain ⟨low, s6', e, h0, hd, hs⟩ := low_loop (s0 := s0) (s1 := s1) (s2 := .ow false W) (s3 := .fz (.int dn)) (s4 := .fz (.list (p.map tN))) (s6 := s6) (r := r) hp hb
  have hb1 : p.length * b + b + 1 ≤ 8900000 := by rw [Nat.succ_mul] at hb; omega
  have hb9 : b < 9000000 := by omega
  obtain ⟨s6'', hs6⟩ : ∃ s, s = nrm s6' := ⟨_, rfl⟩
  have e1 : evX (.lc [6] (.nm 6) .seq [(.var 4)] [] (.tup [(.bin .mul (.ixv 6 (.cst (.int (0)))) (.bin .fdiv (.var 5) (.ixv 6 (.cst (.int (2)))))), (.bin .mul (.ixv 6 (.cst (.int (1)))) (.bin .fdiv (.var 5) (.ixv 6 (.cst (.int (2))))))])) (s0 :: s1 :: .ow false W :: .fz (.int dn) :: .fz (.list (p.map tN)) :: .fz (.int low) :: s6' :: r)
      = some (.ow (p.map fun z => pD (pr low z)), (s0 :: s1 :: .ow false W :: .fz (.int dn) :: .fz (.list (p.map tN)) :: .fz (.int low) :: s6'' :: r)) := by
    rw [hs6]
    refine Eq.trans (lc_map (vs := [6]) (t := .nm 6) (k := .seq) (its := [(.var 4)]) (elt := (.tup [(.bin .mul (.ixv 6 (.cst (.int (0)))) (.bin .fdiv (.var 5) (.ixv 6 (.cst (.int (2)))))), (.bin .mul (.ixv 6 (.cst (.int (1)))) (.bin .fdiv (.var 5) (.ixv 6 (.cst (.int (2))))))])) (Γ := s0 :: s1 :: .ow false W :: .fz (.int dn) :: .fz (.list (p.map tN)) :: .fz (.int low) :: s6' :: r) (f := tN) (g := fun z => pD (pr low z)) (l := p) (Γ1 := s0 :: s1 :: .ow false W :: .fz (.int dn) :: .fz (.list (p.map tN)) :: .fz (.int low) :: s6' :: r) (ds := [.list (p.map tN)]) (by simp) rfl (by omega) fun z hz => by
      obtain ⟨a1, a2, a3⟩ := (hp z hz).tri
      have zp := tri_pos z
      have d1 : divOk low (tri z).2.2 = true := divOk_of a3 (by omega) (by omega)
      have f := hs.fdiv (j := (tri z).2.2) (by omega)
      have m1 : mulOk (tri z).1 (low.fdiv (tri z).2.2) = true := mulOk_of a1 f (by omega)
      have m2 : mulOk (tri z).2.1 (low.fdiv (tri z).2.2) = true := mulOk_of a2 f (by omega)
      exact ⟨s0 :: s1 :: .ow false W :: .fz (.int dn) :: .fz (.list (p.map tN)) :: .fz (.int low) :: .fz (tN z) :: r, .fz (pD (pr low z)), s0 :: s1 :: .ow false W :: .fz (.int dn) :: .fz (.list (p.map tN)) :: .fz (.int low) :: .fz (tN z) :: r, by simp [wipeG], by simp [d1, m1, m2, pD, pr], rfl, by simp [wipeG]⟩) (by cases s6' <;> rfl)
  have m3 : mulOk dn low = true := mulOk_of hdn hs (by omega)
  refine ⟨low, s6'', ?_, h0, hd, hs⟩
  have i1 : evs [(.var 4)] (s0 :: s1 :: .ow false W :: .fz (.int dn) :: .fz (.list (p.map tN)) :: .fz (.int 1) :: s6 :: r) = some ([.list (p.map tN)], s0 :: s1 :: .ow false W :: .fz (.int dn) :: .fz (.list (p.map tN)) :: .fz (.int 1) :: s6 :: r) := by simp
  have hW2 : W.length < 1000000 := by omega
  unfold oneBody
  rw [b_cons']; conv in evS _ _ => simp
  rw [Option.bind_some, onNext_nx, b_cons', v_fr, i1, Option.bind_some]
  show (((some (p.map tN)).bind _)).bind _ = _
  rw [Option.bind_some]
  unfold lowBody
  rw [e, Option.bind_some, onNext_nx, b_cons', v_app]
  simp only [List.getElem?_cons_succ, List.getElem?_cons_zero]
  rw [e1]
  simp [hW2, m3]
theorem lrow_times_run {b : Nat} {p q : List GQ} (hp : Rz b p) (hq : Rz b q) (h1 : 1 ≤ b) (hb : (p.length + q.length + 2) * b + 2 ≤ 8900000) (hl : p.length ≤ 1000) (hl' : q.length ≤ 1000) : _law_row_times.run [.list (p.map tN), .list (q.map tN)] = some (.ow ((Po.trim (Po.mul p q)).map tN), []) := by
  have hbp : p.length * b + q.length * b + (b + b) + 2 ≤ 8900000 := by
    rw [Nat.add_mul, Nat.add_mul] at hb; omega
  obtain ⟨lp, s6', e1, lp0, hdp, hsp⟩ := lt_one (s0 := .fz (.list (p.map tN))) (s1 := .fz (.list (q.map tN))) (W := []) (dn := 1) (s5 := .un) (s6 := .un) (r := [.un, .un, .un, .un, .un, .un, .un, .un, .un]) hp (by rw [Nat.succ_mul]; omega) (by omega) (by simp) (Sz.mono (a := 1) (Sz.lit (by decide)) (by decide))
  obtain ⟨lq, s6'', e2, lq0, hdq, hsq⟩ := lt_one (s0 := .fz (.list (p.map tN))) (s1 := .fz (.list (q.map tN))) (W := [] ++ [.list (p.map fun z => pD (pr lp z))]) (dn := 1 * lp) (s5 := .fz (.int lp)) (s6 := s6') (r := [.un, .un, .un, .un, .un, .un, .un, .un, .un]) hq (by rw [Nat.succ_mul]; omega) (by omega) (by simp) (by rw [Int.one_mul]; exact hsp.mono (by omega))
  rw [List.nil_append] at e1 e2
  rw [List.singleton_append] at e2
  rw [Int.one_mul] at e1 e2
  obtain ⟨B, hB⟩ : ∃ B, B = b + (p.length * b + q.length * b + 1) := ⟨_, rfl⟩
  have hu : ∀ j, Sz B (uv p lp j).1 ∧ Sz B (uv p lp j).2 := fun j => by
    have := uv_sz hp hsp h1 j
    exact ⟨this.1.mono (by omega), this.2.mono (by omega)⟩
  have hv : ∀ j, Sz B (uv q lq j).1 ∧ Sz B (uv q lq j).2 := fun j => by
    have := uv_sz hq hsq h1 j
    exact ⟨this.1.mono (by omega), this.2.mono (by omega)⟩
  obtain ⟨n, hn⟩ : ∃ n : Nat, n = p.length + q.length - 1 := ⟨_, rfl⟩
  have dpos : lp * lq ≠ 0 := Int.mul_ne_zero (by omega) (by omega)
  let W : D × D := (.list (p.map fun z => pD (pr lp z)), .list (q.map fun z => pD (pr lq z)))
  let ST : List D → List D → MV → MV → MV → MV → MV → MV → Ga := fun L R t10 t11 t12 t13 t14 t15 => [.fz (.list (p.map tN)), .fz (.list (q.map tN)), .ow false [.list (p.map fun z => pD (pr lp z)), .list (q.map fun z => pD (pr lq z))], .fz (.int (lp * lq)), .fz (.list (q.map tN)), .fz (.int lq), s6'', .fz (.int n), .ow false L, .ow false R, t10, t11, t12, t13, t14, t15]
  have e3 : ∃ t10 t11 t12 t13 t14 t15, evF (.nm 10) (evB [(.fr (.nm 11) .rng1 [(.lenv 1)] ltBody)]) ((List.range p.length).map fun (j : Nat) => PyData.int j) (ST ((List.range n).map fun _ => .int 0) ((List.range n).map fun _ => .int 0) .un .un .un .un .un .un) =
      some (.nx (ST ((List.range n).map fun k => .int (cvL p q lp lq p.length k)) ((List.range n).map fun k => .int (cvR p q lp lq p.length k)) t10 t11 t12 t13 t14 t15)) := by
    obtain ⟨Γ', e, t10, t11, t12, t13, t14, t15, rfl⟩ := evF_nat (f := fun (j : Nat) => PyData.int j) (t := .nm 10) (b := evB [(.fr (.nm 11) .rng1 [(.lenv 1)] ltBody)]) (n := p.length) (Γ := ST ((List.range n).map fun _ => .int 0) ((List.range n).map fun _ => .int 0) .un .un .un .un .un .un)
      (fun i Γ => ∃ t10 t11 t12 t13 t14 t15, Γ = ST ((List.range n).map fun k => .int (cvL p q lp lq i k)) ((List.range n).map fun k => .int (cvR p q lp lq i k)) t10 t11 t12 t13 t14 t15)
      ⟨.un, .un, .un, .un, .un, .un, rfl⟩
      (fun i Γ hi ⟨t10, t11, t12, t13, t14, t15, hG⟩ => by
        subst hG
        obtain ⟨u11, u12, u13, u14, u15, e⟩ := lt_in (p := p) (q := q) (lp := lp) (lq := lq) (i := i) (n := n) (f := cvL p q lp lq i) (g := cvR p q lp lq i) (s0 := .fz (.list (p.map tN))) (s1 := .fz (.list (q.map tN))) (s3 := .fz (.int (lp * lq))) (s4 := .fz (.list (q.map tN))) (s5 := .fz (.int lq)) (s6 := s6'') (s7 := .fz (.int n)) (s11 := t11) (s12 := t12) (s13 := t13) (s14 := t14) (s15 := t15) hu hv (by omega) hi (by omega)
        refine ⟨ST ((List.range n).map fun k => .int (cvL p q lp lq i k)) ((List.range n).map fun k => .int (cvR p q lp lq i k)) (.fz (.int i)) t11 t12 t13 t14 t15, _, by simp [ST], .inl ?_, .fz (.int i), u11, u12, u13, u14, u15, rfl⟩
        have i1 : ∀ L R, evs [(.lenv 1)] (ST L R (.fz (.int i)) t11 t12 t13 t14 t15) = some ([.int q.length], ST L R (.fz (.int i)) t11 t12 t13 t14 t15) := fun L R => by simp [ST]
        rw [b_cons', v_fr, i1, Option.bind_some]
        show (((itD .rng1 [.int q.length]).bind _).bind _) = _
        rw [it_r1 (by omega), Option.bind_some, rng0]
        show ((evF _ _ _ [.fz (.list (p.map tN)), .fz (.list (q.map tN)), .ow false [.list (p.map fun z => pD (pr lp z)), .list (q.map fun z => pD (pr lq z))], .fz (.int (lp * lq)), .fz (.list (q.map tN)), .fz (.int lq), s6'', .fz (.int n), .ow false ((List.range n).map fun k => .int (cvL p q lp lq i k)), .ow false ((List.range n).map fun k => .int (cvR p q lp lq i k)), .fz (.int i), t11, t12, t13, t14, t15]).bind _) = _
        rw [e]
        rfl)
    exact ⟨t10, t11, t12, t13, t14, t15, e⟩
  obtain ⟨t10, t11, t12, t13, t14, t15, e3⟩ := e3
  have cvv : ∀ k, k < n → ∃ z : GQ, z = Po.conv p q k ∧ _law_cut.run [.int (cvL p q lp lq p.length k), .int (cvR p q lp lq p.length k), .int (lp * lq)] = some (.fz (tN z), []) := fun k hk => by
    obtain ⟨z1, z2⟩ := cv_sz hu hv p.length k
    have q1 := cut_run (a := cvL p q lp lq p.length k) dpos (z2.mono (show _ ≤ 90000000 by omega)) (hsp.mul hsq) (by omega) (by omega)
    refine ⟨_, ?_, q1⟩
    obtain ⟨v1, v2⟩ := cv_val hdp hdq p.length k
    have cc := Po.conv_len (p := p) (q := q) (k := k) (n := p.length) (Nat.le_refl _)
    rw [cc]
    have dd : ((lp : Rat) * lq) ≠ 0 := by have := ic_ne dpos; rwa [ic_mul] at this
    refine GQ.ext ?_ ?_
    · rw [v1, ic_mul]; grind
    · rw [v2, ic_mul]; grind
  have e4 : evX (.lc [11] (.nm 11) .rng1 [(.var 7)] [] (.call Pk._law_cut Pk.E__law_cut_3.pm [(.ixv 8 (.var 11)), (.ixv 9 (.var 11)), (.var 3)])) (ST ((List.range n).map fun k => .int (cvL p q lp lq p.length k)) ((List.range n).map fun k => .int (cvR p q lp lq p.length k)) t10 t11 t12 t13 t14 t15) =
      some (.ow (((List.range n).map fun k => Po.conv p q k).map tN), backG (ST ((List.range n).map fun k => .int (cvL p q lp lq p.length k)) ((List.range n).map fun k => .int (cvR p q lp lq p.length k)) t10 t11 t12 t13 t14 t15) (ST ((List.range n).map fun k => .int (cvL p q lp lq p.length k)) ((List.range n).map fun k => .int (cvR p q lp lq p.length k)) t10 t11 t12 t13 t14 t15) [11]) := by
    rw [List.map_map]
    exact lc_map (f := fun (k : Nat) => PyData.int k) (g := tN ∘ fun k => Po.conv p q k) (l := List.range n) (ds := [.int n]) (by simp [ST]) (by rw [it_r1 (by omega), rng0]) (by rw [List.length_range]; omega) fun x hx => by
      have hx := List.mem_range.mp hx
      obtain ⟨z, hz, c⟩ := cvv x hx
      have a1 := at_rng (n := n) (m := x) (g := fun k => PyData.int (cvL p q lp lq p.length k)) (k := (x : Int)) rfl hx
      have a2 := at_rng (n := n) (m := x) (g := fun k => PyData.int (cvR p q lp lq p.length k)) (k := (x : Int)) rfl hx
      exact ⟨ST ((List.range n).map fun k => .int (cvL p q lp lq p.length k)) ((List.range n).map fun k => .int (cvR p q lp lq p.length k)) t10 (.fz (.int x)) t12 t13 t14 t15, .fz (tN z), ST ((List.range n).map fun k => .int (cvL p q lp lq p.length k)) ((List.range n).map fun k => .int (cvR p q lp lq p.length k)) t10 (.fz (.int x)) t12 t13 t14 t15, by simp [wipeG, ST], by simp [ST, a1, a2, c], by rw [hz]; rfl, by simp [wipeG, ST]⟩
  have t := ltrim_run (p := (List.range n).map fun k => Po.conv p q k) (by simp; omega)
  have tt : Po.trim ((List.range n).map fun k => Po.conv p q k) = Po.trim (Po.mul p q) := Po.trim_congr fun k => by
    rw [Po.co_map, Po.co_mul]
    split
    · rfl
    · rw [Po.conv_ge (by omega)]
  rw [tt] at t
  have mxn : (if 1 < (p.length : Int) + (q.length : Int) then (p.length : Int) + (q.length : Int) - 1 else 0) = (n : Int) := by split <;> omega
  have r0 : (List.replicate n (PyData.int 0)) = (List.range n).map fun _ => .int 0 := (map_const_rep n _).symm
  rw [run__law_row_times, run0 (np := 2) (n := 16) (ds := [.list (p.map tN), .list (q.map tN)]) rfl]
  show (evB ir__law_row_times [.fz (.list (p.map tN)), .fz (.list (q.map tN)), .un, .un, .un, .un, .un, .un, .un, .un, .un, .un, .un, .un, .un, .un]).bind (outM false) = _
  unfold ir__law_row_times
  rw [b_cons']; conv in evS _ _ => simp
  rw [Option.bind_some, onNext_nx, b_cons', v_fr]
  have i1 : evs [(.lst [(.var 0), (.var 1)])] [.fz (.list (p.map tN)), .fz (.list (q.map tN)), .ow false [], .fz (.int 1), .un, .un, .un, .un, .un, .un, .un, .un, .un, .un, .un, .un] = some ([.list [.list (p.map tN), .list (q.map tN)]], [.fz (.list (p.map tN)), .fz (.list (q.map tN)), .ow false [], .fz (.int 1), .un, .un, .un, .un, .un, .un, .un, .un, .un, .un, .un, .un]) := by simp
  rw [i1, Option.bind_some]
  show (((some [PyData.list (p.map tN), .list (q.map tN)]).bind _).bind _).bind _ = _
  rw [Option.bind_some]
  have e12 : evF (.nm 4) (evB oneBody) [PyData.list (p.map tN), .list (q.map tN)] [.fz (.list (p.map tN)), .fz (.list (q.map tN)), .ow false [], .fz (.int 1), .un, .un, .un, .un, .un, .un, .un, .un, .un, .un, .un, .un] = some (.nx [.fz (.list (p.map tN)), .fz (.list (q.map tN)), .ow false [.list (p.map fun z => pD (pr lp z)), .list (q.map fun z => pD (pr lq z))], .fz (.int (lp * lq)), .fz (.list (q.map tN)), .fz (.int lq), s6'', .un, .un, .un, .un, .un, .un, .un, .un, .un]) := by
    rw [evF, as_nm _ _ _ (by simp), Option.bind_some]
    show ((evB oneBody [.fz (.list (p.map tN)), .fz (.list (q.map tN)), .ow false [], .fz (.int 1), .fz (.list (p.map tN)), .un, .un, .un, .un, .un, .un, .un, .un, .un, .un, .un]).bind _) = _
    rw [e1, Option.bind_some, onTurn_nx, evF, as_nm _ _ _ (by simp), Option.bind_some]
    show ((evB oneBody [.fz (.list (p.map tN)), .fz (.list (q.map tN)), .ow false [.list (p.map fun z => pD (pr lp z))], .fz (.int lp), .fz (.list (q.map tN)), .fz (.int lp), s6', .un, .un, .un, .un, .un, .un, .un, .un, .un]).bind _) = _
    rw [e2, Option.bind_some, onTurn_nx, evF]
  unfold oneBody lowBody at e12
  rw [e12, Option.bind_some, onNext_nx]
  have lc0 : (n : Int) ≤ 100000 ∧ -100000 ≤ (n : Int) ∧ n ≤ 1000000 := by omega
  rw [b_cons']; conv in evS _ _ => simp [mxn]
  rw [Option.bind_some, onNext_nx, b_cons']; conv in evS _ _ => simp [lc0.1, lc0.2.1, lc0.2.2, flat_rep, r0]
  rw [Option.bind_some, onNext_nx, b_cons', v_fr]
  have i2 : evs [(.lenv 0)] (ST ((List.range n).map fun _ => .int 0) ((List.range n).map fun _ => .int 0) .un .un .un .un .un .un) = some ([.int p.length], ST ((List.range n).map fun _ => .int 0) ((List.range n).map fun _ => .int 0) .un .un .un .un .un .un) := by simp [ST]
  show (((evs [(.lenv 0)] (ST ((List.range n).map fun _ => .int 0) ((List.range n).map fun _ => .int 0) .un .un .un .un .un .un)).bind _).bind _).bind _ = _
  rw [i2, Option.bind_some]
  show ((((itD .rng1 [.int p.length]).bind _)).bind _).bind _ = _
  rw [it_r1 (by omega), Option.bind_some, rng0]
  unfold ltBody at e3
  rw [e3, Option.bind_some, onNext_nx, b_cons', v_ret, x_call, s_cons', e4]
  simp [-List.map_map, t]
end Pk
end EvL

set_option Elab.async false
set_option linter.all false
set_option maxRecDepth 100000
set_option maxHeartbeats 1900000
namespace EvL
open PySem PySem.Spec PyProof.Rows L2
theorem Rz.add {b c : Nat} {p q : List GQ} (hp : Rz b p) (hq : Rz c q) (h1 : 1 ≤ b) (h2 : 1 ≤ c) : Rz (b + c + 1) (Po.add p q) := Rz.of_co fun k _ => by
  rw [Po.co_add]; exact (hp.co h1 k).add (hq.co h2 k)
theorem Rz.neg {b : Nat} {p : List GQ} (h : Rz b p) : Rz b (p.map fun z => -z) := fun z hz => by
  obtain ⟨y, hy, rfl⟩ := List.mem_map.mp hz
  exact (h y hy).neg
theorem Rz.mul {b c : Nat} {p q : List GQ} (hp : Rz b p) (hq : Rz c q) (h1 : 1 ≤ b) (h2 : 1 ≤ c) : Rz (p.length * (b + c + 2) + 1) (Po.mul p q) := Rz.of_co fun k _ => by
  rw [Po.co_mul, Po.conv_len (Nat.le_refl p.length)]
  exact Gz.sum (c := b + c + 1) fun j hj => by
    split
    · exact (hp.co h1 j).mul (hq.co h2 _)
    · exact Gz.zero (by omega)
theorem Gz.ev {b c : Nat} {x : GQ} (hx : Gz c x) (hc : 1 ≤ c) : ∀ {p : List GQ}, Rz b p → Gz ((p.length + 1) * (b + c + 2)) (Po.ev p x)
  | [], _ => Gz.zero (by simp)
  | a :: p, h => by
    have ih := Gz.ev hx hc (p := p) fun z hz => h z (List.mem_cons_of_mem _ hz)
    have ga := h a (List.mem_cons_self ..)
    rw [Po.ev_cons]
    refine (ga.add (hx.mul ih)).mono ?_
    rw [List.length_cons, Nat.succ_mul (p.length + 1)]; omega
namespace Pk
theorem drawn_run {c t L : Int} {l : List D} (h : F1.Pail c l) (hc : c + 10 < 1000000) (ht : 0 < t ∧ t ≤ 1000) (hL : 0 < L ∧ L ≤ 1000) : ∃ z l', _law_drawn.run [.list l, .int t, .int L] = some (.fz (tN z), l') ∧ (∃ a b d : Int, z.re = (a : Rat) / (d : Rat) ∧ z.im = (b : Rat) / (d : Rat) ∧ -t ≤ a ∧ a ≤ t ∧ -t ≤ b ∧ b ≤ t ∧ 1 ≤ d ∧ d ≤ L) ∧ F1.Pail (c + 4) l' := by
  have m1 : mulOk 2 t = true := mulOk_of (a := 2) (b := 11) (Sz.lit (by decide)) (Sz.of_lt (by omega) (by omega)) (by decide)
  obtain ⟨a, l2, e2, a0, a1, p2⟩ := F1.dip_run (m := 2 * t + 1) h (by omega) (by omega) (by omega)
  obtain ⟨b, l3, e3, b0, b1, p3⟩ := F1.dip_run (m := 2 * t + 1) p2 (by omega) (by omega) (by omega)
  obtain ⟨f, l4, e4, f0, f1, p4⟩ := F1.dip_run (m := 3) p3 (by omega) (by decide) (by decide)
  obtain ⟨d, l5, e5, d0, d1, p5⟩ := F1.dip_run (m := L) p4 (by omega) (by omega) (by omega)
  have s1 : Sz 11 (a - t) := Sz.of_lt (by omega) (by omega)
  have s2 : Sz 11 (b - t) := Sz.of_lt (by omega) (by omega)
  have s3 : Sz 11 (1 + d) := Sz.of_lt (by omega) (by omega)
  have s4 : Sz 11 (0 : Int) := Sz.lit (by decide)
  by_cases hf : f = 0
  · obtain ⟨z, q, gz, r1, r2⟩ := cut_ex (a := a - t) (b := 0) (d := 1 + d) (by omega) s1 s4 s3
    refine ⟨z, l5, ?_, ⟨_, _, _, r1, r2, by omega, by omega, by omega, by omega, by omega, by omega⟩, p5.up (by omega)⟩
    rw [run__law_drawn]
    simp [runB, List.replicate, ir__law_drawn, e2, e3, e4, e5, m1, hf, q]
  · obtain ⟨z, q, gz, r1, r2⟩ := cut_ex (a := a - t) (b := b - t) (d := 1 + d) (by omega) s1 s2 s3
    refine ⟨z, l5, ?_, ⟨_, _, _, r1, r2, by omega, by omega, by omega, by omega, by omega, by omega⟩, p5.up (by omega)⟩
    rw [run__law_drawn]
    simp [runB, List.replicate, ir__law_drawn, e2, e3, e4, e5, m1, hf, q]
theorem drawn_gz {b : Nat} {t L : Int} {z : GQ} (h : ∃ a b d : Int, z.re = (a : Rat) / (d : Rat) ∧ z.im = (b : Rat) / (d : Rat) ∧ -t ≤ a ∧ a ≤ t ∧ -t ≤ b ∧ b ≤ t ∧ 1 ≤ d ∧ d ≤ L) (h1 : t < 2 ^ b) (h2 : L < 2 ^ b) : Gz b z := by
  obtain ⟨a, c, d, r1, r2, _, _, _, _, _, _⟩ := h
  exact ⟨a, c, d, by omega, r1, r2, Sz.of_lt (by omega) (by omega), Sz.of_lt (by omega) (by omega), Sz.of_lt (by omega) (by omega)⟩
end Pk
end EvL

set_option Elab.async false
set_option linter.all false
set_option maxRecDepth 100000
namespace EvL
namespace Po
section
variable {K : Type} [Lean.Grind.Field K]
/-! ### division by z - x, hand over hand -/
def syn (x : K) : List K → List K
  | [] => []
  | a :: p => match syn x p with
    | [] => [a]
    | b :: q => (a + x * b) :: b :: q
theorem syn_len (x : K) (p : List K) : (syn x p).length = p.length := by
  induction p with
  | nil => rfl
  | cons a p ih =>
    rw [syn]
    cases h : syn x p with
    | nil => rw [h] at ih; simp only [List.length_cons, List.length_nil] at ih ⊢; omega
    | cons b q => rw [h] at ih; simpa using ih
theorem syn_ev (x : K) : ∀ {p : List K} {b : K} {q : List K}, syn x p = b :: q → ∀ z, ev p z = b + (z - x) * ev q z
  | [], b, q, h, z => by cases h
  | a :: p, b, q, h, z => by
    rw [syn] at h
    cases e : syn x p with
    | nil =>
      rw [e] at h
      have h0 : p = [] := by
        have := syn_len x p
        rw [e] at this
        exact List.length_eq_zero_iff.mp this.symm
      subst h0
      obtain ⟨rfl, rfl⟩ : a = b ∧ [] = q := by simpa using h
      simp [ev_cons]; grind
    | cons c r =>
      rw [e] at h
      have ih := syn_ev x e z
      obtain ⟨rfl, rfl⟩ : a + x * c = b ∧ c :: r = q := by simpa using h
      rw [ev_cons, ev_cons, ih]; grind
theorem syn_co (x : K) : ∀ {p : List K} {b : K} {q : List K}, syn x p = b :: q → co p 0 = b - x * co q 0 ∧ ∀ k, co p (k + 1) = co q k - x * co q (k + 1)
  | [], b, q, h => by cases h
  | a :: p, b, q, h => by
    rw [syn] at h
    cases e : syn x p with
    | nil =>
      rw [e] at h
      have h0 : p = [] := by
        have := syn_len x p
        rw [e] at this
        exact List.length_eq_zero_iff.mp this.symm
      subst h0
      obtain ⟨rfl, rfl⟩ : a = b ∧ [] = q := by simpa using h
      constructor
      · simp; grind
      · intro k; simp; grind
    | cons c r =>
      rw [e] at h
      obtain ⟨i1, i2⟩ := syn_co x e
      obtain ⟨rfl, rfl⟩ : a + x * c = b ∧ c :: r = q := by simpa using h
      constructor
      · simp; grind
      · intro k
        cases k with
        | zero => simp only [co_succ, co_zero, i1]
        | succ k => simp only [co_succ, i2 k]
/-! values tell the row -/
theorem zero_of {pts : Nat → K} (inj : ∀ i j, pts i = pts j → i = j) : ∀ (n m : Nat) (p : List K), p.length ≤ n → (∀ i, m ≤ i → i < m + n → ev p (pts i) = 0) → ∀ k, co p k = 0
  | 0, m, p, hl, _, k => by
    have : p = [] := List.length_eq_zero_iff.mp (by omega)
    subst this; rfl
  | n + 1, m, p, hl, h, k => by
    cases e : syn (pts m) p with
    | nil =>
      have h0 : p = [] := by
        have := syn_len (pts m) p
        rw [e] at this
        exact List.length_eq_zero_iff.mp this.symm
      subst h0; rfl
    | cons b q =>
      have hq : q.length ≤ n := by
        have := syn_len (pts m) p
        rw [e] at this
        simp at this; omega
      have hb : b = 0 := by
        have h1 := syn_ev (pts m) e (pts m)
        rw [h m (Nat.le_refl _) (by omega)] at h1
        grind
      have ih := zero_of inj n (m + 1) q hq fun i h1 h2 => by
        have h3 := syn_ev (pts m) e (pts i)
        rw [h i (by omega) (by omega), hb] at h3
        have ne : pts i - pts m ≠ 0 := fun z => by
          have : pts i = pts m := by grind
          have := inj i m this
          omega
        grind
      obtain ⟨c0, c1⟩ := syn_co (pts m) e
      cases k with
      | zero => rw [c0, hb, ih]; grind
      | succ k => rw [c1, ih, ih]; grind
theorem ext_ev {pts : Nat → K} (inj : ∀ i j, pts i = pts j → i = j) {p q : List K} (h : ∀ z, ev p z = ev q z) (k : Nat) : co p k = co q k := by
  have z := zero_of inj (add p (q.map (fun z => -z))).length 0 (add p (q.map (fun z => -z))) (Nat.le_refl _) (fun i _ _ => by
    rw [ev_add]
    have : ev (q.map fun z => -z) (pts i) = -ev q (pts i) := by
      have := ev_map_mul (-1) q (pts i)
      have e : (q.map fun z => -z) = q.map ((-1) * ·) := List.map_congr_left fun a _ => by grind
      rw [e, this]; grind
    rw [this, h]; grind) k
  rw [co_add, co_mapf (by grind)] at z
  grind
end
end Po
namespace GQ
def nat (n : Nat) : GQ := ⟨n, 0⟩
theorem nat_inj : ∀ i j, nat i = nat j → i = j := fun i j h => by
  have := congrArg GQ.re h
  simp [nat] at this
  exact_mod_cast this
end GQ
theorem Po.ext_gq {p q : List GQ} (h : ∀ z, Po.ev p z = Po.ev q z) (k : Nat) : Po.co p k = Po.co q k := Po.ext_ev GQ.nat_inj h k
end EvL

set_option Elab.async false
set_option linter.all false
set_option maxRecDepth 100000
set_option maxHeartbeats 1900000
namespace EvL
open PySem PySem.Spec PyProof.Rows L2
/-! ### rows with one number below -/
def RC (b : Nat) (p : List GQ) : Prop := ∃ d : Int, 0 < d ∧ Sz b d ∧ ∀ k, ∃ n m : Int, (Po.co p k).re = (n : Rat) / (d : Rat) ∧ (Po.co p k).im = (m : Rat) / (d : Rat) ∧ Sz b n ∧ Sz b m
theorem RC.mono {a b : Nat} {p : List GQ} (h : RC a p) (hb : a ≤ b) : RC b p := by
  obtain ⟨d, h0, h1, h2⟩ := h
  exact ⟨d, h0, h1.mono hb, fun k => by
    obtain ⟨n, m, e1, e2, s1, s2⟩ := h2 k
    exact ⟨n, m, e1, e2, s1.mono hb, s2.mono hb⟩⟩
theorem RC.gz {b : Nat} {p : List GQ} (h : RC b p) (k : Nat) : Gz b (Po.co p k) := by
  obtain ⟨d, h0, h1, h2⟩ := h
  obtain ⟨n, m, e1, e2, s1, s2⟩ := h2 k
  exact ⟨n, m, d, h0, e1, e2, s1, s2, h1⟩
theorem RC.rz {b : Nat} {p : List GQ} (h : RC b p) : Rz b p := Rz.of_co fun k _ => h.gz k
theorem sz0 (b : Nat) : Sz b (0 : Int) := Sz.lit (by simp; exact Nat.pow_pos (by decide))
theorem RC.nil {b : Nat} (hb : 1 ≤ b) : RC b [] := ⟨1, by decide, Sz.mono (a := 1) (Sz.lit (by decide)) hb, fun k => ⟨0, 0, by simp; grind, by simp; grind, sz0 b, sz0 b⟩⟩
theorem RC.trim {b : Nat} {p : List GQ} (h : RC b p) : RC b (Po.trim p) := by
  obtain ⟨d, h0, h1, h2⟩ := h
  exact ⟨d, h0, h1, fun k => by rw [Po.co_trim]; exact h2 k⟩
/-- one number below for one more number -/
theorem RC.cons {b c : Nat} {a : GQ} {p : List GQ} (ha : Gz c a) (h : RC b p) : RC (b + c) (a :: p) := by
  obtain ⟨d, h0, h1, h2⟩ := h
  obtain ⟨n, m, e, g0, g1, g2, t1, t2, t3⟩ := ha
  have hd := ic_ne (show d ≠ 0 by omega)
  have he := ic_ne (show e ≠ 0 by omega)
  refine ⟨d * e, Int.mul_pos h0 g0, h1.mul t3, fun k => ?_⟩
  cases k with
  | zero => exact ⟨n * d, m * d, by simp only [Po.co_zero, g1, ic_mul]; grind, by simp only [Po.co_zero, g2, ic_mul]; grind, (t1.mul h1).mono (by omega), (t2.mul h1).mono (by omega)⟩
  | succ k =>
    obtain ⟨n', m', e1, e2, s1, s2⟩ := h2 k
    exact ⟨n' * e, m' * e, by simp only [Po.co_succ, e1, ic_mul]; grind, by simp only [Po.co_succ, e2, ic_mul]; grind, s1.mul t3, s2.mul t3⟩
theorem RC.of {b : Nat} {p : List GQ} (h : Rz b p) : RC (p.length * b + 1) p := by
  induction p with
  | nil => exact RC.nil (by omega)
  | cons a p ih =>
    have := RC.cons (h a (List.mem_cons_self ..)) (ih fun z hz => h z (List.mem_cons_of_mem _ hz))
    exact this.mono (by rw [List.length_cons, Nat.succ_mul]; omega)
/-- numbers that are sums of two and of one times another one -/
theorem RC.lin {b c : Nat} {p q : List GQ} {x : GQ} (h : RC b p) (hx : Gz c x) (f g : Nat → Nat) (e : ∀ k, (∃ i j, Po.co q k = Po.co p i + x * Po.co p j) ∨ ∃ i, Po.co q k = Po.co p i) : RC (b + c + 2) q := by
  obtain ⟨d, h0, h1, h2⟩ := h
  obtain ⟨u, v, w, g0, g1, g2, t1, t2, t3⟩ := hx
  have hd := ic_ne (show d ≠ 0 by omega)
  have hw := ic_ne (show w ≠ 0 by omega)
  refine ⟨d * w, Int.mul_pos h0 g0, (h1.mul t3).mono (by omega), fun k => ?_⟩
  rcases e k with ⟨i, j, ek⟩ | ⟨i, ek⟩
  · obtain ⟨n, m, e1, e2, s1, s2⟩ := h2 i
    obtain ⟨n', m', e1', e2', s1', s2'⟩ := h2 j
    refine ⟨n * w + (u * n' - v * m'), m * w + (u * m' + v * n'), ?_, ?_, ((s1.mul t3).add ((t1.mul s1').sub (t2.mul s2'))).mono (by omega), ((s2.mul t3).add ((t1.mul s2').add (t2.mul s1'))).mono (by omega)⟩
    · rw [ek, GQ.add_re, GQ.mul_re, e1, e1', e2', g1, g2]; simp only [ic_mul, ic_add, ic_sub]; grind
    · rw [ek, GQ.add_im, GQ.mul_im, e2, e1', e2', g1, g2]; simp only [ic_mul, ic_add, ic_sub]; grind
  · obtain ⟨n, m, e1, e2, s1, s2⟩ := h2 i
    exact ⟨n * w, m * w, by rw [ek, e1]; simp only [ic_mul]; grind, by rw [ek, e2]; simp only [ic_mul]; grind, (s1.mul t3).mono (by omega), (s2.mul t3).mono (by omega)⟩
end EvL

set_option Elab.async false
set_option linter.all false
set_option maxRecDepth 100000
set_option maxHeartbeats 1900000
namespace EvL
open PySem PySem.Spec PyProof.Rows L2
/-- counting down by one -/
theorem it_down {a b : Int} (h1 : -1000000 ≤ a ∧ a ≤ 1000000) (h2 : -1000000 ≤ b ∧ b ≤ 1000000) : itD .rng3 [.int a, .int b, .int (-1)] = some ((List.range (a - b).toNat).map fun (k : Nat) => PyData.int (a - k)) := by
  have hs : Builtin.Range.rangeSize a b (-1) = ((a - b).toNat : Int) := by
    unfold Builtin.Range.rangeSize
    rw [if_neg (by decide)]
    split
    · rw [show (-(-1) : Int) = 1 by decide, Int.ediv_one]; omega
    · omega
  have sm : Builtin.Range.small a b (-1) = true := by
    unfold Builtin.Range.small
    have f : ∀ z : Int, -3000000 ≤ z → z ≤ 3000000 → Builtin.Range.rangeFitsLong z = true := fun z q1 q2 => by
      unfold Builtin.Range.rangeFitsLong; simp; omega
    rw [hs, f a (by omega) (by omega), f b (by omega) (by omega), f (-1) (by decide) (by decide), f ((a - b).toNat : Int) (by omega) (by omega)]
    simp [f (b + (-1 + 1)) (by omega) (by omega)]
    right; exact f b (by omega) (by omega)
  show (if smallI a && smallI b && smallI (-1) && decide ((-1 : Int) ≠ 0) && Builtin.Range.small a b (-1) then some ((List.range (Builtin.Range.rangeSize a b (-1)).toNat).map fun (k : Nat) => PyData.int (a + (k : Int) * (-1))) else none) = _
  rw [sm, hs, if_pos (by simp [smallI, h1, h2])]
  congr 1
  refine List.map_congr_left fun k _ => ?_
  congr 1; omega
namespace Pk
end Pk
end EvL

set_option Elab.async false
set_option linter.all false
set_option maxRecDepth 100000
set_option maxHeartbeats 1900000
namespace EvL
open PySem PySem.Spec PyProof.Rows L2
namespace Pk
end Pk
end EvL

set_option Elab.async false
set_option linter.all false
set_option maxRecDepth 100000
set_option maxHeartbeats 8000000
namespace EvL
open PySem PySem.Spec PyProof.Rows L2
theorem size_mul (x y : GQ) : (x * y).size = x.size * y.size := by
  unfold GQ.size
  simp only [GQ.mul_re, GQ.mul_im]; grind
theorem bent_bent (x : GQ) : x.bent.bent = x := by ext <;> simp
theorem bent_zero : (0 : GQ).bent = 0 := by ext <;> simp
theorem bent_ne {x : GQ} (h : x ≠ 0) : x.bent ≠ 0 := fun z => h (by rw [← bent_bent x, z, bent_zero])
namespace Pk
theorem drawn43 {c : Int} {l : List PyData} (h : F1.Pail c l) (hc : c + 10 < 1000000) : ∃ z l', _law_drawn.run [.list l, .int 4, .int 3] = some (.fz (tN z), l') ∧ Gz 3 z ∧ F1.Pail (c + 4) l' := by
  obtain ⟨z, l', e, hz, hp⟩ := drawn_run (t := 4) (L := 3) h hc (by decide) (by decide)
  exact ⟨z, l', e, drawn_gz hz (by decide) (by decide), hp⟩
/-- a list of numbers from what is told of each -/
theorem rows_of {b : Nat} : ∀ {ys : List PyData}, (∀ y ∈ ys, ∃ z, y = tN z ∧ Gz b z) → ∃ p : List GQ, ys = p.map tN ∧ Rz b p
  | [], _ => ⟨[], rfl, fun z hz => nomatch hz⟩
  | y :: ys, h => by
    obtain ⟨z, rfl, gz⟩ := h y (List.mem_cons_self ..)
    obtain ⟨p, rfl, hp⟩ := rows_of fun x hx => h x (List.mem_cons_of_mem _ hx)
    exact ⟨z :: p, rfl, fun x hx => by
      rcases List.mem_cons.mp hx with rfl | hx
      · exact gz
      · exact hp x hx⟩
end Pk
end EvL

set_option Elab.async false
set_option linter.all false
set_option maxRecDepth 100000
set_option maxHeartbeats 1900000
namespace EvL
open PySem PySem.Spec PyProof.Rows L2
namespace Pk
/-! ### family 2: the laws' own numbers -/
@[simp] theorem common_eq : _law_common = F1.gcd := rfl
section
variable {x y : GQ} (hx : Gz 1900000 x) (hy : Gz 1900000 y)
include hx hy
end
end Pk
end EvL

set_option Elab.async false
set_option linter.all false
set_option maxRecDepth 100000
set_option maxHeartbeats 1900000
namespace EvL
open PySem PySem.Spec PyProof.Rows L2
namespace Pk
end Pk
end EvL

set_option Elab.async false
set_option linter.all false
set_option maxRecDepth 100000
set_option maxHeartbeats 1900000
namespace EvL
open PySem PySem.Spec PyProof.Rows L2
namespace Pk
/-- a bound as family 2 draws it -/
structure Bd (b : Rat) : Prop where
  pos : 0 < b
  sz : Qz 7 b
theorem Bd.one : Bd 1 := ⟨by decide, Sz.lit (by decide), Sz.lit (by decide)⟩
theorem Bd.ne {b : Rat} (h : Bd b) : b ≠ 0 := fun z => by have := h.pos; rw [z] at this; exact absurd this (by decide)
theorem Bd.num {b : Rat} (h : Bd b) : 1 ≤ b.num ∧ b.num < 128 ∧ 1 ≤ (b.den : Int) ∧ (b.den : Int) < 128 := by
  have h1 := h.sz.1; have h2 := h.sz.2
  unfold Sz at h1 h2
  have h3 : 0 < b.num := by
    have h5 : 0 ≤ b.num := Rat.num_nonneg.mpr (by have := h.pos; grind)
    have h6 : b.num ≠ 0 := fun z => h.ne (Rat.num_eq_zero.mp z)
    omega
  have h4 := den_pos b
  omega
end Pk
end EvL

set_option Elab.async false
set_option linter.all false
set_option maxRecDepth 100000
set_option maxHeartbeats 1900000
namespace EvL
open PySem PySem.Spec PyProof.Rows L2
namespace Pk
end Pk
end EvL

set_option Elab.async false
set_option linter.all false
set_option maxRecDepth 100000
set_option maxHeartbeats 1900000
namespace EvL
open PySem PySem.Spec PyProof.Rows L2
/-! ### turns of a disc: u (z - c) / (1 - c' z / b) -/
def low (c : GQ) (b : Rat) : GQ := c.bent * GQ.ofR (1 / b)
def lead (u c : GQ) (b : Rat) (z : GQ) : Option GQ := if 1 - low c b * z = 0 then none else some (u * (z - c) / (1 - low c b * z))
/-- what keeps the disc -/
structure Turn (b : Rat) (u c : GQ) : Prop where
  one : u.size = 1
  lt : c.size < b
theorem ofR_ne {b : Rat} (h : b ≠ 0) : GQ.ofR b ≠ 0 := fun w => by
  have := congrArg GQ.re w; simp at this; exact h this
theorem size_bent (c : GQ) : c.bent.size = c.size := by simp [GQ.size]; grind
theorem mul_bent' (x : GQ) : x * x.bent = GQ.ofR x.size := by
  ext
  · simp [GQ.size]; grind
  · simp [GQ.size]; grind
def bwA (u c d : GQ) (b : Rat) : GQ := u + d * low c b
def bwu (u c v d : GQ) (b : Rat) : GQ := v * bwA u c d b / (u * (bwA u c d b).bent)
def bwc (u c d : GQ) (b : Rat) : GQ := (u * c + d) / bwA u c d b
/-- b |A|^2 - |u c + d|^2 = (b - |c|^2) (b - |d|^2) / b -/
theorem bw_size {u c d : GQ} {b : Rat} (hb : b ≠ 0) (hu : u.size = 1) : b * (bwA u c d b).size - (u * c + d).size = (b - c.size) * (b - d.size) / b := by
  have hu' : u.re * u.re + u.im * u.im = 1 := hu
  obtain ⟨k, hk⟩ : ∃ k : Rat, k = 1 / b := ⟨_, rfl⟩
  have hkb : k * b = 1 := by grind
  have e : (b - c.size) * (b - d.size) / b = (b - c.size) * (b - d.size) * k := by grind
  rw [e]
  unfold bwA low
  rw [← hk]
  obtain ⟨ur, ui⟩ := u; obtain ⟨cr, ci⟩ := c; obtain ⟨dr, di⟩ := d
  simp only [GQ.size, GQ.add_re, GQ.add_im, GQ.mul_re, GQ.mul_im, GQ.bent_re, GQ.bent_im, GQ.ofR_re, GQ.ofR_im] at hu' ⊢
  clear e hk
  grind
theorem bw_ne {u c d : GQ} {b : Rat} (hb : 0 < b) (hu : u.size = 1) (hc : c.size < b) (hd : d.size < b) : bwA u c d b ≠ 0 := fun z => by
  have hb0 : b ≠ 0 := by grind
  have e := bw_size (c := c) (d := d) hb0 hu
  rw [z, GQ.size_eq_zero.mpr rfl] at e
  have p : 0 < (b - c.size) * (b - d.size) := Rat.mul_pos (by grind) (by grind)
  have q : 0 < (b - c.size) * (b - d.size) / b := by rw [Rat.lt_div_iff hb]; grind
  have := GQ.size_nonneg (u * c + d)
  grind
theorem size_inv {x : GQ} (h : x ≠ 0) : (x⁻¹).size = 1 / x.size := by
  have hs := GQ.size_ne h
  have e : x.size = x.re * x.re + x.im * x.im := rfl
  have e2 : (x⁻¹).size = x.re / x.size * (x.re / x.size) + -x.im / x.size * (-x.im / x.size) := rfl
  rw [e2]
  grind
theorem size_div (x : GQ) {y : GQ} (h : y ≠ 0) : (x / y).size = x.size / y.size := by
  rw [GQ.div_def, size_mul, size_inv h]; grind
theorem Turn.behind {b : Rat} {u c v d : GQ} (hb : 0 < b) (h : Turn b u c) (g : Turn b v d) : Turn b (bwu u c v d b) (bwc u c d b) := by
  have ne := bw_ne hb h.one h.lt g.lt
  have un : u ≠ 0 := fun z => by have := h.one; rw [z, GQ.size_eq_zero.mpr rfl] at this; exact absurd this (by decide)
  have an := bent_ne ne
  have pn : u * (bwA u c d b).bent ≠ 0 := fun z => by
    have := congrArg GQ.size z
    rw [size_mul, h.one, GQ.size_eq_zero.mpr rfl] at this
    exact GQ.size_ne an (by grind)
  refine ⟨?_, ?_⟩
  · unfold bwu
    rw [size_div _ pn, size_mul, size_mul, size_bent, h.one, g.one]
    have := GQ.size_ne ne
    grind
  · unfold bwc
    rw [size_div _ ne]
    have sp : 0 < (bwA u c d b).size := by have := GQ.size_nonneg (bwA u c d b); have := GQ.size_ne ne; grind
    rw [Rat.div_lt_iff sp]
    have e := bw_size (c := c) (d := d) (show b ≠ 0 by grind) h.one
    have p : 0 < (b - c.size) * (b - d.size) := Rat.mul_pos (by have := h.lt; grind) (by have := g.lt; grind)
    have q : 0 < (b - c.size) * (b - d.size) / b := by rw [Rat.lt_div_iff hb]; grind
    grind
theorem Turn.back {b : Rat} {u c : GQ} (h : Turn b u c) : Turn b u.bent (-(u * c)) := by
  refine ⟨by rw [size_bent]; exact h.one, ?_⟩
  have e : (-(u * c)).size = (u * c).size := by simp [GQ.size]; grind
  rw [e, size_mul, h.one]
  have := h.lt
  grind
end EvL

set_option Elab.async false
set_option linter.all false
set_option maxRecDepth 100000
set_option maxHeartbeats 1900000
namespace EvL
open PySem PySem.Spec PyProof.Rows L2
namespace Pk
theorem Bd.inv {b : Rat} (h : Bd b) : Qz 7 (1 / b) := by
  have n0 : b.num ≠ 0 := by have := h.num; omega
  have := Qz.of (n := b.den) (d := b.num) n0 h.sz.2 h.sz.1
  have e : ((b.den : Int) : Rat) / (b.num : Rat) = 1 / b := by
    have q1 := num_den' b; have q2 := ic_ne (den_ne b); have q3 := ic_ne n0
    grind
  rwa [e] at this
@[simp] theorem ck_bound_run {b : Rat} (hb : Bd b) : check_bound.run [qD b] = some (.fz .none, []) := by
  have n1 := hb.num.1
  have e : is_bound.run [qD b] = some (.fz (.bool true), []) := by
    rw [run_is_bound]
    have f := frac_of b
    have np : 0 < b.num := by omega
    simp only [qD] at f ⊢
    simp [runB, List.replicate, ir_is_bound, f, np]
  rw [run_check_bound]
  simp [runB, List.replicate, ir_check_bound, e]
end Pk
end EvL

set_option Elab.async false
set_option linter.all false
set_option maxRecDepth 100000
set_option maxHeartbeats 1900000
namespace EvL
open PySem PySem.Spec PyProof.Rows L2
namespace Pk
theorem scaled_run {b c : Nat} {p : List GQ} {u : GQ} (hp : Rz b p) (hu : Gz c u) (hb : b ≤ 1900000) (hc : c ≤ 1900000) (hl : p.length ≤ 1000) : row_scaled.run [rD p, gD u] = some (.fz (rD (Po.trim (p.map (· * u)))), []) := by
  have e := lc_map (f := gD) (g := gD ∘ fun x => x * u) (vs := [2]) (t := .nm 2) (k := .seq) (its := [(.var 0)]) (elt := (.call Pk.num_product Pk.E_num_product_2.pm [(.var 2), (.var 1)])) (Γ := [.fz (rD p), .fz (gD u), .un]) (Γ1 := [.fz (rD p), .fz (gD u), .un]) (ds := [rD p]) (l := p) (by simp) (by simp [rD]) (by omega) fun x hx => by
    have q := num_product_run ((hp x hx).mono hb) (hu.mono hc)
    exact ⟨[.fz (rD p), .fz (gD u), .fz (gD x)], .fz (gD (x * u)), [.fz (rD p), .fz (gD u), .fz (gD x)], by simp [wipeG], by simp [q], rfl, rfl⟩
  have t := trimmed_l (p := p.map (· * u)) (by rw [List.length_map]; omega)
  rw [List.map_map] at t
  rw [run_row_scaled, run0 (np := 2) (n := 3) (ds := [rD p, gD u]) rfl]
  show (evB ir_row_scaled [.fz (rD p), .fz (gD u), .un]).bind (outM false) = _
  unfold ir_row_scaled
  rw [b_cons', v_ret, x_call, s_cons', e]
  simp [-List.map_map, t]
end Pk
end EvL

set_option Elab.async false
set_option linter.all false
set_option maxRecDepth 100000
set_option maxHeartbeats 8000000
namespace EvL
open PySem PySem.Spec PyProof.Rows L2
namespace Pk
end Pk
end EvL

set_option Elab.async false
set_option linter.all false
set_option maxRecDepth 100000
set_option maxHeartbeats 8000000
namespace EvL
open PySem PySem.Spec PyProof.Rows L2
/-! ### ratios of whole complex numbers -/
def Gi (b : Nat) (z : GQ) : Prop := ∃ n m : Int, z = ⟨(n : Rat), (m : Rat)⟩ ∧ Sz b n ∧ Sz b m
theorem Gi.mono {a b : Nat} {z : GQ} (h : Gi a z) (hb : a ≤ b) : Gi b z := by
  obtain ⟨n, m, e, h1, h2⟩ := h; exact ⟨n, m, e, h1.mono hb, h2.mono hb⟩
theorem Gi.mul {a b : Nat} {x y : GQ} (h : Gi a x) (g : Gi b y) : Gi (a + b + 1) (x * y) := by
  obtain ⟨n, m, rfl, h1, h2⟩ := h; obtain ⟨n', m', rfl, g1, g2⟩ := g
  refine ⟨n * n' - m * m', n * m' + m * n', ?_, ((h1.mul g1).sub (h2.mul g2)).mono (by omega), ((h1.mul g2).add (h2.mul g1)).mono (by omega)⟩
  ext <;> simp [ic_mul, ic_sub, ic_add]
theorem Gi.add {a b : Nat} {x y : GQ} (h : Gi a x) (g : Gi b y) : Gi (max a b + 1) (x + y) := by
  obtain ⟨n, m, rfl, h1, h2⟩ := h; obtain ⟨n', m', rfl, g1, g2⟩ := g
  exact ⟨n + n', m + m', by ext <;> simp [ic_add], h1.add g1, h2.add g2⟩
theorem Gi.neg {a : Nat} {x : GQ} (h : Gi a x) : Gi a (-x) := by
  obtain ⟨n, m, rfl, h1, h2⟩ := h
  exact ⟨-n, -m, by ext <;> simp [ic_neg], h1.neg, h2.neg⟩
theorem Gi.sub {a b : Nat} {x y : GQ} (h : Gi a x) (g : Gi b y) : Gi (max a b + 1) (x - y) := by
  have : x - y = x + -y := by grind
  rw [this]; exact h.add g.neg
theorem Gi.bent {a : Nat} {x : GQ} (h : Gi a x) : Gi a x.bent := by
  obtain ⟨n, m, rfl, h1, h2⟩ := h
  exact ⟨n, -m, by ext <;> simp [ic_neg], h1, h2.neg⟩
theorem Gi.int {a : Nat} {n : Int} (h : Sz a n) : Gi a (GQ.ofR (n : Rat)) := ⟨n, 0, by ext <;> simp, h, sz0 a⟩
/-- a ratio is a number with parts over one whole number -/
theorem Gi.over {a b : Nat} {x y : GQ} (h : Gi a x) (g : Gi b y) (y0 : y ≠ 0) : Gz (max (a + b) (2 * b) + 1) (x / y) := by
  obtain ⟨n', m', e, g1, g2⟩ := g.bent
  have ys : y * y.bent = GQ.ofR y.size := mul_bent' y
  have s0 := GQ.size_ne y0
  obtain ⟨p, q, e2, p1, p2⟩ := h.mul g.bent
  obtain ⟨k, l, rfl, k1, k2⟩ := g
  have es : GQ.size ⟨(k : Rat), (l : Rat)⟩ = ((k * k + l * l : Int) : Rat) := by simp [GQ.size, ic_mul, ic_add]
  have sq : ∀ i : Int, 0 ≤ i * i := fun i => by rcases Int.le_total 0 i with q | q; exact Int.mul_nonneg q q; exact Int.mul_nonneg_of_nonpos_of_nonpos q q
  have np : 0 < k * k + l * l := by
    have z : k * k + l * l ≠ 0 := fun z => s0 (by rw [es, z]; rfl)
    have := sq k; have := sq l; omega
  have ed : x / ⟨(k : Rat), (l : Rat)⟩ = x * GQ.bent ⟨(k : Rat), (l : Rat)⟩ * GQ.ofR (1 / GQ.size ⟨(k : Rat), (l : Rat)⟩) := by
    rw [GQ.div_def]
    generalize (⟨(k : Rat), (l : Rat)⟩ : GQ) = y at *
    have : y⁻¹ = y.bent * GQ.ofR (1 / y.size) := by
      ext <;> simp <;> grind
    rw [this]; grind
  rw [ed, e2, es]
  refine ⟨p, q, k * k + l * l, np, ?_, ?_, p1.mono (by omega), p2.mono (by omega), ((k1.mul k1).add (k2.mul k2)).mono (by omega)⟩
  · simp; grind
  · simp; grind
theorem Gz.frac {a : Nat} {x : GQ} (h : Gz a x) : ∃ N : GQ, ∃ d : Int, 0 < d ∧ x * GQ.ofR (d : Rat) = N ∧ Gi a N ∧ Sz a d := by
  obtain ⟨n, m, d, h0, h1, h2, s1, s2, s3⟩ := h
  have d1 := ic_ne (show d ≠ 0 by omega)
  exact ⟨⟨(n : Rat), (m : Rat)⟩, d, h0, by ext <;> simp <;> grind, ⟨n, m, rfl, s1, s2⟩, s3⟩
theorem ofI_ne {d : Int} (h : 0 < d) : GQ.ofR (d : Rat) ≠ 0 := ofR_ne (ic_ne (by omega))
namespace Pk
section
variable {a b : Nat} {x y : GQ} (hx : Gz a x) (hy : Gz b y) (hab : a + b ≤ 4440000)
include hx hy hab
theorem num_less_run' : num_less.run [gD x, gD y] = some (.fz (gD (x - y)), []) := by
  have key : ∀ {x y : Rat}, Qz a x → Qz b y → frac_less.run [qD x, qD y] = some (.fz (qD (x - y)), []) := fun {x y} hx hy => by
    obtain ⟨x1, x2⟩ := hx; obtain ⟨y1, y2⟩ := hy
    have q := reduced_run (n := x.num * y.den - y.num * x.den) (m := x.den * y.den) (nz (den_ne x) (den_ne y)) ((x2.mul y2).mono (by omega))
    have e : (((x.num * y.den - y.num * x.den : Int)) : Rat) / ((x.den * y.den : Int) : Rat) = x - y := by
      have e1 := num_den' x; have e2 := num_den' y; have d1 := ic_ne (den_ne x); have d2 := ic_ne (den_ne y)
      rw [ic_sub, ic_mul, ic_mul, ic_mul]; grind
    rw [e] at q
    have m1 : mulOk x.num y.den = true := mulOk_of x1 y2 (by omega)
    have m2 : mulOk y.num x.den = true := mulOk_of y1 x2 (by omega)
    have m3 : mulOk x.den y.den = true := mulOk_of x2 y2 (by omega)
    rw [run_frac_less]
    simp [qD] at q
    simp [runB, List.replicate, ir_frac_less, qD, m1, m2, m3, q]
  have e1 := key hx.re hy.re
  have e2 := key hx.im hy.im
  rw [run_num_less]
  simp [runB, List.replicate, ir_num_less, gD, e1, e2]
theorem num_product_run' : num_product.run [gD x, gD y] = some (.fz (gD (x * y)), []) := by
  obtain ⟨a1, a2⟩ := hx.re; obtain ⟨b1, b2⟩ := hx.im
  obtain ⟨c1, c2⟩ := hy.re; obtain ⟨d1, d2⟩ := hy.im
  have s1 := a2.mul b2; have s2 := s1.mul c2; have s3 := s2.mul d2
  have n0 := nz (nz (nz (den_ne x.re) (den_ne x.im)) (den_ne y.re)) (den_ne y.im)
  have q1 := reduced_run (n := x.re.num * y.re.num * x.im.den * y.im.den - x.im.num * y.im.num * x.re.den * y.re.den) (m := x.re.den * x.im.den * y.re.den * y.im.den) n0 (s3.mono (by omega))
  have q2 := reduced_run (n := x.re.num * y.im.num * x.im.den * y.re.den + x.im.num * y.re.num * x.re.den * y.im.den) (m := x.re.den * x.im.den * y.re.den * y.im.den) n0 (s3.mono (by omega))
  have e1 := num_den' x.re; have e2 := num_den' x.im; have e3 := num_den' y.re; have e4 := num_den' y.im
  have f1 := ic_ne (den_ne x.re); have f2 := ic_ne (den_ne x.im); have f3 := ic_ne (den_ne y.re); have f4 := ic_ne (den_ne y.im)
  have r1 : (((x.re.num * y.re.num * x.im.den * y.im.den - x.im.num * y.im.num * x.re.den * y.re.den : Int)) : Rat) / ((x.re.den * x.im.den * y.re.den * y.im.den : Int) : Rat) = x.re * y.re - x.im * y.im := by
    simp only [ic_sub, ic_mul]; rw [alg1 f1 f2 f3 f4, ← e1, ← e2, ← e3, ← e4]
  have r2 : (((x.re.num * y.im.num * x.im.den * y.re.den + x.im.num * y.re.num * x.re.den * y.im.den : Int)) : Rat) / ((x.re.den * x.im.den * y.re.den * y.im.den : Int) : Rat) = x.re * y.im + x.im * y.re := by
    simp only [ic_add, ic_mul]; rw [alg2 f1 f2 f3 f4, ← e1, ← e2, ← e3, ← e4]
  rw [r1] at q1; rw [r2] at q2
  have t1 := a1.mul c1; have t2 := t1.mul b2; have t3 := b1.mul d1; have t4 := t3.mul a2
  have t5 := a1.mul d1; have t6 := t5.mul b2; have t7 := b1.mul c1; have t8 := t7.mul a2
  rw [run_num_product]
  simp (disch := first | assumption | (simp; done) | exact EvL.mulOk_of (by assumption) (by assumption) (by omega)) [qD] at q1 q2
  simp (disch := first | assumption | (simp; done) | exact EvL.mulOk_of (by assumption) (by assumption) (by omega)) [runB, List.replicate, ir_num_product, gD, qD, q1, q2]
end
theorem num_size_run' {a : Nat} {x : GQ} (hx : Gz a x) (ha : a ≤ 2220000) : num_size.run [gD x] = some (.fz (qD x.size), []) := by
  obtain ⟨a1, a2⟩ := hx.re; obtain ⟨b1, b2⟩ := hx.im
  have s1 := a2.mul a2; have s2 := s1.mul b2; have s3 := s2.mul b2
  have n0 := nz (nz (nz (den_ne x.re) (den_ne x.re)) (den_ne x.im)) (den_ne x.im)
  have q1 := reduced_run (n := x.re.num * x.re.num * x.im.den * x.im.den + x.im.num * x.im.num * x.re.den * x.re.den) (m := x.re.den * x.re.den * x.im.den * x.im.den) n0 (s3.mono (by omega))
  have f1 := ic_ne (den_ne x.re); have f2 := ic_ne (den_ne x.im)
  have e1 := num_den' x.re; have e2 := num_den' x.im
  have r1 : (((x.re.num * x.re.num * x.im.den * x.im.den + x.im.num * x.im.num * x.re.den * x.re.den : Int)) : Rat) / ((x.re.den * x.re.den * x.im.den * x.im.den : Int) : Rat) = x.size := by
    unfold GQ.size
    simp only [ic_add, ic_mul]; rw [alg3 f1 f2, ← e1, ← e2]
  rw [r1] at q1
  have t1 := a1.mul a1; have t2 := t1.mul b2; have t3 := b1.mul b1; have t4 := t3.mul a2
  rw [run_num_size]
  simp (disch := first | assumption | (simp; done) | exact EvL.mulOk_of (by assumption) (by assumption) (by omega)) [runB, List.replicate, ir_num_size, gD, qD] at q1 ⊢
  simp [q1]
theorem frac_product_run' {a b : Nat} {x y : Rat} (hx : Qz a x) (hy : Qz b y) (h : a + b ≤ 8900000) : frac_product.run [qD x, qD y] = some (.fz (qD (x * y)), []) := by
  obtain ⟨x1, x2⟩ := hx; obtain ⟨y1, y2⟩ := hy
  have q := reduced_run (n := x.num * y.num) (m := x.den * y.den) (nz (den_ne x) (den_ne y)) ((x2.mul y2).mono h)
  have e : (((x.num * y.num : Int)) : Rat) / ((x.den * y.den : Int) : Rat) = x * y := by
    have e1 := num_den' x; have e2 := num_den' y; have d1 := ic_ne (den_ne x); have d2 := ic_ne (den_ne y)
    rw [ic_mul, ic_mul]; grind
  rw [e] at q
  have m1 : mulOk x.num y.num = true := mulOk_of x1 y1 (by omega)
  have m3 : mulOk x.den y.den = true := mulOk_of x2 y2 (by omega)
  rw [run_frac_product]
  simp [qD] at q
  simp [runB, List.replicate, ir_frac_product, qD, m1, m3, q]
theorem frac_over_run' {a b : Nat} {x y : Rat} (hx : Qz a x) (hy : Qz b y) (h : a + b ≤ 8900000) (y0 : y ≠ 0) : frac_over.run [qD x, qD y] = some (.fz (qD (x / y)), []) := by
  obtain ⟨x1, x2⟩ := hx; obtain ⟨y1, y2⟩ := hy
  have n0 : y.num ≠ 0 := fun z => y0 (Rat.num_eq_zero.mp z)
  have q := reduced_run (n := x.num * y.den) (m := x.den * y.num) (nz (den_ne x) n0) ((x2.mul y1).mono h)
  have e : (((x.num * y.den : Int)) : Rat) / ((x.den * y.num : Int) : Rat) = x / y := by
    have e1 := num_den' x; have e2 := num_den' y; have d1 := ic_ne (den_ne x); have d2 := ic_ne (den_ne y); have d3 := ic_ne n0
    rw [ic_mul, ic_mul]; grind
  rw [e] at q
  have m1 : mulOk x.num y.den = true := mulOk_of x1 y2 (by omega)
  have m3 : mulOk x.den y.num = true := mulOk_of x2 y1 (by omega)
  rw [run_frac_over]
  simp [qD] at q
  simp [runB, List.replicate, ir_frac_over, qD, m1, m3, q]
theorem num_scaled_run' {a b : Nat} {x : GQ} {r : Rat} (hx : Gz a x) (hr : Qz b r) (h : a + b ≤ 8900000) : num_scaled.run [gD x, qD r] = some (.fz (gD (x * GQ.ofR r)), []) := by
  have e1 := frac_product_run' hx.re hr h
  have e2 := frac_product_run' hx.im hr h
  have e : x * GQ.ofR r = ⟨x.re * r, x.im * r⟩ := by ext <;> simp <;> grind
  rw [run_num_scaled, e]
  simp [runB, List.replicate, ir_num_scaled, gD, e1, e2]
theorem num_over_run' {a b : Nat} {x y : GQ} (hx : Gz a x) (hy : Gz b y) (hab : a + b ≤ 4440000) (hb2 : b ≤ 1900000) (y0 : y ≠ 0) : num_over.run [gD x, gD y] = some (.fz (gD (x / y)), []) := by
  have e1 := num_mirrored_run y
  have hb := hy.bent
  have e2 := num_product_run' hx hb hab
  have e3 := num_size_run' hy (by omega)
  have hs := hy.size
  have s0 := GQ.size_ne y0
  have e4 := frac_over_run' (a := 1) (x := 1) (y := y.size) ⟨Sz.lit (by decide), Sz.lit (by decide)⟩ hs (by omega) s0
  have sq : Qz (2 * b + 1) (1 / y.size) := by
    have n0 : y.size.num ≠ 0 := fun z => s0 (Rat.num_eq_zero.mp z)
    have := Qz.of (n := y.size.den) (d := y.size.num) n0 hs.2 hs.1
    have e : ((y.size.den : Int) : Rat) / (y.size.num : Rat) = 1 / y.size := by
      have q1 := num_den' y.size; have q2 := ic_ne (den_ne y.size); have q3 := ic_ne n0
      grind
    rw [e] at this
    exact this.mono (by omega)
  have e5 := num_scaled_run' (hx.mul hb) sq (by omega)
  have e : x * y.bent * GQ.ofR (1 / y.size) = x / y := by
    rw [GQ.div_def]
    have h := s0
    ext
    · simp; grind
    · simp; grind
  rw [e] at e5
  have o : qD 1 = .tuple [.int 1, .int 1] := rfl
  rw [o] at e4
  rw [run_num_over]
  simp [runB, List.replicate, ir_num_over, e1, e2, e3, e4, e5]
end Pk
end EvL

set_option Elab.async false
set_option linter.all false
set_option maxRecDepth 100000
namespace EvL
namespace Po
section
variable {K : Type} [Lean.Grind.Field K]
/-! ### division with rest, coprime rows -/
theorem conv_snoc (b q : List K) (t : K) (k : Nat) : conv b (q ++ [t]) k = conv b q k + if q.length ≤ k then co b (k - q.length) * t else 0 := by
  rw [conv_comm, conv_comm b q, conv_len (n := q.length + 1) (by simp), sum_succ, conv_len (n := q.length) (Nat.le_refl _)]
  congr 1
  · refine sum_congr fun j hj => ?_
    rw [co_append, if_pos hj]
  · rw [co_append, if_neg (Nat.lt_irrefl _), Nat.sub_self]
    split
    · simp only [co_zero]; grind
    · rfl
theorem take_snoc (q : List K) {s : Nat} (h : s < q.length) : q.take (s + 1) = q.take s ++ [co q s] := by
  rw [List.take_succ, List.getElem?_eq_getElem h, co_lt h]; rfl
theorem conv_take (b q : List K) {s : Nat} (h : s < q.length) (k : Nat) : conv b (q.take (s + 1)) k = conv b (q.take s) k + if s ≤ k then co b (k - s) * co q s else 0 := by
  rw [take_snoc q h, conv_snoc, List.length_take, Nat.min_eq_left (by omega)]
theorem div_ex {b : List K} {m : Nat} (hb : b.length = m + 1) (hl : co b m ≠ 0) : ∀ (N : Nat) (f : Nat → K), (∀ k, m + N ≤ k → f k = 0) →
    ∃ q r : List K, q.length = N ∧ r.length = m ∧ ∀ k, f k = conv b q k + co r k
  | 0, f, hf => ⟨[], (List.range m).map f, rfl, by simp, fun k => by
      rw [conv_comm, conv_nil, co_map]
      split
      · grind
      · rw [hf k (by omega)]; grind⟩
  | N + 1, f, hf => by
    obtain ⟨q, r, h1, h2, h3⟩ := div_ex hb hl N (fun k => f k - if N ≤ k then co b (k - N) * (f (m + N) / co b m) else 0) (fun k hk => by
      rw [if_pos (by omega)]
      by_cases e : k = m + N
      · subst e
        rw [show m + N - N = m by omega]; grind
      · rw [hf k (by omega), co_ge (p := b) (by omega)]; grind)
    refine ⟨q ++ [f (m + N) / co b m], r, by simp [h1], h2, fun k => ?_⟩
    rw [conv_snoc, h1]
    have := h3 k
    grind
/-- a product's last number -/
theorem conv_top {p q : List K} {m n : Nat} (hp : p.length = m + 1) (hq : q.length = n + 1) : conv p q (m + n) = co p m * co q n := by
  rw [conv_len (n := m + 1) (by omega), sum_succ, sum_zeros fun j hj => ?_]
  · rw [if_pos (by omega), show m + n - m = n by omega]; grind
  · rw [if_pos (by omega), co_ge (p := q) (by omega)]; grind
end
section
variable {K : Type} [Lean.Grind.Field K] [DecidableEq K]
theorem kne {a b : K} (h : a ≠ 0) (g : b ≠ 0) : a * b ≠ 0 := fun z => by
  have : b = a⁻¹ * (a * b) := by grind
  rw [z] at this
  exact g (by grind)
theorem mul_len {p q : List K} {m n : Nat} (hp : p.length = m + 1) (hq : q.length = n + 1) : (mul p q).length = m + n + 1 := by
  induction p generalizing m with
  | nil => simp at hp
  | cons a p ih =>
    simp only [mul, len_add, List.length_map, List.length_cons]
    cases m with
    | zero =>
      have : p = [] := List.length_eq_zero_iff.mp (by simpa using hp)
      subst this; simp [mul, hq]
    | succ m =>
      rw [ih (by simpa using hp), hq]; omega
theorem row_len {p : List K} (h : Row p) (h0 : p ≠ []) : ∃ m, p.length = m + 1 ∧ co p m ≠ 0 := by
  obtain ⟨m, hm⟩ : ∃ m, p.length = m + 1 := ⟨p.length - 1, by have := List.length_pos_iff.mpr h0; omega⟩
  exact ⟨m, hm, h.last hm⟩
theorem mul_row {p q : List K} (hp : Row p) (hq : Row q) (q0 : q ≠ []) : Row (mul p q) := by
  by_cases p0 : p = []
  · subst p0; exact Row.nil
  obtain ⟨m, hm, lm⟩ := row_len hp p0
  obtain ⟨n, hn, ln⟩ := row_len hq q0
  refine row_iff.mpr fun k hk => ?_
  rw [mul_len hm hn] at hk
  rw [show k = m + n by omega, co_mul, conv_top hm hn]
  exact kne lm ln
theorem mul_nil (p : List K) : trim (mul p []) = [] := (trim_nil_iff _).mpr fun k => by rw [co_mul, conv_comm, conv_nil]
theorem scale_row {p : List K} {c : K} (hp : Row p) (h : c ≠ 0) : Row (p.map (c * ·)) := row_iff.mpr fun n hn => by
  rw [co_mapf (by grind)]
  exact kne h (hp.last (by simpa using hn))
end
/-! rows of numbers by their values -/
/-- no common divisor -/
def Cop (A B : List GQ) : Prop := ∃ u v : List GQ, ∀ x, ev u x * ev A x + ev v x * ev B x = 1
theorem Cop.symm {A B : List GQ} (h : Cop A B) : Cop B A := by
  obtain ⟨u, v, h⟩ := h
  exact ⟨v, u, fun x => by have := h x; grind⟩
theorem Cop.mulR {A B C : List GQ} (h : Cop A B) (g : Cop A C) : Cop A (mul B C) := by
  obtain ⟨u, v, h⟩ := h
  obtain ⟨s, t, g⟩ := g
  refine ⟨add (add (mul u (mul s A)) (mul u (mul t C))) (mul (mul v B) s), mul v t, fun x => ?_⟩
  have h1 := h x
  have h2 := g x
  simp only [ev_add, ev_mul]
  generalize ev u x = u at *
  generalize ev v x = v at *
  generalize ev s x = s at *
  generalize ev t x = t at *
  generalize ev A x = a at *
  generalize ev B x = b at *
  generalize ev C x = c at *
  have : (u * (s * a) + u * (t * c) + v * b * s) * a + v * t * (b * c) = (u * a + v * b) * (s * a + t * c) := by grind
  rw [this, h1, h2]; grind
theorem Cop.one (A : List GQ) : Cop A [1] := ⟨[], [1], fun x => by simp [ev_cons]; grind⟩
theorem Cop.congr {A B C D : List GQ} (h : Cop A B) (e1 : ∀ x, ev C x = ev A x) (e2 : ∀ x, ev D x = ev B x) : Cop C D := by
  obtain ⟨u, v, h⟩ := h
  exact ⟨u, v, fun x => by rw [e1, e2]; exact h x⟩
/-- z - x -/
def lin (x : GQ) : List GQ := [-x, 1]
theorem ev_lin (x z : GQ) : ev (lin x) z = z - x := by simp [lin, ev_cons]; grind
theorem Cop.lin {x y : GQ} (h : x ≠ y) : Cop (lin x) (lin y) := by
  refine ⟨[(y - x)⁻¹], [-(y - x)⁻¹], fun z => ?_⟩
  have h0 : y - x ≠ 0 := fun e => h (by grind)
  simp only [ev_lin, ev_cons, ev_nil]
  grind
/-- the row with these roots -/
def mon : List GQ → List GQ
  | [] => [1]
  | r :: rs => mul (mon rs) (Po.lin r)
theorem lin_row (x : GQ) : Row (Po.lin x) := row_iff.mpr fun n hn => by
  have : n = 1 := by simpa [Po.lin] using hn.symm
  subst this
  simp [Po.lin]; grind
theorem mon_len (rs : List GQ) : (mon rs).length = rs.length + 1 := by
  induction rs with
  | nil => rfl
  | cons r rs ih => rw [mon, mul_len ih (n := 1) rfl]; rfl
theorem mon_top (rs : List GQ) : co (mon rs) rs.length = 1 := by
  induction rs with
  | nil => rfl
  | cons r rs ih =>
    rw [mon, co_mul, List.length_cons, conv_top (mon_len rs) (n := 1) rfl, ih]
    simp [Po.lin]; grind
theorem mon_row (rs : List GQ) : Row (mon rs) := row_iff.mpr fun n hn => by
  rw [mon_len] at hn
  rw [show n = rs.length by omega, mon_top]; grind
theorem cop_mon : ∀ {rs ss : List GQ}, (∀ r ∈ rs, ∀ s ∈ ss, r ≠ s) → Cop (mon rs) (mon ss)
  | [], ss, _ => (Cop.one _).symm
  | r :: rs, ss, h => by
    have h1 := cop_mon (rs := rs) (ss := ss) fun x hx s hs => h x (List.mem_cons_of_mem _ hx) s hs
    have h2 : ∀ (ss : List GQ), (∀ s ∈ ss, r ≠ s) → Cop (Po.lin r) (mon ss) := fun ss => by
      induction ss with
      | nil => exact fun _ => Cop.one _
      | cons s ss ih => exact fun g => (ih fun x hx => g x (List.mem_cons_of_mem _ hx)).mulR (.lin (g s List.mem_cons_self))
    exact (h1.symm.mulR (h2 ss fun s hs => h r List.mem_cons_self s hs).symm).symm
/-- one step of the common divisor -/
theorem Cop.step {A B R q : List GQ} (h : Cop A B) (e : ∀ x, ev A x = ev B x * ev q x + ev R x) : Cop B R := by
  obtain ⟨u, v, h⟩ := h
  refine ⟨add (mul u q) v, u, fun x => ?_⟩
  have h1 := h x
  have h2 := e x
  simp only [ev_add, ev_mul]
  rw [h2] at h1
  grind
theorem Cop.scale {A B : List GQ} {c : GQ} (h : Cop A B) (h0 : c ≠ 0) : Cop A (B.map (c * ·)) := by
  obtain ⟨u, v, h⟩ := h
  refine ⟨u, v.map (c⁻¹ * ·), fun x => ?_⟩
  have h1 := h x
  rw [ev_map_mul, ev_map_mul]
  have : c⁻¹ * ev v x * (c * ev B x) = (c * c⁻¹) * (ev v x * ev B x) := by grind
  have e : c * c⁻¹ = 1 := by grind
  rw [this, e]; grind
/-- at the end a number alone is left -/
theorem Cop.unit {A B : List GQ} (h : Cop A B) (hB : ∀ x, ev B x = 0) : ∃ a, a ≠ 0 ∧ ∀ x, ev A x = a := by
  obtain ⟨u, v, h⟩ := h
  have e : ∀ k, co (mul (trim u) (trim A)) k = co [1] k := fun k => ext_gq (fun z => by
    rw [ev_mul, ev_trim, ev_trim]
    have := h z
    rw [hB] at this
    simp only [ev_cons, ev_nil]; grind) k
  have u0 : trim u ≠ [] := fun z => by
    have := e 0
    rw [z, co_mul, conv_nil] at this
    exact Lean.Grind.Field.zero_ne_one this
  have A0 : trim A ≠ [] := fun z => by
    have := e 0
    rw [z, co_mul, conv_comm, conv_nil] at this
    exact Lean.Grind.Field.zero_ne_one this
  obtain ⟨m, hm, lm⟩ := row_len (Row.trim u) u0
  obtain ⟨n, hn, ln⟩ := row_len (Row.trim A) A0
  have t := e (m + n)
  rw [co_mul, conv_top hm hn] at t
  have mn : m + n = 0 := by
    cases hh : m + n with
    | zero => rfl
    | succ k =>
      rw [hh] at t
      exact absurd t (kne lm ln)
  have n0 : n = 0 := by omega
  subst n0
  obtain ⟨a, ha⟩ : ∃ a, trim A = [a] := List.length_eq_one_iff.mp hn
  refine ⟨a, by simpa [ha] using ln, fun x => ?_⟩
  rw [← ev_trim, ha]; simp [ev_cons]; grind
/-- a divisor of a row by its values -/
theorem zero_mul {C B : List GQ} (hC : ∃ k, co C k ≠ 0) (h : ∀ x, ev C x * ev B x = 0) : ∀ x, ev B x = 0 := by
  have e : ∀ k, co (mul (trim C) (trim B)) k = co [] k := fun k => ext_gq (fun z => by
    rw [ev_mul, ev_trim, ev_trim, h z]; rfl) k
  have C0 : trim C ≠ [] := fun z => by
    obtain ⟨k, hk⟩ := hC
    exact hk ((trim_nil_iff C).mp z k)
  by_cases B0 : trim B = []
  · intro x; rw [← ev_trim, B0]; rfl
  obtain ⟨m, hm, lm⟩ := row_len (Row.trim C) C0
  obtain ⟨n, hn, ln⟩ := row_len (Row.trim B) B0
  have t := e (m + n)
  rw [co_mul, conv_top hm hn] at t
  exact absurd t (kne lm ln)
end Po
end EvL

set_option Elab.async false
set_option linter.all false
set_option maxRecDepth 100000
set_option maxHeartbeats 1900000
namespace EvL
open PySem PySem.Spec PyProof.Rows L2
namespace Pk
def restBody : List IS := [(.put 2 (.bin .add (.var 5) (.var 7)) (.call Pk.num_less Pk.E_num_less_2.pm [(.ixv 2 (.bin .add (.var 5) (.var 7))), (.call Pk.num_product Pk.E_num_product_2.pm [(.var 6), (.var 8)])]))]
theorem rest_in {B n i : Nat} {q : List GQ} {x : GQ} {d0 : D} {f : Nat → GQ} {s3 s4 s7 s8 : MV} (hx : Gz B x) (hq : Rz B q) (h1 : 1 ≤ B) (hf : ∀ k, Gz B (f k)) (hB : B ≤ 1000000) (hn : i + q.length ≤ n) :
    ∃ s7' s8', evF (.tp [(.nm 7), (.nm 8)]) (evB restBody) ((List.range q.length).map fun (j : Nat) => PyData.tuple [.int j, gD (Po.co q j)]) [.fz d0, .fz (rD q), .ow false ((List.range n).map fun k => gD (f k)), s3, s4, .fz (.int i), .fz (gD x), s7, s8] =
      some (.nx [.fz d0, .fz (rD q), .ow false ((List.range n).map fun k => gD (f k - if i ≤ k ∧ k - i < q.length then x * Po.co q (k - i) else 0)), s3, s4, .fz (.int i), .fz (gD x), s7', s8']) := by
  obtain ⟨Γ', e, s7', s8', rfl⟩ := evF_nat (f := fun (j : Nat) => PyData.tuple [.int j, gD (Po.co q j)]) (t := .tp [(.nm 7), (.nm 8)]) (b := evB restBody) (n := q.length)
    (Γ := [.fz d0, .fz (rD q), .ow false ((List.range n).map fun k => gD (f k)), s3, s4, .fz (.int i), .fz (gD x), s7, s8])
    (fun j Γ => ∃ s7 s8, Γ = [.fz d0, .fz (rD q), .ow false ((List.range n).map fun k => gD (f k - if i ≤ k ∧ k - i < j then x * Po.co q (k - i) else 0)), s3, s4, .fz (.int i), .fz (gD x), s7, s8])
    ⟨s7, s8, by
      have : ∀ k, f k - (if i ≤ k ∧ k - i < 0 then x * Po.co q (k - i) else 0) = f k := fun k => by rw [if_neg (by omega)]; grind
      simp only [this]⟩
    (fun j Γ hj ⟨s7, s8, hG⟩ => by
      subst hG
      have hk : i + j < n := by omega
      have a1 := at_rng (n := n) (m := i + j) (g := fun k => gD (f k - if i ≤ k ∧ k - i < j then x * Po.co q (k - i) else 0)) (k := (i : Int) + j) (by omega) hk
      have e0 : f (i + j) - (if i ≤ i + j ∧ i + j - i < j then x * Po.co q (i + j - i) else 0) = f (i + j) := by rw [if_neg (by omega)]; grind
      simp only [e0] at a1
      have gq := hq.co h1 j
      have p1 := num_product_run' hx gq (by omega)
      have p2 := num_less_run' (hf (i + j)) (hx.mul gq) (by omega)
      have ix := ixN_of (len := n) (k := (i : Int) + j) (n := i + j) (by omega) hk
      refine ⟨[.fz d0, .fz (rD q), .ow false ((List.range n).map fun k => gD (f k - if i ≤ k ∧ k - i < j then x * Po.co q (k - i) else 0)), s3, s4, .fz (.int i), .fz (gD x), .fz (.int j), .fz (gD (Po.co q j))], _, by simp, .inl ?_, .fz (.int j), .fz (gD (Po.co q j)), rfl⟩
      have s : ((List.range n).map fun k => gD (f k - if i ≤ k ∧ k - i < j then x * Po.co q (k - i) else 0)).set (i + j) (gD (f (i + j) - x * Po.co q j)) = (List.range n).map fun k => gD (f k - if i ≤ k ∧ k - i < j + 1 then x * Po.co q (k - i) else 0) := by
        rw [set_rng]
        refine List.map_congr_left fun k hk2 => ?_
        split
        · rename_i h; subst h; rw [if_pos (by omega), show i + j - i = j by omega]
        · rename_i h
          congr 2
          by_cases h3 : i ≤ k ∧ k - i < j
          · rw [if_pos h3, if_pos (by omega)]
          · rw [if_neg h3, if_neg (by omega)]
      rw [← s]
      unfold restBody
      rw [b_cons']; conv in evS _ _ => simp [a1, p1, p2, ix]
      rfl)
  exact ⟨s7', s8', e⟩
theorem last_rng {n : Nat} {g : Nat → D} (h : 0 < n) : L2.atI ((List.range n).map g) (-1) = some (g (n - 1)) := by
  rw [atI_last, List.getLast?_map, List.getLast?_range, if_neg (by omega)]; rfl
theorem last_gD {p : List GQ} {m : Nat} (h : p.length = m + 1) : L2.atI (p.map gD) (-1) = some (gD (Po.co p m)) := by
  rw [atI_last, List.getLast?_map, List.getLast?_eq_getElem?, h, Po.co_lt (by omega), List.getElem?_eq_getElem (by omega)]; rfl
/-- what is left at a step -/
def Vr (b q r : List GQ) (s k : Nat) : GQ := Po.conv b (q.take s) k + Po.co r k
def stepBody : List IS := [(.set 6 (.call Pk.num_product Pk.E_num_product_2.pm [(.ixv 2 (.neg (.cst (.int (1))))), (.var 4)])), (.set 3 (.bin .add (.lst [(.var 6)]) (.bin .add (.bi .list [(.var 3)]) (.lst [])))), (.fr (.tp [(.nm 7), (.nm 8)]) .enum [(.var 1)] restBody), (.popS 2)]
theorem rest_loop {B m N : Nat} {b q r : List GQ} {d0 : D} (hb : b.length = m + 1) (hl : Po.co b m ≠ 0) (hq : q.length = N) (hr : r.length ≤ m) (zb : Rz B b) (zq : Rz B q) (zV : ∀ s k, Gz B (Vr b q r s k)) (h1 : 1 ≤ B) (hB : B ≤ 1000000) (hn : m + N ≤ 1000)
    {s5 s6 s7 s8 : MV} :
    ∃ s5' s6' s7' s8', evF (.nm 5) (evB stepBody) ((List.range N).map fun (k : Nat) => PyData.int (((N : Int) - 1) - k)) [.fz d0, .fz (rD b), .ow false ((List.range (m + N)).map fun k => gD (Vr b q r N k)), .ow false [], .fz (gD (1 / Po.co b m)), s5, s6, s7, s8] =
      some (.nx [.fz d0, .fz (rD b), .ow false ((List.range m).map fun k => gD (Vr b q r 0 k)), .ow false (q.map gD), .fz (gD (1 / Po.co b m)), s5', s6', s7', s8']) := by
  obtain ⟨Γ', e, s5', s6', s7', s8', rfl⟩ := evF_nat (f := fun (k : Nat) => PyData.int (((N : Int) - 1) - k)) (t := .nm 5) (b := evB stepBody) (n := N)
    (Γ := [.fz d0, .fz (rD b), .ow false ((List.range (m + N)).map fun k => gD (Vr b q r N k)), .ow false [], .fz (gD (1 / Po.co b m)), s5, s6, s7, s8])
    (fun j Γ => ∃ s5 s6 s7 s8, Γ = [.fz d0, .fz (rD b), .ow false ((List.range (m + (N - j))).map fun k => gD (Vr b q r (N - j) k)), .ow false ((q.map gD).drop (N - j)), .fz (gD (1 / Po.co b m)), s5, s6, s7, s8])
    ⟨s5, s6, s7, s8, by rw [Nat.sub_zero, List.drop_eq_nil_of_le (by simp; omega)]⟩
    (fun j Γ hj ⟨s5, s6, s7, s8, hG⟩ => by
      subst hG
      obtain ⟨s, hs⟩ : ∃ s, N - j = s + 1 := ⟨N - j - 1, by omega⟩
      have hs2 : N - (j + 1) = s := by omega
      have hc : ((N : Int) - 1) - j = (s : Int) := by omega
      rw [hs, hs2]
      have hsq : s < q.length := by omega
      have top : Vr b q r (s + 1) (m + (s + 1) - 1) = Po.co b m * Po.co q s := by
        unfold Vr
        rw [show m + (s + 1) - 1 = m + s by omega, Po.conv_top hb (n := s) (by rw [List.length_take]; omega), Po.co_ge (p := r) (by omega)]
        have : Po.co (q.take (s + 1)) s = Po.co q s := by
          rw [Po.take_snoc q hsq, Po.co_append, if_neg (by rw [List.length_take]; omega), List.length_take, show s - min s q.length = 0 by omega]; rfl
        rw [this]; grind
      have lst := last_rng (n := m + (s + 1)) (g := fun k => gD (Vr b q r (s + 1) k)) (by omega)
      simp only [top] at lst
      have p1 := num_product_run' (zV (s + 1) (m + (s + 1) - 1)) ((zb.co h1 m).inv) (by omega)
      rw [top] at p1
      have ed : (1 : GQ) / Po.co b m = (Po.co b m)⁻¹ := by grind
      have ex : Po.co b m * Po.co q s * (Po.co b m)⁻¹ = Po.co q s := by grind
      rw [ex, ← ed] at p1
      have dl : (List.drop (s + 1) q).length ≤ 1000 := by rw [List.length_drop]; omega
      have dl2 : q.length - (s + 1) ≤ 1000000 := by omega
      have dl3 : 1 + (q.length - (s + 1)) ≤ 1000000 := by omega
      obtain ⟨t7, t8, ei⟩ := rest_in (n := m + (s + 1)) (i := s) (d0 := d0) (q := b) (x := Po.co q s) (f := fun k => Vr b q r (s + 1) k) (s3 := .ow false (gD (Po.co q s) :: (q.map gD).drop (s + 1))) (s4 := .fz (gD (1 / Po.co b m))) (s7 := s7) (s8 := s8) (zq.co h1 s) zb h1 (fun k => zV (s + 1) k) hB (by omega)
      have ev : ∀ k, Vr b q r (s + 1) k - (if s ≤ k ∧ k - s < b.length then Po.co q s * Po.co b (k - s) else 0) = Vr b q r s k := fun k => by
        unfold Vr
        rw [Po.conv_take b q hsq]
        by_cases h : s ≤ k
        · by_cases h2 : k - s < b.length
          · rw [if_pos h, if_pos ⟨h, h2⟩]; grind
          · rw [if_pos h, if_neg (fun z => h2 z.2), Po.co_ge (p := b) (by omega)]; grind
        · rw [if_neg h, if_neg (fun z => h z.1)]; grind
      simp only [ev] at ei
      refine ⟨[.fz d0, .fz (rD b), .ow false ((List.range (m + (s + 1))).map fun k => gD (Vr b q r (s + 1) k)), .ow false ((q.map gD).drop (s + 1)), .fz (gD (1 / Po.co b m)), .fz (.int s), s6, s7, s8], _, by simp [hc], .inl ?_, .fz (.int s), .fz (gD (Po.co q s)), t7, t8, rfl⟩
      unfold stepBody
      rw [b_cons']; conv in evS _ _ => simp [lst, p1]
      rw [Option.bind_some, onNext_nx, b_cons']; conv in evS _ _ => simp [dl2, dl3]
      rw [Option.bind_some, onNext_nx, b_cons', v_fr]
      have en : itD .enum [rD b] = some ((List.range b.length).map fun (i : Nat) => PyData.tuple [.int i, gD (Po.co b i)]) := by
        show some ((b.map gD).mapIdx fun k x => PyData.tuple [.int k, x]) = _
        rw [en_rD]
      have es : evs [.var 1] [.fz d0, .fz (rD b), .ow false ((List.range (m + (s + 1))).map fun k => gD (Vr b q r (s + 1) k)), .ow false (gD (Po.co q s) :: (q.map gD).drop (s + 1)), .fz (gD (1 / Po.co b m)), .fz (.int s), .fz (gD (Po.co q s)), s7, s8]
        = some ([rD b], [.fz d0, .fz (rD b), .ow false ((List.range (m + (s + 1))).map fun k => gD (Vr b q r (s + 1) k)), .ow false (gD (Po.co q s) :: (q.map gD).drop (s + 1)), .fz (gD (1 / Po.co b m)), .fz (.int s), .fz (gD (Po.co q s)), s7, s8]) := by simp
      rw [es, Option.bind_some]
      show (((itD .enum [rD b]).bind fun xs => evF (Tg.tp [Tg.nm 7, Tg.nm 8]) (evB restBody) xs _).bind _) = _
      rw [en, Option.bind_some, ei, Option.bind_some, onNext_nx, b_cons', v_popS]
      have dr : (q.map gD).drop s = gD (Po.co q s) :: (q.map gD).drop (s + 1) := by
        rw [List.drop_eq_getElem_cons (by simpa using hsq), List.getElem_map, Po.co_lt hsq]
      have rl : ((List.range (m + (s + 1))).map fun k => gD (Vr b q r s k)).dropLast = (List.range (m + s)).map fun k => gD (Vr b q r s k) := by
        rw [show m + (s + 1) = m + s + 1 by omega, List.range_succ, List.map_append, List.map_singleton, List.dropLast_concat]
      have rn : ((List.range (m + (s + 1))).map fun k => gD (Vr b q r s k)) ≠ [] := fun z => by
        have := congrArg List.length z
        simp at this
      rw [dr]
      show ((if ((List.range (m + (s + 1))).map fun k => gD (Vr b q r s k)) = [] then none else some (Out.nx [.fz d0, .fz (rD b), .ow false ((List.range (m + (s + 1))).map fun k => gD (Vr b q r s k)).dropLast, _, _, _, _, _, _])).bind _) = _
      rw [if_neg rn, rl, Option.bind_some, onNext_nx, b_nil'])
  simp only [Nat.sub_self, List.drop_zero, Nat.add_zero] at e
  exact ⟨s5', s6', s7', s8', e⟩
theorem row_rest_run {B m N : Nat} {a b q r : List GQ} (hb : b.length = m + 1) (hl : Po.co b m ≠ 0) (hq : q.length = N) (hr : r.length ≤ m) (ha : a.length = m + N) (e : ∀ k, Po.co a k = Po.conv b q k + Po.co r k)
    (zb : Rz B b) (zq : Rz B q) (zV : ∀ s k, Gz B (Vr b q r s k)) (h1 : 1 ≤ B) (hB : B ≤ 1000000) (hn : m + N ≤ 1000) :
    row_rest.run [rD a, rD b] = some (.fz (.tuple [rD (Po.trim q), rD (Po.trim r)]), []) := by
  obtain ⟨s5, s6, s7, s8, el⟩ := rest_loop (d0 := rD a) hb hl hq hr zb zq zV h1 hB hn (s5 := .un) (s6 := .un) (s7 := .un) (s8 := .un)
  have aV : a.map gD = (List.range (m + N)).map fun k => gD (Vr b q r N k) := by
    conv => lhs; rw [← Po.mapRange_co a, ha]
    rw [List.map_map]
    refine List.map_congr_left fun k _ => ?_
    show gD (Po.co a k) = _
    rw [e k, Vr, ← hq, List.take_length]
  have zbm := zb.co h1 m
  have p0 := num_over_run' (Gz.one (Nat.le_refl 1)) zbm (by omega) (by omega) hl
  have lb := last_gD (p := b) hb
  have er : ((List.range m).map fun k => gD (Vr b q r 0 k)) = ((List.range m).map (Po.co r)).map gD := by
    rw [List.map_map]
    refine List.map_congr_left fun k _ => ?_
    show gD (Vr b q r 0 k) = gD (Po.co r k)
    rw [Vr, List.take_zero, Po.conv_comm, Po.conv_nil]
    congr 1; grind
  have t1 := trimmed_l (p := q) (by omega)
  have t2 := trimmed_l (p := (List.range m).map (Po.co r)) (by simp; omega)
  have tt : Po.trim ((List.range m).map (Po.co r)) = Po.trim r := Po.trim_congr fun k => by
    rw [Po.co_map]
    split
    · rfl
    · rw [Po.co_ge (by omega)]
  rw [tt] at t2
  rw [er] at el
  rw [run_row_rest, run0 (np := 2) (n := 9) (ds := [rD a, rD b]) rfl]
  show (evB ir_row_rest [.fz (rD a), .fz (rD b), .un, .un, .un, .un, .un, .un, .un]).bind (outM false) = _
  unfold ir_row_rest
  rw [b_cons']; conv in evS _ _ => simp [rD]
  rw [Option.bind_some, onNext_nx, b_cons']; conv in evS _ _ => simp
  rw [← g1D]
  rw [Option.bind_some, onNext_nx, b_cons']; conv in evS _ _ => simp [lb, p0]
  rw [Option.bind_some, onNext_nx, b_cons', v_fr]
  have es : evs [IE.bin BOp.sub (IE.lenv 0) (IE.lenv 1), (IE.cst (PyData.int 1)).neg, (IE.cst (PyData.int 1)).neg] [.fz (rD a), .fz (rD b), .ow false (a.map gD), .ow false [], .fz (gD (1 / Po.co b m)), .un, .un, .un, .un]
      = some ([.int ((N : Int) - 1), .int (-1), .int (-1)], [.fz (rD a), .fz (rD b), .ow false (a.map gD), .ow false [], .fz (gD (1 / Po.co b m)), .un, .un, .un, .un]) := by
    simp [rD, ha, hb]; omega
  have it := it_down (a := (N : Int) - 1) (b := -1) (by omega) (by omega)
  rw [show ((N : Int) - 1 - -1).toNat = N by omega] at it
  show ((((evs [IE.bin BOp.sub (IE.lenv 0) (IE.lenv 1), (IE.cst (PyData.int 1)).neg, (IE.cst (PyData.int 1)).neg] [.fz (rD a), .fz (rD b), .ow false (a.map gD), .ow false [], .fz (gD (1 / Po.co b m)), .un, .un, .un, .un]).bind fun (ds, Γ) => (itD IK.rng3 ds).bind fun xs => evF (Tg.nm 5) (evB stepBody) xs Γ).bind _).bind _) = _
  rw [es, Option.bind_some]
  show ((((itD IK.rng3 [.int ((N : Int) - 1), .int (-1), .int (-1)]).bind fun xs => evF (Tg.nm 5) (evB stepBody) xs _).bind _).bind _) = _
  rw [it, Option.bind_some, aV, el, Option.bind_some, onNext_nx, b_cons']; conv in evS _ _ => simp [-List.map_map, t1, t2]
  rfl
/-- a row of a lower degree is left as it is -/
theorem row_rest_low {B m : Nat} {a b : List GQ} (hb : b.length = m + 1) (hl : Po.co b m ≠ 0) (ha : a.length ≤ m) (zb : Rz B b) (h1 : 1 ≤ B) (hB : B ≤ 1000000) (hn : m ≤ 1000) :
    row_rest.run [rD a, rD b] = some (.fz (.tuple [rD [], rD (Po.trim a)]), []) := by
  have zbm := zb.co h1 m
  have p0 := num_over_run' (Gz.one (Nat.le_refl 1)) zbm (by omega) (by omega) hl
  have lb := last_gD (p := b) hb
  have t1 := trimmed_l (p := []) (by simp)
  have t2 := trimmed_l (p := a) (by omega)
  rw [run_row_rest, run0 (np := 2) (n := 9) (ds := [rD a, rD b]) rfl]
  show (evB ir_row_rest [.fz (rD a), .fz (rD b), .un, .un, .un, .un, .un, .un, .un]).bind (outM false) = _
  unfold ir_row_rest
  rw [b_cons']; conv in evS _ _ => simp [rD]
  rw [Option.bind_some, onNext_nx, b_cons']; conv in evS _ _ => simp
  rw [← g1D]
  rw [Option.bind_some, onNext_nx, b_cons']; conv in evS _ _ => simp [lb, p0]
  rw [Option.bind_some, onNext_nx, b_cons', v_fr]
  have es : evs [IE.bin BOp.sub (IE.lenv 0) (IE.lenv 1), (IE.cst (PyData.int 1)).neg, (IE.cst (PyData.int 1)).neg] [.fz (rD a), .fz (rD b), .ow false (a.map gD), .ow false [], .fz (gD (1 / Po.co b m)), .un, .un, .un, .un]
      = some ([.int ((a.length : Int) - (m + 1 : Nat)), .int (-1), .int (-1)], [.fz (rD a), .fz (rD b), .ow false (a.map gD), .ow false [], .fz (gD (1 / Po.co b m)), .un, .un, .un, .un]) := by
    simp [rD, hb]
  have it := it_down (a := (a.length : Int) - (m + 1 : Nat)) (b := -1) (by omega) (by omega)
  rw [show ((a.length : Int) - (m + 1 : Nat) - -1).toNat = 0 by omega] at it
  show ((((evs [IE.bin BOp.sub (IE.lenv 0) (IE.lenv 1), (IE.cst (PyData.int 1)).neg, (IE.cst (PyData.int 1)).neg] [.fz (rD a), .fz (rD b), .ow false (a.map gD), .ow false [], .fz (gD (1 / Po.co b m)), .un, .un, .un, .un]).bind fun (ds, Γ) => (itD IK.rng3 ds).bind fun xs => evF (Tg.nm 5) (evB stepBody) xs Γ).bind _).bind _) = _
  rw [es, Option.bind_some]
  show ((((itD IK.rng3 [.int ((a.length : Int) - (m + 1 : Nat)), .int (-1), .int (-1)]).bind fun xs => evF (Tg.nm 5) (evB stepBody) xs _).bind _).bind _) = _
  rw [it, Option.bind_some]
  show (Option.bind (Option.bind (some (Out.nx [.fz (rD a), .fz (rD b), .ow false (a.map gD), .ow false [], .fz (gD (1 / Po.co b m)), .un, .un, .un, .un])) _) _) = _
  rw [Option.bind_some, onNext_nx, b_cons']
  have t1' : row_trimmed.run [PyData.list []] = some (.fz (rD []), []) := t1
  conv in evS _ _ => simp [t1', t2]
  rfl
end Pk
end EvL

set_option Elab.async false
set_option linter.all false
set_option maxRecDepth 100000
set_option maxHeartbeats 1900000
namespace EvL
open PySem PySem.Spec PyProof.Rows L2
/-! ### whole complex numbers over one whole complex number -/
def Ir (L : Nat) (f : Nat → GQ) : Prop := ∃ c, c ≠ 0 ∧ Gi L c ∧ ∀ k, Gi L (f k * c)
theorem Ir.gz {L : Nat} {f : Nat → GQ} (h : Ir L f) (k : Nat) : Gz (2 * L + 1) (f k) := by
  obtain ⟨c, c0, g, h⟩ := h
  have := (h k).over g c0
  have e : f k * c / c = f k := by grind
  rw [e] at this
  exact this.mono (by omega)
theorem Ir.mono {L M : Nat} {f : Nat → GQ} (h : Ir L f) (hl : L ≤ M) : Ir M f := by
  obtain ⟨c, c0, g, h⟩ := h
  exact ⟨c, c0, g.mono hl, fun k => (h k).mono hl⟩
theorem Ir.congr {L : Nat} {f g : Nat → GQ} (h : Ir L f) (e : ∀ k, g k = f k) : Ir L g := by
  obtain ⟨c, c0, gc, h⟩ := h
  exact ⟨c, c0, gc, fun k => by rw [e]; exact h k⟩
theorem Ir.less {L M : Nat} {f g f' : Nat → GQ} (hf : Ir L f) (hg : Ir M g) (e : ∀ k, (∃ i t j, f' k = f i - f t * g j) ∨ ∃ i, f' k = f i) : Ir (L + M + 2) f' := by
  obtain ⟨c, c0, gc, hf⟩ := hf
  obtain ⟨d, d0, gd, hg⟩ := hg
  refine ⟨c * d, Po.kne c0 d0, (gc.mul gd).mono (by omega), fun k => ?_⟩
  rcases e k with ⟨i, t, j, e⟩ | ⟨i, e⟩
  · have : f' k * (c * d) = f i * c * d - f t * c * (g j * d) := by rw [e]; grind
    rw [this]
    exact (((hf i).mul gd).sub ((hf t).mul (hg j))).mono (by omega)
  · have : f' k * (c * d) = f i * c * d := by rw [e]; grind
    rw [this]
    exact ((hf i).mul gd).mono (by omega)
theorem Ir.zero {L : Nat} {f : Nat → GQ} (h : Ir L f) (k : Nat) : True := trivial
theorem Gi.zero (b : Nat) : Gi b 0 := ⟨0, 0, by ext <;> simp, sz0 b, sz0 b⟩
theorem Ir.rz {L : Nat} {p : List GQ} (h : Ir L (Po.co p)) : Rz (2 * L + 1) p := Rz.of_co fun k _ => h.gz k
namespace Pk
theorem conv_all (b q : List GQ) {s : Nat} (h : q.length ≤ s) (k : Nat) : Po.conv b (q.take s) k = Po.conv b q k := by rw [List.take_of_length_le h]
/-- what is left at each step of a division by a row with 1 at its end -/
theorem vr_ir {L m N : Nat} {p b q r : List GQ} (hb : b.length = m + 1) (hl : Po.co b m = 1) (hq : q.length = N) (hr : r.length ≤ m) (e : ∀ k, Po.co p k = Po.conv b q k + Po.co r k)
    (ip : Ir L (Po.co p)) (ib : Ir L (Po.co b)) : ∀ j, j ≤ N → Ir (L + j * (L + 2)) (Vr b q r (N - j))
  | 0, _ => (ip.congr fun k => by rw [Vr, Nat.sub_zero, ← hq, List.take_length, e]).mono (by omega)
  | j + 1, hj => by
    have ih := vr_ir hb hl hq hr e ip ib j (by omega)
    obtain ⟨s, hs⟩ : ∃ s, N - j = s + 1 := ⟨N - j - 1, by omega⟩
    rw [show N - (j + 1) = s by omega]
    rw [hs] at ih
    have hsq : s < q.length := by omega
    have top : Vr b q r (s + 1) (m + s) = Po.co q s := by
      unfold Vr
      rw [Po.conv_top hb (n := s) (by rw [List.length_take]; omega), Po.co_ge (p := r) (by omega), hl]
      have : Po.co (q.take (s + 1)) s = Po.co q s := by
        rw [Po.take_snoc q hsq, Po.co_append, if_neg (by rw [List.length_take]; omega), List.length_take, show s - min s q.length = 0 by omega]; rfl
      rw [this]; grind
    refine (ih.less ib (f' := Vr b q r s) fun k => ?_).mono (by rw [Nat.succ_mul]; omega)
    by_cases h : s ≤ k
    · refine .inl ⟨k, m + s, k - s, ?_⟩
      rw [top]
      unfold Vr
      rw [Po.conv_take b q hsq, if_pos h]; grind
    · refine .inr ⟨k, ?_⟩
      unfold Vr
      rw [Po.conv_take b q hsq, if_neg h]; grind
/-- the last number of a row, 1 for none -/
def lc (p : List GQ) : GQ := if p = [] then 1 else Po.co p (p.length - 1)
def m1 (p : List GQ) : List GQ := p.map ((lc p)⁻¹ * ·)
theorem lc_ne {p : List GQ} (h : Po.Row p) : lc p ≠ 0 := by
  unfold lc
  split
  · grind
  · rename_i h0
    obtain ⟨m, hm, l⟩ := Po.row_len h h0
    rw [hm]; exact l
theorem inv_ne {x : GQ} (h : x ≠ 0) : x⁻¹ ≠ 0 := fun z => by
  have : x * x⁻¹ = 1 := by grind
  rw [z] at this
  exact Lean.Grind.Field.zero_ne_one (α := GQ) (by grind)
theorem m1_row {p : List GQ} (h : Po.Row p) : Po.Row (m1 p) := Po.scale_row h (inv_ne (lc_ne h))
theorem m1_len (p : List GQ) : (m1 p).length = p.length := by simp [m1]
theorem m1_top {p : List GQ} {m : Nat} (h : Po.Row p) (hm : p.length = m + 1) : Po.co (m1 p) m = 1 := by
  have l := h.last hm
  have : lc p = Po.co p m := by
    unfold lc
    rw [if_neg (fun z => by rw [z] at hm; simp at hm), hm]; rfl
  rw [m1, Po.co_mapf (by grind), this]; grind
theorem m1_ev (p : List GQ) (x : GQ) : Po.ev (m1 p) x = (lc p)⁻¹ * Po.ev p x := Po.ev_map_mul _ _ _
theorem m1_ir {L : Nat} {p : List GQ} (h : Po.Row p) (ip : Ir L (Po.co p)) : Ir L (Po.co (m1 p)) := by
  by_cases h0 : p = []
  · subst h0; exact ip
  obtain ⟨m, hm, l⟩ := Po.row_len h h0
  obtain ⟨c, c0, gc, hc⟩ := ip
  have e : lc p = Po.co p m := by unfold lc; rw [if_neg h0, hm]; rfl
  refine ⟨Po.co p m * c, Po.kne l c0, hc m, fun k => ?_⟩
  have : Po.co (m1 p) k * (Po.co p m * c) = Po.co p k * c := by
    rw [m1, Po.co_mapf (by grind), e]; grind
  rw [this]; exact hc k
theorem m1_id {p : List GQ} (h : lc p = 1) : m1 p = p := by
  unfold m1
  rw [h]
  have : ∀ x : GQ, (1 : GQ)⁻¹ * x = x := fun x => by grind
  simp [this]
theorem last_one_run {B : Nat} {p : List GQ} (h : Po.Row p) (hp : Rz B p) (h1 : 1 ≤ B) (hB : B ≤ 900000) (hl : p.length ≤ 1000) : row_last_one.run [rD p] = some (.fz (rD (m1 p)), []) := by
  have q := eq_tnil (lay_r p) (by omega)
  by_cases h0 : p = []
  · subst h0
    rw [run_row_last_one]
    simp at q
    simp [runB, List.replicate, ir_row_last_one, rD, q, m1]
  · obtain ⟨m, hm, l⟩ := Po.row_len h h0
    have p0 := num_over_run' (Gz.one (Nat.le_refl 1)) (hp.co h1 m) (by omega) (by omega) l
    have gi : Gz (2 * B + 1) (1 / Po.co p m) := by
      have := (hp.co h1 m).inv
      have e : (1 : GQ) / Po.co p m = (Po.co p m)⁻¹ := by grind
      rw [e]; exact this
    have s := scaled_run (hp.mono (show B ≤ 1900000 by omega)) gi (by omega) (by omega) hl
    have e : Po.trim (p.map (· * (1 / Po.co p m))) = m1 p := by
      rw [← m1_row h]
      refine Po.trim_congr fun k => ?_
      have e : lc p = Po.co p m := by unfold lc; rw [if_neg h0, hm]; rfl
      rw [m1, Po.co_mapf (by grind), Po.co_mapf (by grind), e]; grind
    rw [e] at s
    have lb := last_gD hm
    have n0 : ¬ p.map gD = [] := by simpa using h0
    rw [run_row_last_one, run0 (np := 1) (n := 1) (ds := [rD p]) rfl]
    show (evB ir_row_last_one [.fz (rD p)]).bind (outM false) = _
    unfold ir_row_last_one
    rw [← g1D]
    simp [n0] at q
    have s' : row_scaled.run [.tuple (p.map gD), gD (1 / Po.co p m)] = some (.fz (rD (m1 p)), []) := s
    rw [b_cons']; conv in evS _ _ => simp [rD, q, lb, p0, s']
    rfl
theorem m1_nz {p : List GQ} (h : Po.Row p) (h0 : p ≠ []) : ∃ k, Po.co p k ≠ 0 := by
  obtain ⟨m, hm, l⟩ := Po.row_len h h0
  exact ⟨m, l⟩
/-- one step of the common divisor -/
theorem gcd_step {L m N : Nat} {C A B p q : List GQ} (qm : q.length = m + 1) (qt : Po.co q m = 1) (pm : p.length = m + N) (ip : Ir L (Po.co p)) (iq : Ir L (Po.co q)) (hz : 2 * (L + N * (L + 2)) + 1 ≤ 900000) (hn : m + N ≤ 1000)
    (eA : ∀ x, Po.ev p x = Po.ev C x * Po.ev A x) (eB : ∀ x, Po.ev q x = Po.ev C x * Po.ev B x) (cop : Po.Cop A B) :
    ∃ (r A' : List GQ) (d : D), row_rest.run [rD p, rD q] = some (.fz (.tuple [d, rD r]), []) ∧ row_last_one.run [rD r] = some (.fz (rD (m1 r)), []) ∧ Po.Row (m1 r) ∧ (m1 r).length ≤ m ∧ (∀ n, (m1 r).length = n + 1 → Po.co (m1 r) n = 1) ∧ Ir (L + N * (L + 2)) (Po.co (m1 r)) ∧
      (∀ x, Po.ev (m1 r) x = Po.ev C x * Po.ev A' x) ∧ Po.Cop B A' := by
  have l0 : Po.co q m ≠ 0 := by rw [qt]; grind
  obtain ⟨s, r, hs, hr, e⟩ := Po.div_ex qm l0 N (Po.co p) fun k hk => Po.co_ge (by omega)
  have V := vr_ir qm qt hs (by omega) e ip iq
  have V' : ∀ t, Ir (L + N * (L + 2)) (Vr q s r t) := fun t => by
    by_cases h : t ≤ N
    · have := V (N - t) (by omega)
      rw [show N - (N - t) = t by omega] at this
      exact this.mono (Nat.add_le_add_left (Nat.mul_le_mul_right _ (by omega)) _)
    · have := V 0 (by omega)
      rw [Nat.sub_zero] at this
      exact (this.congr fun k => by unfold Vr; rw [conv_all q s (by omega), conv_all q s (by omega)]).mono (Nat.add_le_add_left (Nat.mul_le_mul_right _ (by omega)) _)
  have zs : Rz (2 * (L + N * (L + 2)) + 1) s := Rz.of_co fun k hk => by
    have t := (V' (k + 1)).gz (m + k)
    have top : Vr q s r (k + 1) (m + k) = Po.co s k := by
      unfold Vr
      rw [Po.conv_top qm (n := k) (by rw [List.length_take]; omega), Po.co_ge (p := r) (by omega), qt]
      have : Po.co (s.take (k + 1)) k = Po.co s k := by
        rw [Po.take_snoc s hk, Po.co_append, if_neg (by rw [List.length_take]; omega), List.length_take, show k - min k s.length = 0 by omega]; rfl
      rw [this]; grind
    rw [top] at t; exact t
  have ri : Ir (L + N * (L + 2)) (Po.co (Po.trim r)) := (V' 0).congr fun k => by
    rw [Po.co_trim, Vr, List.take_zero, Po.conv_comm, Po.conv_nil]; grind
  have run := row_rest_run qm l0 hs (by omega) pm e (iq.rz.mono (show 2 * L + 1 ≤ 2 * (L + N * (L + 2)) + 1 by omega)) zs (fun t k => (V' t).gz k) (by omega) (by omega) hn
  have rr := Po.Row.trim r
  have last := last_one_run rr ri.rz (by omega) (by omega) (by have := Po.trim_len r; omega)
  have er : ∀ x, Po.ev (Po.trim r) x = Po.ev C x * Po.ev (Po.add A (Po.mul B (s.map ((-1) * ·)))) x := fun x => by
    have e1 : Po.ev p x = Po.ev q x * Po.ev s x + Po.ev r x := by
      rw [← Po.ev_mul, ← Po.ev_add]
      exact Po.ev_congr (fun k => by rw [Po.co_add, Po.co_mul]; exact e k) x
    rw [Po.ev_trim, Po.ev_add, Po.ev_mul, Po.ev_map_mul]
    have := eA x; have := eB x; grind
  refine ⟨Po.trim r, (Po.add A (Po.mul B (s.map ((-1) * ·)))).map ((lc (Po.trim r))⁻¹ * ·), rD (Po.trim s), run, last, m1_row rr, by rw [m1_len]; have := Po.trim_len r; omega, fun n hn => m1_top rr (by rwa [m1_len] at hn), m1_ir rr ri, fun x => ?_, ?_⟩
  · rw [m1_ev, er, Po.ev_map_mul]; grind
  · exact (cop.step (q := s) fun x => by rw [Po.ev_add, Po.ev_mul, Po.ev_map_mul]; grind).scale (inv_ne (lc_ne rr))
def gBody : List IS := [(.par [2, 3] [(.var 3), (.call Pk.row_last_one Pk.E_row_last_one_1.pm [(.ix (.call Pk.row_rest Pk.E_row_rest_2.pm [(.var 2), (.var 3)]) (.cst (.int (1))))])])]
def gCond : IE := .cmp .ne (.var 3) (.tup [])
theorem pow3 : ∀ {d : Nat}, 1 ≤ d → d + 2 ≤ 3 ^ d
  | 1, _ => by decide
  | d + 2, _ => by
    have := pow3 (d := d + 1) (by omega)
    rw [Nat.pow_succ]; omega
theorem gcd_one {C A p : List GQ} (hC : Po.Row C) (c1 : ∀ n, C.length = n + 1 → Po.co C n = 1) (hp : Po.Row p) (p1 : ∀ n, p.length = n + 1 → Po.co p n = 1) (C0 : C ≠ []) (B : List GQ)
    (eA : ∀ x, Po.ev p x = Po.ev C x * Po.ev A x) (eB : ∀ x, Po.ev C x * Po.ev B x = 0) (cop : Po.Cop A B) : p = C := by
  obtain ⟨a, a0, ha⟩ := cop.unit (Po.zero_mul (m1_nz hC C0) eB)
  have e : p = C.map (a * ·) := Po.Row.ext hp (Po.scale_row hC a0) fun k => Po.ext_gq (fun z => by rw [Po.ev_map_mul, eA, ha]; grind) k
  obtain ⟨m, hm, l⟩ := Po.row_len hC C0
  have h1 := p1 m (by rw [e]; simpa using hm)
  rw [e, Po.co_mapf (by grind), c1 m hm] at h1
  have : a = 1 := by grind
  rw [e, this]
  have : ∀ x : GQ, 1 * x = x := fun x => by grind
  simp [this]
theorem gcd_loop {Y : Nat} {C : List GQ} (hC : Po.Row C) (c1 : ∀ n, C.length = n + 1 → Po.co C n = 1) (C0 : C ≠ []) (hY : Y ≤ 200) {d0 d1 : D} : ∀ (n : Nat) {L : Nat} {A B p q : List GQ}, q.length ≤ n → Po.Row p → Po.Row q → (∀ n, p.length = n + 1 → Po.co p n = 1) → (∀ n, q.length = n + 1 → Po.co q n = 1) →
    q.length < p.length → p.length ≤ 7 → Ir L (Po.co p) → Ir L (Po.co q) → L + 2 ≤ Y * 3 ^ (7 - p.length) → (∀ x, Po.ev p x = Po.ev C x * Po.ev A x) → (∀ x, Po.ev q x = Po.ev C x * Po.ev B x) → Po.Cop A B →
    evW (evT gCond) (evB gBody) (n + 1) [.fz d0, .fz d1, .fz (rD p), .fz (rD q)] = some (.nx [.fz d0, .fz d1, .fz (rD C), .fz (rD [])]) := by
  have stop : ∀ (n : Nat) {A B p : List GQ}, Po.Row p → (∀ n, p.length = n + 1 → Po.co p n = 1) → (∀ x, Po.ev p x = Po.ev C x * Po.ev A x) → (∀ x, Po.ev [] x = Po.ev C x * Po.ev B x) → Po.Cop A B →
      evW (evT gCond) (evB gBody) (n + 1) [.fz d0, .fz d1, .fz (rD p), .fz (rD [])] = some (.nx [.fz d0, .fz d1, .fz (rD C), .fz (rD [])]) := fun n A B p rp p1 eA eB cop => by
    rw [gcd_one hC c1 rp p1 C0 B eA (fun x => (eB x).symm) cop, F1.evW_succ]
    have q0 := eq_tnil (xs := []) (k := 2) (fun x h => nomatch h) (by omega)
    simp [gCond, rD, q0]
  intro n
  induction n with
  | zero =>
    intro L A B p q hn rp rq p1 q1 hlt hl7 ip iq hL eA eB cop
    have q0 : q = [] := List.length_eq_zero_iff.mp (by omega)
    subst q0
    exact stop 0 rp p1 eA eB cop
  | succ n ih =>
    intro L A B p q hn rp rq p1 q1 hlt hl7 ip iq hL eA eB cop
    by_cases q0 : q = []
    · subst q0
      exact stop (n + 1) rp p1 eA eB cop
    obtain ⟨m, qm, lm⟩ := Po.row_len rq q0
    have qt := q1 m qm
    obtain ⟨N, pm⟩ : ∃ N, p.length = m + N := ⟨p.length - m, by omega⟩
    have p3 := pow3 (d := N - 1) (by omega)
    have pw : 3 ^ (N - 1) * 3 ^ (7 - p.length) = 3 ^ (7 - q.length) := by rw [← Nat.pow_add]; congr 1; omega
    have big : (L + N * (L + 2)) + 2 ≤ Y * 3 ^ (7 - q.length) := by
      have h1 : (L + N * (L + 2)) + 2 = (N + 1) * (L + 2) := by rw [Nat.succ_mul]; omega
      rw [h1, ← pw]
      have h2 : (N + 1) * (L + 2) ≤ 3 ^ (N - 1) * (Y * 3 ^ (7 - p.length)) := Nat.mul_le_mul (by omega) hL
      have h3 : 3 ^ (N - 1) * (Y * 3 ^ (7 - p.length)) = Y * (3 ^ (N - 1) * 3 ^ (7 - p.length)) := Nat.mul_left_comm _ _ _
      omega
    have top : Y * 3 ^ (7 - q.length) ≤ 200 * 3 ^ 6 := Nat.mul_le_mul hY (Nat.pow_le_pow_right (by decide) (by omega))
    obtain ⟨r, A', d, run, last, r1, r2, r3, r4, r5, r6⟩ := gcd_step (C := C) qm qt pm ip iq (by omega) (by omega) eA eB cop
    have go := ih (by omega) rq r1 q1 r3 (by omega) (by omega) (iq.mono (show L ≤ L + N * (L + 2) by omega)) r4 big eB r5 r6
    rw [F1.evW_succ]
    have ne := eq_tnil (lay_r q) (by omega)
    have n0 : ¬ q.map gD = [] := by simpa using q0
    simp [n0] at ne
    have c : evT gCond [.fz d0, .fz d1, .fz (rD p), .fz (rD q)] = some (true, [.fz d0, .fz d1, .fz (rD p), .fz (rD q)]) := by
      simp [gCond, rD, ne]
    have b : evB gBody [.fz d0, .fz d1, .fz (rD p), .fz (rD q)] = some (.nx [.fz d0, .fz d1, .fz (rD q), .fz (rD (m1 r))]) := by
      unfold gBody
      simp [run, last]
    rw [c, Option.bind_some]
    show ((evB gBody [.fz d0, .fz d1, .fz (rD p), .fz (rD q)]).bind _) = _
    rw [b, Option.bind_some, onTurn_nx, go]
theorem w_step {d0 d1 : D} {p q r r' : List GQ} {d : D} {n : Nat} {o : Option Out} (q0 : q ≠ []) (run : row_rest.run [rD p, rD q] = some (.fz (.tuple [d, rD r]), [])) (last : row_last_one.run [rD r] = some (.fz (rD r'), []))
    (go : evW (evT gCond) (evB gBody) n [.fz d0, .fz d1, .fz (rD q), .fz (rD r')] = o) : evW (evT gCond) (evB gBody) (n + 1) [.fz d0, .fz d1, .fz (rD p), .fz (rD q)] = o := by
  rw [F1.evW_succ]
  have ne := eq_tnil (lay_r q) (by omega)
  have n0 : ¬ q.map gD = [] := by simpa using q0
  simp [n0] at ne
  have c : evT gCond [.fz d0, .fz d1, .fz (rD p), .fz (rD q)] = some (true, [.fz d0, .fz d1, .fz (rD p), .fz (rD q)]) := by
    simp [gCond, rD, ne]
  have b : evB gBody [.fz d0, .fz d1, .fz (rD p), .fz (rD q)] = some (.nx [.fz d0, .fz d1, .fz (rD q), .fz (rD r')]) := by
    unfold gBody
    simp [run, last]
  rw [c, Option.bind_some]
  show ((evB gBody [.fz d0, .fz d1, .fz (rD p), .fz (rD q)]).bind _) = _
  rw [b, Option.bind_some, onTurn_nx, go]
theorem w_stop {d0 d1 : D} {p : List GQ} {n : Nat} : evW (evT gCond) (evB gBody) (n + 1) [.fz d0, .fz d1, .fz (rD p), .fz (rD [])] = some (.nx [.fz d0, .fz d1, .fz (rD p), .fz (rD [])]) := by
  rw [F1.evW_succ]
  have q0 := eq_tnil (xs := []) (k := 2) (fun x h => nomatch h) (by omega)
  simp [gCond, rD, q0]
theorem divisor_of {a b c : List GQ} {a1 b1 : List GQ} (ha : row_last_one.run [rD a] = some (.fz (rD a1), [])) (hb : row_last_one.run [rD b] = some (.fz (rD b1), []))
    (go : evW (evT gCond) (evB gBody) 10 [.fz (rD a), .fz (rD b), .fz (rD a1), .fz (rD b1)] = some (.nx [.fz (rD a), .fz (rD b), .fz (rD c), .fz (rD [])])) : row_divisor.run [rD a, rD b] = some (.fz (rD c), []) := by
  have go := evW_up (m := WF) go (by unfold WF; omega)
  rw [run_row_divisor, run0 (np := 2) (n := 4) (ds := [rD a, rD b]) rfl]
  show (evB ir_row_divisor [.fz (rD a), .fz (rD b), .un, .un]).bind (outM false) = _
  unfold ir_row_divisor
  rw [b_cons']; conv in evS _ _ => simp [ha, hb]
  rw [Option.bind_some, onNext_nx, b_cons', v_whl]
  show (((evW (evT gCond) (evB gBody) WF [.fz (rD a), .fz (rD b), .fz (rD a1), .fz (rD b1)]).bind _).bind _) = _
  rw [go, Option.bind_some, onNext_nx]
  simp
theorem lc_one {p : List GQ} (h : Po.Row p) (p1 : ∀ n, p.length = n + 1 → Po.co p n = 1) : lc p = 1 := by
  unfold lc
  split
  · rfl
  · rename_i h0
    obtain ⟨m, hm, l⟩ := Po.row_len h h0
    rw [hm]; exact p1 m hm
/-- the common divisor of two rows with told parts -/
theorem divisor_run {L : Nat} {C A B a b : List GQ} (hC : Po.Row C) (c1 : ∀ n, C.length = n + 1 → Po.co C n = 1) (C0 : C ≠ []) (ra : Po.Row a) (rb : Po.Row b) (a0 : a ≠ []) (b0 : b ≠ []) (la : a.length ≤ 7) (lb : b.length ≤ 7) (ia : Ir L (Po.co a)) (ib : Ir L (Po.co b)) (hL : L ≤ 90)
    (eA : ∀ x, Po.ev a x = Po.ev C x * Po.ev A x) (eB : ∀ x, Po.ev b x = Po.ev C x * Po.ev B x) (cop : Po.Cop A B) : row_divisor.run [rD a, rD b] = some (.fz (rD C), []) := by
  have ha := last_one_run ra ia.rz (by omega) (by omega) (by omega)
  have hb := last_one_run rb ib.rz (by omega) (by omega) (by omega)
  have ra1 := m1_row ra
  have rb1 := m1_row rb
  have ia1 := m1_ir ra ia
  have ib1 := m1_ir rb ib
  have ta : ∀ n, (m1 a).length = n + 1 → Po.co (m1 a) n = 1 := fun n h => m1_top ra (by rwa [m1_len] at h)
  have tb : ∀ n, (m1 b).length = n + 1 → Po.co (m1 b) n = 1 := fun n h => m1_top rb (by rwa [m1_len] at h)
  have eA1 : ∀ x, Po.ev (m1 a) x = Po.ev C x * Po.ev (A.map ((lc a)⁻¹ * ·)) x := fun x => by rw [m1_ev, eA, Po.ev_map_mul]; grind
  have eB1 : ∀ x, Po.ev (m1 b) x = Po.ev C x * Po.ev (B.map ((lc b)⁻¹ * ·)) x := fun x => by rw [m1_ev, eB, Po.ev_map_mul]; grind
  have cop1 : Po.Cop (A.map ((lc a)⁻¹ * ·)) (B.map ((lc b)⁻¹ * ·)) := ((cop.scale (inv_ne (lc_ne rb))).symm.scale (inv_ne (lc_ne ra))).symm
  have n1 : m1 b ≠ [] := fun z => b0 (by have := congrArg List.length z; rw [m1_len] at this; exact List.length_eq_zero_iff.mp (by simpa using this))
  refine divisor_of ha hb ?_
  have p0 : ∀ d : Nat, 1 ≤ 3 ^ d := fun d => Nat.pow_pos (by decide)
  have hY : ∀ d : Nat, L + 2 ≤ 200 * 3 ^ d := fun d => by have := p0 d; omega
  obtain ⟨m, hm, lm⟩ := Po.row_len rb b0
  have hm1 : (m1 b).length = m + 1 := by rw [m1_len, hm]
  rcases Nat.lt_trichotomy a.length b.length with h | h | h
  · -- turned round first
    have low := row_rest_low (a := m1 a) hm1 (by rw [tb m hm1]; grind) (by rw [m1_len]; omega) ib1.rz (by omega) (by omega) (by omega)
    rw [ra1] at low
    have lst := last_one_run ra1 ia1.rz (by omega) (by omega) (by rw [m1_len]; omega)
    rw [m1_id (lc_one ra1 ta)] at lst
    refine w_step n1 low lst ?_
    exact evW_up (gcd_loop hC c1 C0 (Nat.le_refl 200) 7 (by rw [m1_len]; omega) rb1 ra1 tb ta (by rw [m1_len, m1_len]; omega) (by rw [m1_len]; omega) ib1 ia1 (hY _) eB1 eA1 cop1.symm) (by omega)
  · obtain ⟨r, A', d, run, last, r1, r2, r3, r4, r5, r6⟩ := gcd_step (C := C) (N := 1) hm1 (tb m hm1) (by rw [m1_len]; omega) ia1 ib1 (by omega) (by omega) eA1 eB1 cop1
    refine w_step n1 run last ?_
    have := p0 (7 - (m1 b).length)
    exact evW_up (gcd_loop hC c1 C0 (Nat.le_refl 200) 7 (by omega) rb1 r1 tb r3 (by omega) (by omega) (ib1.mono (show L ≤ L + 1 * (L + 2) by omega)) r4 (by omega) eB1 r5 r6) (by omega)
  · exact evW_up (gcd_loop hC c1 C0 (Nat.le_refl 200) 7 (by rw [m1_len]; omega) ra1 rb1 ta tb (by rw [m1_len, m1_len]; omega) (by rw [m1_len]; omega) ia1 ib1 (hY _) eA1 eB1 cop1) (by omega)
theorem one_nil : row_last_one.run [rD []] = some (.fz (rD []), []) := last_one_run (B := 1) Po.Row.nil (fun z h => nomatch h) (by omega) (by omega) (by simp)
theorem divisor_left {B : Nat} {a : List GQ} (ra : Po.Row a) (za : Rz B a) (h1 : 1 ≤ B) (hB : B ≤ 400000) (la : a.length ≤ 900) : row_divisor.run [rD a, rD []] = some (.fz (rD (m1 a)), []) :=
  divisor_of (last_one_run ra za h1 (by omega) (by omega)) one_nil w_stop
theorem divisor_right {L : Nat} {a : List GQ} (ra : Po.Row a) (ia : Ir L (Po.co a)) (hL : L ≤ 90) (la : a.length ≤ 900) : row_divisor.run [rD [], rD a] = some (.fz (rD (m1 a)), []) := by
  have ha := last_one_run ra ia.rz (by omega) (by omega) (by omega)
  by_cases a0 : a = []
  · subst a0; exact divisor_of one_nil one_nil w_stop
  obtain ⟨m, hm, lm⟩ := Po.row_len ra a0
  have hm1 : (m1 a).length = m + 1 := by rw [m1_len, hm]
  have n1 : m1 a ≠ [] := fun z => by rw [z] at hm1; simp at hm1
  have low := row_rest_low (a := []) hm1 (by rw [m1_top ra hm]; grind) (by simp) (m1_ir ra ia).rz (by omega) (by omega) (by omega)
  exact divisor_of one_nil ha (w_step n1 low one_nil w_stop)
/-! the doors -/
theorem check_row_run {p : List GQ} (h : Po.Row p) (hl : p.length ≤ 1000) : check_row.run [rD p] = some (.fz .none, []) := by
  have := is_row_run (p := p) (by omega)
  simp [h] at this
  rw [run_check_row]
  simp [runB, List.replicate, ir_check_row, this]
theorem common_of {a b c : List GQ} (ra : Po.Row a) (rb : Po.Row b) (la : a.length ≤ 1000) (lb : b.length ≤ 1000) (h : row_divisor.run [rD a, rD b] = some (.fz (rD c), [])) : row_common.run [rD a, rD b] = some (.fz (rD c), []) := by
  have h1 := check_row_run ra la
  have h2 := check_row_run rb lb
  rw [run_row_common]
  simp [runB, List.replicate, ir_row_common, h1, h2, h]
theorem divided_of {a b : List GQ} {d : D} (ra : Po.Row a) (rb : Po.Row b) (b0 : b ≠ []) (la : a.length ≤ 1000) (lb : b.length ≤ 1000) (h : row_rest.run [rD a, rD b] = some (.fz d, [])) : row_divided.run [rD a, rD b] = some (.fz d, []) := by
  have h1 := check_row_run ra la
  have h2 := check_row_run rb lb
  have ne := eq_tnil (lay_r b) (by omega)
  have n0 : ¬ b.map gD = [] := by simpa using b0
  simp [n0] at ne
  have ne' : eqD (rD b) (.tuple []) = some false := ne
  rw [run_row_divided]
  simp [runB, List.replicate, ir_row_divided, h1, h2, h, ne']
end Pk
end EvL

set_option Elab.async false
set_option linter.all false
set_option maxRecDepth 100000
set_option maxHeartbeats 1900000
namespace EvL
open PySem PySem.Spec PyProof.Rows L2
theorem shaped_tN (z : GQ) : SeqAt.shaped (tN z) = true := by
  unfold tN tD
  simp [SeqAt.shaped, PyData.canLay0, PyData.canLayAll0, PyData.depth, PyData.depthAll]
theorem eqv_tN (x y : GQ) : PyData.eqv (tN x) (tN y) = decide (x = y) := by
  have := eq_tN x y
  rw [eq_shaped (shaped_tN x) (shaped_tN y) (.inl fun x => by simp [tN, tD])] at this
  exact Option.some.inj this
theorem nin_tN (x : GQ) (p : List GQ) : cmpD .nin (tN x) (.list (p.map tN)) = some (!decide (x ∈ p)) := by
  have s1 : SeqAt.shaped (.list (p.map tN)) = true := shaped_l (k := 1) (fun y hy => by
    obtain ⟨z, _, rfl⟩ := List.mem_map.mp hy
    exact lay_tN z) (by omega)
  show (if SeqAt.shaped (tN x) && SeqAt.shaped (.list (p.map tN)) then some (!(p.map tN).any fun y => PyData.eqv y (tN x)) else none) = _
  simp only [shaped_tN, s1, Bool.and_self, if_true]
  congr 2
  rw [Bool.eq_iff_iff]
  simp [eqv_tN]
theorem tri_neg (z : GQ) : tri (-z) = (0 - (tri z).1, 0 - (tri z).2.1, (tri z).2.2) := tri_of (tri_pos z) (by
      have := tri_cop z
      rw [show (0 - (tri z).1 : Int) = -(tri z).1 by omega, show (0 - (tri z).2.1 : Int) = -(tri z).2.1 by omega, Int.gcd_neg, Int.neg_gcd]; exact this) (by
      have e := tri_re z; have n := ic_ne (tri_ne z)
      rw [show (0 - (tri z).1 : Int) = -(tri z).1 by omega, ic_neg, GQ.neg_re]; grind) (by
      have e := tri_im z; have n := ic_ne (tri_ne z)
      rw [show (0 - (tri z).2.1 : Int) = -(tri z).2.1 by omega, ic_neg, GQ.neg_im]; grind)
theorem tN_neg (z : GQ) : tN (-z) = .tuple [.int (0 - (tri z).1), .int (0 - (tri z).2.1), .int (tri z).2.2] := by
  unfold tN; rw [tri_neg]; rfl
namespace Pk
theorem row_runM (M : Nat) (hM : M ≤ 5) {c : Int} {l : List PyData} (h : F1.Pail c l) (hc : c + 100 < 1000000) : ∃ p l', _law_row.run [.list l, .int M] = some (.ow (p.map tN), l') ∧ Rz 3 p ∧ Po.Row p ∧ p.length ≤ M ∧ F1.Pail (c + 40) l' := by
  obtain ⟨m, l1, e1, m0, m1, h1⟩ := F1.dip_run (m := (M : Int) + 1) h (by omega) (by omega) (by omega)
  obtain ⟨n, hn⟩ : ∃ n : Nat, m = n := ⟨m.toNat, by omega⟩
  have hn5 : n ≤ M := by omega
  have i1 : evs [(.callm F1.dip 0 [(.bin .add (.var 1) (.cst (.int (1))))])] [.ow true l, .fz (.int M), .un, .un, .un] = some ([.int m], [.ow true l1, .fz (.int M), .un, .un, .un]) := by
    simp [e1]
  obtain ⟨ys, Γ5, e2, hl2, hy2, ⟨l2, h2, hG⟩⟩ := lc_ex (vs := [3]) (t := .nm 3) (k := .rng1) (its := [(.callm F1.dip 0 [(.bin .add (.var 1) (.cst (.int (1))))])]) (elt := (.callm _law_drawn 0 [(.cst (.int (4))), (.cst (.int (3)))])) (Γ := [.ow true l, .fz (.int M), .un, .un, .un]) (Γ1 := [.ow true l1, .fz (.int M), .un, .un, .un]) (ds := [.int m]) (xs := rngD 0 m)
    (fun j Γ => ∃ l2, F1.Pail (c + 1 + 4 * j) l2 ∧ Γ = [.ow true l2, .fz (.int M), .un, .un, .un]) (fun y => ∃ z, y = tN z ∧ Gz 3 z) i1 (it_r1 (by omega)) (by rw [rng_len]; omega) ⟨l1, by simpa using h1, rfl⟩
    (fun j x Γ hx ⟨l2, h2, hG⟩ => by
      have hj : j < n := by
        have : j < (rngD 0 m).length := by
          by_cases q : j < (rngD 0 m).length
          · exact q
          · rw [List.getElem?_eq_none (by omega)] at hx; cases hx
        rw [rng_len] at this; omega
      obtain ⟨z, l3, e3, gz, h3⟩ := drawn43 h2 (by omega)
      rw [hG]
      exact ⟨[.ow true l2, .fz (.int M), .un, .fz x, .un], .fz (tN z), [.ow true l3, .fz (.int M), .un, .fz x, .un], by simp, by simp [e3], ⟨z, rfl, gz⟩, l3, h3.up (by omega), by simp [wipeG]⟩)
  obtain ⟨p, rfl, hp⟩ := rows_of hy2
  rw [rng_len] at hl2 h2
  have hpl : p.length ≤ M := by rw [List.length_map] at hl2; omega
  subst hG
  have b1 : backG [.ow true l1, .fz (.int M), .un, .un, .un] [.ow true l2, .fz (.int M), .un, .un, .un] [3] = [.ow true l2, .fz (.int M), .un, .un, .un] := rfl
  rw [b1] at e2
  have i2 : evs [(.var 2)] [.ow true l2, .fz (.int M), .ow false (p.map tN), .un, .un] = some ([.list (p.map tN)], [.ow true l2, .fz (.int M), .fz (.list (p.map tN)), .un, .un]) := by simp
  obtain ⟨ys, Γ6, e3, hl3, hy3, ⟨l3, h3, hG⟩⟩ := lc_ex (vs := [4]) (t := .nm 4) (k := .seq) (its := [(.var 2)]) (elt := (.ite (.cmp .eq (.callm F1.dip 0 [(.cst (.int (5)))]) (.cst (.int (0)))) (.tup [(.cst (.int (0))), (.cst (.int (0))), (.cst (.int (1)))]) (.var 4))) (Γ := [.ow true l2, .fz (.int M), .ow false (p.map tN), .un, .un]) (Γ1 := [.ow true l2, .fz (.int M), .fz (.list (p.map tN)), .un, .un]) (ds := [.list (p.map tN)]) (xs := p.map tN)
    (fun j Γ => ∃ l3, F1.Pail (c + 25 + j) l3 ∧ Γ = [.ow true l3, .fz (.int M), .fz (.list (p.map tN)), .un, .un]) (fun y => ∃ z, y = tN z ∧ Gz 3 z) i2 rfl (by rw [List.length_map]; omega) ⟨l2, h2.up (by omega), rfl⟩
    (fun j x Γ hx ⟨l3, h3, hG⟩ => by
      have hj : j < p.length := by
        by_cases q : j < p.length
        · exact q
        · rw [List.getElem?_eq_none (by rw [List.length_map]; omega)] at hx; cases hx
      have hxz : ∃ z, x = tN z ∧ Gz 3 z := by
        have := List.mem_of_getElem? hx
        obtain ⟨z, hz, rfl⟩ := List.mem_map.mp this
        exact ⟨z, rfl, hp z hz⟩
      obtain ⟨z, rfl, gz⟩ := hxz
      obtain ⟨f, l4, e4, f0, f1, h4⟩ := F1.dip_run (m := 5) h3 (by omega) (by decide) (by decide)
      rw [hG]
      by_cases hf : f = 0
      · exact ⟨[.ow true l3, .fz (.int M), .fz (.list (p.map tN)), .un, .fz (tN z)], .fz (tN 0), [.ow true l4, .fz (.int M), .fz (.list (p.map tN)), .un, .fz (tN z)], by simp, by simp [e4, hf, tN_0], ⟨0, rfl, Gz.zero (by decide)⟩, l4, h4.up (by omega), by simp [wipeG]⟩
      · exact ⟨[.ow true l3, .fz (.int M), .fz (.list (p.map tN)), .un, .fz (tN z)], .fz (tN z), [.ow true l4, .fz (.int M), .fz (.list (p.map tN)), .un, .fz (tN z)], by simp, by simp [e4, hf], ⟨z, rfl, gz⟩, l4, h4.up (by omega), by simp [wipeG]⟩)
  obtain ⟨q, rfl, hq⟩ := rows_of hy3
  rw [List.length_map, List.length_map] at hl3
  rw [List.length_map] at h3
  subst hG
  have b2 : backG [.ow true l2, .fz (.int M), .fz (.list (p.map tN)), .un, .un] [.ow true l3, .fz (.int M), .fz (.list (p.map tN)), .un, .un] [4] = [.ow true l3, .fz (.int M), .fz (.list (p.map tN)), .un, .un] := rfl
  rw [b2] at e3
  have t := ltrim_run (p := q) (by omega)
  refine ⟨Po.trim q, l3, ?_, hq.trim (by decide), Po.Row.trim q, by have := Po.trim_len q; omega, h3.up (by omega)⟩
  rw [run__law_row, run1 (np := 2) (n := 5) (ds := [.int M]) rfl]
  show (evB ir__law_row [.ow true l, .fz (.int M), .un, .un, .un]).bind (outM true) = _
  unfold ir__law_row
  rw [b_cons', v_set, e2, Option.bind_some]
  show ((some (Out.nx [.ow true l2, .fz (.int M), .ow false (p.map tN), .un, .un])).bind _).bind _ = _
  rw [Option.bind_some, onNext_nx, b_cons', v_ret, x_call, s_cons', e3]
  simp [t]

theorem many2_run {c : Int} {l : List PyData} (h : F1.Pail c l) (hc : c + 10 < 1000000) : ∃ z l', _law_many_v2.run [.list l] = some (.fz (tN z), l') ∧ z ≠ 0 ∧ Gz 3 z ∧ F1.Pail (c + 4) l' := by
  obtain ⟨z, l', e, gz, hp⟩ := drawn43 h hc
  have q := eq00' (tri z).1 (tri z).2.1
  have iff := tri_zero z
  by_cases h0 : z = 0
  · have zz := iff.mpr h0
    rw [decide_eq_true zz] at q
    refine ⟨⟨((0 : Int) : Rat) / ((2 : Int) : Rat), ((-1 : Int) : Rat) / ((2 : Int) : Rat)⟩, l', ?_, ?_, ?_, hp⟩
    · rw [tN_of (by decide) (by decide)]
      rw [run__law_many_v2, run1 (np := 1) (n := 2) (ds := []) rfl]
      simp [ir__law_many_v2, e, sl_tN, q]
    · intro z
      have e : ((-1 : Int) : Rat) / ((2 : Int) : Rat) = 0 := congrArg GQ.im z
      have h2 : ((2 : Int) : Rat) ≠ 0 := ic_ne (by decide)
      have h1 : ((-1 : Int) : Rat) ≠ 0 := ic_ne (by decide)
      grind
    · exact ⟨0, -1, 2, by decide, rfl, rfl, Sz.lit (by decide), Sz.lit (by decide), Sz.lit (by decide)⟩
  · have zz : ¬ ((tri z).1 = 0 ∧ (tri z).2.1 = 0) := fun h => h0 (iff.mp h)
    rw [decide_eq_false zz] at q
    refine ⟨z, l', ?_, h0, gz, hp⟩
    rw [run__law_many_v2, run1 (np := 1) (n := 2) (ds := []) rfl]
    simp [ir__law_many_v2, e, sl_tN, q]
/-- some unlike numbers -/
theorem roots_run {c : Int} {l : List PyData} (h : F1.Pail c l) (hc : c + 100 < 1000000) : ∃ (p : List GQ) (l' : List PyData), _law_roots.run [.list l] = some (.fz (.list (p.map tN)), l') ∧ p.length ≤ 3 ∧ Rz 2 p ∧ p.Nodup ∧ F1.Pail (c + 20) l' := by
  obtain ⟨m, l1, e1, m0, m1, h1⟩ := F1.dip_run (m := 4) h (by omega) (by decide) (by decide)
  obtain ⟨n, hn⟩ : ∃ n : Nat, m = n := ⟨m.toNat, by omega⟩
  have nin : Rz 2 ([] : List GQ) := fun z hz => by cases hz
  obtain ⟨Γ', e, p, l2, s2, s3, hl, hz, hd, h2, rfl⟩ := evF_nat (f := fun (i : Nat) => PyData.int i) (t := .nm 2) (b := evB [(.set 3 (.callm Pk._law_drawn 0 [(.cst (.int (3))), (.cst (.int (2)))])), (.ife (.cmv .nin (.var 3) 1) [(.app 1 (.var 3))] [])]) (n := n)
    (Γ := [.ow true l1, .ow false [], .un, .un])
    (fun i Γ => ∃ (p : List GQ) (l2 : List PyData) (s2 s3 : MV), p.length ≤ i ∧ Rz 2 p ∧ p.Nodup ∧ F1.Pail (c + 1 + 4 * i) l2 ∧ Γ = [.ow true l2, .ow false (p.map tN), s2, s3])
    ⟨[], l1, .un, .un, Nat.le_refl _, nin, List.nodup_nil, by simpa using h1, rfl⟩
    (fun i Γ hi ⟨p, l2, s2, s3, hl, hz, hd, h2, hG⟩ => by
      subst hG
      obtain ⟨z, l3, e3, gz, h3⟩ := drawn_run (t := 3) (L := 2) h2 (by omega) (by decide) (by decide)
      have gz := drawn_gz (b := 2) gz (by decide) (by decide)
      have ni := nin_tN z p
      have lp : p.length < 1000000 := by omega
      by_cases hm : z ∈ p
      · rw [decide_eq_true hm] at ni
        refine ⟨[.ow true l2, .ow false (p.map tN), .fz (.int i), s3], [.ow true l3, .ow false (p.map tN), .fz (.int i), .fz (tN z)], by simp, .inl ?_, p, l3, _, _, by omega, hz, hd, h3.up (by omega), rfl⟩
        rw [b_cons']; conv in evS _ _ => simp [e3]
        rw [Option.bind_some, onNext_nx, b_cons']; conv in evS _ _ => simp [ni]
        rfl
      · rw [decide_eq_false hm] at ni
        refine ⟨[.ow true l2, .ow false (p.map tN), .fz (.int i), s3], [.ow true l3, .ow false ((p ++ [z]).map tN), .fz (.int i), .fz (tN z)], by simp, .inl ?_, p ++ [z], l3, _, _, by simp; omega, fun y hy => ?_, ?_, h3.up (by omega), rfl⟩
        · rw [b_cons']; conv in evS _ _ => simp [e3]
          rw [Option.bind_some, onNext_nx, b_cons']; conv in evS _ _ => simp [ni, lp]
          rw [List.map_append]
          rfl
        · rcases List.mem_append.mp hy with hy | hy
          · exact hz y hy
          · rw [List.mem_singleton.mp hy]; exact gz
        · exact List.nodup_append.mpr ⟨hd, by simp, fun a ha b hb e => hm (by rw [List.mem_singleton.mp hb] at e; rw [← e]; exact ha)⟩)
  refine ⟨p, l2, ?_, by omega, hz, hd, h2.up (by omega)⟩
  rw [run__law_roots, run1 (np := 1) (n := 4) (ds := []) rfl]
  show (evB ir__law_roots [.ow true l, .un, .un, .un]).bind (outM true) = _
  unfold ir__law_roots
  rw [b_cons']; conv in evS _ _ => simp
  rw [Option.bind_some, onNext_nx, b_cons', v_fr]
  have i1 : evs [(.callm F1.dip 0 [(.cst (.int (4)))])] [.ow true l, .ow false [], .un, .un] = some ([.int m], [.ow true l1, .ow false [], .un, .un]) := by simp [e1]
  rw [i1, Option.bind_some]
  show ((((itD .rng1 [.int m]).bind fun xs => evF _ _ xs _).bind _).bind _) = _
  rw [it_r1 (by omega), Option.bind_some, hn, rng0, e, Option.bind_some, onNext_nx]
  simp
end Pk
/-! roots laid out -/
/-- each number so many times -/
def spr (p : List GQ) (t : Nat → Nat) : Nat → List GQ
  | 0 => []
  | k + 1 => spr p t k ++ List.replicate (t k) (Po.co p k)
theorem spr_mem {p : List GQ} {t : Nat → Nat} {r : GQ} : ∀ {n : Nat}, r ∈ spr p t n → ∃ k, k < n ∧ r = Po.co p k ∧ 0 < t k
  | 0, h => by cases h
  | n + 1, h => by
    rcases List.mem_append.mp h with h | h
    · obtain ⟨k, h1, h2, h3⟩ := spr_mem h
      exact ⟨k, by omega, h2, h3⟩
    · obtain ⟨h1, h2⟩ := List.mem_replicate.mp h
      exact ⟨n, by omega, h2, by omega⟩
theorem spr_len (p : List GQ) {t u w : Nat → Nat} (h : ∀ k, w k = t k + u k) (n : Nat) : (spr p w n).length = (spr p t n).length + (spr p u n).length := by
  induction n with
  | zero => rfl
  | succ n ih => simp only [spr, List.length_append, List.length_replicate, ih, h]; omega
theorem spr_le (p : List GQ) {t : Nat → Nat} (h : ∀ k, t k ≤ 2) (n : Nat) : (spr p t n).length ≤ 2 * n := by
  induction n with
  | zero => exact Nat.le_refl _
  | succ n ih => simp only [spr, List.length_append, List.length_replicate]; have := h n; omega
theorem spr_rz {b : Nat} {p : List GQ} (hp : Rz b p) (t : Nat → Nat) (n : Nat) (hn : n ≤ p.length) : Rz b (spr p t n) := fun z hz => by
  obtain ⟨k, h1, rfl, h3⟩ := spr_mem hz
  rw [Po.co_lt (by omega)]
  exact hp _ (List.getElem_mem _)
theorem co_inj {p : List GQ} (h : p.Nodup) {j k : Nat} (hj : j < p.length) (hk : k < p.length) (e : Po.co p j = Po.co p k) : j = k := by
  rw [Po.co_lt hj, Po.co_lt hk] at e
  have q := List.pairwise_iff_getElem.mp h
  rcases Nat.lt_trichotomy j k with z | z | z
  · exact absurd e (q j k hj hk z)
  · exact z
  · exact absurd e.symm (q k j hk hj z)
theorem spr_cop {p : List GQ} (h : p.Nodup) {t u : Nat → Nat} (ht : ∀ k, t k = 0 ∨ u k = 0) : Po.Cop (Po.mon (spr p t p.length).reverse) (Po.mon (spr p u p.length).reverse) := Po.cop_mon fun r hr s hs e => by
  obtain ⟨j, h1, h2, h3⟩ := spr_mem (List.mem_reverse.mp hr)
  obtain ⟨k, g1, g2, g3⟩ := spr_mem (List.mem_reverse.mp hs)
  have := co_inj h h1 g1 (by rw [← h2, ← g2]; exact e)
  subst this
  rcases ht j with z | z <;> omega
/-! sizes -/
theorem Gi.sum {c : Nat} {f : Nat → GQ} : ∀ {n : Nat}, (∀ j, j < n → Gi c (f j)) → Gi (c + n) (Po.sum n f)
  | 0, _ => Gi.zero _
  | n + 1, h => ((Gi.sum fun j hj => h j (by omega)).add (h n (by omega))).mono (by omega)
theorem Ir.one : Ir 1 (Po.co [(1 : GQ)]) := by
  have g1 : Gi 1 (1 : GQ) := ⟨1, 0, by ext <;> simp, Sz.lit (by decide), Sz.lit (by decide)⟩
  refine ⟨1, by grind, g1, fun k => ?_⟩
  have e : ∀ x : GQ, x * 1 = x := fun x => by grind
  rw [e]
  cases k with
  | zero => exact g1
  | succ k => exact Gi.zero _
theorem Ir.lin {L b : Nat} {p : List GQ} {x : GQ} (h : Ir L (Po.co p)) (hx : Gz b x) : Ir (L + b + 2) (Po.co (Po.mul p (Po.lin x))) := by
  obtain ⟨c, c0, gc, h⟩ := h
  obtain ⟨N, d, d0, e, gN, sd⟩ := hx.frac
  have gd := Gi.int sd
  refine ⟨c * GQ.ofR (d : Rat), Po.kne c0 (ofI_ne d0), (gc.mul gd).mono (by omega), fun k => ?_⟩
  have q : Po.co (Po.mul p (Po.lin x)) k = -x * Po.co p k + (match k with | 0 => 0 | k + 1 => Po.co p k) := by
    rw [Po.co_mul, Po.conv_comm, Po.lin, Po.conv_cons]
    congr 1
    cases k with
    | zero => rfl
    | succ k =>
      simp only [Po.conv_cons]
      cases k with
      | zero => grind
      | succ k => simp only [Po.conv_nil]; grind
  rw [q]
  have t1 := ((h k).mul gN).neg
  have e1 : (-x * Po.co p k) * (c * GQ.ofR (d : Rat)) = -(Po.co p k * c * N) := by rw [← e]; grind
  cases k with
  | zero =>
    have : (-x * Po.co p 0 + 0) * (c * GQ.ofR (d : Rat)) = -(Po.co p 0 * c * N) := by rw [← e1]; grind
    show Gi _ ((-x * Po.co p 0 + 0) * (c * GQ.ofR (d : Rat)))
    rw [this]
    exact t1.mono (by omega)
  | succ k =>
    have : (-x * Po.co p (k + 1) + Po.co p k) * (c * GQ.ofR (d : Rat)) = -(Po.co p (k + 1) * c * N) + Po.co p k * c * GQ.ofR (d : Rat) := by rw [← e1]; grind
    show Gi _ ((-x * Po.co p (k + 1) + Po.co p k) * (c * GQ.ofR (d : Rat)))
    rw [this]
    exact (t1.add ((h k).mul gd)).mono (by omega)
theorem mon_ir {b : Nat} : ∀ {rs : List GQ}, Rz b rs → Ir (1 + rs.length * (b + 2)) (Po.co (Po.mon rs))
  | [], _ => Ir.one.mono (by omega)
  | r :: rs, h => by
    have ih := mon_ir (rs := rs) fun z hz => h z (List.mem_cons_of_mem _ hz)
    exact (ih.lin (h r List.mem_cons_self)).mono (by rw [List.length_cons, Nat.succ_mul]; omega)
theorem Ir.scale {L b : Nat} {p : List GQ} {x : GQ} (h : Ir L (Po.co p)) (hx : Gz b x) : Ir (L + b + 1) (Po.co (p.map (· * x))) := by
  obtain ⟨c, c0, gc, h⟩ := h
  obtain ⟨N, d, d0, e, gN, sd⟩ := hx.frac
  have gd := Gi.int sd
  refine ⟨c * GQ.ofR (d : Rat), Po.kne c0 (ofI_ne d0), gc.mul gd, fun k => ?_⟩
  rw [Po.co_mapf (by grind)]
  have : Po.co p k * x * (c * GQ.ofR (d : Rat)) = Po.co p k * c * N := by rw [← e]; grind
  rw [this]
  exact (h k).mul gN
theorem Ir.conv {L M n : Nat} {p q : List GQ} (h : Ir L (Po.co p)) (g : Ir M (Po.co q)) (hn : p.length ≤ n) : ∃ c, c ≠ 0 ∧ Gi (L + M + 1) c ∧ ∀ s k, Gi (L + M + 1 + n) (Po.conv p (q.take s) k * c) := by
  obtain ⟨c, c0, gc, h⟩ := h
  obtain ⟨d, d0, gd, g⟩ := g
  refine ⟨c * d, Po.kne c0 d0, gc.mul gd, fun s k => ?_⟩
  have e : Po.conv p (q.take s) k * (c * d) = Po.sum n fun j => if j ≤ k then Po.co p j * c * (Po.co (q.take s) (k - j) * d) else 0 := by
    rw [Po.conv_len hn]
    have := Po.sum_mul n (c * d) fun j => if j ≤ k then Po.co p j * Po.co (q.take s) (k - j) else 0
    rw [show (Po.sum n fun j => if j ≤ k then Po.co p j * Po.co (q.take s) (k - j) else 0) * (c * d) = c * d * Po.sum n fun j => if j ≤ k then Po.co p j * Po.co (q.take s) (k - j) else 0 by grind, ← this]
    refine Po.sum_congr fun j hj => ?_
    split <;> grind
  rw [e]
  refine Gi.sum fun j hj => ?_
  split
  · refine (h j).mul ?_
    by_cases hs : k - j < s
    · have : Po.co (q.take s) (k - j) = Po.co q (k - j) := by
        by_cases hq : k - j < q.length
        · rw [Po.co_lt (by rw [List.length_take]; omega), Po.co_lt hq, List.getElem_take]
        · rw [Po.co_ge (by rw [List.length_take]; omega), Po.co_ge (by omega)]
      rw [this]; exact g _
    · rw [Po.co_ge (by rw [List.length_take]; omega)]
      have : (0 : GQ) * d = 0 := by grind
      rw [this]; exact Gi.zero _
  · exact Gi.zero _
theorem Ir.mul {L M n : Nat} {p q : List GQ} (h : Ir L (Po.co p)) (g : Ir M (Po.co q)) (hn : p.length ≤ n) : Ir (L + M + 1 + n) (Po.co (Po.mul p q)) := by
  obtain ⟨c, c0, gc, hc⟩ := h.conv g hn
  exact ⟨c, c0, gc.mono (by omega), fun k => by rw [Po.co_mul]; have := hc q.length k; rwa [List.take_length] at this⟩
theorem Ir.vr {L M n : Nat} {p q : List GQ} (h : Ir L (Po.co p)) (g : Ir M (Po.co q)) (hn : p.length ≤ n) (s k : Nat) : Gz (2 * (L + M + 1 + n) + 1) (Pk.Vr p q [] s k) := by
  obtain ⟨c, c0, gc, hc⟩ := h.conv g hn
  have := (hc s k).over gc c0
  have e : Po.conv p (q.take s) k * c / c = Pk.Vr p q [] s k := by unfold Pk.Vr; simp only [Po.co_nil]; grind
  rw [e] at this
  exact this.mono (by omega)
end EvL

set_option Elab.async false
set_option linter.all false
set_option maxRecDepth 100000
set_option maxHeartbeats 1900000
namespace EvL
open PySem PySem.Spec PyProof.Rows L2
namespace Pk
theorem spread_run {p : List GQ} {t : Nat → Nat} (hp : p.length ≤ 3) (ht : ∀ k, t k ≤ 2) : _law_spread.run [.list (p.map tN), .list ((List.range p.length).map fun k => .int (t k))] = some (.fz (.list ((spr p t p.length).map tN)), []) := by
  obtain ⟨Γ', e, s3, rfl⟩ := evF_nat (f := fun (i : Nat) => PyData.int i) (t := .nm 3) (b := evB [(.set 2 (.bin .add (.var 2) (.bin .mul (.lst [(.ixv 0 (.var 3))]) (.ixv 1 (.var 3)))))]) (n := p.length)
    (Γ := [.fz (.list (p.map tN)), .fz (.list ((List.range p.length).map fun k => .int (t k))), .ow false [], .un])
    (fun i Γ => ∃ s3, Γ = [.fz (.list (p.map tN)), .fz (.list ((List.range p.length).map fun k => .int (t k))), .ow false ((spr p t i).map tN), s3])
    ⟨.un, rfl⟩
    (fun i Γ hi ⟨s3, hG⟩ => by
      subst hG
      have a1 := at_tN (p := p) (k := (i : Int)) rfl hi
      have a2 := at_rng (n := p.length) (m := i) (g := fun k => PyData.int (t k)) (k := (i : Int)) rfl hi
      have ht := ht i
      have hl := spr_le p ‹∀ k, t k ≤ 2› i
      have c1 : ((t i : Nat) : Int) ≤ 100000 := by omega
      have c2 : (-100000 : Int) ≤ ((t i : Nat) : Int) := by omega
      have c3 : t i ≤ 1000000 := by omega
      have c4 : (spr p t i).length + t i ≤ 1000000 := by omega
      refine ⟨[.fz (.list (p.map tN)), .fz (.list ((List.range p.length).map fun k => .int (t k))), .ow false ((spr p t i).map tN), .fz (.int i)], _, by simp, .inl ?_, .fz (.int i), rfl⟩
      rw [b_cons']; conv in evS _ _ => simp [a1, a2, c1, c2, c3, c4, flat_rep]
      rw [spr, List.map_append, rep_map]
      rfl)
  generalize (List.range p.length).map (fun k => PyData.int (t k)) = ts at e
  rw [run__law_spread, run0 (np := 2) (n := 4) (ds := [.list (p.map tN), .list ts]) rfl]
  show (evB ir__law_spread [.fz (.list (p.map tN)), .fz (.list ts), .un, .un]).bind (outM false) = _
  unfold ir__law_spread
  rw [b_cons']; conv in evS _ _ => simp
  rw [Option.bind_some, onNext_nx, b_cons', v_fr]
  have i1 : evs [(.lenv 0)] [.fz (.list (p.map tN)), .fz (.list ts), .ow false [], .un] = some ([.int p.length], [.fz (.list (p.map tN)), .fz (.list ts), .ow false [], .un]) := by simp
  rw [i1, Option.bind_some]
  show ((((itD .rng1 [.int p.length]).bind fun xs => evF _ _ xs _).bind _).bind _) = _
  rw [it_r1 (by omega), Option.bind_some, rng0, e, Option.bind_some, onNext_nx]
  simp
theorem monic_run {p : List GQ} (hp : Rz 2 p) (hl : p.length ≤ 6) : _law_monic.run [.list (p.map tN)] = some (.fz (.list ((Po.mon p.reverse).map tN)), []) := by
  obtain ⟨Γ', e, s2, rfl⟩ := evF_all (f := tN) (t := .nm 2) (b := evB [(.set 1 (.call Pk._law_row_times Pk.E__law_row_times_2.pm [(.var 1), (.lst [(.tup [(.bin .sub (.cst (.int (0))) (.ixv 2 (.cst (.int (0))))), (.bin .sub (.cst (.int (0))) (.ixv 2 (.cst (.int (1))))), (.ixv 2 (.cst (.int (2))))]), (.tup [(.cst (.int (1))), (.cst (.int (0))), (.cst (.int (1)))])])]))]) (l := p)
    (Γ := [.fz (.list (p.map tN)), .ow false [tN 1], .un])
    (fun l Γ => ∃ s2, Γ = [.fz (.list (p.map tN)), .ow false ((Po.mon l.reverse).map tN), s2])
    ⟨.un, by simp only [List.reverse_nil, Po.mon, List.map_cons, List.map_nil]⟩
    (fun l x q Γ el ⟨s2, hG⟩ => by
      subst hG
      have hx : Gz 2 x := hp x (by rw [el]; simp)
      have hlr : Rz 2 l.reverse := fun z hz => hp z (by rw [el]; exact List.mem_append_left _ (List.mem_reverse.mp hz))
      have ll : l.length ≤ 5 := by
        have := congrArg List.length el
        simp at this; omega
      have mi := (mon_ir hlr).rz
      have ml := Po.mon_len l.reverse
      rw [List.length_reverse] at mi ml
      have zl : Rz 43 (Po.lin x) := fun z hz => by
        rcases List.mem_cons.mp hz with rfl | hz
        · exact hx.neg.mono (by omega)
        · rw [List.mem_singleton.mp hz]; exact Gz.one (by omega)
      have lnl : (Po.lin x).length = 2 := rfl
      have g1 : Rz 43 (Po.mon l.reverse) := mi.mono (by omega)
      have g2 : ((Po.mon l.reverse).length + (Po.lin x).length + 2) * 43 + 2 ≤ 8900000 := by rw [ml, lnl]; omega
      have tr := lrow_times_run (b := 43) g1 zl (by omega) g2 (by omega) (by omega)
      have e1 : Po.trim (Po.mul (Po.mon l.reverse) (Po.lin x)) = Po.mon (l ++ [x]).reverse := by
        have er : (l ++ [x]).reverse = x :: l.reverse := by simp
        rw [er, Po.mon]
        exact Po.mul_row (Po.mon_row _) (Po.lin_row x) (fun z => by have := congrArg List.length z; simp [Po.lin] at this)
      rw [e1] at tr
      have lx : (Po.lin x).map tN = [.tuple [.int (0 - (tri x).1), .int (0 - (tri x).2.1), .int (tri x).2.2], .tuple [.int 1, .int 0, .int 1]] := by
        simp only [Po.lin, List.map_cons, List.map_nil, tN_neg, tN_1]
      rw [lx] at tr
      simp only [Int.zero_sub] at tr
      have tx : tN x = .tuple [.int (tri x).1, .int (tri x).2.1, .int (tri x).2.2] := rfl
      refine ⟨[.fz (.list (p.map tN)), .ow false ((Po.mon l.reverse).map tN), .fz (tN x)], _, by simp, .inl ?_, .fz (tN x), rfl⟩
      rw [tx]
      rw [b_cons']; conv in evS _ _ => simp [-List.reverse_append, -List.reverse_cons, tr]
      rfl)
  rw [run__law_monic, run0 (np := 1) (n := 3) (ds := [.list (p.map tN)]) rfl]
  show (evB ir__law_monic [.fz (.list (p.map tN)), .un, .un]).bind (outM false) = _
  unfold ir__law_monic
  rw [b_cons']; conv in evS _ _ => simp
  rw [← tN_1]
  rw [Option.bind_some, onNext_nx, b_cons', v_fr]
  have i1 : evs [(.var 0)] [.fz (.list (p.map tN)), .ow false [tN 1], .un] = some ([.list (p.map tN)], [.fz (.list (p.map tN)), .ow false [tN 1], .un]) := by simp
  rw [i1, Option.bind_some]
  show ((((itD .seq [.list (p.map tN)]).bind fun xs => evF _ _ xs _).bind _).bind _) = _
  show (((evF _ _ (p.map tN) _).bind _).bind _) = _
  rw [e, Option.bind_some, onNext_nx]
  simp [-List.reverse_append, -List.reverse_cons]
theorem lscaled_run {b c : Nat} {p : List GQ} {x : GQ} (hp : Rz b p) (hx : Gz c x) (hb : b ≤ 1900000) (hc : c ≤ 1900000) (hl : p.length ≤ 1000) : _law_scaled.run [.list (p.map tN), tN x] = some (.ow ((p.map (· * x)).map tN), []) := by
  have e1 : evX (.lc [2] (.nm 2) .seq [(.var 0)] [] (.call Pk._law_times Pk.E__law_times_2.pm [(.var 2), (.var 1)])) [.fz (.list (p.map tN)), .fz (tN x), .un] = some (.ow ((p.map (· * x)).map tN), [.fz (.list (p.map tN)), .fz (tN x), .un]) := by
    rw [List.map_map]
    exact lc_map (f := tN) (g := tN ∘ (· * x)) (l := p) (Γ1 := [.fz (.list (p.map tN)), .fz (tN x), .un]) (ds := [.list (p.map tN)]) (by simp) rfl (by omega) fun z hz => by
      have q := ltimes_run ((hp z hz).mono hb) (hx.mono hc)
      exact ⟨[.fz (.list (p.map tN)), .fz (tN x), .fz (tN z)], .fz (tN (z * x)), [.fz (.list (p.map tN)), .fz (tN x), .fz (tN z)], by simp [wipeG], by simp [q], rfl, rfl⟩
  rw [run__law_scaled, run0 (np := 2) (n := 3) (ds := [.list (p.map tN), tN x]) rfl]
  show (evB ir__law_scaled [.fz (.list (p.map tN)), .fz (tN x), .un]).bind (outM false) = _
  unfold ir__law_scaled
  rw [b_cons', v_ret, e1]
  rfl
theorem trim_len_eq {p : List GQ} {n : Nat} (h : ∀ k, n ≤ k → Po.co p k = 0) (h0 : ∀ m, n = m + 1 → Po.co p m ≠ 0) : (Po.trim p).length = n := by
  have hn : n ≤ p.length := by
    cases n with
    | zero => omega
    | succ m =>
      by_cases q : m < p.length
      · omega
      · exact absurd (Po.co_ge (by omega)) (h0 m rfl)
  rw [← Po.take_trim hn h h0, List.length_take]; omega
theorem vr_gz {b n : Nat} {p q r : List GQ} (hp : Rz b p) (hq : Rz b q) (hr : Rz b r) (h1 : 1 ≤ b) (hn : p.length ≤ n) (s k : Nat) : Gz (n * (2 * b + 2) + b + 2) (Vr p q r s k) := by
  have ht : Rz b (q.take s) := fun z hz => hq z (List.mem_of_mem_take hz)
  unfold Vr
  rw [Po.conv_len hn]
  have g := Gz.sum (c := 2 * b + 1) (n := n) (f := fun j => if j ≤ k then Po.co p j * Po.co (q.take s) (k - j) else 0) fun j hj => by
    show Gz _ (if j ≤ k then Po.co p j * Po.co (q.take s) (k - j) else 0)
    split
    · exact ((hp.co h1 j).mul (ht.co h1 _)).mono (by omega)
    · exact Gz.zero (by omega)
  exact (g.add (hr.co h1 k)).mono (by show n * (2 * b + 2) + 1 + b + 1 ≤ _; omega)
theorem ldiv_math {m : Nat} {o q r : List GQ} (om : o.length = m + 1) (o0 : Po.co o m ≠ 0) (zo : Rz 3 o) (zq : Rz 3 q) (zr : Rz 3 r) (rq : Po.Row q) (rr : Po.Row r) (lr : r.length ≤ m) (lm : m ≤ 3) (lq : q.length ≤ 4) :
    row_rest.run [rD (Po.trim (Po.add (Po.trim (Po.mul o q)) r)), rD o] = some (.fz (.tuple [rD q, rD r]), []) := by
  have e : ∀ k, Po.co (Po.trim (Po.add (Po.trim (Po.mul o q)) r)) k = Po.conv o q k + Po.co r k := fun k => by
    rw [Po.co_trim, Po.co_add, Po.co_trim, Po.co_mul]
  by_cases q0 : q = []
  · subst q0
    have er : Po.trim (Po.add (Po.trim (Po.mul o [])) r) = r := by
      rw [Po.mul_nil]
      show Po.trim r = r
      exact rr
    rw [er]
    have := row_rest_low (a := r) om o0 lr zo (by omega) (by omega) (by omega)
    rw [rr] at this
    exact this
  · obtain ⟨n, hn, ln⟩ := Po.row_len rq q0
    have len : (Po.trim (Po.add (Po.trim (Po.mul o q)) r)).length = m + q.length := trim_len_eq (fun k hk => by
        have := e k
        rw [Po.co_trim] at this
        rw [this, Po.conv_ge (by omega), Po.co_ge (p := r) (by omega)]; grind) (fun k hk => by
        have := e k
        rw [Po.co_trim] at this
        rw [this, show k = m + n by omega, Po.conv_top om hn, Po.co_ge (p := r) (by omega)]
        have := Po.kne o0 ln
        grind)
    have := row_rest_run om o0 rfl lr len e (zo.mono (show 3 ≤ 40 by omega)) (zq.mono (show 3 ≤ 40 by omega)) (fun s k => (vr_gz (n := 4) zo zq zr (by omega) (by omega) s k).mono (by omega)) (by omega) (by omega) (by omega)
    rw [rq, rr] at this
    exact this
theorem shw_pair {b : Nat} {p q : List GQ} (hp : Rz b p) (hq : Rz b q) (hb : b < 1920) (lp : p.length ≤ 100) (lq : q.length ≤ 100) : Shw 4 700000 (.tuple [rD p, rD q]) :=
  (Shw.tup (k := 3) (n := 300000) fun d hd => by
    rcases List.mem_cons.mp hd with rfl | hd
    · exact shw_rD hp hb lp
    · rw [List.mem_singleton.mp hd]; exact shw_rD hq hb lq).mono (by omega) (by simp)
theorem ldivided_run {c : Int} {l : List PyData} (h : F1.Pail c l) (hc : c + 300 < 1000000) : ∃ l', _law_divided.run [.list l] = some (.fz (.bool true), l') ∧ F1.Pail (c + 200) l' := by
  obtain ⟨p, l1, e1, zp, rp, lp, h1⟩ := row_runM 3 (by omega) h (by omega)
  obtain ⟨z, l2, e2, z0, gz, h2⟩ := many2_run h1 (by omega)
  obtain ⟨q, l3, e3, zq, rq, lq, h3⟩ := row_runM 4 (by omega) h2 (by omega)
  obtain ⟨s, l4, e4, zs, rs, ls, h4⟩ := row_runM 4 (by omega) h3 (by omega)
  have e1 : _law_row.run [.list l, .int 3] = some (.ow (p.map tN), l1) := e1
  have e3 : _law_row.run [.list l2, .int 4] = some (.ow (q.map tN), l3) := e3
  have e4 : _law_row.run [.list l3, .int 4] = some (.ow (s.map tN), l4) := e4
  obtain ⟨o, ho⟩ : ∃ o, o = p ++ [z] := ⟨_, rfl⟩
  obtain ⟨m, hm⟩ : ∃ m, m = p.length := ⟨_, rfl⟩
  have om : o.length = m + 1 := by rw [ho, hm]; simp
  have o0 : Po.co o m ≠ 0 := by
    rw [ho, hm, Po.co_append, if_neg (by omega), Nat.sub_self]; exact z0
  have ro : Po.Row o := Po.row_iff.mpr fun n hn => by rw [show n = m by omega]; exact o0
  have zo : Rz 3 o := fun y hy => by
    rw [ho] at hy
    rcases List.mem_append.mp hy with hy | hy
    · exact zp y hy
    · rw [List.mem_singleton.mp hy]; exact gz
  obtain ⟨r, hr⟩ : ∃ r, r = Po.trim (s.take m) := ⟨_, rfl⟩
  have rr : Po.Row r := by rw [hr]; exact Po.Row.trim _
  have zr : Rz 3 r := by rw [hr]; exact Rz.trim (fun y hy => zs y (List.mem_of_mem_take hy)) (by omega)
  have lr : r.length ≤ m := by
    have := Po.trim_len (s.take m)
    rw [List.length_take] at this
    rw [hr]; omega
  have t1 := ltrim_run (p := s.take m) (by rw [List.length_take]; omega)
  rw [← hr] at t1
  have t2 := lrow_times_run zo zq (by omega) (by rw [om]; have : (m + 1 + q.length + 2) * 3 ≤ 10 * 3 := Nat.mul_le_mul_right _ (by omega); omega) (by omega) (by omega)
  have zm : Rz 40 (Po.trim (Po.mul o q)) := (Rz.trim (zo.mul zq (by omega) (by omega)) (by omega)).mono (by rw [om]; have : (m + 1) * (3 + 3 + 2) ≤ 4 * (3 + 3 + 2) := Nat.mul_le_mul_right _ (by omega); omega)
  have lmul : (Po.trim (Po.mul o q)).length ≤ 8 := by have := Po.trim_len (Po.mul o q); have := Po.len_mul o q; omega
  have t3 := lrow_sum_run zm (zr.mono (show 3 ≤ 40 by omega)) (by omega) (by omega) (by omega) (by omega)
  have za : Rz 50 (Po.trim (Po.add (Po.trim (Po.mul o q)) r)) := (Rz.trim (zm.add zr (by omega) (by omega)) (by omega)).mono (by omega)
  have la : (Po.trim (Po.add (Po.trim (Po.mul o q)) r)).length ≤ 12 := by have := Po.trim_len (Po.add (Po.trim (Po.mul o q)) r); rw [Po.len_add] at this; omega
  have u1 := ltold_row_run zq (by omega) (by omega) (by omega)
  have u2 := ltold_row_run zr (by omega) (by omega) (by omega)
  have u3 := ltold_row_run za (by omega) (by omega) (by omega)
  have u4 := ltold_row_run zo (by omega) (by omega) (by omega)
  rw [rq] at u1; rw [rr] at u2; rw [Po.trim_trim] at u3; rw [ro] at u4
  have rest := ldiv_math om o0 zo zq zr rq rr lr (by omega) (by omega)
  obtain ⟨w, hw⟩ : ∃ w, w = Po.trim (Po.add (Po.trim (Po.mul o q)) r) := ⟨_, rfl⟩
  have rw' : Po.Row w := by rw [hw]; exact Po.Row.trim _
  rw [← hw] at t3 u3 rest la za
  have d1 := divided_of rw' ro (fun z => by rw [z] at om; simp at om) (by omega) (by omega) rest
  have rok : reprOk (.list [.tuple [rD q, rD r], .tuple [rD q, rD r]]) = true := reprOk_w (k := 5) (n := 2000000) ((Shw.lst (k := 4) (n := 700000) fun d hd => by
    have : d = .tuple [rD q, rD r] := by
      rcases List.mem_cons.mp hd with rfl | hd
      · rfl
      · exact List.mem_singleton.mp hd
    rw [this]
    exact shw_pair zq zr (by omega) (by omega) (by omega)).mono (by omega) (by simp)) rfl (by omega) (by omega)
  have es : o.map tN = p.map tN ++ [tN z] := by rw [ho]; simp
  have cut : cutD (s.map tN) none (some (m : Int)) = (s.map tN).take m := cut_to rfl
  have t1' : _law_trim.run [.list ((s.map tN).take m)] = some (.ow (r.map tN), []) := by rw [← List.map_take]; exact t1
  have d2 : reprOk (.list [.tuple [rD q, rD r], .tuple [rD q, rD r]]) = true := rok
  refine ⟨l4, ?_, h4.up (by omega)⟩
  rw [run__law_divided, run1 (np := 1) (n := 8) (ds := []) rfl]
  show (evB ir__law_divided [.ow true l, .un, .un, .un, .un, .un, .un, .un]).bind (outM true) = _
  unfold ir__law_divided
  have lp1 : p.length + 1 ≤ 1000000 := by omega
  rw [b_cons']; conv in evS _ _ => simp [e1, e2, lp1]
  rw [← es]
  rw [Option.bind_some, onNext_nx, b_cons']; conv in evS _ _ => simp [e3, e4, evRs, putAll]
  rw [Option.bind_some, onNext_nx, b_cons']; conv in evS _ _ => simp [om, cut, t1']
  rw [Option.bind_some, onNext_nx, b_cons']; conv in evS _ _ => simp [t2, t3]
  rw [Option.bind_some, onNext_nx, b_cons']; conv in evS _ _ => simp [u1, u2]
  rw [Option.bind_some, onNext_nx, b_cons']; conv in evS _ _ => simp [u3, u4, evRs, putAll]
  rw [Option.bind_some, onNext_nx, b_cons']; conv in evS _ _ => simp [d1, d2, cmpD, eqD]
  rfl
end Pk
end EvL

set_option Elab.async false
set_option linter.all false
set_option maxRecDepth 100000
set_option maxHeartbeats 1900000
namespace EvL
open PySem PySem.Spec PyProof.Rows L2
namespace Pk
theorem mon_one (rs : List GQ) : ∀ n, (Po.mon rs).length = n + 1 → Po.co (Po.mon rs) n = 1 := fun n hn => by
  rw [Po.mon_len] at hn
  rw [show n = rs.length by omega, Po.mon_top]
theorem mon_ne (rs : List GQ) : Po.mon rs ≠ [] := fun z => by
  have := Po.mon_len rs
  rw [z] at this; simp at this
theorem map_comm (p : List GQ) (z : GQ) : p.map (· * z) = p.map (z * ·) := List.map_congr_left fun x _ => by grind
/-- the rows that are built of told roots -/
theorem built {p : List GQ} {z : GQ} (hp : Rz 2 p) (hl : p.length ≤ 3) {lw t : Nat → Nat} (h : ∀ k, lw k ≤ t k) (ht : ∀ k, t k ≤ 2) (z0 : z ≠ 0) (gz : Gz 3 z) {C A : List GQ} (hC : C = Po.mon (spr p lw p.length).reverse)
    (hA : A = (Po.mon (spr p (fun k => t k - lw k) p.length).reverse).map (· * z)) :
    Po.Row A ∧ A ≠ [] ∧ A.length ≤ 7 ∧ C.length ≤ 7 ∧ Rz 60 A ∧ Rz 60 C ∧ Po.Row (Po.mul C A) ∧ Po.mul C A ≠ [] ∧ (Po.mul C A).length ≤ 7 ∧ Ir 70 (Po.co (Po.mul C A)) ∧ m1 (Po.mul C A) = (Po.mul C A).map (· * (1 / z)) ∧
      row_rest.run [rD (Po.mul C A), rD C] = some (.fz (.tuple [rD A, rD []]), []) := by
  have e1 := spr_len p (t := lw) (u := fun k => t k - lw k) (w := t) (fun k => by have := h k; omega) p.length
  have e2 := spr_le p ht p.length
  have r1 : Rz 2 (spr p lw p.length).reverse := fun y hy => spr_rz hp _ _ (Nat.le_refl _) y (List.mem_reverse.mp hy)
  have r2 : Rz 2 (spr p (fun k => t k - lw k) p.length).reverse := fun y hy => spr_rz hp _ _ (Nat.le_refl _) y (List.mem_reverse.mp hy)
  have i1 := mon_ir r1
  have i2 := mon_ir r2
  have l1 := Po.mon_len (spr p lw p.length).reverse
  have l2 := Po.mon_len (spr p (fun k => t k - lw k) p.length).reverse
  have w1 := Po.mon_row (spr p lw p.length).reverse
  have w2 := Po.mon_row (spr p (fun k => t k - lw k) p.length).reverse
  have o1 := mon_one (spr p lw p.length).reverse
  have o2 := mon_one (spr p (fun k => t k - lw k) p.length).reverse
  rw [List.length_reverse] at i1 i2 l1 l2
  rw [← hC] at i1 l1 w1 o1
  generalize Po.mon (spr p (fun k => t k - lw k) p.length).reverse = A0 at *
  have iC : Ir 25 (Po.co C) := i1.mono (by omega)
  have iA0 : Ir 25 (Po.co A0) := i2.mono (by omega)
  have iA : Ir 29 (Po.co A) := by rw [hA]; exact (iA0.scale gz)
  have lA : A.length = A0.length := by rw [hA]; simp
  have rA : Po.Row A := by rw [hA, map_comm]; exact Po.scale_row w2 z0
  have nA : A.length = (spr p (fun k => t k - lw k) p.length).length + 1 := by rw [lA, l2]
  have tA : Po.co A (spr p (fun k => t k - lw k) p.length).length = z := by
    rw [hA, Po.co_mapf (by grind), o2 _ l2]; grind
  generalize (spr p (fun k => t k - lw k) p.length).length = n at *
  have tC := o1 _ l1
  generalize (spr p lw p.length).length = m at *
  have A0n : A ≠ [] := fun q => by rw [q] at nA; simp at nA
  have ml := Po.mul_len l1 nA
  have im : Ir 70 (Po.co (Po.mul C A)) := (iC.mul iA (n := 7) (by omega)).mono (by omega)
  have zC : Rz 60 C := iC.rz.mono (by omega)
  have zA : Rz 60 A := iA.rz.mono (by omega)
  have mm : m1 (Po.mul C A) = (Po.mul C A).map (· * (1 / z)) := by
    have lcz : lc (Po.mul C A) = z := by
      unfold lc
      rw [if_neg (fun q => by rw [q] at ml; simp at ml), ml, show m + n + 1 - 1 = m + n by omega, Po.co_mul, Po.conv_top l1 nA, tC, tA]; grind
    unfold m1
    rw [lcz]
    exact List.map_congr_left fun x _ => by grind
  refine ⟨rA, A0n, by omega, by omega, zA, zC, Po.mul_row w1 rA A0n, fun q => by rw [q] at ml; simp at ml, by omega, im, mm, ?_⟩
  have run := row_rest_run (B := 200) (a := Po.mul C A) (b := C) (q := A) (r := []) l1 (by rw [tC]; grind) rfl (by simp) (by rw [ml, nA]; omega) (fun k => by rw [Po.co_mul]; simp only [Po.co_nil]; grind) (zC.mono (by omega)) (zA.mono (by omega))
    (fun s k => (iC.vr iA (n := 7) (by omega) s k).mono (by omega)) (by omega) (by omega) (by omega)
  rw [rA] at run
  exact run
theorem ints_of : ∀ {ys : List D}, (∀ y ∈ ys, ∃ k : Nat, y = .int k ∧ k ≤ 2) → ∃ t : Nat → Nat, ys = (List.range ys.length).map (fun k => PyData.int (t k)) ∧ ∀ k, t k ≤ 2
  | [], _ => ⟨fun _ => 0, rfl, fun _ => Nat.zero_le _⟩
  | y :: ys, h => by
    obtain ⟨k, rfl, hk⟩ := h y List.mem_cons_self
    obtain ⟨t, e, ht⟩ := ints_of fun x hx => h x (List.mem_cons_of_mem _ hx)
    refine ⟨fun i => match i with | 0 => k | i + 1 => t i, ?_, fun i => by cases i <;> simp [hk, ht]⟩
    rw [List.length_cons, List.range_succ_eq_map, List.map_cons, List.map_map]
    exact congrArg (PyData.int (k : Nat) :: ·) e
theorem times60 {p q : List GQ} (hp : Rz 60 p) (hq : Rz 60 q) (lp : p.length ≤ 7) (lq : q.length ≤ 7) (h : Po.Row (Po.mul p q)) : _law_row_times.run [.list (p.map tN), .list (q.map tN)] = some (.ow ((Po.mul p q).map tN), []) := by
  have := lrow_times_run hp hq (by omega) (by omega) (by omega) (by omega)
  rwa [h] at this
end Pk
end EvL

set_option Elab.async false
set_option linter.all false
set_option maxRecDepth 100000
set_option maxHeartbeats 8000000
namespace K05
open PySem PySem.Spec PyProof.Rows L2 EvL EvL.Pk
def S__law_right_0 : IS := (.ife (.not (.callm Pk._law_divided 0 [])) [(.ret (.cst (.bool false)))] [])
def S__law_right_1 : IS := (.set 1 (.callm Pk._law_roots 0 []))
def S__law_right_2 : IS := (.par [2, 3] [(.lc [16] (.nm 16) .seq [(.var 1)] [] (.callm F1.dip 0 [(.cst (.int (3)))])), (.lc [16] (.nm 16) .seq [(.var 1)] [] (.callm F1.dip 0 [(.cst (.int (3)))]))])
def S__law_right_3 : IS := (.set 4 (.lc [17] (.nm 17) .rng1 [(.lenv 1)] [] (.bi .min2 [(.ixv 2 (.var 17)), (.ixv 3 (.var 17))])))
def S__law_right_4 : IS := (.set 5 (.call Pk._law_monic Pk.E__law_monic_1.pm [(.call Pk._law_spread Pk.E__law_spread_2.pm [(.var 1), (.var 4)])]))
def S__law_right_5 : IS := (.par [6, 7] [(.callm Pk._law_many_v2 0 []), (.callm Pk._law_many_v2 0 [])])
def S__law_right_6 : IS := (.set 8 (.call Pk._law_scaled Pk.E__law_scaled_2.pm [(.call Pk._law_monic Pk.E__law_monic_1.pm [(.call Pk._law_spread Pk.E__law_spread_2.pm [(.var 1), (.lc [17] (.nm 17) .rng1 [(.lenv 1)] [] (.bin .sub (.ixv 2 (.var 17)) (.ixv 4 (.var 17))))])]), (.var 6)]))
def S__law_right_7 : IS := (.set 9 (.call Pk._law_scaled Pk.E__law_scaled_2.pm [(.call Pk._law_monic Pk.E__law_monic_1.pm [(.call Pk._law_spread Pk.E__law_spread_2.pm [(.var 1), (.lc [17] (.nm 17) .rng1 [(.lenv 1)] [] (.bin .sub (.ixv 3 (.var 17)) (.ixv 4 (.var 17))))])]), (.var 7)]))
def S__law_right_8 : IS := (.par [10, 11] [(.call Pk._law_row_times Pk.E__law_row_times_2.pm [(.var 5), (.var 8)]), (.call Pk._law_row_times Pk.E__law_row_times_2.pm [(.var 5), (.var 9)])])
def S__law_right_9 : IS := (.par [12, 13, 14] [(.call Pk._law_told_row Pk.E__law_told_row_1.pm [(.var 10)]), (.call Pk._law_told_row Pk.E__law_told_row_1.pm [(.var 11)]), (.call Pk._law_told_row Pk.E__law_told_row_1.pm [(.var 5)])])
def S__law_right_10 : IS := (.ife (.cmp .ne (.bi .repr [(.lst [(.call Pk.row_common Pk.E_row_common_2.pm [(.var 12), (.var 13)]), (.call Pk.row_common Pk.E_row_common_0_other_row.pm [(.var 12), (.var 13)]), (.call Pk.row_divided Pk.E_row_divided_2.pm [(.var 12), (.var 14)])])]) (.bi .repr [(.lst [(.var 14), (.var 14), (.tup [(.call Pk._law_told_row Pk.E__law_told_row_1.pm [(.var 8)]), (.tup [])])])])) [(.ret (.cst (.bool false)))] [])
def S__law_right_11 : IS := (.ife (.cmp .ne (.bi .repr [(.call Pk.row_divided Pk.E_row_divided_2.pm [(.var 13), (.call Pk.row_common Pk.E_row_common_2.pm [(.var 12), (.var 13)])])]) (.bi .repr [(.tup [(.call Pk._law_told_row Pk.E__law_told_row_1.pm [(.var 9)]), (.tup [])])])) [(.ret (.cst (.bool false)))] [])
def S__law_right_12 : IS := (.set 15 (.call Pk._law_told_row Pk.E__law_told_row_1.pm [(.call Pk._law_scaled Pk.E__law_scaled_2.pm [(.var 10), (.call Pk._law_over Pk.E__law_over_2.pm [(.tup [(.cst (.int (1))), (.cst (.int (0))), (.cst (.int (1)))]), (.var 6)])])]))
def S__law_right_13 : IS := (.ret (.cmp .eq (.bi .repr [(.lst [(.call Pk.row_common Pk.E_row_common_2.pm [(.var 12), (.tup [])]), (.call Pk.row_common Pk.E_row_common_2.pm [(.tup []), (.var 12)]), (.call Pk.row_common Pk.E_row_common_2.pm [(.tup []), (.tup [])])])]) (.bi .repr [(.lst [(.var 15), (.var 15), (.tup [])])])))
theorem S__law_right : ir__law_right = [S__law_right_0, S__law_right_1, S__law_right_2, S__law_right_3, S__law_right_4, S__law_right_5, S__law_right_6, S__law_right_7, S__law_right_8, S__law_right_9, S__law_right_10, S__law_right_11, S__law_right_12, S__law_right_13] := rfl

theorem dips_run {c : Int} {l : List PyData} {p : List GQ} (h : F1.Pail c l) (hc : c + 100 < 1000000) (hl : p.length ≤ 3) :
    ∃ (t : Nat → Nat) (l2 : List PyData), evX (.lc [16] (.nm 16) .seq [(.var 1)] [] (.callm F1.dip 0 [(.cst (.int (3)))])) [.ow true l, .fz (.list (p.map tN)), .un, .un, .un, .un, .un, .un, .un, .un, .un, .un, .un, .un, .un, .un, .un, .un] = some (.ow ((List.range p.length).map fun k => PyData.int ((t k : Nat) : Int)), [.ow true l2, .fz (.list (p.map tN)), .un, .un, .un, .un, .un, .un, .un, .un, .un, .un, .un, .un, .un, .un, .un, .un]) ∧ (∀ k, t k ≤ 2) ∧ F1.Pail (c + 5) l2 := by
  have i1 : evs [(.var 1)] [.ow true l, .fz (.list (p.map tN)), .un, .un, .un, .un, .un, .un, .un, .un, .un, .un, .un, .un, .un, .un, .un, .un] = some ([.list (p.map tN)], [.ow true l, .fz (.list (p.map tN)), .un, .un, .un, .un, .un, .un, .un, .un, .un, .un, .un, .un, .un, .un, .un, .un]) := by simp
  obtain ⟨ys, Γ5, e2, hl2, hy2, ⟨l2, h2, hG⟩⟩ := lc_ex (vs := [16]) (t := .nm 16) (k := .seq) (its := [(.var 1)]) (elt := (.callm F1.dip 0 [(.cst (.int (3)))])) (ds := [.list (p.map tN)]) (xs := p.map tN)
    (fun j Γ => ∃ l2, F1.Pail (c + j) l2 ∧ Γ = [.ow true l2, .fz (.list (p.map tN)), .un, .un, .un, .un, .un, .un, .un, .un, .un, .un, .un, .un, .un, .un, .un, .un]) (fun y => ∃ k : Nat, y = .int k ∧ k ≤ 2) i1 rfl (by rw [List.length_map]; omega) ⟨l, by simpa using h, rfl⟩
    (fun j x Γ hx ⟨l2, h2, hG⟩ => by
      have hj : j < p.length := by
        by_cases q : j < p.length
        · exact q
        · rw [List.getElem?_eq_none (by rw [List.length_map]; omega)] at hx; cases hx
      obtain ⟨f, l3, e4, f0, f1, h4⟩ := F1.dip_run (m := 3) h2 (by omega) (by decide) (by decide)
      rw [hG]
      exact ⟨[.ow true l2, .fz (.list (p.map tN)), .un, .un, .un, .un, .un, .un, .un, .un, .un, .un, .un, .un, .un, .un, .fz x, .un], .fz (.int f), [.ow true l3, .fz (.list (p.map tN)), .un, .un, .un, .un, .un, .un, .un, .un, .un, .un, .un, .un, .un, .un, .fz x, .un], by simp, by simp [e4], ⟨f.toNat, by simp only [rv_fz]; congr 1; omega, by omega⟩, l3, h4.up (by omega), by simp [wipeG]⟩)
  rw [List.length_map] at hl2 h2
  obtain ⟨t, et, ht⟩ := ints_of hy2
  rw [hl2] at et
  subst hG
  refine ⟨t, l2, ?_, ht, h2.up (by omega)⟩
  rw [← et]
  exact e2
theorem right_run {l : List PyData} (h : F1.Pail 0 l) : ∃ l', runB true 1 18 ir__law_right [.list l] = some (.fz (.bool true), l') := by
  obtain ⟨l1, e1, h1⟩ := ldivided_run h (by omega)
  obtain ⟨p, l2, e2, lp, zp, dp, h2⟩ := roots_run h1 (by omega)
  obtain ⟨t1, l3, e3, b1, h3⟩ := dips_run (p := p) h2 (by omega) lp
  obtain ⟨t2, l4, e4, b2, h4⟩ := dips_run (p := p) h3 (by omega) lp
  obtain ⟨a, l5, e5, a0, ga, h5⟩ := many2_run h4 (by omega)
  obtain ⟨b, l6, e6, b0, gb, h6⟩ := many2_run h5 (by omega)
  obtain ⟨low, hlow⟩ : ∃ low : Nat → Nat, ∀ k, low k = min (t1 k) (t2 k) := ⟨fun k => min (t1 k) (t2 k), fun _ => rfl⟩
  obtain ⟨u1, hu1⟩ : ∃ u1 : Nat → Nat, ∀ k, u1 k = t1 k - low k := ⟨fun k => t1 k - low k, fun _ => rfl⟩
  obtain ⟨u2, hu2⟩ : ∃ u2 : Nat → Nat, ∀ k, u2 k = t2 k - low k := ⟨fun k => t2 k - low k, fun _ => rfl⟩
  have f1 : (fun k => t1 k - low k) = u1 := (funext hu1).symm
  have f2 : (fun k => t2 k - low k) = u2 := (funext hu2).symm
  have lo1 : ∀ k, low k ≤ t1 k := fun k => by rw [hlow]; omega
  have lo2 : ∀ k, low k ≤ t2 k := fun k => by rw [hlow]; omega
  obtain ⟨C, hC⟩ : ∃ C, C = Po.mon (spr p low p.length).reverse := ⟨_, rfl⟩
  obtain ⟨A0, hA0⟩ : ∃ A0, A0 = Po.mon (spr p u1 p.length).reverse := ⟨_, rfl⟩
  obtain ⟨B0, hB0⟩ : ∃ B0, B0 = Po.mon (spr p u2 p.length).reverse := ⟨_, rfl⟩
  obtain ⟨A, hA⟩ : ∃ A, A = A0.map (· * a) := ⟨_, rfl⟩
  obtain ⟨B, hB⟩ : ∃ B, B = B0.map (· * b) := ⟨_, rfl⟩
  obtain ⟨rA, nA, lA, lC, zA, zC, rF, nF, lF, iF, mF, dF⟩ := built (C := C) (A := A) zp lp lo1 b1 a0 ga hC (by rw [f1, ← hA0]; exact hA)
  obtain ⟨rB, nB, lB, _, zB, _, rS, nS, lS, iS, mS, dS⟩ := built (C := C) (A := B) zp lp lo2 b2 b0 gb hC (by rw [f2, ← hB0]; exact hB)
  have cop0 : Po.Cop A0 B0 := by
    rw [hA0, hB0]
    exact spr_cop dp fun k => by rw [hu1, hu2, hlow]; omega
  have cop : Po.Cop A B := by
    rw [hA, hB, map_comm, map_comm]
    exact ((cop0.scale b0).symm.scale a0).symm
  have rC : Po.Row C := by rw [hC]; exact Po.mon_row _
  have oC : ∀ n, C.length = n + 1 → Po.co C n = 1 := by rw [hC]; exact mon_one _
  have nC : C ≠ [] := by rw [hC]; exact mon_ne _
  have eF : ∀ x, Po.ev (Po.mul C A) x = Po.ev C x * Po.ev A x := fun x => Po.ev_mul _ _ _
  have eS : ∀ x, Po.ev (Po.mul C B) x = Po.ev C x * Po.ev B x := fun x => Po.ev_mul _ _ _
  have bl : ∀ k, low k ≤ 2 := fun k => by have := lo1 k; have := b1 k; omega
  have bu1 : ∀ k, u1 k ≤ 2 := fun k => by have := hu1 k; have := b1 k; omega
  have bu2 : ∀ k, u2 k ≤ 2 := fun k => by have := hu2 k; have := b2 k; omega
  have ll := spr_le p bl p.length
  have lu1 := spr_le p bu1 p.length
  have lu2 := spr_le p bu2 p.length
  have s1 := spread_run lp bl
  have s2 := spread_run lp bu1
  have s3 := spread_run lp bu2
  have m1' := monic_run (spr_rz zp low p.length (Nat.le_refl _)) (by omega)
  have m2' := monic_run (spr_rz zp u1 p.length (Nat.le_refl _)) (by omega)
  have m3' := monic_run (spr_rz zp u2 p.length (Nat.le_refl _)) (by omega)
  rw [← hC] at m1'; rw [← hA0] at m2'; rw [← hB0] at m3'
  have c3 : evX (.lc [17] (.nm 17) .rng1 [(.lenv 1)] [] (.bi .min2 [(.ixv 2 (.var 17)), (.ixv 3 (.var 17))])) [.ow true l4, .fz (.list (p.map tN)), .ow false ((List.range p.length).map fun k => PyData.int ((t1 k : Nat) : Int)), .ow false ((List.range p.length).map fun k => PyData.int ((t2 k : Nat) : Int)), .un, .un, .un, .un, .un, .un, .un, .un, .un, .un, .un, .un, .un, .un] = some (.ow ((List.range p.length).map fun k => PyData.int ((low k : Nat) : Int)), [.ow true l4, .fz (.list (p.map tN)), .ow false ((List.range p.length).map fun k => PyData.int ((t1 k : Nat) : Int)), .ow false ((List.range p.length).map fun k => PyData.int ((t2 k : Nat) : Int)), .un, .un, .un, .un, .un, .un, .un, .un, .un, .un, .un, .un, .un, .un]) :=
    lc_map (f := fun (k : Nat) => PyData.int k) (g := fun k => PyData.int ((low k : Nat) : Int)) (l := List.range p.length) (Γ1 := [.ow true l4, .fz (.list (p.map tN)), .ow false ((List.range p.length).map fun k => PyData.int ((t1 k : Nat) : Int)), .ow false ((List.range p.length).map fun k => PyData.int ((t2 k : Nat) : Int)), .un, .un, .un, .un, .un, .un, .un, .un, .un, .un, .un, .un, .un, .un]) (ds := [.int p.length]) (by simp) (by rw [it_r1 (by omega), rng0]) (by rw [List.length_range]; omega) fun x hx => by
      have hx := List.mem_range.mp hx
      have a1 := at_rng (n := p.length) (m := x) (g := fun k => PyData.int ((t1 k : Nat) : Int)) (k := (x : Int)) rfl hx
      have a2 := at_rng (n := p.length) (m := x) (g := fun k => PyData.int ((t2 k : Nat) : Int)) (k := (x : Int)) rfl hx
      have q := hlow x
      exact ⟨[.ow true l4, .fz (.list (p.map tN)), .ow false ((List.range p.length).map fun k => PyData.int ((t1 k : Nat) : Int)), .ow false ((List.range p.length).map fun k => PyData.int ((t2 k : Nat) : Int)), .un, .un, .un, .un, .un, .un, .un, .un, .un, .un, .un, .un, .un, .fz (.int x)], .fz (.int (if ((t2 x : Nat) : Int) < ((t1 x : Nat) : Int) then ((t2 x : Nat) : Int) else ((t1 x : Nat) : Int))), [.ow true l4, .fz (.list (p.map tN)), .ow false ((List.range p.length).map fun k => PyData.int ((t1 k : Nat) : Int)), .ow false ((List.range p.length).map fun k => PyData.int ((t2 k : Nat) : Int)), .un, .un, .un, .un, .un, .un, .un, .un, .un, .un, .un, .un, .un, .fz (.int x)], by simp [wipeG], by simp [a1, a2], by simp only [rv_fz]; congr 1; split <;> omega, by simp [wipeG]⟩
  have c6 : evX (.lc [17] (.nm 17) .rng1 [(.lenv 1)] [] (.bin .sub (.ixv 2 (.var 17)) (.ixv 4 (.var 17)))) [.ow true l6, .fz (.list (p.map tN)), .ow false ((List.range p.length).map fun k => PyData.int ((t1 k : Nat) : Int)), .ow false ((List.range p.length).map fun k => PyData.int ((t2 k : Nat) : Int)), .fz (.list ((List.range p.length).map fun k => PyData.int ((low k : Nat) : Int))), .fz (.list (C.map tN)), .fz (tN a), .fz (tN b), .un, .un, .un, .un, .un, .un, .un, .un, .un, .un] = some (.ow ((List.range p.length).map fun k => PyData.int ((u1 k : Nat) : Int)), [.ow true l6, .fz (.list (p.map tN)), .ow false ((List.range p.length).map fun k => PyData.int ((t1 k : Nat) : Int)), .ow false ((List.range p.length).map fun k => PyData.int ((t2 k : Nat) : Int)), .fz (.list ((List.range p.length).map fun k => PyData.int ((low k : Nat) : Int))), .fz (.list (C.map tN)), .fz (tN a), .fz (tN b), .un, .un, .un, .un, .un, .un, .un, .un, .un, .un]) :=
    lc_map (f := fun (k : Nat) => PyData.int k) (g := fun k => PyData.int ((u1 k : Nat) : Int)) (l := List.range p.length) (Γ1 := [.ow true l6, .fz (.list (p.map tN)), .ow false ((List.range p.length).map fun k => PyData.int ((t1 k : Nat) : Int)), .ow false ((List.range p.length).map fun k => PyData.int ((t2 k : Nat) : Int)), .fz (.list ((List.range p.length).map fun k => PyData.int ((low k : Nat) : Int))), .fz (.list (C.map tN)), .fz (tN a), .fz (tN b), .un, .un, .un, .un, .un, .un, .un, .un, .un, .un]) (ds := [.int p.length]) (by simp) (by rw [it_r1 (by omega), rng0]) (by rw [List.length_range]; omega) fun x hx => by
      have hx := List.mem_range.mp hx
      have a1 := at_rng (n := p.length) (m := x) (g := fun k => PyData.int ((t1 k : Nat) : Int)) (k := (x : Int)) rfl hx
      have a2 := at_rng (n := p.length) (m := x) (g := fun k => PyData.int ((low k : Nat) : Int)) (k := (x : Int)) rfl hx
      have q := hu1 x
      exact ⟨[.ow true l6, .fz (.list (p.map tN)), .ow false ((List.range p.length).map fun k => PyData.int ((t1 k : Nat) : Int)), .ow false ((List.range p.length).map fun k => PyData.int ((t2 k : Nat) : Int)), .fz (.list ((List.range p.length).map fun k => PyData.int ((low k : Nat) : Int))), .fz (.list (C.map tN)), .fz (tN a), .fz (tN b), .un, .un, .un, .un, .un, .un, .un, .un, .un, .fz (.int x)], .fz (.int (((t1 x : Nat) : Int) - ((low x : Nat) : Int))), [.ow true l6, .fz (.list (p.map tN)), .ow false ((List.range p.length).map fun k => PyData.int ((t1 k : Nat) : Int)), .ow false ((List.range p.length).map fun k => PyData.int ((t2 k : Nat) : Int)), .fz (.list ((List.range p.length).map fun k => PyData.int ((low k : Nat) : Int))), .fz (.list (C.map tN)), .fz (tN a), .fz (tN b), .un, .un, .un, .un, .un, .un, .un, .un, .un, .fz (.int x)], by simp [wipeG], by simp [a1, a2], by simp only [rv_fz]; congr 1; have := lo1 x; omega, by simp [wipeG]⟩
  have c7 : evX (.lc [17] (.nm 17) .rng1 [(.lenv 1)] [] (.bin .sub (.ixv 3 (.var 17)) (.ixv 4 (.var 17)))) [.ow true l6, .fz (.list (p.map tN)), .ow false ((List.range p.length).map fun k => PyData.int ((t1 k : Nat) : Int)), .ow false ((List.range p.length).map fun k => PyData.int ((t2 k : Nat) : Int)), .fz (.list ((List.range p.length).map fun k => PyData.int ((low k : Nat) : Int))), .fz (.list (C.map tN)), .fz (tN a), .fz (tN b), .ow false (A.map tN), .un, .un, .un, .un, .un, .un, .un, .un, .un] = some (.ow ((List.range p.length).map fun k => PyData.int ((u2 k : Nat) : Int)), [.ow true l6, .fz (.list (p.map tN)), .ow false ((List.range p.length).map fun k => PyData.int ((t1 k : Nat) : Int)), .ow false ((List.range p.length).map fun k => PyData.int ((t2 k : Nat) : Int)), .fz (.list ((List.range p.length).map fun k => PyData.int ((low k : Nat) : Int))), .fz (.list (C.map tN)), .fz (tN a), .fz (tN b), .ow false (A.map tN), .un, .un, .un, .un, .un, .un, .un, .un, .un]) :=
    lc_map (f := fun (k : Nat) => PyData.int k) (g := fun k => PyData.int ((u2 k : Nat) : Int)) (l := List.range p.length) (Γ1 := [.ow true l6, .fz (.list (p.map tN)), .ow false ((List.range p.length).map fun k => PyData.int ((t1 k : Nat) : Int)), .ow false ((List.range p.length).map fun k => PyData.int ((t2 k : Nat) : Int)), .fz (.list ((List.range p.length).map fun k => PyData.int ((low k : Nat) : Int))), .fz (.list (C.map tN)), .fz (tN a), .fz (tN b), .ow false (A.map tN), .un, .un, .un, .un, .un, .un, .un, .un, .un]) (ds := [.int p.length]) (by simp) (by rw [it_r1 (by omega), rng0]) (by rw [List.length_range]; omega) fun x hx => by
      have hx := List.mem_range.mp hx
      have a1 := at_rng (n := p.length) (m := x) (g := fun k => PyData.int ((t2 k : Nat) : Int)) (k := (x : Int)) rfl hx
      have a2 := at_rng (n := p.length) (m := x) (g := fun k => PyData.int ((low k : Nat) : Int)) (k := (x : Int)) rfl hx
      have q := hu2 x
      exact ⟨[.ow true l6, .fz (.list (p.map tN)), .ow false ((List.range p.length).map fun k => PyData.int ((t1 k : Nat) : Int)), .ow false ((List.range p.length).map fun k => PyData.int ((t2 k : Nat) : Int)), .fz (.list ((List.range p.length).map fun k => PyData.int ((low k : Nat) : Int))), .fz (.list (C.map tN)), .fz (tN a), .fz (tN b), .ow false (A.map tN), .un, .un, .un, .un, .un, .un, .un, .un, .fz (.int x)], .fz (.int (((t2 x : Nat) : Int) - ((low x : Nat) : Int))), [.ow true l6, .fz (.list (p.map tN)), .ow false ((List.range p.length).map fun k => PyData.int ((t1 k : Nat) : Int)), .ow false ((List.range p.length).map fun k => PyData.int ((t2 k : Nat) : Int)), .fz (.list ((List.range p.length).map fun k => PyData.int ((low k : Nat) : Int))), .fz (.list (C.map tN)), .fz (tN a), .fz (tN b), .ow false (A.map tN), .un, .un, .un, .un, .un, .un, .un, .un, .fz (.int x)], by simp [wipeG], by simp [a1, a2], by simp only [rv_fz]; congr 1; have := lo2 x; omega, by simp [wipeG]⟩
  have iA0 := mon_ir (rs := (spr p u1 p.length).reverse) (fun y hy => spr_rz zp _ _ (Nat.le_refl _) y (List.mem_reverse.mp hy))
  have iB0 := mon_ir (rs := (spr p u2 p.length).reverse) (fun y hy => spr_rz zp _ _ (Nat.le_refl _) y (List.mem_reverse.mp hy))
  rw [← hA0, List.length_reverse] at iA0
  rw [← hB0, List.length_reverse] at iB0
  have zA0 : Rz 60 A0 := iA0.rz.mono (by omega)
  have zB0 : Rz 60 B0 := iB0.rz.mono (by omega)
  have lA0 : A0.length = A.length := by rw [hA]; simp
  have lB0 : B0.length = B.length := by rw [hB]; simp
  have sc1 := lscaled_run zA0 ga (by omega) (by omega) (by omega)
  have sc2 := lscaled_run zB0 gb (by omega) (by omega) (by omega)
  rw [← hA] at sc1; rw [← hB] at sc2
  have tm1 := times60 zC zA lC lA rF
  have tm2 := times60 zC zB lC lB rS
  have zF := iF.rz
  have zS := iS.rz
  generalize Po.mul C A = F at rF nF lF iF mF dF eF tm1 zF
  generalize Po.mul C B = S at rS nS lS iS mS dS eS tm2 zS
  have td1 := ltold_row_run zF (by omega) (by omega) (by omega)
  have td2 := ltold_row_run zS (by omega) (by omega) (by omega)
  have td3 := ltold_row_run zC (by omega) (by omega) (by omega)
  have td4 := ltold_row_run zA (by omega) (by omega) (by omega)
  have td5 := ltold_row_run zB (by omega) (by omega) (by omega)
  rw [rF] at td1; rw [rS] at td2; rw [rC] at td3; rw [rA] at td4; rw [rB] at td5
  have k1 := common_of rF rS (by omega) (by omega) (divisor_run rC oC nC rF rS nF nS lF lS iF iS (by omega) eF eS cop)
  have k2 := common_of rS rF (by omega) (by omega) (divisor_run rC oC nC rS rF nS nF lS lF iS iF (by omega) eS eF cop.symm)
  have v1 := divided_of rF rC nC (by omega) (by omega) dF
  have v2 := divided_of rS rC nC (by omega) (by omega) dS
  have rn : Po.Row ([] : List GQ) := Po.Row.nil
  have w1 := common_of rF rn (by omega) (by simp) (divisor_left rF zF (by omega) (by omega) (by omega))
  have w2 := common_of rn rF (by simp) (by omega) (divisor_right rF iF (by omega) (by omega))
  have w3 := common_of rn rn (by simp) (by simp) (divisor_left rn (fun z hz => by cases hz) (show 1 ≤ 1 by omega) (by omega) (by simp))
  have zM := (m1_ir rF iF).rz
  have lM := m1_len F
  have rM := m1_row rF
  have o1 : Gz 1900000 1 := Gz.one (by omega)
  have oa : Gz 1900000 a := ga.mono (by omega)
  have ov := lover_run o1 oa (o1.mono (by omega)) (oa.mono (by omega)) a0
  have e1a : Gz 8 (1 / a) := by
    have := ga.inv
    have e : (1 : GQ) / a = a⁻¹ := by grind
    rw [e]; exact this.mono (by omega)
  have sc3 := lscaled_run zF e1a (by omega) (by omega) (by omega)
  rw [← mF] at sc3
  have td6 := ltold_row_run zM (by omega) (by omega) (by omega)
  rw [rM] at td6
  have sC : Shw 4 800000 (rD C) := (shw_rD zC (by omega) (by omega)).mono (by omega) (by omega)
  have sM : Shw 4 800000 (rD (m1 F)) := (shw_rD zM (by omega) (by omega)).mono (by omega) (by omega)
  have sN : Shw 4 800000 (.tuple []) := (shw_rD (b := 1) (p := []) (fun z hz => by cases hz) (by omega) (by simp)).mono (by omega) (by omega)
  have sA : Shw 4 800000 (.tuple [rD A, .tuple []]) := (shw_pair (q := []) zA (fun z hz => by cases hz) (by omega) (by omega) (by simp)).mono (by omega) (by omega)
  have sB : Shw 4 800000 (.tuple [rD B, .tuple []]) := (shw_pair (q := []) zB (fun z hz => by cases hz) (by omega) (by omega) (by simp)).mono (by omega) (by omega)
  have three : ∀ {x y z : PyData}, Shw 4 800000 x → Shw 4 800000 y → Shw 4 800000 z → reprOk (.list [x, y, z]) = true := fun {x y z} hx hy hz => reprOk_w (k := 5) (n := 3000000) ((Shw.lst (k := 4) (n := 800000) fun d hd => by
    rcases List.mem_cons.mp hd with rfl | hd
    · exact hx
    rcases List.mem_cons.mp hd with rfl | hd
    · exact hy
    · rw [List.mem_singleton.mp hd]; exact hz).mono (by omega) (by simp)) rfl (by omega) (by omega)
  have q1 := three sC sC sA
  have q2 : reprOk (.tuple [rD B, .tuple []]) = true := reprOk_w sB rfl (by omega) (by omega)
  have q3 := three sM sM sN
  rw [rD_nil] at v1 v2 w1 w2 w3
  rw [show (m1 ([] : List GQ)) = [] from rfl, rD_nil] at w3
  refine ⟨l6, ?_⟩
  rw [run1 (np := 1) (n := 18) (ds := []) rfl]
  show (evB ir__law_right [.ow true l, .un, .un, .un, .un, .un, .un, .un, .un, .un, .un, .un, .un, .un, .un, .un, .un, .un]).bind (outM true) = _
  rw [S__law_right]
  rw [b_cons']; conv in evS _ _ => simp [S__law_right_0, e1]
  rw [Option.bind_some, onNext_nx, b_cons']; conv in evS _ _ => simp [S__law_right_1, e2]
  rw [Option.bind_some, onNext_nx, b_cons']; conv in evS _ _ => simp [S__law_right_2, e3, e4, evRs, EvL.putAll]
  rw [Option.bind_some, onNext_nx, b_cons']; conv in evS _ _ => simp [S__law_right_3, c3]
  rw [Option.bind_some, onNext_nx, b_cons']; conv in evS _ _ => simp [S__law_right_4, s1, m1']
  rw [Option.bind_some, onNext_nx, b_cons']; conv in evS _ _ => simp [S__law_right_5, e5, e6, evRs, EvL.putAll]
  rw [Option.bind_some, onNext_nx, b_cons']; conv in evS _ _ => simp [S__law_right_6, c6, s2, m2', sc1]
  rw [Option.bind_some, onNext_nx, b_cons']; conv in evS _ _ => simp [S__law_right_7, c7, s3, m3', sc2]
  rw [Option.bind_some, onNext_nx, b_cons']; conv in evS _ _ => simp [S__law_right_8, tm1, tm2, evRs, EvL.putAll]
  rw [Option.bind_some, onNext_nx, b_cons']; conv in evS _ _ => simp [S__law_right_9, td1, td2, td3, evRs, EvL.putAll]
  rw [Option.bind_some, onNext_nx, b_cons']; conv in evS _ _ => simp [S__law_right_10, k1, k2, v1, td4, q1, cmpD, eqD]
  rw [Option.bind_some, onNext_nx, b_cons']; conv in evS _ _ => simp [S__law_right_11, k1, v2, td5, q2, cmpD, eqD]
  rw [Option.bind_some, onNext_nx, b_cons']; conv in evS _ _ => simp [S__law_right_12, ← tN_1, ov, sc3, td6]
  rw [Option.bind_some, onNext_nx, b_cons']; conv in evS _ _ => simp [S__law_right_13, w1, w2, w3, q3, cmpD, eqD]
  rfl
theorem main : ∀ ns : List Int, ns.length ≤ 63 → d_law.f.run [.list (ns.map .int)] = some (.fz (.bool true), []) := by
  intro ns hl
  rw [run_law]
  exact law_main rfl (by decide) (fun l h => right_run h) ns hl
end K05

open PySem PySem.W PySem.Calls PyProof.Rows
theorem PySem.Challenge.cw_rimseries_k05_whole_rows_divided_and_com_holds : PySem.Challenge.rw_rimseries_k05_whole_rows_divided_and_com.Holds := by
  w_on; o_law
  refine HandSHeadRun.head_imp (r := OpenLaw.row PySem.Challenge.rw_rimseries_k05_whole_rows_divided_and_com) (q := K05.vw) (H := EvL.hookN 6 K05.asked) (ob := EvL.obsT 6 K05.asked) (M := 20000) (loose := K05.loose) (d := HandSHeadRun.topDef (OpenLaw.row PySem.Challenge.rw_rimseries_k05_whole_rows_divided_and_com).prog 56) (kwd := []) (EvL.obsT_eq 6 _)
    K05.run (by kernel_rfl) (by kernel_rfl) (by kernel_rfl) (by rfl) (by first | assumption | decide +kernel) (by decide +kernel) ⟨rfl, rfl, rfl, rfl, rfl, by decide +kernel⟩ ?hw ?hc
  case hw => w_witness2
  case hc =>
    refine EvL.walk_N (l := PySem.Challenge.rw_rimseries_k05_whole_rows_divided_and_com) (n := 63) (k := 9) (D0 := K05.d_law) (x := "script") rfl (by decide) (by kernel_rfl) ⟨rfl, by decide, by decide⟩ rfl rfl (by decide +kernel) (fun w mg h K X G c => ?_) K05.main
    have e : (HandSHeadRun.topDef (OpenLaw.row PySem.Challenge.rw_rimseries_k05_whole_rows_divided_and_com).prog 56).name = ("law" : PySem.Str) := by kernel_rfl
    rw [e]
    exact K05.table rfl X G c

