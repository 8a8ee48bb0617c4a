import PyProof.Rows.All
import Wide.All
import OpenK.AllK
import Wide.FinOn
import PySem.Challenge.RW_rimseries_k36_whole_null_mixes_and_rank
import HandS.ForMost
import HandS.Gcd
import HandS.Wide
import HandS.WideBits
import HandS.TupAny
import HandS.TupMul
import HandS.Style
import HandS.Flow
import HandS.Zip
import HandS.Rev
import HandS.IsInst
import HandS.Deep
import HandS.TryOnly
import KE.GoesEnum
import HandS.Ends
import HandS.HeadEnd
import HandS.HeadHook2
import HandS.Head0
import HandS.Head1
import HandS.Head2
import HandS.Head3
import HandS.Defaults
import HandS.EndBits
set_option Elab.async false
set_option linter.all false
set_option maxRecDepth 100000
set_option maxHeartbeats 4000000
/-! a small language, its meaning over data, and that a Python def means it -/
namespace EvL
open PySem PySem.Spec PyProof.Rows L2

abbrev D := PyData
/-- what a slot holds: nothing known; a value that never changes; a list of its own (b: lent by the caller) -/
inductive MV where
  | un | fz (d : D) | ow (b : Bool) (ds : List D) | oo (rss : List (List D)) | hid (ds : List D)
abbrev Ga := List MV
/-- a result: a value, or a list that nobody else knows -/
inductive RV where
  | fz (d : D) | ow (ds : List D) | oo (rss : List (List D))
def RV.d : RV → D
  | .fz d => d
  | .ow ds => .list ds
  | .oo rss => .list (rss.map .list)
def RV.low : RV → RV
  | .oo rss => .fz (.list (rss.map .list))
  | r => r
def RV.mv : RV → MV
  | .fz d => .fz d
  | .ow ds => .ow false ds
  | .oo rss => .oo rss
/-- what a def does: mt: its first parameter is a list that it may change -/
structure FnD where
  mt : Bool
  run : List D → Option (RV × List D)

inductive BOp where | add | sub | mul | fdiv | mod | pow
  deriving DecidableEq
inductive COp where | eq | ne | lt | le | gt | ge | is | isn | in_ | nin
  deriving DecidableEq
inductive BF where | len | abs | int | repr | divmod | max2 | min2 | tuple | list | gcd | all | any | sum | isint | isbool | istuple | islist | isstr
  deriving DecidableEq
inductive IK where | seq | rng1 | rng2 | rng3 | enum | zip | rev
  deriving DecidableEq
inductive Tg where
  | nm (i : Nat) | tp (ts : List Tg)
/-- an own list whose parts are own lists, too: MV.oo -/
inductive IE where
  | var (i : Nat) | cst (d : D) | tup (es : List IE) | lst (es : List IE)
  | bin (o : BOp) (a b : IE) | neg (a : IE) | not (a : IE)
  | cmp (o : COp) (a b : IE) | chn (o o' : COp) (a b c : IE)
  | and (a b : IE) | or (a b : IE) | ite (c a b : IE)
  | ix (a b : IE) | ixv (i : Nat) (b : IE) | lenv (i : Nat) | slc (l h : Bool) (a lo hi : IE) | rev (a : IE)
  | bi (f : BF) (es : List IE)
  | call (f : FnD) (pm : List D → List D) (es : List IE)
  | callm (f : FnD) (i : Nat) (es : List IE)
  | callt (f : FnD) (e : IE)
  | lc (vs : List Nat) (tg : Tg) (k : IK) (its : List IE) (ifs : List IE) (elt : IE)
  | ixo (i : Nat) (a b : IE) | leno (i : Nat) | lco (vs : List Nat) (tg : Tg) (k : IK) (its : List IE) (elt : IE)

/-! ### operations on data -/
def mulOk (i j : Int) : Bool := decide (i.natAbs.log2 + j.natAbs.log2 < 60000000)
def divOk (i j : Int) : Bool := decide (j ≠ 0)
def lim : Nat := 1000000
def binD : BOp → D → D → Option RV
  | .add, .int i, .int j => some (.fz (.int (i + j)))
  | .add, .list xs, .list ys => if xs.length + ys.length ≤ lim then some (.ow (xs ++ ys)) else none
  | .add, .tuple xs, .tuple ys => if xs.length + ys.length ≤ lim then some (.fz (.tuple (xs ++ ys))) else none
  | .add, .str x, .str y => if x.length + y.length ≤ lim then some (.fz (.str (x ++ y))) else none
  | .sub, .int i, .int j => some (.fz (.int (i - j)))
  | .sub, .bool a, .bool b => some (.fz (.int ((if a then 1 else 0) - (if b then 1 else 0))))
  | .mul, .int i, .int j => if mulOk i j then some (.fz (.int (i * j))) else none
  | .mul, .list xs, .int k => if k ≤ 100000 ∧ -100000 ≤ k ∧ xs.length * k.toNat ≤ lim then some (.ow (List.replicate k.toNat xs).flatten) else none
  | .mul, .tuple xs, .int k => if k ≤ 1000 ∧ -1000 ≤ k ∧ xs.length ≤ 1000 then some (.fz (.tuple (List.replicate k.toNat xs).flatten)) else none
  | .fdiv, .int i, .int j => if divOk i j then some (.fz (.int (i.fdiv j))) else none
  | .mod, .int i, .int j => if j ≠ 0 then some (.fz (.int (i.fmod j))) else none
  | .pow, .int i, .int j => if 0 ≤ j ∧ j ≤ 1000 ∧ i.natAbs < 2 ^ 64 then some (.fz (.int (i ^ j.toNat))) else none
  | _, _, _ => none
def eqD (x y : D) : Option Bool := match x, y with
  | .str a, .str b => some (decide (a = b))
  | x, y => if SeqAt.shaped x && SeqAt.shaped y then some (PyData.eqv x y) else none
def cmpD : COp → D → D → Option Bool
  | .eq, x, y => eqD x y
  | .ne, x, y => (eqD x y).map fun b => !b
  | .lt, .int i, .int j => some (decide (i < j))
  | .le, .int i, .int j => some (decide (i ≤ j))
  | .gt, .int i, .int j => some (decide (j < i))
  | .ge, .int i, .int j => some (decide (j ≤ i))
  | .is, .none, .none => some true
  | .is, .bool _, .none => some false
  | .is, .int _, .none => some false
  | .is, .str _, .none => some false
  | .is, .list _, .none => some false
  | .is, .tuple _, .none => some false
  | .isn, .none, .none => some false
  | .isn, .bool _, .none => some true
  | .isn, .int _, .none => some true
  | .isn, .str _, .none => some true
  | .isn, .list _, .none => some true
  | .isn, .tuple _, .none => some true
  | .is, .bool a, .bool b => some (decide (a = b))
  | .isn, .bool a, .bool b => some (!decide (a = b))
  | .in_, x, .list ys => if SeqAt.shaped x && SeqAt.shaped (.list ys) then some (ys.any fun y => PyData.eqv y x) else none
  | .nin, x, .list ys => if SeqAt.shaped x && SeqAt.shaped (.list ys) then some (!ys.any fun y => PyData.eqv y x) else none
  | .in_, x, .tuple ys => if SeqAt.shaped x && SeqAt.shaped (.tuple ys) then some (ys.any fun y => PyData.eqv y x) else none
  | .nin, x, .tuple ys => if SeqAt.shaped x && SeqAt.shaped (.tuple ys) then some (!ys.any fun y => PyData.eqv y x) else none
  | _, _, _ => none
def trD : D → Option Bool
  | .none => some false
  | .bool b => some b
  | .int i => some (i != 0)
  | .str x => if x.length ≤ lim then some ((x.length : Int) != 0) else none
  | .list xs => some (!xs.isEmpty)
  | .tuple xs => some (!xs.isEmpty)
  | .dict _ => none
def ixD : D → D → Option D
  | .list xs, .int i => atI xs i
  | .tuple xs, .int i => atI xs i
  | _, _ => none
def cutD (xs : List D) (lo hi : Option Int) : List D := (xs.drop (HT.sIx xs.length 0 lo)).take (HT.sIx xs.length xs.length hi - HT.sIx xs.length 0 lo)
def optI : Bool → D → Option (Option Int)
  | false, _ => some none
  | true, .int i => some (some i)
  | true, _ => none
def slcD (x : D) (l h : Option Int) : Option RV := match x with
  | .list xs => some (.ow (cutD xs l h))
  | .tuple xs => some (.fz (.tuple (cutD xs l h)))
  | _ => none
def revD : D → Option RV
  | .list xs => some (.ow xs.reverse)
  | .tuple xs => some (.fz (.tuple xs.reverse))
  | _ => none
/-- repr: of showable things -/
def isAtom : D → Bool
  | .none | .bool _ | .int _ | .str _ => true
  | _ => false
def reprOk (d : D) : Bool := (isDisplay d || isAtom d) && d.showable && !d.hasDict && decide (d.depth ≤ 50) && decide (d.shown.length ≤ 10000000)
def allD : List D → Option Bool
  | [] => some true
  | .bool b :: r => (allD r).map fun c => b && c
  | _ => none
def anyD : List D → Option Bool
  | [] => some false
  | .bool b :: r => (anyD r).map fun c => b || c
  | _ => none
def sumD : List D → Option Int
  | [] => some 0
  | .int i :: r => (sumD r).map fun c => i + c
  | _ => none
def isD : BF → D → Bool
  | .isint, .int _ => true
  | .isint, .bool _ => true
  | .isbool, .bool _ => true
  | .istuple, .tuple _ => true
  | .islist, .list _ => true
  | .isstr, .str _ => true
  | _, _ => false
def biD : BF → List D → Option RV
  | .len, [.list xs] => some (.fz (.int xs.length))
  | .len, [.tuple xs] => some (.fz (.int xs.length))
  | .abs, [.int i] => some (.fz (.int (if i < 0 then -i else i)))
  | .int, [.int i] => some (.fz (.int i))
  | .int, [.bool b] => some (.fz (.int (if b then 1 else 0)))
  | .repr, [d] => if reprOk d then some (.fz (.str d.shown)) else none
  | .divmod, [.int i, .int j] => if 0 < j ∧ j < 1073741824 then some (.fz (.tuple [.int (i / j), .int (i % j)])) else none
  | .max2, [.int i, .int j] => some (.fz (.int (if j > i then j else i)))
  | .min2, [.int i, .int j] => some (.fz (.int (if j < i then j else i)))
  | .tuple, [.list xs] => some (.fz (.tuple xs))
  | .tuple, [.tuple xs] => some (.fz (.tuple xs))
  | .list, [.list xs] => some (.ow xs)
  | .list, [.tuple xs] => some (.ow xs)
  | .gcd, [.int a, .int b] => some (.fz (.int ((Nat.gcd a.natAbs b.natAbs : Nat) : Int)))
  | .all, [.list xs] => (allD xs).map fun b => .fz (.bool b)
  | .any, [.list xs] => (anyD xs).map fun b => .fz (.bool b)
  | .sum, [.list xs] => (sumD xs).map fun i => .fz (.int i)
  | .isint, [d] => some (.fz (.bool (isD .isint d)))
  | .isbool, [d] => some (.fz (.bool (isD .isbool d)))
  | .istuple, [d] => some (.fz (.bool (isD .istuple d)))
  | .islist, [d] => some (.fz (.bool (isD .islist d)))
  | .isstr, [d] => some (.fz (.bool (isD .isstr d)))
  | _, _ => none
def rngD (lo hi : Int) : List D := (List.range (hi - lo).toNat).map fun (k : Nat) => .int (lo + (k : Int))
def seqD : D → Option (List D)
  | .list xs => some xs
  | .tuple xs => some xs
  | _ => none
def smallI (i : Int) : Bool := decide (-1000000 ≤ i) && decide (i ≤ 1000000)
def itD : IK → List D → Option (List D)
  | .seq, [d] => seqD d
  | .rng1, [.int j] => if smallI j then some (rngD 0 j) else none
  | .rng2, [.int i, .int j] => if smallI i && smallI j then some (rngD i j) else none
  | .rng3, [.int i, .int j, .int st] => if smallI i && smallI j && smallI st && decide (st ≠ 0) && Builtin.Range.small i j st then some ((List.range (Builtin.Range.rangeSize i j st).toNat).map fun (k : Nat) => .int (i + (k : Int) * st)) else none
  | .enum, [d] => (seqD d).map fun xs => xs.mapIdx fun k x => .tuple [.int k, x]
  | .zip, [a, b] => (seqD a).bind fun xs => (seqD b).map fun ys => (xs.zip ys).map fun p => .tuple [p.1, p.2]
  | .rev, [d] => (seqD d).map fun xs => xs.reverse
  | _, _ => none

/-! ### slots -/
def getV (i : Nat) (Γ : Ga) : Option (D × Ga) :=
  match Γ[i]? with
  | some (.fz d) => some (d, Γ)
  | some (.ow false ds) => some (.list ds, Γ.set i (.fz (.list ds)))
  | some (.oo rss) => some (.list (rss.map .list), Γ.set i (.fz (.list (rss.map .list))))
  | _ => none
/-- a slot's data, nothing changes -/
def slotD (i : Nat) (Γ : Ga) : Option D :=
  match Γ[i]? with
  | some (.fz d) => some d
  | some (.ow _ ds) => some (.list ds)
  | _ => none
/-- own[a][b] -/
def getO (i : Nat) (a b : D) (Γ : Ga) : Option D :=
  match Γ[i]?, a, b with
  | some (.oo rss), .int k, .int j => (atI rss k).bind fun rs => atI rs j
  | _, _, _ => none
/-- the row own[a] -/
def rowO (i : Nat) (a : D) (Γ : Ga) : Option (List D) :=
  match Γ[i]?, a with
  | some (.oo rss), .int k => atI rss k
  | _, _ => none
def isOo (i : Nat) (Γ : Ga) : Bool := match Γ[i]? with
  | some (.oo _) => true
  | _ => false
mutual
def asg : Tg → D → Ga → Option Ga
  | .nm i, d, Γ => if i < Γ.length then some (Γ.set i (.fz d)) else none
  | .tp ts, .tuple ds, Γ => asgs ts ds Γ
  | .tp ts, .list ds, Γ => asgs ts ds Γ
  | .tp _, _, _ => none
def asgs : List Tg → List D → Ga → Option Ga
  | [], [], Γ => some Γ
  | t :: ts, d :: ds, Γ => (asg t d Γ).bind fun Γ => asgs ts ds Γ
  | _, _, _ => none
end
def wipeG (Γ : Ga) : List Nat → Ga
  | [] => Γ
  | v :: vs => (wipeG Γ vs).set v .un
/-- behind a comprehension its own names are what they were -/
def backG (Γ0 Γ : Ga) : List Nat → Ga
  | [] => Γ
  | v :: vs => (backG Γ0 Γ vs).set v (match Γ0[v]? with | some (.fz d) => .fz d | _ => .un)
/-- the turns of a comprehension -/
def lcLoop (f : D → Ga → Option (Option D × Ga)) : List D → Ga → Option (List D × Ga)
  | [], Γ => some ([], Γ)
  | x :: xs, Γ => (f x Γ).bind fun (o, Γ1) => (lcLoop f xs Γ1).map fun (ys, Γ2) => (match o with | some y => y :: ys | none => ys, Γ2)

def lcLoopO (f : D → Ga → Option (List D × Ga)) : List D → Ga → Option (List (List D) × Ga)
  | [], Γ => some ([], Γ)
  | x :: xs, Γ => (f x Γ).bind fun (y, Γ1) => (lcLoopO f xs Γ1).map fun (ys, Γ2) => (y :: ys, Γ2)
/-- an own list alone -/
def RV.own : RV → Option (List D)
  | .ow ds => some ds
  | _ => none

mutual
def evX : IE → Ga → Option (RV × Ga)
  | .var i, Γ => (getV i Γ).map fun (d, Γ) => (.fz d, Γ)
  | .cst d, Γ => some (.fz d, Γ)
  | .tup es, Γ => (evs es Γ).map fun (ds, Γ) => (.fz (.tuple ds), Γ)
  | .lst es, Γ => (evs es Γ).map fun (ds, Γ) => (.ow ds, Γ)
  | .bin o a b, Γ => (evX a Γ).bind fun (x, Γ) => (evX b Γ).bind fun (y, Γ) => (binD o x.d y.d).map fun r => (r, Γ)
  | .neg a, Γ => (evX a Γ).bind fun (x, Γ) => match x.d with | .int i => some (.fz (.int (-i)), Γ) | _ => none
  | .not a, Γ => (evX a Γ).bind fun (x, Γ) => (trD x.d).map fun c => (.fz (.bool (!c)), Γ)
  | .cmp o a b, Γ => (evX a Γ).bind fun (x, Γ) => (evX b Γ).bind fun (y, Γ) => (cmpD o x.d y.d).map fun r => (.fz (.bool r), Γ)
  | .chn o o' a b c, Γ => (evX a Γ).bind fun (x, Γ) => (evX b Γ).bind fun (y, Γ) => (cmpD o x.d y.d).bind fun r =>
      if r then (evX c Γ).bind fun (z, Γ) => (cmpD o' y.d z.d).map fun r => (.fz (.bool r), Γ) else some (.fz (.bool false), Γ)
  | .and a b, Γ => (evX a Γ).bind fun (x, Γ) => (trD x.d).bind fun c => if c then (evX b Γ).map fun (y, Γ) => (.fz y.d, Γ) else some (.fz x.d, Γ)
  | .or a b, Γ => (evX a Γ).bind fun (x, Γ) => (trD x.d).bind fun c => if c then some (.fz x.d, Γ) else (evX b Γ).map fun (y, Γ) => (.fz y.d, Γ)
  | .ite c a b, Γ => (evT c Γ).bind fun (t, Γ) => if t then (evX a Γ).map fun (y, Γ) => (.fz y.d, Γ) else (evX b Γ).map fun (y, Γ) => (.fz y.d, Γ)
  | .ix a b, Γ => (evX a Γ).bind fun (x, Γ) => (evX b Γ).bind fun (y, Γ) => (ixD x.d y.d).map fun r => (.fz r, Γ)
  | .ixv i b, Γ => (slotD i Γ).bind fun _ => (evX b Γ).bind fun (y, Γ) => (slotD i Γ).bind fun d => (ixD d y.d).map fun r => (.fz r, Γ)
  | .lenv i, Γ => (slotD i Γ).bind fun d => (biD .len [d]).map fun r => (r, Γ)
  | .slc l h a lo hi, Γ => (evX a Γ).bind fun (x, Γ) => (evX lo Γ).bind fun (u, Γ) => (optI l u.d).bind fun i => (evX hi Γ).bind fun (w, Γ) => (optI h w.d).bind fun j => (slcD x.d i j).map fun r => (r, Γ)
  | .rev a, Γ => (evX a Γ).bind fun (x, Γ) => (revD x.d).map fun r => (r, Γ)
  | .bi f es, Γ => (evs es Γ).bind fun (ds, Γ) => (biD f ds).map fun r => (r, Γ)
  | .call f pm es, Γ => (evs es Γ).bind fun (ds, Γ) => if f.mt then none else (f.run (pm ds)).map fun (r, _) => (r, Γ)
  | .callm f i es, Γ => match Γ[i]? with
      | some (.ow _ _) => (evs es Γ).bind fun (ds, Γ) => match Γ[i]? with
        | some (.ow b c) => if f.mt then (f.run (.list c :: ds)).map fun (r, c') => (r, Γ.set i (.ow b c')) else none
        | _ => none
      | _ => none
  | .callt f e, Γ => (evX e Γ).bind fun (x, Γ) => match x with
      | .ow c => if f.mt then (f.run [.list c]).map fun (r, _) => (r, Γ) else none
      | _ => none
  | .lc vs tg k its ifs elt, Γ => (evs its Γ).bind fun (ds, Γ1) => (itD k ds).bind fun xs =>
      if xs.length ≤ lim then
        (lcLoop (fun x Γ => (asg tg x (wipeG Γ vs)).bind fun Γ2 => (evIfs ifs Γ2).bind fun (c, Γ3) =>
          if c then (evX elt Γ3).map fun (y, Γ4) => (some y.d, Γ4) else some (none, Γ3)) xs (wipeG Γ1 vs)).map fun (ys, Γ5) => (.ow ys, backG Γ1 Γ5 vs)
      else none
  | .ixo i a b, Γ => if isOo i Γ then (evX a Γ).bind fun (x, Γ) => (rowO i x.d Γ).bind fun _ => (evX b Γ).bind fun (y, Γ) => (getO i x.d y.d Γ).map fun r => (.fz r, Γ) else none
  | .leno i, Γ => match Γ[i]? with
      | some (.oo rss) => some (.fz (.int rss.length), Γ)
      | _ => none
  | .lco vs tg k its elt, Γ => (evs its Γ).bind fun (ds, Γ1) => (itD k ds).bind fun xs =>
      if xs.length ≤ lim then
        (lcLoopO (fun x Γ => (asg tg x (wipeG Γ vs)).bind fun Γ2 => (evX elt Γ2).bind fun (y, Γ4) => y.own.map fun ds => (ds, Γ4)) xs (wipeG Γ1 vs)).map fun (ys, Γ5) => (.oo ys, backG Γ1 Γ5 vs)
      else none
def evs : List IE → Ga → Option (List D × Ga)
  | [], Γ => some ([], Γ)
  | e :: es, Γ => (evX e Γ).bind fun (x, Γ) => (evs es Γ).map fun (ds, Γ) => (x.d :: ds, Γ)
def evT : IE → Ga → Option (Bool × Ga)
  | .and a b, Γ => (evT a Γ).bind fun (c, Γ) => if c then evT b Γ else some (false, Γ)
  | .or a b, Γ => (evT a Γ).bind fun (c, Γ) => if c then some (true, Γ) else evT b Γ
  | .not a, Γ => (evT a Γ).map fun (c, Γ) => (!c, Γ)
  | .cmp o a b, Γ => (evX a Γ).bind fun (x, Γ) => (evX b Γ).bind fun (y, Γ) => (cmpD o x.d y.d).map fun r => (r, Γ)
  | .chn o o' a b c, Γ => (evX a Γ).bind fun (x, Γ) => (evX b Γ).bind fun (y, Γ) => (cmpD o x.d y.d).bind fun r =>
      if r then (evX c Γ).bind fun (z, Γ) => (cmpD o' y.d z.d).map fun r => (r, Γ) else some (false, Γ)
  | .cst d, Γ => (trD d).map fun c => (c, Γ)
  | .var i, Γ => (slotD i Γ).bind fun d => (trD d).map fun c => (c, Γ)
  | .ixv i b, Γ => (slotD i Γ).bind fun _ => (evX b Γ).bind fun (y, Γ) => (slotD i Γ).bind fun d => (ixD d y.d).bind fun r => (trD r).map fun c => (c, Γ)
  | .lenv i, Γ => (slotD i Γ).bind fun d => (biD .len [d]).bind fun r => (trD r.d).map fun c => (c, Γ)
  | .bi f es, Γ => (evs es Γ).bind fun (ds, Γ) => (biD f ds).bind fun r => (trD r.d).map fun c => (c, Γ)
  | .call f pm es, Γ => (evs es Γ).bind fun (ds, Γ) => if f.mt then none else (f.run (pm ds)).bind fun (r, _) => (trD r.d).map fun c => (c, Γ)
  | .callm f i es, Γ => match Γ[i]? with
      | some (.ow _ _) => (evs es Γ).bind fun (ds, Γ) => match Γ[i]? with
        | some (.ow b c) => if f.mt then (f.run (.list c :: ds)).bind fun (r, c') => (trD r.d).map fun t => (t, Γ.set i (.ow b c')) else none
        | _ => none
      | _ => none
  | .ix a b, Γ => (evX a Γ).bind fun (x, Γ) => (evX b Γ).bind fun (y, Γ) => (ixD x.d y.d).bind fun r => (trD r).map fun c => (c, Γ)
  | .callt f e, Γ => (evX e Γ).bind fun (x, Γ) => match x with
      | .ow c => if f.mt then (f.run [.list c]).bind fun (r, _) => (trD r.d).map fun t => (t, Γ) else none
      | _ => none
  | _, _ => none
def evIfs : List IE → Ga → Option (Bool × Ga)
  | [], Γ => some (true, Γ)
  | e :: es, Γ => (evT e Γ).bind fun (c, Γ) => if c then evIfs es Γ else some (false, Γ)
end
end EvL

set_option Elab.async false
set_option linter.all false
set_option maxRecDepth 100000
set_option maxHeartbeats 4000000
namespace EvL
open PySem PySem.Spec PyProof.Rows L2

/-! ### data over a heap that grows -/
def Ext (H H' : Hp) : Prop := ∀ a o, H a = some o → H' a = some o
theorem Ext.rfl' {H : Hp} : Ext H H := fun _ _ h => h
theorem Ext.tr {H H1 H2 : Hp} (a : Ext H H1) (b : Ext H1 H2) : Ext H H2 := fun x o h => b x o (a x o h)
theorem Ext.new {H : Hp} {p : Addr} {o : HO} (h : H p = none) : Ext H (upd H p o) := fun a u e => by
  rw [upd_ne (ne_of_none e h)]; exact e
theorem Ext.upd {Hf H : Hp} {p : Addr} {o : HO} (e : Ext Hf H) (h : Hf p = none) : Ext Hf (upd H p o) := fun a u ha => by
  rw [upd_ne (ne_of_none ha h)]; exact e a u ha
theorem Ext.rd {H H' : Hp} {a : Addr} {u : HO} (e : Ext H H') (h : Rd H a u) : Rd H' a u := by
  rcases h with h | ⟨o, h⟩
  · exact .inl (e _ _ h)
  · exact .inr ⟨o, e _ _ h⟩
theorem Ext.sl {K : PySem.W.Frag} {H H' : Hp} {a : Addr} {xs : List V} (e : Ext H H') (h : SqL K H a xs) : SqL K H' a xs := by
  rcases h with h | h
  · exact .inl (e.rd h)
  · exact .inr h
theorem Ext.st {K : PySem.W.Frag} {H H' : Hp} {a : Addr} {xs : List V} (e : Ext H H') (h : SqT K H a xs) : SqT K H' a xs := by
  rcases h with h | h
  · exact .inl (e.rd h)
  · exact .inr h
theorem Ext.none {H H' : Hp} {a : Addr} (e : Ext H H') (h : H' a = none) : H a = none := by
  cases q : H a with
  | none => rfl
  | some o => rw [e a o q] at h; cases h
mutual
/-- a value stands for data -/
inductive Dq (K : PySem.W.Frag) (H : Hp) : V → D → Prop
  | non : Dq K H .non .none
  | bl (b : Bool) : Dq K H (.bl b) (.bool b)
  | int (i : Int) : Dq K H (.int i) (.int i)
  | str (x : Str) : Dq K H (.str x) (.str x)
  | lst {a : Addr} {xs : List V} {ds : List D} : Rd H a (.lst xs) → Dqs K H xs ds → Dq K H (.ref a) (.list ds)
  | tup {a : Addr} {xs : List V} {ds : List D} : SqT K H a xs → Dqs K H xs ds → Dq K H (.ref a) (.tuple ds)
inductive Dqs (K : PySem.W.Frag) (H : Hp) : List V → List D → Prop
  | nil : Dqs K H [] []
  | cons {v : V} {vs : List V} {d : D} {ds : List D} : Dq K H v d → Dqs K H vs ds → Dqs K H (v :: vs) (d :: ds)
end
section
variable {K : PySem.W.Frag} {H H' : Hp}
mutual
theorem Dq.dp : ∀ {v : V} {d : D}, Dq K H v d → Dp K H v d
  | _, _, .non => .non
  | _, _, .bl b => .bl b
  | _, _, .int i => .int i
  | _, _, .str x => .str x
  | _, _, .lst h q => .lst (.inl h) (Dqs.dp q)
  | _, _, .tup h q => .tup h (Dqs.dp q)
theorem Dqs.dp : ∀ {vs : List V} {ds : List D}, Dqs K H vs ds → DpAll K H vs ds
  | _, _, .nil => .nil
  | _, _, .cons h q => .cons (Dq.dp h) (Dqs.dp q)
end
mutual
theorem dpM (e : Ext H H') : ∀ {v : V} {d : D}, Dq K H v d → Dq K H' v d
  | _, _, .non => .non
  | _, _, .bl b => .bl b
  | _, _, .int i => .int i
  | _, _, .str x => .str x
  | _, _, .lst h q => .lst (e.rd h) (dpMs e q)
  | _, _, .tup h q => .tup (e.st h) (dpMs e q)
theorem dpMs (e : Ext H H') : ∀ {vs : List V} {ds : List D}, Dqs K H vs ds → Dqs K H' vs ds
  | _, _, .nil => .nil
  | _, _, .cons h q => .cons (dpM e h) (dpMs e q)
end
theorem dps_len : ∀ {vs : List V} {ds : List D}, Dqs K H vs ds → vs.length = ds.length
  | _, _, .nil => rfl
  | _, _, .cons _ q => by simp [dps_len q]
theorem dps_app : ∀ {vs ws : List V} {ds es : List D}, Dqs K H vs ds → Dqs K H ws es → Dqs K H (vs ++ ws) (ds ++ es)
  | _, _, _, _, .nil, q => q
  | _, _, _, _, .cons h t, q => .cons h (dps_app t q)
theorem dps_get : ∀ {vs : List V} {ds : List D} {i : Nat} {d : D}, Dqs K H vs ds → ds[i]? = some d → ∃ v, vs[i]? = some v ∧ Dq K H v d
  | _, _, 0, _, .cons h _, e => by simp at e; subst e; exact ⟨_, rfl, h⟩
  | _, _, i + 1, d, .cons _ t, e => by
    obtain ⟨v, h1, h2⟩ := dps_get (i := i) (d := d) t (by simpa using e)
    exact ⟨v, by simpa using h1, h2⟩
  | _, _, _, _, .nil, e => by simp at e
theorem dps_take : ∀ {vs : List V} {ds : List D} (n : Nat), Dqs K H vs ds → Dqs K H (vs.take n) (ds.take n)
  | _, _, 0, _ => by simp; exact .nil
  | _, _, _ + 1, .nil => by simp; exact .nil
  | _, _, n + 1, .cons h t => by simp; exact .cons h (dps_take n t)
theorem dps_drop : ∀ {vs : List V} {ds : List D} (n : Nat), Dqs K H vs ds → Dqs K H (vs.drop n) (ds.drop n)
  | _, _, 0, h => by simpa using h
  | _, _, _ + 1, .nil => by simp; exact .nil
  | _, _, n + 1, .cons h t => by simpa using dps_drop n t
theorem dps_set : ∀ {vs : List V} {ds : List D} (i : Nat) {v : V} {d : D}, Dqs K H vs ds → Dq K H v d → Dqs K H (vs.set i v) (ds.set i d)
  | _, _, _, _, _, .nil, _ => .nil
  | _, _, 0, _, _, .cons _ t, q => .cons q t
  | _, _, i + 1, _, _, .cons h t, q => .cons h (dps_set i t q)
theorem dps_rev {vs : List V} {ds : List D} (h : Dqs K H vs ds) : Dqs K H vs.reverse ds.reverse := by
  induction vs generalizing ds with
  | nil => cases h; exact .nil
  | cons v vs ih =>
    cases h with
    | cons h t =>
      simp only [List.reverse_cons]
      exact dps_app (ih t) (.cons h .nil)
theorem dps_rep {vs : List V} {ds : List D} (h : Dqs K H vs ds) : ∀ n : Nat, Dqs K H (List.replicate n vs).flatten (List.replicate n ds).flatten
  | 0 => by simp; exact .nil
  | n + 1 => by simp only [List.replicate_succ, List.flatten_cons]; exact dps_app h (dps_rep h n)
end

/-! ### the slots over a heap: Hf is the part that never changes -/
theorem map_ref_inj : ∀ {as bs : List Addr}, as.map V.ref = bs.map V.ref → as = bs
  | [], [], _ => rfl
  | a :: as, b :: bs, h => by
    simp only [List.map_cons, List.cons.injEq] at h
    obtain ⟨h1, h2⟩ := h
    cases h1
    rw [map_ref_inj h2]
  | [], _ :: _, h => by simp at h
  | _ :: _, [], h => by simp at h
/-- lists of one's own, one a row -/
inductive Rows (K : PySem.W.Frag) (Hf H : Hp) : List Addr → List (List D) → Prop
  | nil : Rows K Hf H [] []
  | cons {x : Addr} {vs : List V} {ds : List D} {as : List Addr} {rss : List (List D)} : Hf x = none → H x = some (.lst vs) → Dqs K Hf vs ds → Rows K Hf H as rss → Rows K Hf H (x :: as) (ds :: rss)
structure OO (K : PySem.W.Frag) (Hf H : Hp) (a : Addr) (as : List Addr) (rss : List (List D)) : Prop where
  hf : Hf a = none
  at_ : H a = some (.lst (as.map .ref))
  nd : (a :: as).Nodup
  rows : Rows K Hf H as rss
section
variable {K : PySem.W.Frag} {Hf H Hf1 H1 : Hp} {a : Addr} {as : List Addr} {rss : List (List D)}
theorem Rows.mem : ∀ {as : List Addr} {rss : List (List D)}, Rows K Hf H as rss → ∀ b ∈ as, Hf b = none ∧ ∃ vs, H b = some (.lst vs)
  | _, _, .nil, _, h => by cases h
  | _, _, .cons a b _ t, x, h => by
    rcases List.mem_cons.mp h with rfl | h
    · exact ⟨a, _, b⟩
    · exact Rows.mem t x h
theorem Rows.len : ∀ {as : List Addr} {rss : List (List D)}, Rows K Hf H as rss → as.length = rss.length
  | _, _, .nil => rfl
  | _, _, .cons _ _ _ t => by simp [Rows.len t]
theorem Rows.mono (e : Ext Hf Hf1) : ∀ {as : List Addr} {rss : List (List D)}, (∀ b ∈ as, Hf1 b = none) → (∀ b ∈ as, H1 b = H b) → Rows K Hf H as rss → Rows K Hf1 H1 as rss
  | _, _, _, _, .nil => .nil
  | _, _, h, k, .cons a b c t => .cons (h _ (List.mem_cons_self ..)) ((k _ (List.mem_cons_self ..)).trans b) (dpMs e c) (Rows.mono e (fun x hx => h x (List.mem_cons_of_mem _ hx)) (fun x hx => k x (List.mem_cons_of_mem _ hx)) t)
theorem Rows.get : ∀ {as : List Addr} {rss : List (List D)}, Rows K Hf H as rss → ∀ {i : Nat} {ds : List D}, rss[i]? = some ds → ∃ x vs, as[i]? = some x ∧ Hf x = none ∧ H x = some (.lst vs) ∧ Dqs K Hf vs ds
  | _, _, .nil, _, _, e => by simp at e
  | _, _, .cons a b c t, 0, _, e => by simp at e; subst e; exact ⟨_, _, rfl, a, b, c⟩
  | _, _, .cons a b c t, i + 1, ds, e => by
    obtain ⟨x, vs, g⟩ := Rows.get t (i := i) (ds := ds) (by simpa using e)
    exact ⟨x, vs, by simpa using g⟩
theorem OO.mem (o : OO K Hf H a as rss) : ∀ b ∈ a :: as, Hf b = none ∧ ∃ vs, H b = some (.lst vs) := fun b h => by
  rcases List.mem_cons.mp h with rfl | h
  · exact ⟨o.hf, _, o.at_⟩
  · exact o.rows.mem b h
theorem OO.mono (o : OO K Hf H a as rss) (e : Ext Hf Hf1) (h : ∀ b ∈ a :: as, Hf1 b = none) (k : ∀ b ∈ a :: as, H1 b = H b) : OO K Hf1 H1 a as rss :=
  ⟨h _ (List.mem_cons_self ..), (k _ (List.mem_cons_self ..)).trans o.at_, o.nd, o.rows.mono e (fun x hx => h x (List.mem_cons_of_mem _ hx)) (fun x hx => k x (List.mem_cons_of_mem _ hx))⟩
end
/-- the slot i owns what lies at b -/
def SO (σ : L2.St) (Γ : Ga) (H : Hp) (i : Nat) (q : Bool) (b : Addr) : Prop :=
  (∃ ds, Γ[i]? = some (.ow q ds) ∧ σ[i]? = some (some (.ref b))) ∨
  (q = false ∧ ∃ rss a as, Γ[i]? = some (.oo rss) ∧ σ[i]? = some (some (.ref a)) ∧ H a = some (.lst (as.map .ref)) ∧ b ∈ a :: as)
def OwnAt (σ : L2.St) (Γ : Ga) (H : Hp) (q : Bool) (b : Addr) : Prop := ∃ i, SO σ Γ H i q b
structure Rel (K : PySem.W.Frag) (Hf H : Hp) (σ : L2.St) (Γ : Ga) : Prop where
  len : Γ.length = σ.length
  sub : Ext Hf H
  fz : ∀ (i : Nat) (d : D), Γ[i]? = some (.fz d) → ∃ v, σ[i]? = some (some v) ∧ Dq K Hf v d
  own : ∀ (i : Nat) (q : Bool) (ds : List D), Γ[i]? = some (.ow q ds) → ∃ a vs, σ[i]? = some (some (.ref a)) ∧ Hf a = none ∧ H a = some (.lst vs) ∧ Dqs K Hf vs ds
  oo : ∀ (i : Nat) (rss : List (List D)), Γ[i]? = some (.oo rss) → ∃ a as, σ[i]? = some (some (.ref a)) ∧ OO K Hf H a as rss
  inj : ∀ (i j : Nat) (q q' : Bool) (b : Addr), SO σ Γ H i q b → SO σ Γ H j q' b → i = j
/-- what a piece of code may do -/
structure Step (σ : L2.St) (Γ : Ga) (Hf H : Hp) (σ' : L2.St) (Γ' : Ga) (Hf' H' : Hp) : Prop where
  ext : Ext Hf Hf'
  keep : ∀ b o, H b = some o → (∀ q, ¬ OwnAt σ Γ H q b) → H' b = some o
  live : ∀ b, H b ≠ none → H' b ≠ none
  newf : ∀ b, Hf' b ≠ none → Hf b ≠ none ∨ H b = none ∨ OwnAt σ Γ H false b
  newo : ∀ b, OwnAt σ' Γ' H' false b → OwnAt σ Γ H false b ∨ H b = none
  newb : ∀ b, OwnAt σ' Γ' H' true b → OwnAt σ Γ H true b
  hid : ∀ (i : Nat) (ds : List D), Γ'[i]? = some (.hid ds) → Γ[i]? = some (.hid ds) ∧ σ'[i]? = σ[i]?
section
variable {K : PySem.W.Frag} {σ σ1 σ2 : L2.St} {Γ Γ1 Γ2 : Ga} {Hf H Hf1 H1 Hf2 H2 : Hp}
theorem Rel.there (R : Rel K Hf H σ Γ) {q : Bool} {b : Addr} (h : OwnAt σ Γ H q b) : Hf b = none ∧ ∃ vs, H b = some (.lst vs) := by
  obtain ⟨i, ⟨ds, h1, h2⟩ | ⟨rfl, rss, a, as, h1, h2, h3, h4⟩⟩ := h
  · obtain ⟨a, vs, e, n, x, _⟩ := R.own i q ds h1
    rw [h2] at e; cases e
    exact ⟨n, vs, x⟩
  · obtain ⟨a', as', e, o⟩ := R.oo i rss h1
    rw [h2] at e; cases e
    have := o.at_
    rw [h3] at this
    injection this with this
    injection this with this
    rw [map_ref_inj this] at h4
    exact o.mem b h4
theorem Rel.fresh (R : Rel K Hf H σ Γ) {b : Addr} (h : H b = none) (q : Bool) : ¬ OwnAt σ Γ H q b := fun z => by
  obtain ⟨_, vs, e⟩ := R.there z
  rw [h] at e; cases e
theorem SO.oo {i : Nat} {rss : List (List D)} {a b : Addr} {as : List Addr} (h1 : Γ[i]? = some (.oo rss)) (h2 : σ[i]? = some (some (.ref a))) (o : OO K Hf H a as rss) (hb : b ∈ a :: as) : SO σ Γ H i false b :=
  .inr ⟨rfl, rss, a, as, h1, h2, o.at_, hb⟩
/-- over another heap that says the same of what is there -/
theorem SO.heap (R : Rel K Hf H σ Γ) {i : Nat} {q : Bool} {b : Addr} (k : ∀ a, OwnAt σ Γ H false a → H1 a = H a) (h : SO σ Γ H1 i q b) : SO σ Γ H i q b := by
  rcases h with h | ⟨rfl, rss, a, as, h1, h2, h3, h4⟩
  · exact .inl h
  · obtain ⟨a', as', e, o⟩ := R.oo i rss h1
    rw [h2] at e; cases e
    have := k a ⟨i, .oo h1 h2 o (List.mem_cons_self ..)⟩
    rw [this] at h3
    exact .inr ⟨rfl, rss, a, as, h1, h2, h3, h4⟩
theorem OwnAt.heap (R : Rel K Hf H σ Γ) {q : Bool} {b : Addr} (k : ∀ a, OwnAt σ Γ H false a → H1 a = H a) (h : OwnAt σ Γ H1 q b) : OwnAt σ Γ H q b := let ⟨i, h⟩ := h; ⟨i, h.heap R k⟩
theorem Step.rfl' : Step σ Γ Hf H σ Γ Hf H := ⟨Ext.rfl', fun _ _ h _ => h, fun _ h => h, fun _ h => .inl h, fun _ h => .inl h, fun _ h => h, fun _ _ h => ⟨h, rfl⟩⟩
theorem hid_set {σ σ' : L2.St} {Γ : Ga} {i : Nat} {m : MV} (hm : ∀ ds, m ≠ .hid ds) (hs : ∀ j, j ≠ i → σ'[j]? = σ[j]?) : ∀ (j : Nat) (ds : List D), (Γ.set i m)[j]? = some (.hid ds) → Γ[j]? = some (.hid ds) ∧ σ'[j]? = σ[j]? := fun j ds h => by
  rw [List.getElem?_set] at h
  split at h
  · split at h
    · cases h; exact absurd rfl (hm ds)
    · cases h
  · rename_i q
    exact ⟨h, hs j fun z => q z.symm⟩
theorem Step.tr (a : Step σ Γ Hf H σ1 Γ1 Hf1 H1) (b : Step σ1 Γ1 Hf1 H1 σ2 Γ2 Hf2 H2) : Step σ Γ Hf H σ2 Γ2 Hf2 H2 where
  ext := a.ext.tr b.ext
  keep := fun x o h n => b.keep x o (a.keep x o h n) fun q z => by
    cases q with
    | true => exact n true (a.newb x z)
    | false =>
      rcases a.newo x z with z | z
      · exact n false z
      · rw [z] at h; cases h
  live := fun x h => b.live x (a.live x h)
  newf := fun x h => by
    rcases b.newf x h with h | h | h
    · exact a.newf x h
    · refine .inr (.inl ?_)
      cases q : H x with
      | none => rfl
      | some o => exact absurd h (a.live x (by rw [q]; simp))
    · rcases a.newo x h with h | h
      · exact .inr (.inr h)
      · exact .inr (.inl h)
  newo := fun x h => by
    rcases b.newo x h with h | h
    · exact a.newo x h
    · refine .inr ?_
      cases q : H x with
      | none => rfl
      | some o => exact absurd h (a.live x (by rw [q]; simp))
  newb := fun x h => a.newb x (b.newb x h)
  hid := fun i ds h => let ⟨h1, e1⟩ := b.hid i ds h; let ⟨h2, e2⟩ := a.hid i ds h1; ⟨h2, e1.trans e2⟩
/-- an expression: no new list of its own at a slot -/
structure EStep (σ : L2.St) (Γ : Ga) (Hf H : Hp) (Γ' : Ga) (Hf' H' : Hp) : Prop extends Step σ Γ Hf H σ Γ' Hf' H' where
  shr : ∀ b, OwnAt σ Γ' H' false b → OwnAt σ Γ H false b
  oos : ∀ (i : Nat) (rss : List (List D)) (a : Addr), Γ'[i]? = some (.oo rss) → σ[i]? = some (some (.ref a)) → Γ[i]? = some (.oo rss) ∧ σ[i]? = some (some (.ref a)) ∧ H' a = H a
theorem EStep.rfl' : EStep σ Γ Hf H Γ Hf H := ⟨.rfl', fun _ h => h, fun _ _ _ h g => ⟨h, g, rfl⟩⟩
theorem EStep.tr (a : EStep σ Γ Hf H Γ1 Hf1 H1) (b : EStep σ Γ1 Hf1 H1 Γ2 Hf2 H2) : EStep σ Γ Hf H Γ2 Hf2 H2 :=
  ⟨a.toStep.tr b.toStep, fun x h => a.shr x (b.shr x h), fun i rss x h g => let ⟨h1, g1, e1⟩ := b.oos i rss x h g; let ⟨h2, g2, e2⟩ := a.oos i rss x h1 g1; ⟨h2, g2, e1.trans e2⟩⟩
/-- something new alone -/
structure Grow (Hf H Hf' H' : Hp) : Prop where
  ext : Ext Hf Hf'
  sub : Ext Hf' H'
  keep : Ext H H'
  newf : ∀ b, Hf' b ≠ none → Hf b ≠ none ∨ H b = none
theorem Ext.eq_at {H H1 : Hp} (e : Ext H H1) {b : Addr} {o : HO} (h : H b = some o) : H1 b = H b := (e b o h).trans h.symm
theorem Grow.nf (g : Grow Hf H Hf1 H1) {b : Addr} {o : HO} (h : Hf b = none) (k : H b = some o) : Hf1 b = none := by
  cases z : Hf1 b with
  | none => rfl
  | some u =>
    rcases g.newf b (by rw [z]; simp) with w | w
    · exact absurd h w
    · rw [w] at k; cases k
theorem Rel.keeps (R : Rel K Hf H σ Γ) (keep : Ext H H1) : ∀ a, OwnAt σ Γ H false a → H1 a = H a := fun a h => let ⟨_, vs, e⟩ := R.there h; keep.eq_at e
theorem Grow.rel (g : Grow Hf H Hf1 H1) (R : Rel K Hf H σ Γ) : Rel K Hf1 H1 σ Γ where
  len := R.len
  sub := g.sub
  fz := fun i d h => let ⟨v, a, b⟩ := R.fz i d h; ⟨v, a, dpM g.ext b⟩
  own := fun i q ds h => by
    obtain ⟨a, vs, e, n, x, y⟩ := R.own i q ds h
    exact ⟨a, vs, e, g.nf n x, g.keep _ _ x, dpMs g.ext y⟩
  oo := fun i rss h => by
    obtain ⟨a, as, e, o⟩ := R.oo i rss h
    exact ⟨a, as, e, o.mono g.ext (fun b hb => let ⟨n, vs, x⟩ := o.mem b hb; g.nf n x) (fun b hb => let ⟨n, vs, x⟩ := o.mem b hb; g.keep.eq_at x)⟩
  inj := fun i j q q' b h h' => R.inj i j q q' b (h.heap R (R.keeps g.keep)) (h'.heap R (R.keeps g.keep))
theorem Grow.live (g : Grow Hf H Hf1 H1) : ∀ b, H b ≠ none → H1 b ≠ none := fun b h z => h (g.keep.none z)
theorem Grow.step (g : Grow Hf H Hf1 H1) (R : Rel K Hf H σ Γ) : EStep σ Γ Hf H Γ Hf1 H1 :=
  ⟨⟨g.ext, fun b o h _ => g.keep b o h, g.live, fun b h => (g.newf b h).elim .inl fun z => .inr (.inl z), fun _ h => .inl (h.heap R (R.keeps g.keep)), fun _ h => h.heap R (R.keeps g.keep), fun _ _ h => ⟨h, rfl⟩⟩, fun _ h => h.heap R (R.keeps g.keep),
    fun i rss a h e => let ⟨a', as, e', o⟩ := R.oo i rss h; ⟨h, e, by rw [e] at e'; cases e'; exact g.keep.eq_at o.at_⟩⟩
theorem Grow.same (s : Ext Hf H) : Grow Hf H Hf H := ⟨Ext.rfl', s, Ext.rfl', fun _ h => .inl h⟩
theorem Grow.tup (s : Ext Hf H) {p : Addr} {o : HO} (h : H p = none) : Grow Hf H (upd Hf p o) (upd H p o) where
  ext := Ext.new (s.none h)
  sub := fun a u e => by
    by_cases hp : a = p
    · subst hp; rw [upd_same] at e ⊢; exact e
    · rw [upd_ne hp] at e ⊢; exact s a u e
  keep := Ext.new h
  newf := fun b e => by
    by_cases hp : b = p
    · subst hp; exact .inr h
    · rw [upd_ne hp] at e; exact .inl e
theorem Grow.lst (s : Ext Hf H) {p : Addr} {o : HO} (h : H p = none) : Grow Hf H Hf (upd H p o) := ⟨Ext.rfl', s.upd (s.none h), Ext.new h, fun _ e => .inl e⟩
theorem Grow.tr {Hf0 H0 : Hp} (a : Grow Hf0 H0 Hf H) (b : Grow Hf H Hf1 H1) : Grow Hf0 H0 Hf1 H1 :=
  ⟨a.ext.tr b.ext, b.sub, a.keep.tr b.keep, fun x h => by
    rcases b.newf x h with h | h
    · exact a.newf x h
    · exact .inr (a.keep.none h)⟩
/-- a result stands: H0 is the heap ahead -/
def RRel (K : PySem.W.Frag) (H0 Hf' H' : Hp) (v : V) : RV → Prop
  | .fz d => Dq K Hf' v d
  | .ow ds => ∃ p ws, v = .ref p ∧ H0 p = none ∧ Hf' p = none ∧ H' p = some (.lst ws) ∧ Dqs K Hf' ws ds
  | .oo rss => ∃ p as, v = .ref p ∧ (∀ b ∈ p :: as, H0 b = none) ∧ OO K Hf' H' p as rss
theorem RRel.back {H0 : Hp} {v : V} {r : RV} (h : RRel K H Hf1 H1 v r) (e : ∀ b, H b = none → H0 b = none) : RRel K H0 Hf1 H1 v r := by
  cases r with
  | fz d => exact h
  | ow ds =>
    obtain ⟨p, ws, a, b, c⟩ := h
    exact ⟨p, ws, a, e p b, c⟩
  | oo rss =>
    obtain ⟨p, as, a, b, c⟩ := h
    exact ⟨p, as, a, fun x hx => e x (b x hx), c⟩
theorem Step.dead (s : Step σ Γ Hf H σ1 Γ1 Hf1 H1) : ∀ b, H1 b = none → H b = none := fun b h => by
  cases q : H b with
  | none => rfl
  | some o => exact absurd h (s.live b (by rw [q]; simp))
/-- some objects more that never change -/
def frz (Hf H : Hp) (L : List Addr) : Hp := fun b => if b ∈ L then H b else Hf b
theorem frz_in {L : List Addr} {b : Addr} (h : b ∈ L) : frz Hf H L b = H b := if_pos h
theorem frz_out {L : List Addr} {b : Addr} (h : b ∉ L) : frz Hf H L b = Hf b := if_neg h
theorem frz_ext {L : List Addr} (h : ∀ b ∈ L, Hf b = none) : Ext Hf (frz Hf H L) := fun b o e => by
  rw [frz_out fun z => by rw [h b z] at e; cases e]; exact e
theorem frz_sub {L : List Addr} (s : Ext Hf H) : Ext (frz Hf H L) H := fun b o e => by
  by_cases hb : b ∈ L
  · rwa [frz_in hb] at e
  · rw [frz_out hb] at e; exact s b o e
theorem Rel.freezeL {L : List Addr} (R : Rel K Hf H σ Γ) (h : ∀ b ∈ L, Hf b = none) (no : ∀ b ∈ L, ∀ q, ¬ OwnAt σ Γ H q b) : Rel K (frz Hf H L) H σ Γ where
  len := R.len
  sub := frz_sub R.sub
  fz := fun i d e => let ⟨v, a, b⟩ := R.fz i d e; ⟨v, a, dpM (frz_ext h) b⟩
  own := fun i q ds e => by
    obtain ⟨a, vs, e1, n, x, y⟩ := R.own i q ds e
    exact ⟨a, vs, e1, by rw [frz_out fun z => no a z q ⟨i, .inl ⟨ds, e, e1⟩⟩]; exact n, x, dpMs (frz_ext h) y⟩
  oo := fun i rss e => by
    obtain ⟨a, as, e1, o⟩ := R.oo i rss e
    exact ⟨a, as, e1, o.mono (frz_ext h) (fun b hb => by rw [frz_out fun z => no b z false ⟨i, .oo e e1 o hb⟩]; exact (o.mem b hb).1) fun _ _ => rfl⟩
  inj := R.inj
theorem Rows.frozen (e : Ext Hf Hf1) : ∀ {as : List Addr} {rss : List (List D)}, (∀ b ∈ as, Hf1 b = H b) → Rows K Hf H as rss → Dqs K Hf1 (as.map .ref) (rss.map .list)
  | _, _, _, .nil => .nil
  | _, _, k, .cons a b c t => .cons (.lst (.inl ((k _ (List.mem_cons_self ..)).trans b)) (dpMs e c)) (Rows.frozen e (fun x hx => k x (List.mem_cons_of_mem _ hx)) t)
/-- .. its own addresses -/
theorem OO.frozen {p : Addr} {as : List Addr} {rss : List (List D)} (o : OO K Hf H p as rss) : Dq K (frz Hf H (p :: as)) (.ref p) (.list (rss.map .list)) :=
  .lst (.inl ((frz_in (List.mem_cons_self ..)).trans o.at_)) (o.rows.frozen (frz_ext fun b hb => (o.mem b hb).1) fun b hb => frz_in (List.mem_cons_of_mem _ hb))
/-- a list of its own becomes one that never changes -/
theorem freeze {v : V} {r : RV} (R : Rel K Hf1 H1 σ Γ1) (s : EStep σ Γ Hf H Γ1 Hf1 H1) (R0 : Rel K Hf H σ Γ) (h : RRel K H Hf1 H1 v r) :
    ∃ Hf2, Rel K Hf2 H1 σ Γ1 ∧ EStep σ Γ Hf H Γ1 Hf2 H1 ∧ Dq K Hf2 v r.d := by
  have hno : ∀ p, H p = none → ∀ q, ¬ OwnAt σ Γ1 H1 q p := fun p h0 q z => by
    cases q with
    | false => exact R0.fresh h0 false (s.shr p z)
    | true => exact R0.fresh h0 true (s.newb p z)
  have key : ∀ L : List Addr, (∀ b ∈ L, H b = none ∧ Hf1 b = none) → Rel K (frz Hf1 H1 L) H1 σ Γ1 ∧ EStep σ Γ Hf H Γ1 (frz Hf1 H1 L) H1 := fun L hL => by
    refine ⟨R.freezeL (fun b hb => (hL b hb).2) (fun b hb => hno b (hL b hb).1), ⟨⟨s.ext.tr (frz_ext fun b hb => (hL b hb).2), s.keep, s.live, fun b hb => ?_, s.newo, s.newb, s.hid⟩, s.shr, s.oos⟩⟩
    by_cases hp : b ∈ L
    · exact .inr (.inl (hL b hp).1)
    · rw [frz_out hp] at hb; exact s.newf b hb
  cases r with
  | fz d => exact ⟨Hf1, R, s, h⟩
  | ow ds =>
    obtain ⟨p, ws, rfl, h0, hf, h1, q⟩ := h
    obtain ⟨a, b⟩ := key [p] (fun b hb => by rw [List.mem_singleton.mp hb]; exact ⟨h0, hf⟩)
    exact ⟨_, a, b, .lst (.inl ((frz_in (List.mem_singleton.mpr rfl)).trans h1)) (dpMs (frz_ext fun b hb => by rw [List.mem_singleton.mp hb]; exact hf) q)⟩
  | oo rss =>
    obtain ⟨p, as, rfl, h0, o⟩ := h
    obtain ⟨a, b⟩ := key (p :: as) (fun b hb => ⟨h0 b hb, (o.mem b hb).1⟩)
    exact ⟨_, a, b, o.frozen⟩
end
end EvL

set_option Elab.async false
set_option linter.all false
set_option maxRecDepth 100000
set_option maxHeartbeats 4000000
namespace EvL
open PySem PySem.Spec PyProof.Rows L2

/-! ### readings over data -/
def tX (K : PySem.W.Frag) (f : Ga → Option (RV × Ga)) : TE := fun σ H Q => ∃ Γ Hf r Γ', Rel K Hf H σ Γ ∧ f Γ = some (r, Γ') ∧
  ∀ v H' Hf', Rel K Hf' H' σ Γ' → EStep σ Γ Hf H Γ' Hf' H' → RRel K H Hf' H' v r → Q v H'
/-- .. what comes out is made fast -/
def tE (K : PySem.W.Frag) (f : Ga → Option (RV × Ga)) : TE := fun σ H Q => ∃ Γ Hf r Γ', Rel K Hf H σ Γ ∧ f Γ = some (r, Γ') ∧
  ∀ v H' Hf', Rel K Hf' H' σ Γ' → EStep σ Γ Hf H Γ' Hf' H' → Dq K Hf' v r.d → Q v H'
def tT (K : PySem.W.Frag) (f : Ga → Option (Bool × Ga)) : TT := fun σ H Q => ∃ Γ Hf r Γ', Rel K Hf H σ Γ ∧ f Γ = some (r, Γ') ∧
  ∀ H' Hf', Rel K Hf' H' σ Γ' → EStep σ Γ Hf H Γ' Hf' H' → Q r H'
def tAs (K : PySem.W.Frag) (f : Ga → Option (List D × Ga)) : TA := fun σ H Q => ∃ Γ Hf r Γ', Rel K Hf H σ Γ ∧ f Γ = some (r, Γ') ∧
  ∀ vs H' Hf', Rel K Hf' H' σ Γ' → EStep σ Γ Hf H Γ' Hf' H' → Dqs K Hf' vs r → Q vs H'
section
variable {X : Cx} {e : Expr} {es : List Expr}
theorem _root_.L2.PE.imp {t t' : TE} (h : PE X e t) (k : ∀ σ H Q, t' σ H Q → t σ H Q) : PE X e t' := ⟨fun pins s σ H Q I q => h.run pins s σ H Q I (k σ H Q q)⟩
theorem _root_.L2.PT.imp {t t' : TT} (h : PT X e t) (k : ∀ σ H Q, t' σ H Q → t σ H Q) : PT X e t' := ⟨fun pins s σ H Q I q => h.run pins s σ H Q I (k σ H Q q)⟩
theorem _root_.L2.PW.imp {t t' : TT} (h : PW X e t) (k : ∀ σ H Q, t' σ H Q → t σ H Q) : PW X e t' := ⟨fun wh pins s σ H Q I q => h.run wh pins s σ H Q I (k σ H Q q)⟩
theorem _root_.L2.PA.imp {t t' : TA} (h : PA X es t) (k : ∀ σ H Q, t' σ H Q → t σ H Q) : PA X es t' := ⟨fun pos pins s σ H Q I q => h.run pos pins s σ H Q I (k σ H Q q)⟩
theorem pe_fast {f : Ga → Option (RV × Ga)} (h : PE X e (tX X.K f)) : PE X e (tE X.K f) := h.imp fun σ H Q ⟨Γ, Hf, r, Γ', R, ef, k⟩ => ⟨Γ, Hf, r, Γ', R, ef, fun v H' Hf' R' S' rr => by
  obtain ⟨Hf2, R2, S2, d⟩ := freeze R' S' R rr
  exact k v H' Hf2 R2 S2 d⟩
end
/-- after a fast value: a rule by data, without slots -/
def Post (K : PySem.W.Frag) (Hf H : Hp) (r : RV) (Q : VK) : Prop := ∀ v H' Hf', Grow Hf H Hf' H' → RRel K H Hf' H' v r → Q v H'
section
variable {K : PySem.W.Frag} {Hf H : Hp} {Q : VK}
theorem Post.val {v : V} {d : D} (p : Post K Hf H (.fz d) Q) (s : Ext Hf H) (h : Dq K Hf v d) : Q v H := p v H Hf (Grow.same s) h
theorem Post.tup {vs : List V} {ds : List D} (p : Post K Hf H (.fz (.tuple ds)) Q) (s : Ext Hf H) (h : Dqs K Hf vs ds) : ∀ q, H q = none → Q (.ref q) (upd H q (.tup vs)) := fun q hq =>
  p _ _ _ (Grow.tup s hq) (.tup (.inl (.inl upd_same)) (dpMs (Ext.new (s.none hq)) h))
theorem Post.lst {vs : List V} {ds : List D} (p : Post K Hf H (.ow ds) Q) (s : Ext Hf H) (h : Dqs K Hf vs ds) : ∀ q, H q = none → Q (.ref q) (upd H q (.lst vs)) := fun q hq =>
  p _ _ _ (Grow.lst s hq) ⟨q, vs, rfl, hq, s.none hq, upd_same, h⟩
theorem Post.fin {σ : L2.St} {Γ0 Γ : Ga} {Hf0 H0 : Hp} {r : RV} {Q : VK} (R : Rel K Hf H σ Γ) (S : EStep σ Γ0 Hf0 H0 Γ Hf H)
    (k : ∀ v H' Hf', Rel K Hf' H' σ Γ → EStep σ Γ0 Hf0 H0 Γ Hf' H' → RRel K H0 Hf' H' v r → Q v H') : Post K Hf H r Q := fun v H' Hf' g rr =>
  k v H' Hf' (g.rel R) (S.tr (g.step R)) (rr.back S.dead)
end

/-! ### what stands around: the table of defs, constants, the free built-ins -/
structure FnE where
  name : Str
  np : Nat
  kws : List Str
  f : FnD
  ar : List (Sum Nat Nat)
  dfs : List D
def arr {α : Type} (z : α) (ar : List (Sum Nat Nat)) (dfs xs : List α) : List α := ar.map fun
  | .inl i => xs.getD i z
  | .inr j => dfs.getD j z
def FnE.pm (E : FnE) (ds : List D) : List D := arr .none E.ar E.dfs ds
structure Ctx where
  N : List Str
  sc : Scope
  fns : List FnE
  consts : List (Str × D)
  gcd : Bool
  bl : List Str
/-- what a def's promise is, by its meaning over data -/
def spD (K : PySem.W.Frag) (f : FnD) : Sp := fun vs H Q _ => ∃ (Hf : Hp) (ds : List D) (r : RV) (c' : List D), Ext Hf H ∧ f.run ds = some (r, c') ∧
  match f.mt with
  | false => Dqs K Hf vs ds ∧ Post K Hf H r Q
  | true => ∃ (a : Addr) (vs0 ws : List V) (c ds0 : List D), vs = .ref a :: vs0 ∧ ds = .list c :: ds0 ∧ Hf a = none ∧ H a = some (.lst ws) ∧ Dqs K Hf ws c ∧ Dqs K Hf vs0 ds0 ∧
      ∀ v H' Hf' ws', Ext Hf Hf' → Ext Hf' H' → (∀ b o, b ≠ a → H b = some o → H' b = some o) → (∀ b, Hf' b ≠ none → Hf b ≠ none ∨ H b = none) →
        H' a = some (.lst ws') → Hf' a = none → Dqs K Hf' ws' c' → RRel K H Hf' H' v r → Q v H'
end EvL

set_option Elab.async false
set_option linter.all false
set_option maxRecDepth 100000
set_option maxHeartbeats 4000000
namespace EvL
open PySem PySem.Spec PyProof.Rows L2

/-! ### a def that keeps a promise where no repr is on its way -/
structure FnG (P : Program) (w : World) (K : PySem.W.Frag) (mg : Str → Option Value) (base : Heap) (k : Nat) (f : Addr) (fd : FuncData) (ps : List Str) (sp : Sp) : Prop where
  go : ∀ (A : Around) (outer : List Env) (s : Shared) (H : Hp) (args : Args) (us : List Value) (vs : List V) (Q : VK), Room (k + 40) A → A.guards = some [] → Env0 P w K mg base A outer s H →
    BindsTo s fd args (ps.zip us) → Vals vs us → vs.length = ps.length → sp vs H Q E0 → codeAny (model P w) A (.call (.ref f) args) (CR CX0 outer P w H s Q E0) s
section
variable {P : Program} {w : World} {K : PySem.W.Frag} {mg : Str → Option Value} {base : Heap} {k : Nat} {f : Addr} {fd : FuncData} {ps : List Str} {sp : Sp}
theorem FnG.up {j : Nat} (F : FnG P w K mg base j f fd ps sp) (h : j ≤ k) : FnG P w K mg base k f fd ps sp :=
  ⟨fun A outer s H args us vs Q hr => F.go A outer s H args us vs Q (hr.mono (by omega))⟩
/-- the rule of a def by its body, the guards told -/
theorem fnG_of {name qual : Str} {params : Arguments} {body : List Stmt} {scope : Scope} {dV kV doc pm cdv ct oc : Value} {an od : Option Addr} {osl : Array (Option Value)} {N : List Str}
    (lk : K.lookup f = some ⟨oc, od, .func (PySem.W.fnOf name qual params body scope dV kV doc pm an cdv ct), osl⟩) (hcd : PySem.W.codeIn K cdv qual = true) (S : FnScope N ps scope)
    (hb : ∀ (A : Around) (outer : List Env) (s : Shared) (H : Hp) (vs : List V) (Q : VK), Room (k + 40) (A.deeper (envOfC qual scope s.heap.objs.size f cdv)) → A.frames = some outer → A.guards = some [] → vs.length = ps.length → sp vs H Q E0 →
      ∃ t, PSs (cxOf CX0 P w K mg base N qual scope f cdv A outer s H E0).nox body t ∧ t { nx := fun _ H' => Q .non H', rt := Q } (start N vs) H) :
    FnG P w K mg base (k + 1) f (PySem.W.fnOf name qual params body scope dV kV doc pm an cdv ct) ps sp := by
  constructor
  intro A outer s H args us vs Q hr hg e0 hbind r hl hsp
  have inK : K.In s.heap := e0.mod.kin.keeps fun b o q => (e0.bs b o q).1
  have nolim : s.heap.NoLimit := e0.mod.nolimit.keeps fun b o q => (e0.bs b o q).1
  have kinds : ∀ y ∈ ps.zip us, scope.names.lookup y.1 = some .local ∨ (scope.names.lookup y.1 = some .cell ∧ ((cellsFrom (s.heap.objs.size + 1) scope.names []).lookup y.1).isSome = true) := by
    rintro ⟨n, v⟩ hy
    rcases S.par n (List.of_mem_zip hy).1 with q | q
    · left; exact q
    · right; exact ⟨q, PySem.W.cellsFrom_some _ _ _ (.inl q)⟩
  refine codeAny_call_function hr.depth (inK _ _ lk) rfl S.co S.gen rfl (PySem.W.codeRec_of inK hcd) (hbind _ _ _ _ (wpAny_newFunctionEnv_cells S.kind kinds ?_))
  intro env he s1 x
  subst he
  refine ⟨nolim.keeps x.toInCall.keep, codeAny_func ?_⟩
  obtain ⟨t, ht, hq⟩ := hb A outer s H vs Q (Room.deeper (k := k + 40) hr _) e0.frames hg hl hsp
  have J0 := inv_start (CX := CX0) (E := E0) S hr.hd e0 hl r x
  refine wpAny_mono (ht.nox.run [] s1 (start N vs) H _ J0 hq) ?_ (fun _ _ z => z)
  intro fl s' hs
  cases fl with
  | ret u =>
    obtain ⟨v, σ', H', J, rv, q⟩ := hs
    exact ⟨v, H', J.os, J.bare, J.base, J.hok, rv, q⟩
  | next =>
    obtain ⟨σ', H', J, q⟩ := hs
    exact ⟨V.non, H', J.os, J.bare, J.base, J.hok, rfl, q⟩
  | brk => obtain ⟨_, _, _, q⟩ := hs; exact q.elim
  | cont => obtain ⟨_, _, _, q⟩ := hs; exact q.elim
end
/-- where the table's def stands -/
structure FnAt (P : Program) (w : World) (K : PySem.W.Frag) (mg : Str → Option Value) (base : Heap) (k : Nat) (E : FnE) : Prop where
  at_ : ∃ (fa : Addr) (fd : FuncData) (ps : List Str) (dvs : List V) (dus : List Value), FnG P w K mg base k fa fd ps (spD K E.f) ∧ mg E.name = some (.ref fa) ∧ PySem.W.keepIn K (.ref fa) = true ∧
    Vals dvs dus ∧ (∀ H, Dqs K H dvs E.dfs) ∧ ps.length = E.ar.length ∧
    ∀ (s : Shared) (us ws : List Value), K.In s.heap → us.length = E.np → ws.length = E.kws.length → BindsTo s fd ⟨us, E.kws.zip ws⟩ (ps.zip (arr .none E.ar dus (us ++ ws)))
theorem FnAt.up {P : Program} {w : World} {K : PySem.W.Frag} {mg : Str → Option Value} {base : Heap} {j k : Nat} {E : FnE} (F : FnAt P w K mg base j E) (h : j ≤ k) : FnAt P w K mg base k E := by
  obtain ⟨fa, fd, ps, dvs, dus, a, b⟩ := F.at_
  exact ⟨fa, fd, ps, dvs, dus, a.up h, b⟩
theorem vals_getD : ∀ {vs : List V} {us : List Value}, Vals vs us → ∀ i : Nat, L2.RelV (vs.getD i .non) (us.getD i .none)
  | _, _, .nil, _ => by simp; rfl
  | _, _, .cons r _, 0 => by simpa using r
  | _, _, .cons _ t, i + 1 => by simpa using vals_getD t i
theorem vals_arr {vs dvs : List V} {us dus : List Value} (h : Vals vs us) (d : Vals dvs dus) : ∀ ar : List (Sum Nat Nat), Vals (arr .non ar dvs vs) (arr .none ar dus us)
  | [] => .nil
  | .inl i :: r => .cons (vals_getD h i) (vals_arr h d r)
  | .inr i :: r => .cons (vals_getD d i) (vals_arr h d r)
theorem dps_getD {K : PySem.W.Frag} {H : Hp} : ∀ {vs : List V} {ds : List D}, Dqs K H vs ds → ∀ i : Nat, Dq K H (vs.getD i .non) (ds.getD i .none)
  | _, _, .nil, _ => by simp; exact .non
  | _, _, .cons r _, 0 => by simpa using r
  | _, _, .cons _ t, i + 1 => by simpa using dps_getD t i
theorem dps_arr {K : PySem.W.Frag} {H : Hp} {vs dvs : List V} {ds dds : List D} (h : Dqs K H vs ds) (d : Dqs K H dvs dds) : ∀ ar : List (Sum Nat Nat), Dqs K H (arr .non ar dvs vs) (arr .none ar dds ds)
  | [] => .nil
  | .inl i :: r => .cons (dps_getD h i) (dps_arr h d r)
  | .inr i :: r => .cons (dps_getD d i) (dps_arr h d r)
/-! ### lists of expressions without a star -/
def unstar : Expr → Bool
  | .Starred _ _ => false
  | _ => true
theorem star_cons {e : Expr} {es : List Expr} {env : Env} (h : unstar e = true) : starEach (e :: es) env = (false, eval e env) :: starEach es env := by
  cases e <;> first | rfl | (exact absurd h (by simp [unstar]))
theorem star_plain {pos : Pos} {env : Env} : ∀ {es : List Expr}, es.all unstar = true → (backTo pos (starEach es env)).any (·.1) = false
  | [], _ => rfl
  | e :: es, h => by
    simp only [List.all_cons, Bool.and_eq_true] at h
    rw [star_cons h.1]
    show (false || (backTo pos (starEach es env)).any (·.1)) = false
    rw [star_plain h.2]; rfl
theorem kw_some {pos : Pos} {env : Env} : ∀ {kws : List Keyword} {ks : List Str}, kws.map (·.arg) = ks.map some →
    (backToKw pos (keywordEach kws env)).all (·.1.isSome) = true ∧ (backToKw pos (keywordEach kws env)).filterMap (·.1) = ks ∧ (backToKw pos (keywordEach kws env)).any (·.1.isNone) = false
  | [], [], _ => ⟨rfl, rfl, rfl⟩
  | [], _ :: _, h => by simp at h
  | _ :: _, [], h => by simp at h
  | ⟨nm, v, p⟩ :: kws, k :: ks, h => by
    simp only [List.map_cons, List.cons.injEq] at h
    obtain ⟨h1, h2⟩ := h
    obtain ⟨a, b, c⟩ := kw_some (pos := pos) (env := env) h2
    have h1' : nm = some k := h1
    subst h1'
    refine ⟨?_, ?_, ?_⟩
    · show (true && (backToKw pos (keywordEach kws env)).all (·.1.isSome)) = true
      rw [a]; rfl
    · show k :: (backToKw pos (keywordEach kws env)).filterMap (·.1) = k :: ks
      rw [b]
    · show (false || (backToKw pos (keywordEach kws env)).any (·.1.isNone)) = false
      rw [c]; rfl
section
variable {X : Cx} {k : Nat} {E : FnE} {es : List Expr} {kws : List Keyword} {p pos : Pos} {ta tk : TA}
theorem pe_callE (C : FnAt X.prog X.w X.K X.mg X.base k E) (hr : Room (k + 40) X.A) (hgd : X.A.guards = some []) (hg : Gl X E.name) (hdb : (E.name == ("__debug__" : Str)) = false)
    (hn : es.length = E.np) (hk : kws.map (·.arg) = E.kws.map some) (hu : es.all unstar = true) (hne : es ≠ []) (ha : PA X es ta) (hkw : PK X kws tk) :
    PE X (.Call (.Name E.name p) es kws pos) (fun σ H Q => ∀ dvs : List V, (∀ H, Dqs X.K H dvs E.dfs) →
      ta σ H fun vs H1 => tk σ H1 fun zs H2 => vs.length = E.np ∧ zs.length = E.kws.length ∧ spD X.K E.f (arr .non E.ar dvs (vs ++ zs)) H2 Q E0) := by
  obtain ⟨fa, fd, ps, dvs, dus, F, hm, hkp, hdv, hdf, hps, hbind⟩ := C.at_
  obtain ⟨k1, k2, k3⟩ := kw_some (pos := pos) (env := X.env) hk
  refine ⟨fun pins s σ H Q I h => ?_⟩
  have h := h dvs hdf
  refine wpAny_Call_Name_kw (ld_glob I hg hm ?_ hdb)
  have fin : ∀ (us ws : List Value) (vs zs : List V) (s2 : Shared) (H2 : Hp), Inv X pins σ H2 s2 → Vals vs us → Vals zs ws → vs.length = E.np → zs.length = E.kws.length →
      spD X.K E.f (arr .non E.ar dvs (vs ++ zs)) H2 Q E0 → wpAny (model X.prog X.w) X.A (call (.ref fa) us (E.kws.zip ws)) (EP X pins σ Q) X.xe s2 := by
    intro us ws vs zs s2 H2 I2 r1 r2 l1 l2 q
    refine wpAny_call (codeAny_mono (F.go X.A X.stack s2 H2 ⟨us, E.kws.zip ws⟩ _ _ Q hr hgd I2.env0 (hbind s2 us ws I2.kIn (r1.length ▸ l1) (r2.length ▸ l2)) (vals_arr (r1.append r2) hdv E.ar) (by rw [hps]; simp [arr]) q) fun r s3 hq => ?_)
    cases r with
    | error e => exact (show False from hq).elim
    | ok fl =>
      cases fl with
      | ret u => exact I2.after hq
      | next => exact False.elim hq
      | brk => exact False.elim hq
      | cont => exact False.elim hq
  cases es with
  | nil => exact absurd rfl hne
  | cons e es =>
    simp only [List.all_cons, Bool.and_eq_true] at hu
    refine PySem.W.callWith_KW (h₀ := X.base) I.ok.mod.kin hkp k1 (thn (ha.run pos pins s σ H _ I h) fun us s1 ⟨vs, H1, I1, r1, q1⟩ => ?_) (by rw [star_plain (es := e :: es) (by simp [hu.1, hu.2]), k3]; rfl) (star_cons hu.1)
    refine thn (hkw.run pos pins s1 σ H1 _ I1 q1) fun ws s2 ⟨zs, H2, I2, r2, l1, l2, q2⟩ => ⟨I2.kIn, ?_⟩
    rw [k2]
    exact fin us ws vs zs s2 H2 I2 r1 r2 l1 l2 q2
theorem pe_callE0 (C : FnAt X.prog X.w X.K X.mg X.base k E) (hr : Room (k + 40) X.A) (hgd : X.A.guards = some []) (hg : Gl X E.name) (hdb : (E.name == ("__debug__" : Str)) = false)
    (hn : 0 = E.np) (hk : kws.map (·.arg) = E.kws.map some) (hkw : PK X kws tk) :
    PE X (.Call (.Name E.name p) [] kws pos) (fun σ H Q => ∀ dvs : List V, (∀ H, Dqs X.K H dvs E.dfs) →
      tk σ H fun zs H2 => zs.length = E.kws.length ∧ spD X.K E.f (arr .non E.ar dvs zs) H2 Q E0) := by
  obtain ⟨fa, fd, ps, dvs, dus, F, hm, hkp, hdv, hdf, hps, hbind⟩ := C.at_
  obtain ⟨k1, k2, k3⟩ := kw_some (pos := pos) (env := X.env) hk
  refine ⟨fun pins s σ H Q I h => ?_⟩
  have h := h dvs hdf
  refine wpAny_Call_Name_kw (ld_glob I hg hm ?_ hdb)
  refine PySem.W.callWith_KW0 (h₀ := X.base) I.ok.mod.kin hkp k1 ?_ (by rw [k3]; rfl)
  refine thn (hkw.run pos pins s σ H _ I h) fun ws s2 ⟨zs, H2, I2, r2, l2, q⟩ => ⟨I2.kIn, ?_⟩
  rw [k2]
  refine wpAny_call (codeAny_mono (F.go X.A X.stack s2 H2 ⟨[], E.kws.zip ws⟩ _ _ Q hr hgd I2.env0 (hbind s2 [] ws I2.kIn hn (r2.length ▸ l2)) (vals_arr (.append .nil r2) hdv E.ar) (by rw [hps]; simp [arr]) q) fun r s3 hq => ?_)
  cases r with
  | error e => exact (show False from hq).elim
  | ok fl =>
    cases fl with
    | ret u => exact I2.after hq
    | next => exact False.elim hq
    | brk => exact False.elim hq
    | cont => exact False.elim hq
end
end EvL

set_option Elab.async false
set_option linter.all false
set_option maxRecDepth 100000
set_option maxHeartbeats 4000000
namespace EvL
open PySem PySem.Spec PyProof.Rows L2

theorem lim_le : lim ≤ sizeLine := by decide
theorem mulOk_ok {i j : Int} (h : mulOk i j = true) : IntMulOk i j := by
  have b : ∀ x : Int, Builtin.Int.intBits x ≤ x.natAbs.log2 + 1 := fun x => by
    unfold Builtin.Int.intBits; split <;> omega
  have h1 := b i
  have h2 := b j
  have h3 : i.natAbs.log2 + j.natAbs.log2 < 60000000 := of_decide_eq_true h
  have e : bitsLine = 134217728 := by decide
  intro z
  have z3 : Builtin.Int.intTooBig _ = true := (Bool.and_eq_true_iff.mp z).2
  unfold Builtin.Int.intTooBig at z3
  have z4 := of_decide_eq_true z3
  rw [e] at z4
  omega
/-- a two-place operation by data -/
def rB (K : PySem.W.Frag) (f : D → D → Option RV) : R2 := fun x y H Q => ∃ (Hf : Hp) (a b : D) (r : RV), Ext Hf H ∧ Dq K Hf x a ∧ Dq K Hf y b ∧ f a b = some r ∧ Post K Hf H r Q
section
variable {X : Cx} {pins : List (Addr × Obj)} {σ : L2.St} {H : Hp} {s : Shared}
theorem rd_list (I : Inv X pins σ H s) {a : Addr} {xs : List V} (h : Rd H a (.lst xs)) : ∃ (its : List Value) (n : Nat), Vals xs its ∧ xs.length = its.length ∧ xs.length ≤ sizeLine ∧ s.heap.get? a = some { cls := .type "list", data := .seq its.toArray n } := by
  obtain ⟨z, its, n, r, e⟩ := h.ok I.hok
  exact ⟨its, n, r, r.length, z, e⟩
theorem op_catR : OpR X (binaryOp .Add) (fun x y H Q => ∃ l b xs zs, x = .ref l ∧ y = .ref b ∧ Rd H l (.lst xs) ∧ Rd H b (.lst zs) ∧ xs.length + zs.length ≤ sizeLine ∧ ∀ p, H p = none → Q (.ref p) (upd H p (.lst (xs ++ zs)))) := by
  rintro pins s σ H x y v u Q I rx ry ⟨l, b, xs, zs, rfl, rfl, hl, hb, hz, q⟩
  cases rx; cases ry
  obtain ⟨i1, n1, r1, l1, _, e1⟩ := rd_list I hl
  obtain ⟨i2, n2, r2, l2, _, e2⟩ := rd_list I hb
  refine PySem.P.add_list e1 e2 ?_ (by simp only [List.size_toArray]; omega)
  rw [show i1.toArray ++ i2.toArray = (i1 ++ i2).toArray by simp]
  exact ⟨.ref _, _, I.lnew (t' := s.toks) (r1.append r2) (by simp only [List.length_append]; omega), rfl, q _ I.fresh⟩
theorem nn {r : RV} {P : Prop} (e : (none : Option RV) = some r) : P := nomatch e
theorem ifS {c : Prop} [Decidable c] {a r : RV} (e : (if c then some a else none) = some r) : c ∧ a = r := by
  split at e
  · cases e; exact ⟨by assumption, rfl⟩
  · cases e
theorem op_addD : OpR X (binaryOp .Add) (rB X.K (binD .add)) := by
  rintro pins s σ H x y v u Q I rx ry ⟨Hf, a, b, r, sub, ha, hb, e, p⟩
  cases ha with
  | int i => cases hb with
    | int j => cases e; exact op_add pins s σ H _ _ v u Q I rx ry ⟨_, _, rfl, rfl, p.val sub (.int _)⟩
    | _ => exact nn e
  | lst h1 q1 => cases hb with
    | lst h2 q2 =>
      obtain ⟨hl, rfl⟩ := ifS e
      refine op_catR pins s σ H _ _ v u Q I rx ry ⟨_, _, _, _, rfl, rfl, sub.rd h1, sub.rd h2, ?_, p.lst sub (dps_app q1 q2)⟩
      rw [dps_len q1, dps_len q2]; exact Nat.le_trans hl lim_le
    | _ => exact nn e
  | tup h1 q1 => cases hb with
    | tup h2 q2 =>
      obtain ⟨hl, rfl⟩ := ifS e
      refine op_catA pins s σ H _ _ v u Q I rx ry ⟨_, _, _, _, rfl, rfl, sub.st h1, sub.st h2, ?_, fun z => ?_, fun _ z => ?_, fun _ _ => p.tup sub (dps_app q1 q2)⟩
      · rw [dps_len q1, dps_len q2]; exact Nat.le_trans hl lim_le
      · subst z; cases q1; exact p.val sub (.tup h2 q2)
      · subst z; cases q2; rw [List.append_nil] at p; exact p.val sub (.tup h1 q1)
    | _ => exact nn e
  | str a => cases hb with
    | str b =>
      obtain ⟨hl, rfl⟩ := ifS e
      exact op_add_str pins s σ H _ _ v u Q I rx ry ⟨_, _, rfl, rfl, Nat.le_trans hl lim_le, p.val sub (.str _)⟩
    | _ => exact nn e
  | _ => exact nn e
theorem op_modD : OpR X (binaryOp .Mod) (rB X.K (binD .mod)) := by
  rintro pins s σ H x y v u Q I rx ry ⟨Hf, a, b, r, sub, ha, hb, e, p⟩
  cases ha with
  | int i => cases hb with
    | int j =>
      obtain ⟨hj, rfl⟩ := ifS e
      exact op_modN pins s σ H _ _ v u Q I rx ry ⟨_, _, rfl, rfl, hj, p.val sub (.int _)⟩
    | _ => exact nn e
  | _ => exact nn e
/-- room for a long division -/
def Pyl (X : Cx) : Prop := X.base.NoSeer ∧ ∀ s : Shared, s.heap.NoLimit → s.heap.NoSeer → PylongRoom (model X.prog X.w) X.A s
theorem op_fdivD (hp : Pyl X) : OpR X (binaryOp .FloorDiv) (rB X.K (binD .fdiv)) := by
  rintro pins s σ H x y v u Q I rx ry ⟨Hf, a, b, r, sub, ha, hb, e, p⟩
  cases ha with
  | int i => cases hb with
    | int j =>
      obtain ⟨hj, rfl⟩ := ifS e
      obtain ⟨t, rfl⟩ := rx
      obtain ⟨t', rfl⟩ := ry
      have hj : j ≠ 0 := of_decide_eq_true hj
      exact floordiv_int hj ⟨.int _, H, I.tok _, ⟨_, rfl⟩, p.val sub (.int _)⟩ (.inr (hp.2 s I.nolimit (hp.1.keeps I.bk)))
    | _ => exact nn e
  | _ => exact nn e
theorem op_powD : OpR X (binaryOp .Pow) (rB X.K (binD .pow)) := by
  rintro pins s σ H x y v u Q I rx ry ⟨Hf, a, b, r, sub, ha, hb, e, p⟩
  cases ha with
  | int i => cases hb with
    | int j =>
      obtain ⟨hj, rfl⟩ := ifS e
      exact op_pow pins s σ H _ _ v u Q I rx ry ⟨_, _, rfl, rfl, ⟨hj.1, by omega, hj.2.2⟩, p.val sub (.int _)⟩
    | _ => exact nn e
  | _ => exact nn e
theorem op_subD : OpR X (binaryOp .Sub) (rB X.K (binD .sub)) := by
  rintro pins s σ H x y v u Q I rx ry ⟨Hf, a, b, r, sub, ha, hb, e, p⟩
  cases ha with
  | int i => cases hb with
    | int j => cases e; exact op_sub pins s σ H _ _ v u Q I rx ry ⟨_, _, rfl, rfl, p.val sub (.int _)⟩
    | _ => exact nn e
  | bl i => cases hb with
    | bl j =>
      cases e
      cases rx; cases ry
      exact sub_bool ⟨.int _, H, I.tok _, ⟨_, rfl⟩, p.val sub (.int _)⟩
    | _ => exact nn e
  | _ => exact nn e
theorem rep_nil {α : Type} (n : Nat) : (List.replicate n ([] : List α)).flatten = [] := by
  induction n with
  | zero => rfl
  | succ n ih => rw [List.replicate_succ, List.flatten_cons, ih]; rfl
theorem rep_one {α : Type} (xs : List α) : (List.replicate (1 : Int).toNat xs).flatten = xs := by simp
theorem tuple_mul_self (l : Addr) (items : Array Value) (n : Nat) (dd : Option Addr) (sl : Array (Option Value)) (x : Int) (u : Tok) (c0 : (decide (x < -(2 ^ 63)) || decide (x ≥ 2 ^ 63)) = false) (c1 : (items.isEmpty || x == 1) = true) :
    Meets (Builtin.«tuple.__mul__» ⟨[.ref l, .int x u], []⟩) (fun _ R s => s.heap.get? l = some { cls := .type "tuple", dict := dd, data := .seq items n, slots := sl } ∧ R (.ok (.ret (Value.ref l))) s) :=
  .of_wp fun prog w A R s h => by
    obtain ⟨hp, g, d, tk, os⟩ := s
    obtain ⟨hl, h⟩ := h
    have f1 := AutoSeq1.idx_int
    wp_walk using wpAny_loadPart' hl
    repeat (first
      | (refine wpAny_ite_false (decide_eq_false (by rw [c0]; exact Bool.false_ne_true)) ?_; wp_walk using wpAny_loadPart' hl)
      | (refine wpAny_ite_true (decide_eq_true c1) ?_; wp_walk using wpAny_loadPart' hl))
    exact ⟨_, rfl, h⟩
theorem tuple_mul_none (l : Addr) (items : Array Value) (n : Nat) (dd : Option Addr) (sl : Array (Option Value)) (x : Int) (u : Tok) (c0 : (decide (x < -(2 ^ 63)) || decide (x ≥ 2 ^ 63)) = false) (c1 : (items.isEmpty || x == 1) = false)
    (c2 : (decide (x ≤ 0) || items.isEmpty) = true) :
    Meets (Builtin.«tuple.__mul__» ⟨[.ref l, .int x u], []⟩) (fun _ R s => s.heap.get? l = some { cls := .type "tuple", dict := dd, data := .seq items n, slots := sl } ∧
      R (.ok (.ret (Value.ref s.heap.objs.size))) { s with heap := s.heap.push { cls := Value.type "tuple", data := Data.seq #[] }, toks := s.toks }) :=
  .of_wp fun prog w A R s h => by
    obtain ⟨hp, g, d, tk, os⟩ := s
    obtain ⟨hl, h⟩ := h
    have f1 := AutoSeq1.idx_int
    wp_walk using wpAny_loadPart' hl
    repeat (first
      | (refine wpAny_ite_false (decide_eq_false (by rw [c0]; exact Bool.false_ne_true)) ?_; wp_walk using wpAny_loadPart' hl)
      | (refine wpAny_ite_false (decide_eq_false (by rw [c1]; exact Bool.false_ne_true)) ?_; wp_walk using wpAny_loadPart' hl)
      | (refine wpAny_ite_true (decide_eq_true c2) ?_; wp_walk using wpAny_loadPart' hl))
    exact ⟨_, rfl, h⟩
theorem op_repTA : OpR X (binaryOp .Mult) (fun x y H Q => ∃ l k xs, x = .ref l ∧ y = .int k ∧ SqT X.K H l xs ∧ -1000 ≤ k ∧ k ≤ 1000 ∧ xs.length ≤ 1000 ∧ (xs = [] ∨ k = 1 → Q (.ref l) H) ∧
    (xs ≠ [] → k ≠ 1 → ∀ p, H p = none → Q (.ref p) (upd H p (.tup (List.replicate k.toNat xs).flatten)))) := by
  rintro pins s σ H x y v u Q I rx ry ⟨l, k, xs, rfl, rfl, hT, h1, h2, hz, q1, q2⟩
  by_cases hs : xs = [] ∨ k = 1
  · cases rx
    obtain ⟨t, rfl⟩ := ry
    obtain ⟨its, r, ⟨⟨cls, dd, data, sl⟩, ho, hc, n, hd⟩, _⟩ := I.tuple hT
    simp only at hc hd
    subst hc hd
    have c1 : (its.toArray.isEmpty || k == 1) = true := by
      rcases hs with z | z
      · subst z; cases r; rfl
      · subst z; simp
    have c0 : (decide (k < -(2 ^ 63)) || decide (k ≥ 2 ^ 63)) = false := by
      rw [decide_eq_false (by omega), decide_eq_false (by omega)]; rfl
    exact wpAny_binaryOp_repeat_ref (T := "tuple") (U := "int") (by decide) ⟨_, ho, rfl⟩ (fun s' => typeIs_int s' k t) noFill_tuple_mul F.fills_int_mul F.slot_int_rmul repeat_tuple F.slot_int_index.lookup
      (call_meets F.slot_int_rmul (typeIs_int s k t) F.entry_int_rmul (F.args_int_rmul_2 _ _) (int_rmul_tuple k t l its.toArray n dd sl)
        ⟨ho, rfl, ⟨_, ho, rfl⟩, call_meets F.slot_tuple_mul ⟨_, ho, rfl⟩ F.entry_tuple_mul (F.args_tuple_mul_2 _ _) (tuple_mul_self l its.toArray n dd sl k t c0 c1) ⟨ho, .ref l, H, I, rfl, q1 hs⟩⟩)
  · have hne : xs ≠ [] := fun z => hs (.inl z)
    have hk : k ≠ 1 := fun z => hs (.inr z)
    by_cases h0 : k ≤ 0
    · cases rx
      obtain ⟨t, rfl⟩ := ry
      obtain ⟨its, r, ⟨⟨cls, dd, data, sl⟩, ho, hc, n, hd⟩, _⟩ := I.tuple hT
      simp only at hc hd
      subst hc hd
      have hi : its.toArray.isEmpty = false := by
        cases its with
        | nil => cases r; exact absurd rfl hne
        | cons a b => rfl
      have c1 : (its.toArray.isEmpty || k == 1) = false := by rw [hi, Bool.false_or]; exact beq_eq_false_iff_ne.mpr hk
      have c2 : (decide (k ≤ 0) || its.toArray.isEmpty) = true := by rw [decide_eq_true h0]; rfl
      have c0 : (decide (k < -(2 ^ 63)) || decide (k ≥ 2 ^ 63)) = false := by
        rw [decide_eq_false (by omega), decide_eq_false (by omega)]; rfl
      refine wpAny_binaryOp_repeat_ref (T := "tuple") (U := "int") (by decide) ⟨_, ho, rfl⟩ (fun s' => typeIs_int s' k t) noFill_tuple_mul F.fills_int_mul F.slot_int_rmul repeat_tuple F.slot_int_index.lookup
        (call_meets F.slot_int_rmul (typeIs_int s k t) F.entry_int_rmul (F.args_int_rmul_2 _ _) (int_rmul_tuple k t l its.toArray n dd sl)
          ⟨ho, rfl, ⟨_, ho, rfl⟩, call_meets F.slot_tuple_mul ⟨_, ho, rfl⟩ F.entry_tuple_mul (F.args_tuple_mul_2 _ _) (tuple_mul_none l its.toArray n dd sl k t c0 c1 c2) ⟨ho, ?_⟩⟩)
      have e0 : (List.replicate k.toNat xs).flatten = [] := by rw [Int.toNat_of_nonpos h0]; rfl
      have q3 := q2 hne hk s.heap.objs.size (I.hok.fresh (Nat.le_refl _))
      rw [e0] at q3
      refine ⟨.ref s.heap.objs.size, _, I.laid (t' := s.toks) (o := .tup []) (fun b ob q => Heap.get?_push_of_some _ q) (Nat.le_refl _) ?_, rfl, q3⟩
      exact ⟨Nat.zero_le _, [], .nil, IsTup.new _ _⟩
    · exact op_repT pins s σ H _ _ v u Q I rx ry ⟨l, k, xs, rfl, rfl, hT, hne, by omega, h2, hz, q2 hne hk⟩
theorem op_repR : OpR X (binaryOp .Mult) (fun x y H Q => ∃ l k xs, x = .ref l ∧ y = .int k ∧ Rd H l (.lst xs) ∧ -100000 ≤ k ∧ k ≤ 100000 ∧ xs.length * k.toNat ≤ sizeLine ∧
    ∀ p, H p = none → Q (.ref p) (upd H p (.lst (List.replicate k.toNat xs).flatten))) := by
  rintro pins s σ H x y v u Q I rx ry ⟨l, k, xs, rfl, rfl, hR, h1, h2, hz, q⟩
  cases rx
  obtain ⟨t, rfl⟩ := ry
  obtain ⟨its, n, r, hl, _, e⟩ := rd_list I hR
  have a1 : its.toArray.size * k.toNat ≤ sizeLine := by rw [List.size_toArray, ← hl]; exact hz
  have a2 : ¬ its.toArray.size * k.toNat > (2 ^ 63 - 1) / 8 := fun z => by
    have : (sizeLine : Nat) ≤ (2 ^ 63 - 1) / 8 := by decide
    omega
  have a3 : ¬ (!Builtin.List.listFitsIndex k) = true := by rw [fitsIndex_both (by omega) (by omega)]; exact Bool.false_ne_true
  have a4 : ¬ Builtin.List.listTooLong (its.toArray.size * k.toNat) = true := by rw [notLongL a1]; exact Bool.false_ne_true
  have a5 : List.foldl (fun x1 x2 => x1 ++ x2) #[] (List.replicate (if its.toArray.isEmpty = true then 0 else k.toNat) its.toArray) = (List.replicate k.toNat its).flatten.toArray := by
    rw [size_rep]
    cases its with
    | nil => simp
    | cons a b => rw [if_neg (by simp)]
  refine wpAny_binaryOp_repeat_ref (T := "list") (U := "int") (by decide) ⟨_, e, rfl⟩ (fun s' => typeIs_int s' k t) noFill_list_mul F.fills_int_mul F.slot_int_rmul repeat_list F.slot_int_index.lookup
    (call_meets F.slot_int_rmul (typeIs_int s k t) F.entry_int_rmul (F.args_int_rmul_2 _ _) (int___rmul___int_list k t l its.toArray n)
      ⟨e, rfl, ⟨_, e, rfl⟩, call_meets F.slot_list_mul ⟨_, e, rfl⟩ F.entry_list_mul (F.args_list_mul_2 _ _) (AutoListH.list___mul___list_int_3 l its.toArray n k t a3 a2 a4) ⟨e, ?_⟩⟩)
  rw [a5]
  exact ⟨.ref _, _, I.lnew (t' := s.toks) (r.rep k.toNat) (by rw [PyProof.Rows.lm_len_rep_flat, Nat.mul_comm]; exact hz), rfl, q _ I.fresh⟩
theorem op_mulD : OpR X (binaryOp .Mult) (rB X.K (binD .mul)) := by
  rintro pins s σ H x y v u Q I rx ry ⟨Hf, a, b, r, sub, ha, hb, e, p⟩
  cases ha with
  | int i => cases hb with
    | int j =>
      obtain ⟨hj, rfl⟩ := ifS e
      obtain ⟨t, rfl⟩ := rx
      obtain ⟨t', rfl⟩ := ry
      exact mul_int ⟨.int _, H, I.tok _, ⟨_, rfl⟩, p.val sub (.int _)⟩ (mulOk_ok hj)
    | _ => exact nn e
  | lst h1 q1 => cases hb with
    | int k =>
      obtain ⟨⟨c1, c2, c3⟩, rfl⟩ := ifS e
      rw [← dps_len q1] at c3
      exact op_repR pins s σ H _ _ v u Q I rx ry ⟨_, _, _, rfl, rfl, sub.rd h1, by omega, by omega, Nat.le_trans c3 lim_le, p.lst sub (dps_rep q1 _)⟩
    | _ => exact nn e
  | tup h1 q1 => cases hb with
    | int k =>
      obtain ⟨⟨c1, c2, c3⟩, rfl⟩ := ifS e
      rw [← dps_len q1] at c3
      exact op_repTA pins s σ H _ _ v u Q I rx ry ⟨_, _, _, rfl, rfl, sub.st h1, by omega, by omega, c3, fun z => by
        rcases z with z | z
        · subst z; cases q1; rw [rep_nil] at p; exact p.val sub (.tup h1 .nil)
        · subst z; rw [rep_one] at p; exact p.val sub (.tup h1 q1), fun _ _ => p.tup sub (dps_rep q1 _)⟩
    | _ => exact nn e
  | _ => exact nn e
end
end EvL

set_option Elab.async false
set_option linter.all false
set_option maxRecDepth 100000
set_option maxHeartbeats 4000000
namespace EvL
open PySem PySem.Spec PyProof.Rows L2

/-! ### comparisons, truth, places, slices, built-ins by data -/
def rC (K : PySem.W.Frag) (f : D → D → Option Bool) : R2 := fun x y H Q => ∃ (Hf : Hp) (a b : D) (r : Bool), Ext Hf H ∧ Dq K Hf x a ∧ Dq K Hf y b ∧ f a b = some r ∧ Q (.bl r) H
theorem nb {r : Bool} {P : Prop} (e : (none : Option Bool) = some r) : P := nomatch e
theorem nd {r : D} {P : Prop} (e : (none : Option D) = some r) : P := nomatch e
theorem ifB {c : Prop} [Decidable c] {a r : Bool} (e : (if c then some a else none) = some r) : c ∧ a = r := by
  split at e
  · cases e; exact ⟨by assumption, rfl⟩
  · cases e
section
variable {X : Cx}
theorem eqD_cases {x y : D} {r : Bool} (e : eqD x y = some r) : (∃ a b, x = .str a ∧ y = .str b ∧ r = decide (a = b)) ∨ (SeqAt.shaped x = true ∧ SeqAt.shaped y = true ∧ r = PyData.eqv x y) := by
  unfold eqD at e
  split at e
  · cases e; exact .inl ⟨_, _, rfl, rfl, rfl⟩
  · obtain ⟨hc, rfl⟩ := ifB e
    obtain ⟨h1, h2⟩ := Bool.and_eq_true_iff.mp hc
    exact .inr ⟨h1, h2, rfl⟩
theorem op_eqC (hu : X.A.units + 65 < cLine) : OpR X (compareOp .Eq) (rC X.K (cmpD .eq)) := by
  rintro pins s σ H x y v u Q I rx ry ⟨Hf, a, b, r, sub, ha, hb, e, q⟩
  rcases eqD_cases e with ⟨c, d, rfl, rfl, rfl⟩ | ⟨h1, h2, rfl⟩
  · cases ha; cases hb
    exact op_eq pins s σ H _ _ v u Q I rx ry ⟨rfl, by simpa using q⟩
  · exact op_eqD (by omega) pins s σ H x y v u Q I rx ry ⟨a, b, (dpM sub ha).dp, (dpM sub hb).dp, h1, h2, q⟩
theorem op_neC (hu : X.A.units + 65 < cLine) : OpR X (compareOp .NotEq) (rC X.K (cmpD .ne)) := by
  rintro pins s σ H x y v u Q I rx ry ⟨Hf, a, b, r, sub, ha, hb, e, q⟩
  have e : (eqD a b).map (fun b => !b) = some r := e
  cases e0 : eqD a b with
  | none => rw [e0] at e; cases e
  | some r0 =>
    rw [e0] at e
    cases e
    rcases eqD_cases e0 with ⟨c, d, rfl, rfl, rfl⟩ | ⟨h1, h2, rfl⟩
    · cases ha; cases hb
      exact op_ne pins s σ H _ _ v u Q I rx ry ⟨rfl, by simpa using q⟩
    · exact op_neD (by omega) pins s σ H x y v u Q I rx ry ⟨a, b, (dpM sub ha).dp, (dpM sub hb).dp, h1, h2, q⟩
theorem op_ltC : OpR X (compareOp .Lt) (rC X.K (cmpD .lt)) := by
  rintro pins s σ H x y v u Q I rx ry ⟨Hf, a, b, r, sub, ha, hb, e, q⟩
  cases ha with
  | int i => cases hb with
    | int j => cases e; exact op_lt pins s σ H _ _ v u Q I rx ry ⟨_, _, rfl, rfl, q⟩
    | _ => exact nb e
  | _ => exact nb e
theorem op_leC : OpR X (compareOp .LtE) (rC X.K (cmpD .le)) := by
  rintro pins s σ H x y v u Q I rx ry ⟨Hf, a, b, r, sub, ha, hb, e, q⟩
  cases ha with
  | int i => cases hb with
    | int j => cases e; exact op_le pins s σ H _ _ v u Q I rx ry ⟨_, _, rfl, rfl, q⟩
    | _ => exact nb e
  | _ => exact nb e
theorem op_gtC : OpR X (compareOp .Gt) (rC X.K (cmpD .gt)) := by
  rintro pins s σ H x y v u Q I rx ry ⟨Hf, a, b, r, sub, ha, hb, e, q⟩
  cases ha with
  | int i => cases hb with
    | int j => cases e; exact op_gt pins s σ H _ _ v u Q I rx ry ⟨_, _, rfl, rfl, q⟩
    | _ => exact nb e
  | _ => exact nb e
theorem op_geC : OpR X (compareOp .GtE) (rC X.K (cmpD .ge)) := by
  rintro pins s σ H x y v u Q I rx ry ⟨Hf, a, b, r, sub, ha, hb, e, q⟩
  cases ha with
  | int i => cases hb with
    | int j => cases e; exact op_ge pins s σ H _ _ v u Q I rx ry ⟨_, _, rfl, rfl, q⟩
    | _ => exact nb e
  | _ => exact nb e
theorem op_isC : OpR X (compareOp .Is) (rC X.K (cmpD .is)) := by
  rintro pins s σ H x y v u Q I rx ry ⟨Hf, a, b, r, sub, ha, hb, e, q⟩
  cases hb with
  | non =>
    cases ha <;> (cases e; exact op_isN pins s σ H _ _ v u Q I rx ry ⟨rfl, q⟩)
  | bl b => cases ha with
    | bl a => cases e; exact op_isBl pins s σ H _ _ v u Q I rx ry ⟨_, _, rfl, rfl, q⟩
    | _ => exact nb e
  | _ => cases ha <;> exact nb e
theorem op_isnC : OpR X (compareOp .IsNot) (rC X.K (cmpD .isn)) := by
  rintro pins s σ H x y v u Q I rx ry ⟨Hf, a, b, r, sub, ha, hb, e, q⟩
  cases hb with
  | non =>
    cases ha <;> (cases e; exact op_notN pins s σ H _ _ v u Q I rx ry ⟨rfl, q⟩)
  | bl b => cases ha with
    | bl a => cases e; exact op_notBl pins s σ H _ _ v u Q I rx ry ⟨_, _, rfl, rfl, q⟩
    | _ => exact nb e
  | _ => cases ha <;> exact nb e
theorem room_in {A : Around} {d : PyData} {n : Nat} (sd : SeqAt.shaped d = true) (hu : A.units + 65 < cLine) : A.units + 1 + min n d.depth < cLine := by
  have h1 := SeqAt.depth_of_shaped sd
  have h2 := Nat.min_le_right n d.depth
  omega
theorem op_inC (hu : X.A.units + 65 < cLine) : OpR X (compareOp .In) (rC X.K (cmpD .in_)) := by
  rintro pins s σ H x y v u Q I rx ry ⟨Hf, a, b, r, sub, ha, hb, e, q⟩
  obtain ⟨as, r1⟩ := Dp.reads I a x v (dpM sub ha).dp rx
  obtain ⟨bs, r2⟩ := Dp.reads I b y u (dpM sub hb).dp ry
  cases hb with
  | lst h1 q1 =>
    obtain ⟨hc, rfl⟩ := ifB e
    obtain ⟨h1, h2⟩ := Bool.and_eq_true_iff.mp hc
    exact SeqAt.in_list_reads r2 r1 (SeqAt.canLay_of_shaped h2) (SeqAt.canLay_of_shaped h1) (room_in h1 hu) ⟨.bl _, H, I, rfl, q⟩
  | tup h1 q1 =>
    obtain ⟨hc, rfl⟩ := ifB e
    obtain ⟨h1, h2⟩ := Bool.and_eq_true_iff.mp hc
    exact SeqAt.in_tuple_reads r2 r1 (SeqAt.canLay_of_shaped h2) (SeqAt.canLay_of_shaped h1) (room_in h1 hu) ⟨.bl _, H, I, rfl, q⟩
  | _ => exact nb e
theorem op_ninC (hu : X.A.units + 65 < cLine) : OpR X (compareOp .NotIn) (rC X.K (cmpD .nin)) := by
  rintro pins s σ H x y v u Q I rx ry ⟨Hf, a, b, r, sub, ha, hb, e, q⟩
  obtain ⟨as, r1⟩ := Dp.reads I a x v (dpM sub ha).dp rx
  obtain ⟨bs, r2⟩ := Dp.reads I b y u (dpM sub hb).dp ry
  cases hb with
  | lst h1 q1 =>
    obtain ⟨hc, rfl⟩ := ifB e
    obtain ⟨h1, h2⟩ := Bool.and_eq_true_iff.mp hc
    exact SeqAt.notIn_list_reads r2 r1 (SeqAt.canLay_of_shaped h2) (SeqAt.canLay_of_shaped h1) (room_in h1 hu) ⟨.bl _, H, I, rfl, q⟩
  | tup h1 q1 =>
    obtain ⟨hc, rfl⟩ := ifB e
    obtain ⟨h1, h2⟩ := Bool.and_eq_true_iff.mp hc
    exact SeqAt.notIn_tuple_reads r2 r1 (SeqAt.canLay_of_shaped h2) (SeqAt.canLay_of_shaped h1) (room_in h1 hu) ⟨.bl _, H, I, rfl, q⟩
  | _ => exact nb e
theorem isEmpty_dq {K : PySem.W.Frag} {H : Hp} {vs : List V} {ds : List D} (h : Dqs K H vs ds) : (!vs.isEmpty) = !ds.isEmpty := by
  cases h <;> rfl
theorem tr_V {K : PySem.W.Frag} {Hf H : Hp} {x : V} {d : D} {b : Bool} (sub : Ext Hf H) (h : Dq K Hf x d) (e : trD d = some b) : TruV K x H b := by
  cases h with
  | non => cases e; rfl
  | bl b => cases e; rfl
  | int i => cases e; rfl
  | str y => obtain ⟨hc, rfl⟩ := ifB e; exact ⟨Nat.le_trans hc lim_le, rfl⟩
  | lst h1 q1 => cases e; exact .inl ⟨_, .inl (sub.rd h1), (isEmpty_dq q1).symm⟩
  | tup h1 q1 => cases e; exact .inr (.inl ⟨_, sub.st h1, (isEmpty_dq q1).symm⟩)
theorem at_dq {K : PySem.W.Frag} {H : Hp} {vs : List V} {ds : List D} {i : Int} {d : D} (h : Dqs K H vs ds) (e : atI ds i = some d) : ∃ v, atI vs i = some v ∧ Dq K H v d := by
  unfold atI at e ⊢
  rw [dps_len h]
  cases hn : ixN ds.length i with
  | none => rw [hn] at e; cases e
  | some j =>
    rw [hn] at e
    exact dps_get h e
def rIxD (K : PySem.W.Frag) : R2 := fun x y H Q => ∃ (Hf : Hp) (a b r : D), Ext Hf H ∧ Dq K Hf x a ∧ Dq K Hf y b ∧ ixD a b = some r ∧ ∀ v, Dq K Hf v r → Q v H
theorem ix_D : IxR X (rIxD X.K) := by
  rintro value slice pins s σ H x y v u Q I rx ry ⟨Hf, a, b, r, sub, ha, hb, e, q⟩ hs
  cases ha with
  | lst h1 q1 => cases hb with
    | int i =>
      obtain ⟨z, e1, e2⟩ := at_dq q1 e
      exact ix_list value slice pins s σ H _ _ v u Q I rx ry ⟨_, _, _, z, rfl, rfl, .inl (sub.rd h1), e1, q z e2⟩ hs
    | _ => exact nd e
  | tup h1 q1 => cases hb with
    | int i =>
      obtain ⟨z, e1, e2⟩ := at_dq q1 e
      exact ix_tup value slice pins s σ H _ _ v u Q I rx ry ⟨_, _, _, z, rfl, rfl, sub.st h1, e1, q z e2⟩ hs
    | _ => exact nd e
  | _ => exact nd e
theorem cut_dq {K : PySem.W.Frag} {H : Hp} {vs : List V} {ds : List D} (h : Dqs K H vs ds) (lo hi : Option Int) : Dqs K H (cutV vs lo hi) (cutD ds lo hi) := by
  unfold cutV cutD
  rw [dps_len h]
  exact dps_take _ (dps_drop _ h)
def rSlD (K : PySem.W.Frag) : V → Option Int → Option Int → Hp → VK → Prop := fun x lo hi H Q => ∃ (Hf : Hp) (a : D), Ext Hf H ∧ Dq K Hf x a ∧
  ((∃ xs, a = .list xs ∧ Post K Hf H (.ow (cutD xs lo hi)) Q) ∨ ∃ xs, a = .tuple xs ∧ Post K Hf H (.fz (.tuple (cutD xs lo hi))) Q)
theorem sl_D : SlR X (rSlD X.K) := by
  rintro pins s σ H x v vl vu lo hi sl Q I rx hs pl pu ⟨Hf, a, sub, ha, h⟩
  rcases h with ⟨xs, rfl, p⟩ | ⟨xs, rfl, p⟩
  · cases ha with
    | lst h1 q1 => exact sl_list pins s σ H _ v vl vu lo hi sl Q I rx hs pl pu ⟨_, _, rfl, .inl (sub.rd h1), p.lst sub (cut_dq q1 lo hi)⟩
  · cases ha with
    | tup h1 q1 =>
      refine sl_tupA pins s σ H _ v vl vu lo hi sl Q I rx hs pl pu ⟨_, _, rfl, sub.st h1, fun z => ?_, fun _ => p.tup sub (cut_dq q1 lo hi)⟩
      rw [dps_len q1] at z
      have e0 : cutD xs lo hi = xs := by
        unfold cutD
        rw [z.1, z.2]; simp
      rw [e0] at p
      exact p.val sub (.tup h1 q1)
end
end EvL

set_option Elab.async false
set_option linter.all false
set_option maxRecDepth 100000
set_option maxHeartbeats 4000000
namespace EvL
open PySem PySem.Spec PyProof.Rows L2

def rK (K : PySem.W.Frag) (f : BF) : List V → Hp → VK → Prop := fun xs H Q => ∃ (Hf : Hp) (ds : List D) (r : RV), Ext Hf H ∧ Dqs K Hf xs ds ∧ biD f ds = some r ∧ Post K Hf H r Q
section
variable {X : Cx}
theorem ds1 {K : PySem.W.Frag} {H : Hp} {xs : List V} {d : D} (h : Dqs K H xs [d]) : ∃ x, xs = [x] ∧ Dq K H x d := by
  cases h with
  | cons h t => cases t; exact ⟨_, rfl, h⟩
theorem ds2 {K : PySem.W.Frag} {H : Hp} {xs : List V} {d e : D} (h : Dqs K H xs [d, e]) : ∃ x y, xs = [x, y] ∧ Dq K H x d ∧ Dq K H y e := by
  cases h with
  | cons h t =>
    obtain ⟨y, rfl, h2⟩ := ds1 t
    exact ⟨_, _, rfl, h, h2⟩
theorem biD1 {f : BF} {ds : List D} {r : RV} (hf : f ≠ .divmod ∧ f ≠ .max2 ∧ f ≠ .min2 ∧ f ≠ .gcd) (e : biD f ds = some r) : ∃ d, ds = [d] := by
  cases ds with
  | nil => cases f <;> exact nn e
  | cons d ds =>
    cases ds with
    | nil => exact ⟨d, rfl⟩
    | cons d2 ds =>
      cases f <;> first | exact absurd rfl hf.1 | exact absurd rfl hf.2.1 | exact absurd rfl hf.2.2.1 | exact absurd rfl hf.2.2.2 | (cases d <;> exact nn e)
theorem biD2 {f : BF} {ds : List D} {r : RV} (hf : f = .divmod ∨ f = .max2 ∨ f = .min2 ∨ f = .gcd) (e : biD f ds = some r) : ∃ i j, ds = [.int i, .int j] := by
  cases ds with
  | nil => rcases hf with rfl | rfl | rfl | rfl <;> exact nn e
  | cons d ds =>
    cases ds with
    | nil => rcases hf with rfl | rfl | rfl | rfl <;> (cases d <;> exact nn e)
    | cons d2 ds =>
      cases ds with
      | nil => cases d <;> cases d2 <;> first | exact ⟨_, _, rfl⟩ | (rcases hf with rfl | rfl | rfl | rfl <;> exact nn e)
      | cons d3 ds => rcases hf with rfl | rfl | rfl | rfl <;> (cases d <;> first | exact nn e | (cases d2 <;> exact nn e))
theorem k_len : CallR X (.builtin "len") (rK X.K .len) := by
  rintro pins s σ H xs us Q I rx ⟨Hf, ds, r, sub, h, e, p⟩
  obtain ⟨d, rfl⟩ := biD1 (by decide) e
  obtain ⟨x, rfl, hx⟩ := ds1 h
  cases hx with
  | lst h1 q1 => cases e; rw [← dps_len q1] at p; exact call_len_seq pins s σ H _ us Q I rx ⟨_, _, rfl, .inl (.inl (sub.rd h1)), p.val sub (.int _)⟩
  | tup h1 q1 => cases e; rw [← dps_len q1] at p; exact call_len_seq pins s σ H _ us Q I rx ⟨_, _, rfl, .inr (sub.st h1), p.val sub (.int _)⟩
  | _ => exact nn e
theorem k_abs : CallR X (.builtin "abs") (rK X.K .abs) := by
  rintro pins s σ H xs us Q I rx ⟨Hf, ds, r, sub, h, e, p⟩
  obtain ⟨d, rfl⟩ := biD1 (by decide) e
  obtain ⟨x, rfl, hx⟩ := ds1 h
  cases hx with
  | int i => cases e; exact call_abs pins s σ H _ us Q I rx ⟨_, rfl, p.val sub (.int _)⟩
  | _ => exact nn e
theorem k_int : CallR X (.type "int") (rK X.K .int) := by
  rintro pins s σ H xs us Q I rx ⟨Hf, ds, r, sub, h, e, p⟩
  obtain ⟨d, rfl⟩ := biD1 (by decide) e
  obtain ⟨x, rfl, hx⟩ := ds1 h
  cases hx with
  | int i => cases e; exact call_int1 pins s σ H _ us Q I rx (.inl ⟨_, rfl, p.val sub (.int _)⟩)
  | bl b => cases e; exact call_int1 pins s σ H _ us Q I rx (.inr ⟨_, rfl, p.val sub (.int _)⟩)
  | _ => exact nn e
theorem k_repr (hg : X.A.guards = some []) (hu : X.A.units + 65 < cLine) : CallR X (.builtin "repr") (rK X.K .repr) := by
  rintro pins s σ H xs us Q I rx ⟨Hf, ds, r, sub, h, e, p⟩
  obtain ⟨d, rfl⟩ := biD1 (by decide) e
  obtain ⟨x, rfl, hx⟩ := ds1 h
  obtain ⟨hc, rfl⟩ := ifS e
  simp only [reprOk, Bool.and_eq_true, decide_eq_true_eq, Bool.not_eq_true'] at hc
  obtain ⟨⟨⟨⟨c1, c2⟩, c3⟩, c4⟩, c5⟩ := hc
  cases hx with
  | non =>
    obtain ⟨u, rfl, rfl⟩ := vals1 rx
    exact PySem.P.repr_of_none ⟨.str _, H, I.tok _, ⟨_, rfl⟩, p.val sub (.str _)⟩
  | bl b =>
    obtain ⟨u, rfl, rfl⟩ := vals1 rx
    exact PySem.P.repr_of_bool ⟨.str _, H, I.tok _, ⟨_, by cases b <;> rfl⟩, p.val sub (.str _)⟩
  | int i =>
    obtain ⟨u, rfl, t, rfl⟩ := vals1 rx
    exact PySem.P.repr_of_int (by simpa [PyData.showable] using c2) ⟨.str _, H, I.tok _, ⟨_, rfl⟩, p.val sub (.str _)⟩
  | str i =>
    obtain ⟨u, rfl, t, rfl⟩ := vals1 rx
    exact PySem.P.repr_of_str ⟨.str _, H, I.tok _, ⟨_, rfl⟩, p.val sub (.str _)⟩ (by simpa [PyData.shown] using Nat.le_trans c5 (by decide))
  | lst h1 h2 =>
    have hx : Dq X.K Hf (.ref _) (.list _) := .lst h1 h2
    obtain ⟨u, rfl, ru⟩ := vals1 rx
    obtain ⟨as, rd⟩ := Dp.reads I _ _ u (dpM sub hx).dp ru
    obtain ⟨a, rfl⟩ := isRef_of_reads rd rfl
    refine repr_of_reads' rd c2 (fun z => by rw [c3] at z; cases z) hg (by omega) (fun _ _ q => q) (fun h' t tk hk => ?_) (Nat.le_trans c5 (by decide))
    exact ⟨.str _, H, I.kept (t' := tk) hk, ⟨_, rfl⟩, p.val sub (.str _)⟩
  | tup h1 h2 =>
    have hx : Dq X.K Hf (.ref _) (.tuple _) := .tup h1 h2
    obtain ⟨u, rfl, ru⟩ := vals1 rx
    obtain ⟨as, rd⟩ := Dp.reads I _ _ u (dpM sub hx).dp ru
    obtain ⟨a, rfl⟩ := isRef_of_reads rd rfl
    refine repr_of_reads' rd c2 (fun z => by rw [c3] at z; cases z) hg (by omega) (fun _ _ q => q) (fun h' t tk hk => ?_) (Nat.le_trans c5 (by decide))
    exact ⟨.str _, H, I.kept (t' := tk) hk, ⟨_, rfl⟩, p.val sub (.str _)⟩
theorem k_divmod : CallR X (.builtin "divmod") (rK X.K .divmod) := by
  rintro pins s σ H xs us Q I rx ⟨Hf, ds, r, sub, h, e, p⟩
  obtain ⟨i, j, rfl⟩ := biD2 (.inl rfl) e
  obtain ⟨x, y, rfl, hx, hy⟩ := ds2 h
  cases hx; cases hy
  obtain ⟨hc, rfl⟩ := ifS e
  exact call_divmod pins s σ H _ us Q I rx ⟨_, _, rfl, hc, p.tup sub (.cons (.int _) (.cons (.int _) .nil))⟩
theorem k_max (hc : X.calm = true) : CallR X (.builtin "max") (rK X.K .max2) := by
  rintro pins s σ H xs us Q I rx ⟨Hf, ds, r, sub, h, e, p⟩
  obtain ⟨i, j, rfl⟩ := biD2 (.inr (.inl rfl)) e
  obtain ⟨x, y, rfl, hx, hy⟩ := ds2 h
  cases hx; cases hy; cases e
  exact call_max2 hc pins s σ H _ us Q I rx ⟨_, _, rfl, p.val sub (.int _)⟩
theorem k_min (hc : X.calm = true) : CallR X (.builtin "min") (rK X.K .min2) := by
  rintro pins s σ H xs us Q I rx ⟨Hf, ds, r, sub, h, e, p⟩
  obtain ⟨i, j, rfl⟩ := biD2 (.inr (.inr (.inl rfl))) e
  obtain ⟨x, y, rfl, hx, hy⟩ := ds2 h
  cases hx; cases hy; cases e
  exact call_min2 hc pins s σ H _ us Q I rx ⟨_, _, rfl, p.val sub (.int _)⟩
theorem k_gcd : CallR X (.builtin "math.gcd") (rK X.K .gcd) := by
  rintro pins s σ H xs us Q I rx ⟨Hf, ds, r, sub, h, e, p⟩
  obtain ⟨i, j, rfl⟩ := biD2 (.inr (.inr (.inr rfl))) e
  obtain ⟨x, y, rfl, hx, hy⟩ := ds2 h
  cases hx; cases hy; cases e
  exact cr_gcd pins s σ H _ us Q I rx ⟨_, _, rfl, p.val sub (.int _)⟩
theorem k_tuple : CallR X (.type "tuple") (rK X.K .tuple) := by
  rintro pins s σ H xs us Q I rx ⟨Hf, ds, r, sub, h, e, p⟩
  obtain ⟨d, rfl⟩ := biD1 (by decide) e
  obtain ⟨x, rfl, hx⟩ := ds1 h
  cases hx with
  | lst h1 q1 => cases e; exact call_tuple_of pins s σ H _ us Q I rx ⟨_, _, rfl, .inl ⟨.inl (sub.rd h1), p.tup sub q1⟩⟩
  | tup h1 q1 => cases e; exact call_tuple_of pins s σ H _ us Q I rx ⟨_, _, rfl, .inr ⟨sub.st h1, p.val sub (.tup h1 q1)⟩⟩
  | _ => exact nn e
theorem k_list : CallR X (.type "list") (rK X.K .list) := by
  rintro pins s σ H xs us Q I rx ⟨Hf, ds, r, sub, h, e, p⟩
  obtain ⟨d, rfl⟩ := biD1 (by decide) e
  obtain ⟨x, rfl, hx⟩ := ds1 h
  cases hx with
  | lst h1 q1 => cases e; exact call_list_of pins s σ H _ us Q I rx ⟨_, _, rfl, .inl (.inl (sub.rd h1)), p.lst sub q1⟩
  | tup h1 q1 => cases e; exact call_list_of pins s σ H _ us Q I rx ⟨_, _, rfl, .inr (sub.st h1), p.lst sub q1⟩
  | _ => exact nn e
theorem all_dq {K : PySem.W.Frag} {H : Hp} : ∀ {ds : List D} {vs : List V} {b : Bool}, Dqs K H vs ds → allD ds = some b → ∃ bs : List Bool, vs = bs.map V.bl ∧ bs.all id = b
  | [], _, _, h, e => by cases h; cases e; exact ⟨[], rfl, rfl⟩
  | d :: ds, _, b, h, e => by
    cases h with
    | cons h t =>
      cases h with
      | bl c =>
        cases q : allD ds with
        | none => rw [show allD (.bool c :: ds) = (allD ds).map fun b => c && b from rfl, q] at e; cases e
        | some b' =>
          rw [show allD (.bool c :: ds) = (allD ds).map fun b => c && b from rfl, q] at e
          cases e
          obtain ⟨bs, rfl, rfl⟩ := all_dq t q
          exact ⟨c :: bs, rfl, by simp⟩
      | _ => exact nb e
theorem any_dq {K : PySem.W.Frag} {H : Hp} : ∀ {ds : List D} {vs : List V} {b : Bool}, Dqs K H vs ds → anyD ds = some b → ∃ bs : List Bool, vs = bs.map V.bl ∧ bs.any id = b
  | [], _, _, h, e => by cases h; cases e; exact ⟨[], rfl, rfl⟩
  | d :: ds, _, b, h, e => by
    cases h with
    | cons h t =>
      cases h with
      | bl c =>
        cases q : anyD ds with
        | none => rw [show anyD (.bool c :: ds) = (anyD ds).map fun b => c || b from rfl, q] at e; cases e
        | some b' =>
          rw [show anyD (.bool c :: ds) = (anyD ds).map fun b => c || b from rfl, q] at e
          cases e
          obtain ⟨bs, rfl, rfl⟩ := any_dq t q
          exact ⟨c :: bs, rfl, by simp⟩
      | _ => exact nb e
theorem sum_dq {K : PySem.W.Frag} {H : Hp} : ∀ {ds : List D} {vs : List V} {b : Int}, Dqs K H vs ds → sumD ds = some b → ∃ bs : List Int, vs = bs.map V.int ∧ bs.sum = b
  | [], _, _, h, e => by cases h; cases e; exact ⟨[], rfl, rfl⟩
  | d :: ds, _, b, h, e => by
    cases h with
    | cons h t =>
      cases h with
      | int c =>
        cases q : sumD ds with
        | none => rw [show sumD (.int c :: ds) = (sumD ds).map fun b => c + b from rfl, q] at e; cases e
        | some b' =>
          rw [show sumD (.int c :: ds) = (sumD ds).map fun b => c + b from rfl, q] at e
          cases e
          obtain ⟨bs, rfl, rfl⟩ := sum_dq t q
          exact ⟨c :: bs, rfl, by simp⟩
      | _ => exact absurd (show (none : Option Int) = some b from e) (by simp)
theorem mapS {α : Type} {o : Option α} {g : α → RV} {r : RV} (e : o.map g = some r) : ∃ a, o = some a ∧ g a = r := by
  cases o with
  | none => cases e
  | some a => exact ⟨a, rfl, Option.some.inj e⟩
theorem k_all (hc : X.calm = true) : CallR X (.builtin "all") (rK X.K .all) := by
  rintro pins s σ H xs us Q I rx ⟨Hf, ds, r, sub, h, e, p⟩
  obtain ⟨d, rfl⟩ := biD1 (by decide) e
  obtain ⟨x, rfl, hx⟩ := ds1 h
  cases hx with
  | lst h1 q1 =>
    obtain ⟨b, e1, rfl⟩ := mapS e
    obtain ⟨bs, rfl, rfl⟩ := all_dq q1 e1
    exact cr_all hc pins s σ H _ us Q I rx ⟨_, bs, rfl, .inl (sub.rd h1), p.val sub (.bl _)⟩
  | _ => exact nn e
theorem k_any (hc : X.calm = true) : CallR X (.builtin "any") (rK X.K .any) := by
  rintro pins s σ H xs us Q I rx ⟨Hf, ds, r, sub, h, e, p⟩
  obtain ⟨d, rfl⟩ := biD1 (by decide) e
  obtain ⟨x, rfl, hx⟩ := ds1 h
  cases hx with
  | lst h1 q1 =>
    obtain ⟨b, e1, rfl⟩ := mapS e
    obtain ⟨bs, rfl, rfl⟩ := any_dq q1 e1
    exact cr_any hc pins s σ H _ us Q I rx ⟨_, bs, rfl, .inl (sub.rd h1), p.val sub (.bl _)⟩
  | _ => exact nn e
theorem k_sum (hc : X.calm = true) : CallR X (.builtin "sum") (rK X.K .sum) := by
  rintro pins s σ H xs us Q I rx ⟨Hf, ds, r, sub, h, e, p⟩
  obtain ⟨d, rfl⟩ := biD1 (by decide) e
  obtain ⟨x, rfl, hx⟩ := ds1 h
  cases hx with
  | lst h1 q1 =>
    obtain ⟨b, e1, rfl⟩ := mapS e
    obtain ⟨bs, rfl, rfl⟩ := sum_dq q1 e1
    exact cr_sum hc pins s σ H _ us Q I rx ⟨_, bs, rfl, .inl (sub.rd h1), p.val sub (.int _)⟩
  | _ => exact nn e
/-! ### isinstance -/
def tyD : D → String
  | .none => "NoneType"
  | .bool _ => "bool"
  | .int _ => "int"
  | .str _ => "str"
  | .list _ => "list"
  | .tuple _ => "tuple"
  | .dict _ => "dict"
theorem ty_dq {K : PySem.W.Frag} {Hf H : Hp} {x : V} {d : D} (sub : Ext Hf H) (h : Dq K Hf x d) : TyX K H x (.type (tyD d)) := by
  cases h with
  | non => exact .base .non
  | bl b => exact .base (.bl b)
  | int i => exact .base (.int i)
  | str y => exact .base (.str y)
  | lst h1 q1 =>
    rcases sub.rd h1 with h | ⟨o, h⟩
    · exact .base (.lst h)
    · exact .base (.frz h)
  | tup h1 q1 =>
    rcases sub.st h1 with (h | ⟨o, h⟩) | ⟨o, its, n, h, c, _⟩
    · exact .base (.tup h)
    · exact .fTuple h
    · exact .kTuple h c
def tyName : BF → Option String
  | .isint => some "int"
  | .isbool => some "bool"
  | .istuple => some "tuple"
  | .islist => some "list"
  | .isstr => some "str"
  | _ => none
def isName (f : BF) (a : String) : Bool := match f with
  | .isint => a == "int" || a == "bool"
  | .isbool => a == "bool"
  | .istuple => a == "tuple"
  | .islist => a == "list"
  | .isstr => a == "str"
  | _ => false
theorem kit_all : (["NoneType", "bool", "int", "str", "list", "tuple"].all fun a => [BF.isint, .isbool, .istuple, .islist, .isstr].all fun f => kitB a ((tyName f).getD "") == some (isName f a)) = true := by decide +kernel
theorem isD_name (f : BF) (d : D) (h : (tyName f).isSome = true) : isD f d = isName f (tyD d) := by
  cases f <;> first | (cases h; done) | (cases d <;> rfl)
theorem isD_kit {K : PySem.W.Frag} {f : BF} {T : String} (h : tyName f = some T) (d : D) (hd : ∀ kvs, d ≠ .dict kvs) : PySem.W.kitOne K (.type (tyD d)) (.type T) = some (isD f d) := by
  have m1 : tyD d ∈ ["NoneType", "bool", "int", "str", "list", "tuple"] := by
    cases d <;> first | exact absurd rfl (hd _) | simp [tyD]
  have m2 : f ∈ [BF.isint, .isbool, .istuple, .islist, .isstr] := by
    cases f <;> first | (cases h; done) | simp
  have q := List.all_eq_true.mp (List.all_eq_true.mp kit_all _ m1) _ m2
  rw [h] at q
  rw [isD_name f d (by rw [h]; rfl)]
  exact kit_ty (beq_iff_eq.mp q)
def rIsi1 (K : PySem.W.Frag) (f : BF) : List V → Hp → VK → Prop := fun xs H Q => ∃ (Hf : Hp) (x : V) (T : String) (d : D), xs = [x, .ty T] ∧ tyName f = some T ∧ Ext Hf H ∧ Dq K Hf x d ∧ Q (.bl (isD f d)) H
theorem k_isi {f : BF} : CallR X (.builtin "isinstance") (rIsi1 X.K f) := by
  rintro pins s σ H xs us Q I rx ⟨Hf, x, T, d, rfl, hT, sub, hx, q⟩
  exact call_isi pins s σ H _ us Q I rx ⟨x, .ty T, _, _, _, rfl, .ty T, ty_dq sub hx, isD_kit hT d (fun kvs z => by subst z; cases hx), q⟩
end
end EvL

set_option Elab.async false
set_option linter.all false
set_option maxRecDepth 100000
set_option maxHeartbeats 4000000
namespace EvL
open PySem PySem.Spec PyProof.Rows L2

/-! ### the expressions, one by one -/
section
variable {K : PySem.W.Frag} {σ : L2.St} {Γ : Ga} {Hf H : Hp}
def NoOwn : MV → Prop
  | .un => True
  | .fz _ => True
  | _ => False
theorem get_set {i j : Nat} {m u : MV} (h : (Γ.set i m)[j]? = some u) : (j = i ∧ u = m ∧ i < Γ.length) ∨ (j ≠ i ∧ Γ[j]? = some u) := by
  rw [List.getElem?_set] at h
  split at h
  · rename_i hj
    split at h
    · rename_i hl
      exact .inl ⟨hj.symm, (Option.some.inj h).symm, hl⟩
    · cases h
  · rename_i hj
    exact .inr ⟨fun z => hj z.symm, h⟩
theorem so_set {i j : Nat} {m : MV} {q : Bool} {b : Addr} (hm : NoOwn m) (h : SO σ (Γ.set i m) H j q b) : j ≠ i ∧ SO σ Γ H j q b := by
  rcases h with ⟨ds, h1, h2⟩ | ⟨rfl, rss, a, as, h1, h2, h3, h4⟩
  · rcases get_set h1 with ⟨_, e, _⟩ | ⟨hj, e⟩
    · subst e; exact hm.elim
    · exact ⟨hj, .inl ⟨ds, e, h2⟩⟩
  · rcases get_set h1 with ⟨_, e, _⟩ | ⟨hj, e⟩
    · subst e; exact hm.elim
    · exact ⟨hj, .inr ⟨rfl, rss, a, as, e, h2, h3, h4⟩⟩
theorem own_set {i : Nat} {m : MV} {q : Bool} {b : Addr} (hm : NoOwn m) (h : OwnAt σ (Γ.set i m) H q b) : OwnAt σ Γ H q b := let ⟨j, h⟩ := h; ⟨j, (so_set hm h).2⟩
theorem freezeSlot {i : Nat} {d : D} {v : V} {L : List Addr} (R : Rel K Hf H σ Γ) (hi : i < Γ.length) (h2 : σ[i]? = some (some v)) (hL : ∀ b ∈ L, SO σ Γ H i false b) (hd : Dq K (frz Hf H L) v d) :
    Rel K (frz Hf H L) H σ (Γ.set i (.fz d)) ∧ EStep σ Γ Hf H (Γ.set i (.fz d)) (frz Hf H L) H := by
  have nf : ∀ b ∈ L, Hf b = none := fun b hb => (R.there ⟨i, hL b hb⟩).1
  have ext : Ext Hf (frz Hf H L) := frz_ext nf
  have out : ∀ {j : Nat} {q : Bool} {b : Addr}, j ≠ i → SO σ Γ H j q b → b ∉ L := fun {j q b} hj h z => hj (R.inj j i q false b h (hL b z))
  have nm : NoOwn (.fz d) := trivial
  refine ⟨⟨by rw [List.length_set]; exact R.len, frz_sub R.sub, fun j d' e => ?_, fun j q es e => ?_, fun j rss e => ?_, fun j j' q q' b h h' => R.inj j j' q q' b (so_set nm h).2 (so_set nm h').2⟩,
    ⟨⟨ext, fun _ _ h _ => h, fun _ h => h, fun b hb => ?_, fun b hb => .inl (own_set nm hb), fun b hb => own_set nm hb, hid_set (fun _ z => nomatch z) fun _ _ => rfl⟩, fun b hb => own_set nm hb, fun j rss a e g => ?_⟩⟩
  · rcases get_set e with ⟨rfl, e, _⟩ | ⟨hj, e⟩
    · cases e
      exact ⟨v, h2, hd⟩
    · obtain ⟨u, e1, e2⟩ := R.fz j d' e
      exact ⟨u, e1, dpM ext e2⟩
  · rcases get_set e with ⟨rfl, e, _⟩ | ⟨hj, e⟩
    · cases e
    · obtain ⟨b, ws, e1, e2, e3, e4⟩ := R.own j q es e
      exact ⟨b, ws, e1, by rw [frz_out (out hj (.inl ⟨es, e, e1⟩))]; exact e2, e3, dpMs ext e4⟩
  · rcases get_set e with ⟨rfl, e, _⟩ | ⟨hj, e⟩
    · cases e
    · obtain ⟨a, as, e1, o⟩ := R.oo j rss e
      exact ⟨a, as, e1, o.mono ext (fun b hb => by rw [frz_out (out hj (.oo e e1 o hb))]; exact (o.mem b hb).1) fun _ _ => rfl⟩
  · by_cases hb' : b ∈ L
    · exact .inr (.inr ⟨i, hL b hb'⟩)
    · rw [frz_out hb'] at hb; exact .inl hb
  · rcases get_set e with ⟨rfl, e, _⟩ | ⟨hj, e⟩
    · cases e
    · exact ⟨e, g, rfl⟩
theorem lt_of_get {α : Type} {xs : List α} {i : Nat} {x : α} (h : xs[i]? = some x) : i < xs.length := (List.getElem?_eq_some_iff.mp h).1
/-- reading a slot -/
theorem read_slot {i : Nat} {d : D} {Γ' : Ga} (R : Rel K Hf H σ Γ) (e : getV i Γ = some (d, Γ')) : ∃ v Hf', σ[i]? = some (some v) ∧ Rel K Hf' H σ Γ' ∧ EStep σ Γ Hf H Γ' Hf' H ∧ Dq K Hf' v d := by
  unfold getV at e
  split at e
  · rename_i d' h
    cases e
    obtain ⟨v, e1, e2⟩ := R.fz i d h
    exact ⟨v, Hf, e1, R, .rfl', e2⟩
  · rename_i ds h
    cases e
    obtain ⟨a, vs, e1, e2, e3, e4⟩ := R.own i false ds h
    have hd : Dq K (frz Hf H [a]) (.ref a) (.list ds) := .lst (.inl ((frz_in (List.mem_singleton.mpr rfl)).trans e3)) (dpMs (frz_ext fun b hb => by rw [List.mem_singleton.mp hb]; exact e2) e4)
    obtain ⟨R', S'⟩ := freezeSlot (L := [a]) R (lt_of_get h) e1 (fun b hb => by rw [List.mem_singleton.mp hb]; exact .inl ⟨ds, h, e1⟩) hd
    exact ⟨_, _, e1, R', S', hd⟩
  · rename_i rss h
    cases e
    obtain ⟨a, as, e1, o⟩ := R.oo i rss h
    obtain ⟨R', S'⟩ := freezeSlot (L := a :: as) R (lt_of_get h) e1 (fun b hb => .oo h e1 o hb) o.frozen
    exact ⟨_, _, e1, R', S', o.frozen⟩
  · cases e
theorem slot_read {i : Nat} {d : D} (R : Rel K Hf H σ Γ) (e : slotD i Γ = some d) : ∃ v, σ[i]? = some (some v) ∧ (Dq K Hf v d ∨ ∃ a vs ds, v = .ref a ∧ d = .list ds ∧ H a = some (.lst vs) ∧ Dqs K Hf vs ds) := by
  unfold slotD at e
  split at e
  · rename_i d' h
    cases e
    obtain ⟨v, e1, e2⟩ := R.fz i d h
    exact ⟨v, e1, .inl e2⟩
  · rename_i q ds h
    cases e
    obtain ⟨a, vs, e1, e2, e3, e4⟩ := R.own i q ds h
    exact ⟨_, e1, .inr ⟨a, vs, ds, rfl, rfl, e3, e4⟩⟩
  · cases e
end
theorem bindS {α β : Type} {o : Option α} {g : α → Option β} {r : β} (e : o.bind g = some r) : ∃ a, o = some a ∧ g a = some r := by
  cases o with
  | none => cases e
  | some a => exact ⟨a, rfl, e⟩
theorem mapS' {α β : Type} {o : Option α} {g : α → β} {r : β} (e : o.map g = some r) : ∃ a, o = some a ∧ g a = r := by
  cases o with
  | none => cases e
  | some a => exact ⟨a, rfl, Option.some.inj e⟩
abbrev FX := Ga → Option (RV × Ga)
section
variable {X : Cx} {a b c : Expr} {fa fb fc : FX} {pos : Pos}
theorem s_var {i : Nat} {x : Str} (hN : X.N[i]? = some x) (hv : Vis X.env.scope x) (hd : (x == ("__debug__" : Str)) = false) (hcd : (x == ("__classdict__" : Str)) = false) :
    PE X (.Name x pos) (tX X.K fun Γ => (getV i Γ).map fun (d, Γ) => (.fz d, Γ)) := (pe_var hN hv hd hcd).imp fun σ H Q ⟨Γ, Hf, r, Γ', R, e, k⟩ => by
  obtain ⟨⟨d, Γ1⟩, e1, e2⟩ := mapS' e
  cases e2
  obtain ⟨v, Hf', h1, h2, h3, h4⟩ := read_slot R e1
  exact ⟨v, h1, k v H Hf' h2 h3 h4⟩
theorem s_cst {v : V} {d : D} (h : PE X a (tC v)) (hd : ∀ H, Dq X.K H v d) : PE X a (tX X.K fun Γ => some (.fz d, Γ)) := h.imp fun σ H Q ⟨Γ, Hf, r, Γ', R, e, k⟩ => by
  cases e
  exact k v H Hf R .rfl' (hd Hf)
/-- two parts, from the left -/
theorem two {g : D → D → Ga → Option (RV × Ga)} {σ : L2.St} {H : Hp} {Q : VK} {R2' : V → V → Hp → Prop}
    (h : tX X.K (fun Γ => (fa Γ).bind fun (x, Γ) => (fb Γ).bind fun (y, Γ) => g x.d y.d Γ) σ H Q)
    (fin : ∀ Γ0 Hf0 x y dx dy Γ Hf H2 r Γ', Rel X.K Hf0 H σ Γ0 → Rel X.K Hf H2 σ Γ → EStep σ Γ0 Hf0 H Γ Hf H2 → Dq X.K Hf x dx → Dq X.K Hf y dy → g dx dy Γ = some (r, Γ') →
      (∀ v H' Hf', Rel X.K Hf' H' σ Γ' → EStep σ Γ0 Hf0 H Γ' Hf' H' → RRel X.K H Hf' H' v r → Q v H') → R2' x y H2) :
    tE X.K fa σ H fun x H1 => tE X.K fb σ H1 fun y H2 => R2' x y H2 := by
  obtain ⟨Γ, Hf, r, Γ', R, e, k⟩ := h
  obtain ⟨⟨rx, Γ1⟩, e1, e⟩ := bindS e
  obtain ⟨⟨ry, Γ2⟩, e2, e⟩ := bindS e
  refine ⟨Γ, Hf, rx, Γ1, R, e1, fun x H1 Hf1 R1 S1 d1 => ⟨Γ1, Hf1, ry, Γ2, R1, e2, fun y H2 Hf2 R2 S2 d2 => ?_⟩⟩
  exact fin Γ Hf x y rx.d ry.d Γ2 Hf2 H2 r Γ' R R2 (S1.tr S2) (dpM S2.ext d1) d2 e k
theorem s_bin {op : Operator} {o : BOp} (ho : OpR X (binaryOp op) (rB X.K (binD o))) (ha : PE X a (tX X.K fa)) (hb : PE X b (tX X.K fb)) :
    PE X (.BinOp a op b pos) (tX X.K fun Γ => (fa Γ).bind fun (x, Γ) => (fb Γ).bind fun (y, Γ) => (binD o x.d y.d).map fun r => (r, Γ)) :=
  (pe_op ho (pe_fast ha) (pe_fast hb)).imp fun σ H Q h => two (g := fun x y Γ => (binD o x y).map fun r => (r, Γ)) h fun Γ0 Hf0 x y dx dy Γ Hf H2 r Γ' R0 R S q1 q2 e k => by
    obtain ⟨r', e1, e2⟩ := mapS' e
    cases e2
    exact ⟨Hf, dx, dy, _, R.sub, q1, q2, e1, Post.fin R S k⟩
theorem s_cmp {op : CmpOp} {o : COp} (ho : OpR X (compareOp op) (rC X.K (cmpD o))) (ha : PE X a (tX X.K fa)) (hb : PE X b (tX X.K fb)) (hm : behindInMarks op b = false) :
    PE X (.Compare a [op] [b] pos) (tX X.K fun Γ => (fa Γ).bind fun (x, Γ) => (fb Γ).bind fun (y, Γ) => (cmpD o x.d y.d).map fun r => (.fz (.bool r), Γ)) :=
  (pe_cmpR ho (pe_fast ha) (pe_fast hb) hm).imp fun σ H Q h => two (g := fun x y Γ => (cmpD o x y).map fun r => (.fz (.bool r), Γ)) h fun Γ0 Hf0 x y dx dy Γ Hf H2 r Γ' R0 R S q1 q2 e k => by
    obtain ⟨r', e1, e2⟩ := mapS' e
    cases e2
    exact ⟨Hf, dx, dy, _, R.sub, q1, q2, e1, k _ _ Hf R S (.bl _)⟩
theorem t_cmp {op : CmpOp} {o : COp} (ho : OpR X (compareOp op) (rC X.K (cmpD o))) (ha : PE X a (tX X.K fa)) (hb : PE X b (tX X.K fb)) (hm : behindInMarks op b = false) :
    PT X (.Compare a [op] [b] pos) (tT X.K fun Γ => (fa Γ).bind fun (x, Γ) => (fb Γ).bind fun (y, Γ) => (cmpD o x.d y.d).map fun r => (r, Γ)) :=
  (pt_cmpR ho (pe_fast ha) (pe_fast hb) hm).imp fun σ H Q ⟨Γ, Hf, r, Γ', R, e, k⟩ => by
    obtain ⟨⟨rx, Γ1⟩, e1, e⟩ := bindS e
    obtain ⟨⟨ry, Γ2⟩, e2, e⟩ := bindS e
    obtain ⟨t, e3, e4⟩ := mapS' e
    cases e4
    exact ⟨Γ, Hf, rx, Γ1, R, e1, fun x H1 Hf1 R1 S1 d1 => ⟨_, Hf1, ry, _, R1, e2, fun y H2 Hf2 R2 S2 d2 => ⟨Hf2, _, _, _, R2.sub, dpM S2.ext d1, d2, e3, _, rfl, k _ _ R2 (S1.tr S2)⟩⟩⟩
theorem s_ix (ha : PE X a (tX X.K fa)) (hb : PE X b (tX X.K fb)) (hs : PlainIx b) :
    PE X (.Subscript a b pos) (tX X.K fun Γ => (fa Γ).bind fun (x, Γ) => (fb Γ).bind fun (y, Γ) => (ixD x.d y.d).map fun r => (.fz r, Γ)) :=
  (pe_ix ix_D (pe_fast ha) (pe_fast hb) hs).imp fun σ H Q h => two (g := fun x y Γ => (ixD x y).map fun r => (.fz r, Γ)) h fun Γ0 Hf0 x y dx dy Γ Hf H2 r Γ' R0 R S q1 q2 e k => by
    obtain ⟨r', e1, e2⟩ := mapS' e
    cases e2
    exact ⟨Hf, dx, dy, _, R.sub, q1, q2, e1, fun v hv => k _ _ Hf R S hv⟩
theorem s_ixv {i : Nat} {x : Str} {p : Pos} (hN : X.N[i]? = some x) (hv : Vis X.env.scope x) (hd : (x == ("__debug__" : Str)) = false) (hcd : (x == ("__classdict__" : Str)) = false) (hb : PE X b (tX X.K fb)) (hs : PlainIx b) :
    PE X (.Subscript (.Name x p) b pos) (tX X.K fun Γ => (slotD i Γ).bind fun _ => (fb Γ).bind fun (y, Γ) => (slotD i Γ).bind fun d => (ixD d y.d).map fun r => (.fz r, Γ)) :=
  (pe_ix (ix_D.or ix_list) (pe_var hN hv hd hcd) (pe_fast hb) hs).imp fun σ H Q ⟨Γ, Hf, r, Γ', R, e, k⟩ => by
    obtain ⟨d0, e0, e⟩ := bindS e
    obtain ⟨⟨y, Γ1⟩, e1, e⟩ := bindS e
    obtain ⟨d, e2, e⟩ := bindS e
    obtain ⟨r', e3, e4⟩ := mapS' e
    cases e4
    obtain ⟨v, hv', _⟩ := slot_read R e0
    refine ⟨v, hv', Γ, Hf, y, _, R, e1, fun w H1 Hf1 R1 S1 q => ?_⟩
    obtain ⟨v2, hv2, h⟩ := slot_read R1 e2
    rw [hv'] at hv2; cases hv2
    rcases h with h | ⟨a, vs, ds, rfl, rfl, hp, hq⟩
    · exact .inl ⟨Hf1, d, _, r', R1.sub, h, q, e3, fun z hz => k z H1 Hf1 R1 S1 hz⟩
    · cases hy : y.d with
      | int z =>
        rw [hy] at e3 q
        cases q
        obtain ⟨u, e5, q5⟩ := at_dq hq (show atI ds z = some r' from e3)
        exact .inr ⟨a, vs, z, u, rfl, rfl, .inl (.inl hp), e5, k u H1 Hf1 R1 S1 q5⟩
      | _ => rw [hy] at e3; cases e3
theorem t_var {i : Nat} {x : Str} {p : Pos} (hN : X.N[i]? = some x) (hv : Vis X.env.scope x) (hd : (x == ("__debug__" : Str)) = false) (hcd : (x == ("__classdict__" : Str)) = false)
    (he : ∀ whole, isTrue (.Name x p) X.env whole = (do let v ← whole; standAt (Expr.Name x p).pos; holding [v] (truthy v))) : PT X (.Name x p) (tT X.K fun Γ => (slotD i Γ).bind fun d => (trD d).map fun c => (c, Γ)) :=
  (pt_truth (pe_var hN hv hd hcd) he).imp fun σ H Q ⟨Γ, Hf, r, Γ', R, e, k⟩ => by
    obtain ⟨d, e0, e⟩ := bindS e
    obtain ⟨t, e2, e3⟩ := mapS' e
    cases e3
    obtain ⟨v, hv', h⟩ := slot_read R e0
    refine ⟨v, hv', r, ?_, k _ Hf R .rfl'⟩
    rcases h with h | ⟨a, vs, ds, rfl, rfl, hp, hq⟩
    · exact tr_V R.sub h e2
    · cases e2; exact .inl ⟨_, .inl (.inl hp), (isEmpty_dq hq).symm⟩
theorem s_neg (ha : PE X a (tX X.K fa)) : PE X (.UnaryOp .USub a pos) (tX X.K fun Γ => (fa Γ).bind fun (x, Γ) => match x.d with | .int i => some (.fz (.int (-i)), Γ) | _ => none) :=
  (pe_un un_neg (pe_fast ha)).imp fun σ H Q ⟨Γ, Hf, r, Γ', R, e, k⟩ => by
    obtain ⟨⟨rx, Γ1⟩, e1, e⟩ := bindS e
    refine ⟨Γ, Hf, rx, Γ1, R, e1, fun x H1 Hf1 R1 S1 d1 => ?_⟩
    have e : (match rx.d with | .int i => some (RV.fz (.int (-i)), Γ1) | _ => none) = some (r, Γ') := e
    split at e
    · rename_i i hi
      cases e
      rw [hi] at d1
      cases d1
      exact ⟨i, rfl, k _ _ Hf1 R1 S1 (.int _)⟩
    · cases e
theorem s_not (ha : PE X a (tX X.K fa)) : PE X (.UnaryOp .Not a pos) (tX X.K fun Γ => (fa Γ).bind fun (x, Γ) => (trD x.d).map fun c => (.fz (.bool (!c)), Γ)) :=
  (pe_notT (pe_fast ha)).imp fun σ H Q ⟨Γ, Hf, r, Γ', R, e, k⟩ => by
    obtain ⟨⟨rx, Γ1⟩, e1, e⟩ := bindS e
    obtain ⟨t, e2, e3⟩ := mapS' e
    cases e3
    exact ⟨Γ, Hf, rx, _, R, e1, fun x H1 Hf1 R1 S1 d1 => ⟨_, tr_V R1.sub d1 e2, k _ _ Hf1 R1 S1 (.bl _)⟩⟩
theorem t_not {f : Ga → Option (Bool × Ga)} (ha : PT X a (tT X.K f)) : PT X (.UnaryOp .Not a pos) (tT X.K fun Γ => (f Γ).map fun (c, Γ) => (!c, Γ)) :=
  (pt_not ha).imp fun σ H Q ⟨Γ, Hf, r, Γ', R, e, k⟩ => by
    obtain ⟨⟨t, Γ1⟩, e1, e⟩ := mapS' e
    cases e
    exact ⟨Γ, Hf, _, _, R, e1, fun H' Hf' R' S' => k _ _ R' S'⟩
/-- a test of a value -/
theorem t_val {f : Ga → Option (Bool × Ga)} (hf : ∀ Γ, f Γ = (fa Γ).bind fun (x, Γ) => (trD x.d).map fun c => (c, Γ)) (ha : PE X a (tX X.K fa))
    (he : ∀ whole, isTrue a X.env whole = (do let v ← whole; standAt a.pos; holding [v] (truthy v))) : PT X a (tT X.K f) :=
  (pt_truth (pe_fast ha) he).imp fun σ H Q ⟨Γ, Hf, r, Γ', R, e, k⟩ => by
    rw [hf] at e
    obtain ⟨⟨rx, Γ1⟩, e1, e⟩ := bindS e
    obtain ⟨t, e2, e3⟩ := mapS' e
    cases e3
    exact ⟨Γ, Hf, rx, _, R, e1, fun x H1 Hf1 R1 S1 d1 => ⟨_, tr_V R1.sub d1 e2, k _ Hf1 R1 S1⟩⟩
/-- what never comes -/
theorem t_none {f : Ga → Option (Bool × Ga)} (hf : ∀ Γ, f Γ = none) : PT X a (tT X.K f) := ⟨fun pins s σ H Q I ⟨Γ, Hf, r, Γ', R, e, k⟩ => by rw [hf] at e; cases e⟩
theorem s_ite {f : Ga → Option (Bool × Ga)} (hc : PT X c (tT X.K f)) (ha : PE X a (tX X.K fa)) (hb : PE X b (tX X.K fb)) :
    PE X (.IfExp c a b pos) (tX X.K fun Γ => (f Γ).bind fun (t, Γ) => if t then (fa Γ).map fun (y, Γ) => (.fz y.d, Γ) else (fb Γ).map fun (y, Γ) => (.fz y.d, Γ)) :=
  (pe_ifExp hc (pe_fast ha) (pe_fast hb)).imp fun σ H Q ⟨Γ, Hf, r, Γ', R, e, k⟩ => by
    obtain ⟨⟨t, Γ1⟩, e1, e⟩ := bindS e
    refine ⟨Γ, Hf, t, Γ1, R, e1, fun H1 Hf1 R1 S1 => ?_⟩
    cases t with
    | true =>
      obtain ⟨⟨ry, Γ2⟩, e2, e3⟩ := mapS' (show (fa Γ1).map (fun (y, Γ) => (RV.fz y.d, Γ)) = some (r, Γ') from e)
      cases e3
      exact ⟨Γ1, Hf1, ry, _, R1, e2, fun v H' Hf' R' S' d' => k _ _ Hf' R' (S1.tr S') d'⟩
    | false =>
      obtain ⟨⟨ry, Γ2⟩, e2, e3⟩ := mapS' (show (fb Γ1).map (fun (y, Γ) => (RV.fz y.d, Γ)) = some (r, Γ') from e)
      cases e3
      exact ⟨Γ1, Hf1, ry, _, R1, e2, fun v H' Hf' R' S' d' => k _ _ Hf' R' (S1.tr S') d'⟩
end
end EvL

set_option Elab.async false
set_option linter.all false
set_option maxRecDepth 100000
set_option maxHeartbeats 4000000
namespace EvL
open PySem PySem.Spec PyProof.Rows L2

abbrev FA := Ga → Option (List D × Ga)
section
variable {X : Cx} {a b c e : Expr} {es rest : List Expr} {fa fb fc : FX} {pos : Pos} {g : FA}
theorem s_nil : PA X [] (tAs X.K fun Γ => some ([], Γ)) := pa_nil.imp fun σ H Q ⟨Γ, Hf, r, Γ', R, ef, k⟩ => by
  cases ef
  exact k [] H Hf R .rfl' .nil
theorem s_cons (ha : PE X e (tX X.K fa)) (hr : PA X es (tAs X.K g)) (hu : unstar e = true) : PA X (e :: es) (tAs X.K fun Γ => (fa Γ).bind fun (x, Γ) => (g Γ).map fun (ds, Γ) => (x.d :: ds, Γ)) :=
  (pa_cons (pe_fast ha) hr (star_cons hu)).imp fun σ H Q ⟨Γ, Hf, r, Γ', R, ef, k⟩ => by
    obtain ⟨⟨rx, Γ1⟩, e1, ef⟩ := bindS ef
    obtain ⟨⟨ds, Γ2⟩, e2, e3⟩ := mapS' ef
    cases e3
    exact ⟨Γ, Hf, rx, Γ1, R, e1, fun x H1 Hf1 R1 S1 d1 => ⟨Γ1, Hf1, ds, _, R1, e2, fun vs H2 Hf2 R2 S2 d2 => k _ H2 Hf2 R2 (S1.tr S2) (.cons (dpM S2.ext d1) d2)⟩⟩
theorem k_nil : PK X [] (tAs X.K fun Γ => some ([], Γ)) := ⟨fun pos pins s σ H Q I ⟨Γ, Hf, r, Γ', R, ef, k⟩ => by
  cases ef
  exact pk_nil.run pos pins s σ H Q I (k [] H Hf R .rfl' .nil)⟩
theorem k_cons {kws : List Keyword} {nm : Option Str} {kp : Pos} (ha : PE X e (tX X.K fa)) (hr : PK X kws (tAs X.K g)) : PK X (⟨nm, e, kp⟩ :: kws) (tAs X.K fun Γ => (fa Γ).bind fun (x, Γ) => (g Γ).map fun (ds, Γ) => (x.d :: ds, Γ)) :=
  ⟨fun pos pins s σ H Q I ⟨Γ, Hf, r, Γ', R, ef, k⟩ => by
    obtain ⟨⟨rx, Γ1⟩, e1, ef⟩ := bindS ef
    obtain ⟨⟨ds, Γ2⟩, e2, e3⟩ := mapS' ef
    cases e3
    exact (pk_cons (pe_fast ha) hr).run pos pins s σ H Q I ⟨Γ, Hf, rx, Γ1, R, e1, fun x H1 Hf1 R1 S1 d1 => ⟨Γ1, Hf1, ds, _, R1, e2, fun vs H2 Hf2 R2 S2 d2 => k _ H2 Hf2 R2 (S1.tr S2) (.cons (dpM S2.ext d1) d2)⟩⟩⟩
theorem s_tup {k} (ha : PA X es (tAs X.K g)) (hl : ∀ Γ ds Γ', g Γ = some (ds, Γ') → ds.length ≤ 1000) : PE X (.Tuple es k pos) (tX X.K fun Γ => (g Γ).map fun (ds, Γ) => (.fz (.tuple ds), Γ)) :=
  (pe_tup ha).imp fun σ H Q ⟨Γ, Hf, r, Γ', R, ef, k⟩ => by
    obtain ⟨⟨ds, Γ1⟩, e1, e2⟩ := mapS' ef
    have hz := hl _ _ _ e1
    cases e2
    refine ⟨Γ, Hf, ds, _, R, e1, fun vs H1 Hf1 R1 S1 d1 => ⟨?_, (Post.fin R1 S1 k).tup R1.sub d1⟩⟩
    rw [dps_len d1]; exact Nat.le_trans hz (by decide)
theorem s_lst (ha : PA X es (tAs X.K g)) (hl : ∀ Γ ds Γ', g Γ = some (ds, Γ') → ds.length ≤ 1000) : PE X (.List es pos) (tX X.K fun Γ => (g Γ).map fun (ds, Γ) => (.ow ds, Γ)) :=
  (pe_lst ha).imp fun σ H Q ⟨Γ, Hf, r, Γ', R, ef, k⟩ => by
    obtain ⟨⟨ds, Γ1⟩, e1, e2⟩ := mapS' ef
    have hz := hl _ _ _ e1
    cases e2
    refine ⟨Γ, Hf, ds, _, R, e1, fun vs H1 Hf1 R1 S1 d1 => ⟨?_, (Post.fin R1 S1 k).lst R1.sub d1⟩⟩
    rw [dps_len d1]; exact Nat.le_trans hz (by decide)
theorem s_and (ha : PE X a (tX X.K fa)) (hb : PE X (.BoolOp .And (b :: rest) pos) (tX X.K fb)) : PE X (.BoolOp .And (a :: b :: rest) pos)
    (tX X.K fun Γ => (fa Γ).bind fun (x, Γ) => (trD x.d).bind fun c => if c then (fb Γ).map fun (y, Γ) => (.fz y.d, Γ) else some (.fz x.d, Γ)) :=
  (pe_andT (pe_fast ha) (pe_fast hb)).imp fun σ H Q ⟨Γ, Hf, r, Γ', R, ef, k⟩ => by
    obtain ⟨⟨rx, Γ1⟩, e1, ef⟩ := bindS ef
    obtain ⟨t, e2, ef⟩ := bindS ef
    refine ⟨Γ, Hf, rx, Γ1, R, e1, fun x H1 Hf1 R1 S1 d1 => ⟨t, tr_V R1.sub d1 e2, ?_⟩⟩
    cases t with
    | true =>
      obtain ⟨⟨ry, Γ2⟩, e3, e4⟩ := mapS' (show (fb Γ1).map (fun (y, Γ) => (RV.fz y.d, Γ)) = some (r, Γ') from ef)
      cases e4
      exact ⟨Γ1, Hf1, ry, _, R1, e3, fun v H' Hf' R' S' d' => k _ _ Hf' R' (S1.tr S') d'⟩
    | false =>
      cases (show some (RV.fz rx.d, Γ1) = some (r, Γ') from ef)
      exact k _ _ Hf1 R1 S1 d1
theorem s_or (ha : PE X a (tX X.K fa)) (hb : PE X (.BoolOp .Or (b :: rest) pos) (tX X.K fb)) : PE X (.BoolOp .Or (a :: b :: rest) pos)
    (tX X.K fun Γ => (fa Γ).bind fun (x, Γ) => (trD x.d).bind fun c => if c then some (.fz x.d, Γ) else (fb Γ).map fun (y, Γ) => (.fz y.d, Γ)) :=
  (pe_orT (pe_fast ha) (pe_fast hb)).imp fun σ H Q ⟨Γ, Hf, r, Γ', R, ef, k⟩ => by
    obtain ⟨⟨rx, Γ1⟩, e1, ef⟩ := bindS ef
    obtain ⟨t, e2, ef⟩ := bindS ef
    refine ⟨Γ, Hf, rx, Γ1, R, e1, fun x H1 Hf1 R1 S1 d1 => ⟨t, tr_V R1.sub d1 e2, ?_⟩⟩
    cases t with
    | false =>
      obtain ⟨⟨ry, Γ2⟩, e3, e4⟩ := mapS' (show (fb Γ1).map (fun (y, Γ) => (RV.fz y.d, Γ)) = some (r, Γ') from ef)
      cases e4
      exact ⟨Γ1, Hf1, ry, _, R1, e3, fun v H' Hf' R' S' d' => k _ _ Hf' R' (S1.tr S') d'⟩
    | true =>
      cases (show some (RV.fz rx.d, Γ1) = some (r, Γ') from ef)
      exact k _ _ Hf1 R1 S1 d1
variable {ta tb : Ga → Option (Bool × Ga)}
theorem t_and (ha : PT X a (tT X.K ta)) (hb : PW X (.BoolOp .And (b :: rest) pos) (tT X.K tb)) : PW X (.BoolOp .And (a :: b :: rest) pos)
    (tT X.K fun Γ => (ta Γ).bind fun (c, Γ) => if c then tb Γ else some (false, Γ)) := (pw_and ha hb).imp fun σ H Q ⟨Γ, Hf, r, Γ', R, ef, k⟩ => by
  obtain ⟨⟨t, Γ1⟩, e1, ef⟩ := bindS ef
  refine ⟨Γ, Hf, t, Γ1, R, e1, fun H1 Hf1 R1 S1 => ?_⟩
  cases t with
  | true => exact ⟨Γ1, Hf1, r, Γ', R1, ef, fun H' Hf' R' S' => k _ Hf' R' (S1.tr S')⟩
  | false =>
    cases (show some (false, Γ1) = some (r, Γ') from ef)
    exact k _ Hf1 R1 S1
theorem t_or (ha : PT X a (tT X.K ta)) (hb : PW X (.BoolOp .Or (b :: rest) pos) (tT X.K tb)) : PW X (.BoolOp .Or (a :: b :: rest) pos)
    (tT X.K fun Γ => (ta Γ).bind fun (c, Γ) => if c then some (true, Γ) else tb Γ) := (pw_or ha hb).imp fun σ H Q ⟨Γ, Hf, r, Γ', R, ef, k⟩ => by
  obtain ⟨⟨t, Γ1⟩, e1, ef⟩ := bindS ef
  refine ⟨Γ, Hf, t, Γ1, R, e1, fun H1 Hf1 R1 S1 => ?_⟩
  cases t with
  | false => exact ⟨Γ1, Hf1, r, Γ', R1, ef, fun H' Hf' R' S' => k _ Hf' R' (S1.tr S')⟩
  | true =>
    cases (show some (true, Γ1) = some (r, Γ') from ef)
    exact k _ Hf1 R1 S1
/-- a op b op' c -/
theorem chn {o o' : COp} {r r' : Bool → Ga → Option (RV × Ga)} {σ : L2.St} {H : Hp} {Q : VK} {op op' : CmpOp} (Q' : V → Hp → Prop)
    {f : Ga → Option (Bool × Ga)} {Γ Γ' : Ga} {Hf : Hp} {t : Bool} (R : Rel X.K Hf H σ Γ)
    (ef : ((fa Γ).bind fun (x, Γ) => (fb Γ).bind fun (y, Γ) => (cmpD o x.d y.d).bind fun r => if r then (fc Γ).bind fun (z, Γ) => (cmpD o' y.d z.d).map fun r => (r, Γ) else some (false, Γ)) = some (t, Γ'))
    (k : ∀ H' Hf', Rel X.K Hf' H' σ Γ' → EStep σ Γ Hf H Γ' Hf' H' → Q' (.bl t) H') :
    tChain (rC X.K (cmpD o)) (rC X.K (cmpD o')) (tE X.K fa) (tE X.K fb) (tE X.K fc) σ H Q' := by
  obtain ⟨⟨rx, Γ1⟩, e1, ef⟩ := bindS ef
  obtain ⟨⟨ry, Γ2⟩, e2, ef⟩ := bindS ef
  obtain ⟨u, e3, ef⟩ := bindS ef
  refine ⟨Γ, Hf, rx, Γ1, R, e1, fun x H1 Hf1 R1 S1 d1 => ⟨Γ1, Hf1, ry, Γ2, R1, e2, fun y H2 Hf2 R2 S2 d2 => ⟨Hf2, _, _, u, R2.sub, dpM S2.ext d1, d2, e3, u, rfl, ?_⟩⟩⟩
  cases u with
  | true =>
    rw [if_pos rfl]
    obtain ⟨⟨rz, Γ3⟩, e4, ef⟩ := bindS (show (fc Γ2).bind (fun (z, Γ) => (cmpD o' ry.d z.d).map fun r => (r, Γ)) = some (t, Γ') from ef)
    obtain ⟨w, e5, e6⟩ := mapS' ef
    cases e6
    exact ⟨Γ2, Hf2, rz, _, R2, e4, fun z H3 Hf3 R3 S3 d3 => ⟨Hf3, _, _, _, R3.sub, dpM S3.ext d2, d3, e5, k _ Hf3 R3 ((S1.tr S2).tr S3)⟩⟩
  | false =>
    cases (show some (false, Γ2) = some (t, Γ') from ef)
    rw [if_neg Bool.false_ne_true]
    exact k _ Hf2 R2 (S1.tr S2)
theorem s_chn {o o' : COp} {op op' : CmpOp} (h1 : OpR X (compareOp op) (rC X.K (cmpD o))) (h2 : OpR X (compareOp op') (rC X.K (cmpD o'))) (ha : PE X a (tX X.K fa)) (hb : PE X b (tX X.K fb)) (hc : PE X c (tX X.K fc))
    (hm : lastMarks [op, op'] [b, c] = false) : PE X (.Compare a [op, op'] [b, c] pos) (tX X.K fun Γ => (fa Γ).bind fun (x, Γ) => (fb Γ).bind fun (y, Γ) => (cmpD o x.d y.d).bind fun r =>
      if r then (fc Γ).bind fun (z, Γ) => (cmpD o' y.d z.d).map fun r => (.fz (.bool r), Γ) else some (.fz (.bool false), Γ)) :=
  (pe_chain h1 h2 (pe_fast ha) (pe_fast hb) (pe_fast hc) hm).imp fun σ H Q ⟨Γ, Hf, r, Γ', R, ef, k⟩ => by
    have : ∃ t, r = .fz (.bool t) ∧ ((fa Γ).bind fun (x, Γ) => (fb Γ).bind fun (y, Γ) => (cmpD o x.d y.d).bind fun r => if r then (fc Γ).bind fun (z, Γ) => (cmpD o' y.d z.d).map fun r => (r, Γ) else some (false, Γ)) = some (t, Γ') := by
      obtain ⟨⟨rx, Γ1⟩, e1, ef⟩ := bindS ef
      obtain ⟨⟨ry, Γ2⟩, e2, ef⟩ := bindS ef
      obtain ⟨u, e3, ef⟩ := bindS ef
      cases u with
      | true =>
        obtain ⟨⟨rz, Γ3⟩, e4, ef⟩ := bindS (show (fc Γ2).bind (fun (z, Γ) => (cmpD o' ry.d z.d).map fun r => (RV.fz (.bool r), Γ)) = some (r, Γ') from ef)
        obtain ⟨w, e5, e6⟩ := mapS' ef
        cases e6
        exact ⟨w, rfl, by simp [e1, e2, e3, e4, e5]⟩
      | false =>
        cases (show some (RV.fz (.bool false), Γ2) = some (r, Γ') from ef)
        exact ⟨false, rfl, by simp [e1, e2, e3]⟩
    obtain ⟨t, rfl, e2⟩ := this
    exact chn (r := fun _ _ => none) (r' := fun _ _ => none) (Q := Q) (op := op) (op' := op') (f := fun _ => none) Q R e2 fun H' Hf' R' S' => k _ _ Hf' R' S' (.bl _)
theorem t_chn {o o' : COp} {op op' : CmpOp} (h1 : OpR X (compareOp op) (rC X.K (cmpD o))) (h2 : OpR X (compareOp op') (rC X.K (cmpD o'))) (ha : PE X a (tX X.K fa)) (hb : PE X b (tX X.K fb)) (hc : PE X c (tX X.K fc))
    (hm : lastMarks [op, op'] [b, c] = false) : PT X (.Compare a [op, op'] [b, c] pos) (tT X.K fun Γ => (fa Γ).bind fun (x, Γ) => (fb Γ).bind fun (y, Γ) => (cmpD o x.d y.d).bind fun r =>
      if r then (fc Γ).bind fun (z, Γ) => (cmpD o' y.d z.d).map fun r => (r, Γ) else some (false, Γ)) :=
  (pt_chain h1 h2 (pe_fast ha) (pe_fast hb) (pe_fast hc) hm).imp fun σ H Q ⟨Γ, Hf, r, Γ', R, ef, k⟩ =>
    chn (r := fun _ _ => none) (r' := fun _ _ => none) (Q := fun _ _ => True) (op := op) (op' := op') (f := fun _ => none) (fun x H' => ∃ k, x = .bl k ∧ Q k H') R ef fun H' Hf' R' S' => ⟨r, rfl, k _ Hf' R' S'⟩
/-- the parts of a slice -/
def tP (K : PySem.W.Frag) (l : Bool) (f : FX) : TO := fun σ H Q => ∃ Γ Hf r Γ' i, Rel K Hf H σ Γ ∧ f Γ = some (r, Γ') ∧ optI l r.d = some i ∧ ∀ H' Hf', Rel K Hf' H' σ Γ' → EStep σ Γ Hf H Γ' Hf' H' → Q i H'
theorem p_none : PO X none (tP X.K false fun Γ => some (.fz .none, Γ)) := ⟨fun pins s σ H Q I ⟨Γ, Hf, r, Γ', i, R, ef, ei, k⟩ => by
  cases ef; cases ei
  exact po_none.run pins s σ H Q I (k H Hf R .rfl')⟩
theorem p_some (ha : PE X a (tX X.K fa)) : PO X (some a) (tP X.K true fa) := ⟨fun pins s σ H Q I ⟨Γ, Hf, r, Γ', i, R, ef, ei, k⟩ =>
  (po_some (pe_fast ha)).run pins s σ H Q I ⟨Γ, Hf, r, Γ', R, ef, fun v H1 Hf1 R1 S1 d1 => by
    cases hd : r.d with
    | int j => rw [hd] at ei d1; cases ei; cases d1; exact ⟨j, rfl, k _ Hf1 R1 S1⟩
    | _ => rw [hd] at ei; cases ei⟩⟩
theorem s_slc {lo hi : Option Expr} {l h : Bool} {p2 : Pos} (ha : PE X a (tX X.K fa)) (hl : PO X lo (tP X.K l fb)) (hh : PO X hi (tP X.K h fc)) : PE X (.Subscript a (.Slice lo hi none p2) pos)
    (tX X.K fun Γ => (fa Γ).bind fun (x, Γ) => (fb Γ).bind fun (u, Γ) => (optI l u.d).bind fun i => (fc Γ).bind fun (w, Γ) => (optI h w.d).bind fun j => (slcD x.d i j).map fun r => (r, Γ)) :=
  (pe_slice sl_D (pe_fast ha) hl hh).imp fun σ H Q ⟨Γ, Hf, r, Γ', R, ef, k⟩ => by
    obtain ⟨⟨rx, Γ1⟩, e1, ef⟩ := bindS ef
    obtain ⟨⟨ru, Γ2⟩, e2, ef⟩ := bindS ef
    obtain ⟨i, e3, ef⟩ := bindS ef
    obtain ⟨⟨rw', Γ3⟩, e4, ef⟩ := bindS ef
    obtain ⟨j, e5, ef⟩ := bindS ef
    obtain ⟨w, e6, e7⟩ := mapS' ef
    cases e7
    refine ⟨Γ, Hf, rx, Γ1, R, e1, fun x H1 Hf1 R1 S1 d1 => ⟨Γ1, Hf1, ru, Γ2, i, R1, e2, e3, fun H2 Hf2 R2 S2 => ⟨Γ2, Hf2, rw', _, j, R2, e4, e5, fun H3 Hf3 R3 S3 => ?_⟩⟩⟩
    have S := (S1.tr S2).tr S3
    refine ⟨Hf3, rx.d, R3.sub, dpM (S2.tr S3).ext d1, ?_⟩
    have p := Post.fin R3 S k
    unfold slcD at e6
    split at e6
    · cases e6; exact .inl ⟨_, by assumption, p⟩
    · cases e6; exact .inr ⟨_, by assumption, p⟩
    · cases e6
theorem s_bi {f : BF} {t : TA} (h : PE X e (tCB (rK X.K f) (tAs X.K g))) : PE X e (tX X.K fun Γ => (g Γ).bind fun (ds, Γ) => (biD f ds).map fun r => (r, Γ)) := h.imp fun σ H Q ⟨Γ, Hf, r, Γ', R, ef, k⟩ => by
  obtain ⟨⟨ds, Γ1⟩, e1, ef⟩ := bindS ef
  obtain ⟨w, e2, e3⟩ := mapS' ef
  cases e3
  exact ⟨Γ, Hf, ds, _, R, e1, fun vs H1 Hf1 R1 S1 d1 => ⟨Hf1, ds, _, R1.sub, d1, e2, Post.fin R1 S1 k⟩⟩
theorem s_lenv {i : Nat} {y : Str} {p py : Pos} (hN : X.N[i]? = some y) (hv : Vis X.env.scope y) (hd : (y == ("__debug__" : Str)) = false) (hcd : (y == ("__classdict__" : Str)) = false) (hg : Gl X "len") (hm : X.mg "len" = none) :
    PE X (.Call (.Name "len" p) [.Name y py] [] pos) (tX X.K fun Γ => (slotD i Γ).bind fun d => (biD .len [d]).map fun r => (r, Γ)) :=
  (pe_callB call_len_seq hg hm PySem.boot_len (pa_cons (pe_var hN hv hd hcd) pa_nil (star_cons rfl))).imp fun σ H Q ⟨Γ, Hf, r, Γ', R, e, k⟩ => by
    obtain ⟨d, e0, e⟩ := bindS e
    obtain ⟨r', e2, e3⟩ := mapS' e
    cases e3
    obtain ⟨v, hv', h⟩ := slot_read R e0
    refine ⟨v, hv', ?_⟩
    rcases h with h | ⟨a, vs, ds, rfl, rfl, hp, hq⟩
    · cases h with
      | lst h1 q1 => cases e2; exact ⟨_, _, rfl, .inl (.inl (R.sub.rd h1)), k _ _ Hf R .rfl' (by rw [dps_len q1]; exact .int _)⟩
      | tup h1 q1 => cases e2; exact ⟨_, _, rfl, .inr (R.sub.st h1), k _ _ Hf R .rfl' (by rw [dps_len q1]; exact .int _)⟩
      | _ => exact nn e2
    · cases e2
      exact ⟨_, _, rfl, .inl (.inl (.inl hp)), k _ _ Hf R .rfl' (by rw [dps_len hq]; exact .int _)⟩
/-! ### rows of one's own -/
theorem isOo_ref {K : PySem.W.Frag} {σ : L2.St} {Γ : Ga} {Hf H : Hp} {i : Nat} (R : Rel K Hf H σ Γ) (h : isOo i Γ = true) : ∃ rss a as, Γ[i]? = some (.oo rss) ∧ σ[i]? = some (some (.ref a)) ∧ OO K Hf H a as rss := by
  unfold isOo at h
  split at h
  · rename_i rss h1
    obtain ⟨a, as, e, o⟩ := R.oo i rss h1
    exact ⟨rss, a, as, h1, e, o⟩
  · cases h
theorem at_map {α β : Type} (f : α → β) (xs : List α) (i : Int) : atI (xs.map f) i = (atI xs i).map f := by
  unfold atI
  rw [List.length_map]
  cases ixN xs.length i with
  | none => rfl
  | some j => show (xs.map f)[j]? = (xs[j]?).map f; rw [List.getElem?_map]
/-- the row at a place -/
theorem row_ref {K : PySem.W.Frag} {σ : L2.St} {Γ : Ga} {Hf H : Hp} {i : Nat} {x : V} {d : D} {rs : List D} {a : Addr} (R : Rel K Hf H σ Γ) (ha : σ[i]? = some (some (.ref a))) (hx : Dq K Hf x d) (h : rowO i d Γ = some rs) :
    ∃ rss as k j r vs, Γ[i]? = some (.oo rss) ∧ OO K Hf H a as rss ∧ d = .int k ∧ x = .int k ∧ ixN as.length k = some j ∧ as[j]? = some r ∧ rss[j]? = some rs ∧ atI (as.map V.ref) k = some (.ref r) ∧ H r = some (.lst vs) ∧ Hf r = none ∧ Dqs K Hf vs rs := by
  unfold rowO at h
  split at h
  · rename_i rss k h1
    obtain ⟨a', as, e, o⟩ := R.oo i rss h1
    rw [ha] at e; cases e
    cases hx
    have h : (match ixN rss.length k with | some j => rss[j]? | none => none) = some rs := by
      unfold atI at h
      cases q : ixN rss.length k with
      | none => rw [q] at h; cases h
      | some j => rw [q] at h; exact h
    cases q : ixN rss.length k with
    | none => rw [q] at h; cases h
    | some j =>
      rw [q] at h
      obtain ⟨r, vs, e1, e2, e3, e4⟩ := o.rows.get (i := j) h
      refine ⟨rss, as, k, j, r, vs, h1, o, rfl, rfl, by rw [o.rows.len]; exact q, e1, h, ?_, e3, e2, e4⟩
      rw [at_map]
      unfold atI
      rw [o.rows.len, q]
      show (as[j]?).map V.ref = _
      rw [e1]; rfl
  · cases h
theorem s_ixo {i : Nat} {x : Str} {p pos1 : Pos} (hN : X.N[i]? = some x) (hv : Vis X.env.scope x) (hd : (x == ("__debug__" : Str)) = false) (hcd : (x == ("__classdict__" : Str)) = false) (ha : PE X a (tX X.K fa)) (hb : PE X b (tX X.K fb)) (hs1 : PlainIx a) (hs : PlainIx b) :
    PE X (.Subscript (.Subscript (.Name x p) a pos1) b pos) (tX X.K fun Γ => if isOo i Γ then (fa Γ).bind fun (x, Γ) => (rowO i x.d Γ).bind fun _ => (fb Γ).bind fun (y, Γ) => (getO i x.d y.d Γ).map fun r => (.fz r, Γ) else none) :=
  (pe_ix ix_list (pe_ix ix_list (pe_var hN hv hd hcd) (pe_fast ha) hs1) (pe_fast hb) hs).imp fun σ H Q ⟨Γ, Hf, r, Γ', R, e, k⟩ => by
    simp only at e
    cases h0 : isOo i Γ with
    | false => rw [h0] at e; cases e
    | true =>
      rw [h0, if_pos rfl] at e
      obtain ⟨⟨rx, Γ1⟩, e1, e⟩ := bindS e
      obtain ⟨rs, e2, e⟩ := bindS e
      obtain ⟨⟨ry, Γ2⟩, e3, e⟩ := bindS e
      obtain ⟨r', e4, e5⟩ := mapS' e
      cases e5
      obtain ⟨_, A, _, _, hA, _⟩ := isOo_ref R h0
      refine ⟨_, hA, Γ, Hf, rx, Γ1, R, e1, fun vx H1 Hf1 R1 S1 d1 => ?_⟩
      obtain ⟨rss, as, kk, j, r, vs, g1, o, gd, rfl, g2, g3, g4, g5, g6, g7, g8⟩ := row_ref R1 hA d1 e2
      refine ⟨A, _, kk, .ref r, rfl, rfl, .inl (.inl o.at_), g5, Γ1, Hf1, ry, _, R1, e3, fun vy H2 Hf2 R2 S2 d2 => ?_⟩
      unfold getO at e4
      split at e4
      · rename_i rss2 k2 j2 q1 q2 q3
        obtain ⟨t1, t2, t3⟩ := S2.oos i rss2 A q1 hA
        rw [g1] at t1; cases t1
        obtain ⟨A', as2, t4, o2⟩ := R2.oo i rss q1
        rw [hA] at t4; cases t4
        have t5 := o2.at_
        rw [t3, o.at_] at t5
        injection t5 with t5
        injection t5 with t5
        obtain rfl := map_ref_inj t5
        rw [gd] at q2; cases q2
        obtain ⟨rs2, u1, u2⟩ := bindS e4
        have u3 : rss[j]? = some rs2 := by
          unfold atI at u1
          rw [← o.rows.len, g2] at u1
          exact u1
        rw [g4] at u3; cases u3
        obtain ⟨r2, vs2, w1, w2, w3, w4⟩ := o2.rows.get g4
        rw [g3] at w1; cases w1
        rw [q3] at d2; cases d2
        obtain ⟨u, u4, u5⟩ := at_dq w4 u2
        exact ⟨r, vs2, j2, u, rfl, rfl, .inl (.inl w3), u4, k u H2 Hf2 R2 (S1.tr S2) u5⟩
      · cases e4
end
end EvL

set_option Elab.async false
set_option linter.all false
set_option maxRecDepth 100000
set_option maxHeartbeats 4000000
namespace EvL
open PySem PySem.Spec PyProof.Rows L2

/-! ### calls of the table's defs -/
theorem evs_app : ∀ (es fs : List IE) (Γ : Ga), evs (es ++ fs) Γ = (evs es Γ).bind fun (ds, Γ) => (evs fs Γ).map fun (xs, Γ) => (ds ++ xs, Γ)
  | [], fs, Γ => by simp [evs]
  | e :: es, fs, Γ => by
    rw [List.cons_append, evs, evs]
    cases evX e Γ with
    | none => rfl
    | some p =>
      obtain ⟨x, Γ1⟩ := p
      simp only [Option.bind_some]
      rw [evs_app es fs Γ1]
      cases evs es Γ1 with
      | none => rfl
      | some q =>
        obtain ⟨ds, Γ2⟩ := q
        simp only [Option.map_some, Option.bind_some]
        cases evs fs Γ2 with
        | none => rfl
        | some q => rfl
theorem evs_len : ∀ {es : List IE} {Γ Γ' : Ga} {ds : List D}, evs es Γ = some (ds, Γ') → ds.length = es.length
  | [], _, _, _, h => by rw [evs] at h; cases h; rfl
  | e :: es, Γ, Γ', ds, h => by
    rw [evs] at h
    obtain ⟨⟨x, Γ1⟩, _, h⟩ := bindS h
    obtain ⟨⟨xs, Γ2⟩, h2, h3⟩ := mapS' h
    cases h3
    simp [evs_len h2]
theorem arr_id {α : Type} (z : α) (dfs : List α) : ∀ (xs : List α), arr z ((List.range xs.length).map Sum.inl) dfs xs = xs := fun xs => by
  unfold arr
  rw [List.map_map]
  refine List.ext_getElem (by simp) fun i h1 h2 => ?_
  simp at h1
  simp [h1]
section
variable {X : Cx} {k : Nat} {E : FnE} {e : Expr} {es : List Expr} {kws : List Keyword} {p pos : Pos} {fa : FX} {g1 g2 : FA}
theorem spD_f {K : PySem.W.Frag} {f : FnD} {vs : List V} {ds : List D} {Hf H : Hp} {Q : VK} {r : RV} {c : List D} (hmt : f.mt = false) (sub : Ext Hf H) (e : f.run ds = some (r, c)) (h : Dqs K Hf vs ds) (p : Post K Hf H r Q) : spD K f vs H Q E0 := by
  refine ⟨Hf, ds, r, c, sub, e, ?_⟩
  rw [hmt]
  exact ⟨h, p⟩
theorem s_call (C : FnAt X.prog X.w X.K X.mg X.base k E) (hr : Room (k + 40) X.A) (hgd : X.A.guards = some []) (hg : Gl X E.name) (hdb : (E.name == ("__debug__" : Str)) = false)
    (hn : es.length = E.np) (hk : kws.map (·.arg) = E.kws.map some) (hu : es.all unstar = true) (ha : PA X es (tAs X.K g1)) (hkw : PK X kws (tAs X.K g2))
    (l1 : ∀ Γ ds Γ', g1 Γ = some (ds, Γ') → ds.length = E.np) (l2 : ∀ Γ ds Γ', g2 Γ = some (ds, Γ') → ds.length = E.kws.length) (h0 : es = [] → g1 = fun Γ => some ([], Γ)) :
    PE X (.Call (.Name E.name p) es kws pos) (tX X.K fun Γ => (g1 Γ).bind fun (ds, Γ) => (g2 Γ).bind fun (xs, Γ) => if E.f.mt then none else (E.f.run (E.pm (ds ++ xs))).map fun (r, _) => (r, Γ)) := by
  have core : ∀ {σ : L2.St} {H : Hp} {Q : VK} {Γ0 Γ Γ' : Ga} {Hf0 Hf H2 : Hp} {r : RV} {vs : List V} {ds : List D} {dvs : List V}, Rel X.K Hf0 H σ Γ0 → Rel X.K Hf H2 σ Γ → EStep σ Γ0 Hf0 H Γ Hf H2 →
      (∀ v H' Hf', Rel X.K Hf' H' σ Γ' → EStep σ Γ0 Hf0 H Γ' Hf' H' → RRel X.K H Hf' H' v r → Q v H') → (∀ H, Dqs X.K H dvs E.dfs) → Dqs X.K Hf vs ds →
      (if E.f.mt then none else (E.f.run (E.pm ds)).map fun (r, _) => (r, Γ)) = some (r, Γ') → spD X.K E.f (arr .non E.ar dvs vs) H2 Q E0 := by
    intro σ H Q Γ0 Γ Γ' Hf0 Hf H2 r vs ds dvs R0 R S k hd d e
    cases hm : E.f.mt with
    | true => rw [hm] at e; cases e
    | false =>
      rw [hm, if_neg Bool.false_ne_true] at e
      obtain ⟨⟨r', c'⟩, e1, e2⟩ := mapS' e
      cases e2
      exact spD_f hm R.sub e1 (dps_arr d (hd Hf) E.ar) (Post.fin R S k)
  by_cases hne : es = []
  · have g0 := h0 hne
    subst hne g0
    refine (pe_callE0 C hr hgd hg hdb hn hk hkw).imp fun σ H Q ⟨Γ, Hf, r, Γ', R, ef, k⟩ dvs hd => ?_
    obtain ⟨⟨ds, Γ1⟩, e1, ef⟩ := bindS ef
    cases e1
    obtain ⟨⟨xs, Γ2⟩, e2, ef⟩ := bindS ef
    refine ⟨Γ, Hf, xs, Γ2, R, e2, fun zs H2 Hf2 R2 S2 d2 => ⟨by rw [dps_len d2]; exact l2 _ _ _ e2, core R R2 S2 k hd (by simpa using d2) ef⟩⟩
  · refine (pe_callE C hr hgd hg hdb hn hk hu hne ha hkw).imp fun σ H Q ⟨Γ, Hf, r, Γ', R, ef, k⟩ dvs hd => ?_
    obtain ⟨⟨ds, Γ1⟩, e1, ef⟩ := bindS ef
    obtain ⟨⟨xs, Γ2⟩, e2, ef⟩ := bindS ef
    refine ⟨Γ, Hf, ds, Γ1, R, e1, fun vs H1 Hf1 R1 S1 d1 => ⟨Γ1, Hf1, xs, Γ2, R1, e2, fun zs H2 Hf2 R2 S2 d2 => ⟨by rw [dps_len d1]; exact l1 _ _ _ e1, by rw [dps_len d2]; exact l2 _ _ _ e2, ?_⟩⟩⟩
    exact core R R2 (S1.tr S2) k hd (dps_app (dpMs S2.ext d1) d2) ef
/-- what a slot's list is behind a call that changed it -/
theorem lent {K : PySem.W.Frag} {σ : L2.St} {Γ : Ga} {Hf H Hf' H' : Hp} {i : Nat} {b : Bool} {c c' : List D} {a : Addr} {ws' : List V} (R : Rel K Hf H σ Γ) (h1 : Γ[i]? = some (.ow b c)) (h2 : σ[i]? = some (some (.ref a)))
    (ext : Ext Hf Hf') (sub : Ext Hf' H') (keep : ∀ x o, x ≠ a → H x = some o → H' x = some o) (newf : ∀ x, Hf' x ≠ none → Hf x ≠ none ∨ H x = none) (ha : H' a = some (.lst ws')) (hf : Hf' a = none) (hd : Dqs K Hf' ws' c') :
    Rel K Hf' H' σ (Γ.set i (.ow b c')) ∧ EStep σ Γ Hf H (Γ.set i (.ow b c')) Hf' H' := by
  have hi : i < Γ.length := (List.getElem?_eq_some_iff.mp h1).1
  have mine : SO σ Γ H i b a := .inl ⟨c, h1, h2⟩
  have nf : ∀ {x : Addr} {o : HO}, Hf x = none → H x = some o → Hf' x = none := fun {x o} e2 e3 => by
    cases z : Hf' x with
    | none => rfl
    | some o =>
      rcases newf x (by rw [z]; simp) with w | w
      · exact absurd e2 w
      · rw [w] at e3; cases e3
  have other : ∀ {j : Nat} {q : Bool} {x : Addr}, j ≠ i → SO σ Γ H j q x → x ≠ a := fun {j q x} hj h z => hj (by subst z; exact R.inj j i q b x h mine)
  have ooH : ∀ {j : Nat} {rss : List (List D)} {x : Addr} {as : List Addr}, j ≠ i → Γ[j]? = some (.oo rss) → σ[j]? = some (some (.ref x)) → OO K Hf H x as rss → ∀ y ∈ x :: as, H' y = H y ∧ Hf' y = none := fun {j rss x as} hj e1 e2 o y hy => by
    obtain ⟨n, vs, e⟩ := o.mem y hy
    exact ⟨(keep y _ (other hj (.oo e1 e2 o hy)) e).trans e.symm, nf n e⟩
  have so : ∀ {j : Nat} {q : Bool} {x : Addr}, SO σ (Γ.set i (.ow b c')) H' j q x → SO σ Γ H j q x := fun {j q x} h => by
    rcases h with ⟨ds, e1, e2⟩ | ⟨rfl, rss, y, as, e1, e2, e3, e4⟩
    · rcases get_set e1 with ⟨rfl, e, _⟩ | ⟨hj, e⟩
      · cases e; exact .inl ⟨c, h1, e2⟩
      · exact .inl ⟨ds, e, e2⟩
    · rcases get_set e1 with ⟨rfl, e, _⟩ | ⟨hj, e⟩
      · cases e
      · obtain ⟨y', as', g, o⟩ := R.oo j rss e
        rw [e2] at g; cases g
        rw [(ooH hj e e2 o y (List.mem_cons_self ..)).1] at e3
        exact .inr ⟨rfl, rss, y, as, e, e2, e3, e4⟩
  have ownAt : ∀ q x, OwnAt σ (Γ.set i (.ow b c')) H' q x → OwnAt σ Γ H q x := fun q x ⟨j, h⟩ => ⟨j, so h⟩
  refine ⟨⟨by rw [List.length_set]; exact R.len, sub, fun j d e => ?_, fun j q ds e => ?_, fun j rss e => ?_, fun j j' q q' x h h' => R.inj j j' q q' x (so h) (so h')⟩,
    ⟨⟨ext, fun x o h n => keep x o (fun z => n b (by subst z; exact ⟨i, mine⟩)) h, fun x h z => ?_, fun x h => (newf x h).elim .inl fun z => .inr (.inl z), fun x h => .inl (ownAt _ _ h), fun x h => ownAt _ _ h, hid_set (fun _ z => nomatch z) fun _ _ => rfl⟩, fun x h => ownAt _ _ h, fun j rss x e g => ?_⟩⟩
  · rcases get_set e with ⟨rfl, e, _⟩ | ⟨hj, e⟩
    · cases e
    · obtain ⟨v, e1, e2⟩ := R.fz j d e
      exact ⟨v, e1, dpM ext e2⟩
  · rcases get_set e with ⟨rfl, e, _⟩ | ⟨hj, e⟩
    · cases e
      exact ⟨a, ws', h2, hf, ha, hd⟩
    · obtain ⟨x, ws, e1, e2, e3, e4⟩ := R.own j q ds e
      exact ⟨x, ws, e1, nf e2 e3, keep x _ (other hj (.inl ⟨ds, e, e1⟩)) e3, dpMs ext e4⟩
  · rcases get_set e with ⟨rfl, e, _⟩ | ⟨hj, e⟩
    · cases e
    · obtain ⟨x, as, e1, o⟩ := R.oo j rss e
      exact ⟨x, as, e1, o.mono ext (fun y hy => (ooH hj e e1 o y hy).2) fun y hy => (ooH hj e e1 o y hy).1⟩
  · by_cases hx : x = a
    · subst hx; rw [ha] at z; cases z
    · cases q : H x with
      | none => exact h q
      | some o => rw [keep x o hx q] at z; cases z
  · rcases get_set e with ⟨rfl, e, _⟩ | ⟨hj, e⟩
    · cases e
    · obtain ⟨y', as', e1, o⟩ := R.oo j rss e
      rw [g] at e1; cases e1
      exact ⟨e, g, (ooH hj e g o x (List.mem_cons_self ..)).1⟩
/-- what lies at an address that no slot owns may change -/
theorem Rel.beside {K : PySem.W.Frag} {σ : L2.St} {Γ : Ga} {Hf H Hf' H' : Hp} {a : Addr} (R : Rel K Hf H σ Γ) (no : ∀ q, ¬ OwnAt σ Γ H q a) (q1 : Ext Hf Hf') (q2 : Ext Hf' H') (q3 : ∀ x o, x ≠ a → H x = some o → H' x = some o) (q4 : ∀ x, Hf' x ≠ none → Hf x ≠ none ∨ H x = none) :
    Rel K Hf' H' σ Γ ∧ (∀ x, OwnAt σ Γ H false x → H' x = H x) ∧ ∀ q x, OwnAt σ Γ H' q x → OwnAt σ Γ H q x := by
  have nf : ∀ {x : Addr} {o : HO}, Hf x = none → H x = some o → Hf' x = none := fun {x o} e2 e3 => by
    cases z : Hf' x with
    | none => rfl
    | some o =>
      rcases q4 x (by rw [z]; simp) with w | w
      · exact absurd e2 w
      · rw [w] at e3; cases e3
  have ne : ∀ {q : Bool} {x : Addr}, OwnAt σ Γ H q x → x ≠ a := fun {q x} h z => no q (z ▸ h)
  have same : ∀ x, OwnAt σ Γ H false x → H' x = H x := fun x h => by
    obtain ⟨_, vs, e⟩ := R.there h
    exact (q3 x _ (ne h) e).trans e.symm
  refine ⟨⟨R.len, q2, fun i d h => let ⟨v, e1, e2⟩ := R.fz i d h; ⟨v, e1, dpM q1 e2⟩, fun i q ds h => ?_, fun i rss h => ?_, fun i j q q' b h h' => R.inj i j q q' b (h.heap R same) (h'.heap R same)⟩, same, fun q x h => h.heap R same⟩
  · obtain ⟨b, us, f1, f2, f3, f4⟩ := R.own i q ds h
    exact ⟨b, us, f1, nf f2 f3, q3 b _ (ne ⟨i, .inl ⟨ds, h, f1⟩⟩) f3, dpMs q1 f4⟩
  · obtain ⟨b, as, f1, o⟩ := R.oo i rss h
    exact ⟨b, as, f1, o.mono q1 (fun y hy => let ⟨n, vs, e⟩ := o.mem y hy; nf n e) fun y hy => same y ⟨i, .oo h f1 o hy⟩⟩
theorem spD_t {K : PySem.W.Frag} {f : FnD} {a : Addr} {vs ws : List V} {c ds c' : List D} {Hf H : Hp} {Q : VK} {r : RV} (hmt : f.mt = true) (sub : Ext Hf H) (e : f.run (.list c :: ds) = some (r, c'))
    (h1 : Hf a = none) (h2 : H a = some (.lst ws)) (h3 : Dqs K Hf ws c) (h4 : Dqs K Hf vs ds)
    (k : ∀ v H' Hf' ws', Ext Hf Hf' → Ext Hf' H' → (∀ b o, b ≠ a → H b = some o → H' b = some o) → (∀ b, Hf' b ≠ none → Hf b ≠ none ∨ H b = none) →
        H' a = some (.lst ws') → Hf' a = none → Dqs K Hf' ws' c' → RRel K H Hf' H' v r → Q v H') : spD K f (.ref a :: vs) H Q E0 := by
  refine ⟨Hf, _, r, c', sub, e, ?_⟩
  rw [hmt]
  exact ⟨a, vs, ws, c, ds, rfl, rfl, h1, h2, h3, h4, k⟩
theorem s_callm {x : Str} {px : Pos} {i : Nat} (C : FnAt X.prog X.w X.K X.mg X.base k E) (hr : Room (k + 40) X.A) (hgd : X.A.guards = some []) (hg : Gl X E.name) (hdb : (E.name == ("__debug__" : Str)) = false)
    (hN : X.N[i]? = some x) (hv : Vis X.env.scope x) (hd : (x == ("__debug__" : Str)) = false) (hcd : (x == ("__classdict__" : Str)) = false)
    (hn : es.length + 1 = E.np) (hk0 : E.kws = []) (har : E.ar = (List.range E.np).map Sum.inl) (hu : es.all unstar = true) (ha : PA X es (tAs X.K g1)) (l1 : ∀ Γ ds Γ', g1 Γ = some (ds, Γ') → ds.length = es.length) :
    PE X (.Call (.Name E.name p) (.Name x px :: es) [] pos) (tX X.K fun Γ => match Γ[i]? with
      | some (.ow _ _) => (g1 Γ).bind fun (ds, Γ) => match Γ[i]? with
        | some (.ow b c) => if E.f.mt then (E.f.run (.list c :: ds)).map fun (r, c') => (r, Γ.set i (.ow b c')) else none
        | _ => none
      | _ => none) := by
  have hA : PA X (.Name x px :: es) (tCons (tVar i) (tAs X.K g1)) := pa_cons (pe_var hN hv hd hcd) ha (star_cons rfl)
  refine (pe_callE (kws := []) C hr hgd hg hdb (by simpa using hn) (by rw [hk0]; rfl) (by simp only [List.all_cons, hu]; rfl) (by simp) hA pk_nil).imp fun σ H Q ⟨Γ, Hf, r, Γ', R, ef, k⟩ dvs hd => ?_
  simp only at ef
  split at ef
  · rename_i b0 c0 h0
    obtain ⟨⟨ds, Γ1⟩, e1, ef⟩ := bindS ef
    simp only at ef
    split at ef
    · rename_i b c h1
      cases hm : E.f.mt with
      | false => rw [hm, if_neg Bool.false_ne_true] at ef; cases ef
      | true =>
        rw [hm, if_pos rfl] at ef
        obtain ⟨⟨r', c'⟩, e2, e3⟩ := mapS' ef
        cases e3
        obtain ⟨a, vs0, s1, _, _, _⟩ := R.own i _ _ h0
        refine ⟨.ref a, s1, Γ, Hf, ds, Γ1, R, e1, fun vs H1 Hf1 R1 S1 d1 => ?_⟩
        obtain ⟨a', ws, s1', s2, s3, s4⟩ := R1.own i _ _ h1
        rw [s1] at s1'; cases s1'
        have hl : (V.ref a :: vs).length = E.np := by rw [List.length_cons, dps_len d1, l1 _ _ _ e1]; exact hn
        refine ⟨hl, by rw [hk0]; rfl, ?_⟩
        rw [List.append_nil, har, ← hl, arr_id]
        refine spD_t hm R1.sub e2 s2 s3 s4 d1 fun v H' Hf' ws' q1 q2 q3 q4 q5 q6 q7 q8 => ?_
        obtain ⟨R2, S2⟩ := lent R1 h1 s1 q1 q2 q3 q4 q5 q6 q7
        exact k v H' Hf' R2 (S1.tr S2) (q8.back S1.dead)
    · cases ef
  · cases ef
theorem s_callt (C : FnAt X.prog X.w X.K X.mg X.base k E) (hr : Room (k + 40) X.A) (hgd : X.A.guards = some []) (hg : Gl X E.name) (hdb : (E.name == ("__debug__" : Str)) = false)
    (hn : 1 = E.np) (hk0 : E.kws = []) (har : E.ar = (List.range E.np).map Sum.inl) (hu : unstar e = true) (ha : PE X e (tX X.K fa)) :
    PE X (.Call (.Name E.name p) [e] [] pos) (tX X.K fun Γ => (fa Γ).bind fun (x, Γ) => match x with
      | .ow c => if E.f.mt then (E.f.run [.list c]).map fun (r, _) => (r, Γ) else none
      | _ => none) := by
  have hA : PA X [e] (tCons (tX X.K fa) tNil) := pa_cons ha pa_nil (star_cons hu)
  refine (pe_callE (kws := []) (es := [e]) C hr hgd hg hdb hn (by rw [hk0]; rfl) (by simp [hu]) (by simp) hA pk_nil).imp fun σ H Q ⟨Γ, Hf, r, Γ', R, ef, k⟩ dvs hd => ?_
  obtain ⟨⟨rx, Γ1⟩, e1, ef⟩ := bindS ef
  refine ⟨Γ, Hf, rx, Γ1, R, e1, fun v H1 Hf1 R1 S1 d1 => ?_⟩
  cases rx with
  | fz d => cases ef
  | oo rss => cases ef
  | ow c =>
    cases hm : E.f.mt with
    | false => simp [hm] at ef
    | true =>
      simp only [hm, if_true] at ef
      obtain ⟨⟨r', c'⟩, e2, e3⟩ := mapS' ef
      cases e3
      obtain ⟨a, ws, rfl, s0, s1, s2, s3⟩ := d1
      refine ⟨hn, by rw [hk0]; rfl, ?_⟩
      rw [List.append_nil, har, ← hn, show (1 : Nat) = [V.ref a].length from rfl, arr_id]
      refine spD_t hm R1.sub e2 s1 s2 s3 .nil fun v H' Hf' ws' q1 q2 q3 q4 q5 q6 q7 q8 => ?_
      have nown : ∀ q, ¬ OwnAt σ Γ' H1 q a := fun q z => by
        cases q with
        | false => exact R.fresh s0 false (S1.shr a z)
        | true => exact R.fresh s0 true (S1.newb a z)
      obtain ⟨R2, same, back⟩ := R1.beside nown q1 q2 q3 q4
      have S2 : EStep σ Γ Hf H Γ' Hf' H' := by
        refine ⟨⟨S1.ext.tr q1, fun b o h n => q3 b o (fun z => by subst z; rw [s0] at h; cases h) (S1.keep b o h n), fun b h z => ?_, fun b h => ?_, fun b h => S1.newo b (back _ _ h), fun b h => S1.newb b (back _ _ h), S1.hid⟩, fun b h => S1.shr b (back _ _ h), fun i rss b h g => ?_⟩
        · by_cases hb : b = a
          · subst hb; exact h s0
          · cases w : H1 b with
            | none => exact S1.live b h w
            | some o => rw [q3 b o hb w] at z; cases z
        · rcases q4 b h with w | w
          · exact S1.newf b w
          · exact .inr (.inl (S1.dead b w))
        · obtain ⟨b', as, e1, o⟩ := R1.oo i rss h
          rw [g] at e1; cases e1
          obtain ⟨h1, g1, e1⟩ := S1.oos i rss b h g
          exact ⟨h1, g1, (same b ⟨i, .oo h g o (List.mem_cons_self ..)⟩).trans e1⟩
      exact k v H' Hf' R2 S2 (q8.back S1.dead)
end
end EvL

set_option Elab.async false
set_option linter.all false
set_option maxRecDepth 100000
set_option maxHeartbeats 4000000
namespace EvL
open PySem PySem.Spec PyProof.Rows L2

/-! ### what is walked -/
structure Wk (K : PySem.W.Frag) (J : It) (Hf : Hp) (xs : List D) : Prop where
  go : ∀ i H, Ext Hf H → i < xs.length → J.go i H
  stop : ∀ i H, Ext Hf H → xs.length ≤ i → J.stop i H
  yld : ∀ i H Hc x H' d, Ext Hf Hc → Ext Hc H → xs[i]? = some d → J.yld i H x H' → ∃ Hc', Grow Hc H Hc' H' ∧ Dq K Hc' x d
section
variable {K : PySem.W.Frag} {Hf : Hp}
theorem wk_list {a : Addr} {vs : List V} {xs : List D} (h : Rd Hf a (.lst vs)) (q : Dqs K Hf vs xs) : Wk K (Itl K a) Hf xs where
  go := fun i H s l => ⟨vs, vs[i]'(by rw [dps_len q]; exact l), .inl (s.rd h), List.getElem?_eq_getElem _⟩
  stop := fun i H s l => ⟨vs, .inl (s.rd h), by rw [dps_len q]; exact l⟩
  yld := fun i H Hc x H' d s1 s2 e ⟨e1, e2⟩ => by
    subst e1
    obtain ⟨v, g1, g2⟩ := dps_get q e
    have := e2 vs (.inl ((s1.tr s2).rd h))
    rw [g1] at this; cases this
    exact ⟨Hc, Grow.same s2, dpM s1 g2⟩
theorem wk_tup {a : Addr} {vs : List V} {xs : List D} (h : SqT K Hf a vs) (q : Dqs K Hf vs xs) : Wk K (Itt K a) Hf xs where
  go := fun i H s l => ⟨vs, vs[i]'(by rw [dps_len q]; exact l), s.st h, List.getElem?_eq_getElem _⟩
  stop := fun i H s l => ⟨vs, s.st h, by rw [dps_len q]; exact l⟩
  yld := fun i H Hc x H' d s1 s2 e ⟨e1, e2⟩ => by
    subst e1
    obtain ⟨v, g1, g2⟩ := dps_get q e
    have := e2 vs ((s1.tr s2).st h)
    rw [g1] at this; cases this
    exact ⟨Hc, Grow.same s2, dpM s1 g2⟩
theorem rngD_get {lo hi : Int} {i : Nat} {d : D} (e : (rngD lo hi)[i]? = some d) : d = .int (lo + i) := by
  unfold rngD at e
  rw [List.getElem?_map] at e
  cases h : (List.range (hi - lo).toNat)[i]? with
  | none => rw [h] at e; cases e
  | some j =>
    rw [h] at e; cases e
    have := List.getElem?_eq_some_iff.mp h
    obtain ⟨_, h2⟩ := this
    rw [List.getElem_range] at h2
    rw [h2]
theorem rngD_len (lo hi : Int) : (rngD lo hi).length = (hi - lo).toNat := by simp [rngD]
theorem wk_rng {lo hi : Int} : Wk K (Itr lo (hi - lo).toNat) Hf (rngD lo hi) where
  go := fun i H s l => by rw [rngD_len] at l; exact l
  stop := fun i H s l => by rw [rngD_len] at l; exact l
  yld := fun i H Hc x H' d s1 s2 e ⟨e1, e2⟩ => by
    subst e1 e2
    rw [rngD_get e]
    exact ⟨Hc, Grow.same s2, .int _⟩
theorem rng3_get {lo st : Int} {n i : Nat} {d : D} (e : ((List.range n).map fun (k : Nat) => PyData.int (lo + (k : Int) * st))[i]? = some d) : d = .int (lo + (i : Int) * st) := by
  rw [List.getElem?_map] at e
  cases h : (List.range n)[i]? with
  | none => rw [h] at e; cases e
  | some j =>
    rw [h] at e; cases e
    obtain ⟨_, h2⟩ := List.getElem?_eq_some_iff.mp h
    rw [List.getElem_range] at h2
    rw [h2]
theorem wk_rng3 {lo st : Int} {n : Nat} : Wk K (Itc lo st n) Hf ((List.range n).map fun (k : Nat) => PyData.int (lo + (k : Int) * st)) where
  go := fun i H s l => by show i < n; simpa using l
  stop := fun i H s l => by show n ≤ i; simpa using l
  yld := fun i H Hc x H' d s1 s2 e ⟨e1, e2⟩ => by
    subst e1 e2
    rw [rng3_get e]
    exact ⟨Hc, Grow.same s2, .int _⟩
theorem wk_rev {a : Addr} {vs : List V} {xs : List D} (h : Rd Hf a (.lst vs)) (q : Dqs K Hf vs xs) : Wk K (Itv K a vs.length) Hf xs.reverse where
  go := fun i H s l => by
    have l' : i < vs.length := by rw [dps_len q]; simpa using l
    exact ⟨l', vs, vs[vs.length - 1 - i]'(by omega), .inl (s.rd h), List.getElem?_eq_getElem _⟩
  stop := fun i H s l => by show vs.length ≤ i; rw [dps_len q]; simpa using l
  yld := fun i H Hc x H' d s1 s2 e ⟨e1, e2⟩ => by
    subst e1
    have l : i < xs.length := by simpa using (List.getElem?_eq_some_iff.mp e).1
    rw [List.getElem?_reverse l] at e
    obtain ⟨v, g1, g2⟩ := dps_get q e
    have := e2 vs (.inl ((s1.tr s2).rd h))
    rw [dps_len q] at this
    rw [g1] at this; cases this
    exact ⟨Hc, Grow.same s2, dpM s1 g2⟩
theorem wk_revT {a : Addr} {vs : List V} {xs : List D} (h : SqT K Hf a vs) (q : Dqs K Hf vs xs) : Wk K (RT.ItvT K a vs.length) Hf xs.reverse where
  go := fun i H s l => by
    have l' : i < vs.length := by rw [dps_len q]; simpa using l
    exact ⟨l', vs, vs[vs.length - 1 - i]'(by omega), s.st h, List.getElem?_eq_getElem _⟩
  stop := fun i H s l => by show vs.length ≤ i; rw [dps_len q]; simpa using l
  yld := fun i H Hc x H' d s1 s2 e ⟨e1, e2⟩ => by
    subst e1
    have l : i < xs.length := by simpa using (List.getElem?_eq_some_iff.mp e).1
    rw [List.getElem?_reverse l] at e
    obtain ⟨v, g1, g2⟩ := dps_get q e
    have := e2 vs ((s1.tr s2).st h)
    rw [dps_len q] at this
    rw [g1] at this; cases this
    exact ⟨Hc, Grow.same s2, dpM s1 g2⟩
end
def tI (K : PySem.W.Frag) (k : IK) (g : FA) : TI := fun σ H R => ∃ Γ Hf ds Γ' xs, Rel K Hf H σ Γ ∧ g Γ = some (ds, Γ') ∧ itD k ds = some xs ∧
  ∀ J H' Hf', Rel K Hf' H' σ Γ' → EStep σ Γ Hf H Γ' Hf' H' → Wk K J Hf' xs → R J H'
theorem nl {α : Type} {xs : List α} {P : Prop} (e : (none : Option (List α)) = some xs) : P := nomatch e
section
variable {X : Cx} {tg e e2 e3 : Expr} {fa : FX} {p pos : Pos} {g : FA}
/-- one argument's value, as a list of one -/
theorem i_seq (ha : PE X e (tX X.K fa)) : PI X tg e (tI X.K .seq fun Γ => (fa Γ).bind fun (x, Γ) => some ([x.d], Γ)) :=
  ⟨fun pins s σ H R I ⟨Γ, Hf, ds, Γ', xs, R0, eg, ei, k⟩ => by
    obtain ⟨⟨rx, Γ1⟩, e1, eg⟩ := bindS eg
    cases eg
    have e0 : seqD rx.d = some xs := ei
    cases hd : rx.d with
    | list ys =>
      rw [hd] at e0; cases e0
      exact (pi_list (pe_fast ha)).run pins s σ H R I ⟨Γ, Hf, rx, _, R0, e1, fun v H1 Hf1 R1 S1 d1 => by
        rw [hd] at d1
        cases d1 with
        | lst h q => exact ⟨_, rfl, ⟨_, .inl (R1.sub.rd h)⟩, k _ _ Hf1 R1 S1 (wk_list h q)⟩⟩
    | tuple ys =>
      rw [hd] at e0; cases e0
      exact (pi_tup (pe_fast ha)).run pins s σ H R I ⟨Γ, Hf, rx, _, R0, e1, fun v H1 Hf1 R1 S1 d1 => by
        rw [hd] at d1
        cases d1 with
        | tup h q => exact ⟨_, rfl, ⟨_, R1.sub.st h⟩, k _ _ Hf1 R1 S1 (wk_tup h q)⟩⟩
    | _ => rw [hd] at e0; exact nl e0⟩
theorem smallI_62 {j : Int} (h : smallI j = true) : -(2 ^ 62) ≤ j ∧ j < 2 ^ 62 := by
  simp only [smallI, Bool.and_eq_true, decide_eq_true_eq] at h
  omega
theorem i_rng1 (hg : Gl X "range") (hm : X.mg "range" = none) (ha : PA X [e] (tAs X.K g)) (hu : unstar e = true) : PI X tg (.Call (.Name "range" p) [e] [] pos) (tI X.K .rng1 g) :=
  ⟨fun pins s σ H R I ⟨Γ, Hf, ds, Γ', xs, R0, eg, ei, k⟩ => by
    refine (pi_range1 hg hm ha (star_cons hu)).run pins s σ H R I ⟨Γ, Hf, ds, Γ', R0, eg, fun vs H1 Hf1 R1 S1 d1 => ?_⟩
    unfold itD at ei
    split at ei
    all_goals (try (cases ‹IK.rng1 = _›))
    · rename_i j
      split at ei
      · rename_i hj
        cases ei
        obtain ⟨x, rfl, hx⟩ := ds1 d1
        cases hx
        obtain ⟨q1, q2⟩ := smallI_62 hj
        refine ⟨j, rfl, q1, q2, k _ _ Hf1 R1 S1 ?_⟩
        have := wk_rng (K := X.K) (Hf := Hf1) (lo := 0) (hi := j)
        rwa [Int.sub_zero] at this
      · exact nl ei
    · exact nl ei⟩
theorem ifL {c : Prop} [Decidable c] {a r : List D} (e : (if c then some a else none) = some r) : c ∧ a = r := by
  split at e
  · cases e; exact ⟨by assumption, rfl⟩
  · cases e
theorem it_ints {k : IK} {n : Nat} {ds xs : List D} (hk : (k = .rng1 ∧ n = 1) ∨ (k = .rng2 ∧ n = 2) ∨ (k = .rng3 ∧ n = 3)) (e : itD k ds = some xs) : ∃ ns : List Int, ds = ns.map PyData.int ∧ ns.length = n := by
  rcases hk with ⟨rfl, rfl⟩ | ⟨rfl, rfl⟩ | ⟨rfl, rfl⟩
  · cases ds with
    | nil => exact nl e
    | cons d ds => cases ds with
      | nil => cases d <;> first | exact ⟨[_], rfl, rfl⟩ | exact nl e
      | cons => cases d <;> exact nl e
  · cases ds with
    | nil => exact nl e
    | cons d ds => cases ds with
      | nil => cases d <;> exact nl e
      | cons d2 ds => cases ds with
        | nil => cases d <;> cases d2 <;> first | exact ⟨[_, _], rfl, rfl⟩ | exact nl e
        | cons => cases d <;> first | exact nl e | (cases d2 <;> exact nl e)
  · cases ds with
    | nil => exact nl e
    | cons d ds => cases ds with
      | nil => cases d <;> exact nl e
      | cons d2 ds => cases ds with
        | nil => cases d <;> first | exact nl e | (cases d2 <;> exact nl e)
        | cons d3 ds => cases ds with
          | nil => cases d <;> cases d2 <;> cases d3 <;> first | exact ⟨[_, _, _], rfl, rfl⟩ | exact nl e
          | cons => cases d <;> first | exact nl e | (cases d2 <;> first | exact nl e | (cases d3 <;> exact nl e))
theorem i_rng2 (hg : Gl X "range") (hm : X.mg "range" = none) (ha : PA X [e, e2] (tAs X.K g)) (hu : unstar e = true) (hu2 : unstar e2 = true) : PI X tg (.Call (.Name "range" p) [e, e2] [] pos) (tI X.K .rng2 g) :=
  ⟨fun pins s σ H R I ⟨Γ, Hf, ds, Γ', xs, R0, eg, ei, k⟩ => by
    have s2 : starEach [e2] X.env = [(false, eval e2 X.env)] := star_cons hu2
    refine (pi_range2 hg hm ha (by rw [star_cons hu, s2]) s2).run pins s σ H R I ⟨Γ, Hf, ds, Γ', R0, eg, fun vs H1 Hf1 R1 S1 d1 => ?_⟩
    obtain ⟨ns, rfl, hl⟩ := it_ints (.inr (.inl ⟨rfl, rfl⟩)) ei
    match ns, hl with
    | [i, j], _ =>
      obtain ⟨hj, rfl⟩ := ifL ei
      obtain ⟨x, y, rfl, hx, hy⟩ := ds2 d1
      cases hx; cases hy
      obtain ⟨h1, h2⟩ := Bool.and_eq_true_iff.mp hj
      obtain ⟨q1, q2⟩ := smallI_62 h1
      obtain ⟨q3, q4⟩ := smallI_62 h2
      exact ⟨i, j, rfl, ⟨q1, q2, q3, q4⟩, k _ _ Hf1 R1 S1 wk_rng⟩⟩
theorem i_rng3 (hg : Gl X "range") (hm : X.mg "range" = none) (ha : PA X [e, e2, e3] (tAs X.K g)) (hu : unstar e = true) (hu2 : [e2, e3].all unstar = true) : PI X tg (.Call (.Name "range" p) [e, e2, e3] [] pos) (tI X.K .rng3 g) :=
  ⟨fun pins s σ H R I ⟨Γ, Hf, ds, Γ', xs, R0, eg, ei, k⟩ => by
    refine (pi_range3 hg hm ha (star_cons hu) (star_plain hu2)).run pins s σ H R I ⟨Γ, Hf, ds, Γ', R0, eg, fun vs H1 Hf1 R1 S1 d1 => ?_⟩
    obtain ⟨ns, rfl, hl⟩ := it_ints (.inr (.inr ⟨rfl, rfl⟩)) ei
    match ns, hl with
    | [i, j, st], _ =>
      obtain ⟨hj, rfl⟩ := ifL ei
      cases d1 with
      | cons hx d1 =>
        obtain ⟨y, z, rfl, hy, hz⟩ := ds2 d1
        cases hx; cases hy; cases hz
        simp only [Bool.and_eq_true, decide_eq_true_eq] at hj
        obtain ⟨⟨⟨⟨h1, h2⟩, h3⟩, h4⟩, h5⟩ := hj
        have h6 : 0 ≤ Builtin.Range.rangeSize i j st := by
          unfold Builtin.Range.rangeSize
          split
          · split
            · have : 0 ≤ (j - i - 1) / st := Int.ediv_nonneg (by omega) (by omega)
              omega
            · omega
          · split
            · have : 0 ≤ (i - j - 1) / (-st) := Int.ediv_nonneg (by omega) (by omega)
              omega
            · omega
        refine ⟨i, j, st, (Builtin.Range.rangeSize i j st).toNat, rfl, ⟨h4, ?_, h5, (Int.toNat_of_nonneg h6).symm⟩, k _ _ Hf1 R1 S1 wk_rng3⟩
        simp only [smallI, Bool.and_eq_true, decide_eq_true_eq] at h3
        omega⟩
theorem i_rev (hg : Gl X "reversed") (hm : X.mg "reversed" = none) (ha : PE X e (tX X.K fa)) (hu : unstar e = true) : PI X tg (.Call (.Name "reversed" p) [e] [] pos) (tI X.K .rev fun Γ => (fa Γ).bind fun (x, Γ) => some ([x.d], Γ)) :=
  ⟨fun pins s σ H R I ⟨Γ, Hf, ds, Γ', xs, R0, eg, ei, k⟩ => by
    obtain ⟨⟨rx, Γ1⟩, e1, eg⟩ := bindS eg
    cases eg
    have e0 : (seqD rx.d).map (fun xs => xs.reverse) = some xs := ei
    refine (RT.pi_revA hg hm (pe_fast ha) (star_cons hu)).run pins s σ H R I ⟨Γ, Hf, rx, _, R0, e1, fun v H1 Hf1 R1 S1 d1 => ?_⟩
    cases hd : rx.d with
    | list ys =>
      rw [hd] at e0 d1; cases e0
      cases d1 with
      | lst h q => exact ⟨_, _, rfl, .inl ⟨.inl (R1.sub.rd h), k _ _ Hf1 R1 S1 (wk_rev h q)⟩⟩
    | tuple ys =>
      rw [hd] at e0 d1; cases e0
      cases d1 with
      | tup h q => exact ⟨_, _, rfl, .inr ⟨R1.sub.st h, k _ _ Hf1 R1 S1 (wk_revT h q)⟩⟩
    | _ => rw [hd] at e0; exact nl e0⟩
end
end EvL

set_option Elab.async false
set_option linter.all false
set_option maxRecDepth 100000
set_option maxHeartbeats 4000000
namespace EvL
open PySem PySem.Spec PyProof.Rows L2

/-! ### targets -/
/-- as EStep, the slots may turn -/
structure XStep (σ : L2.St) (Γ : Ga) (Hf H : Hp) (σ' : L2.St) (Γ' : Ga) (Hf' H' : Hp) : Prop extends Step σ Γ Hf H σ' Γ' Hf' H' where
  shr : ∀ b, OwnAt σ' Γ' H' false b → OwnAt σ Γ H false b
  oos : ∀ (i : Nat) (rss : List (List D)) (a : Addr), Γ'[i]? = some (.oo rss) → σ'[i]? = some (some (.ref a)) → Γ[i]? = some (.oo rss) ∧ σ[i]? = some (some (.ref a)) ∧ H' a = H a
section
variable {K : PySem.W.Frag} {σ σ1 σ2 : L2.St} {Γ Γ1 Γ2 : Ga} {Hf H Hf1 H1 Hf2 H2 : Hp}
theorem XStep.rfl' : XStep σ Γ Hf H σ Γ Hf H := ⟨.rfl', fun _ h => h, fun _ _ _ h g => ⟨h, g, rfl⟩⟩
theorem XStep.tr (a : XStep σ Γ Hf H σ1 Γ1 Hf1 H1) (b : XStep σ1 Γ1 Hf1 H1 σ2 Γ2 Hf2 H2) : XStep σ Γ Hf H σ2 Γ2 Hf2 H2 := ⟨a.toStep.tr b.toStep, fun x h => a.shr x (b.shr x h),
  fun i rss x h g => let ⟨h1, g1, e1⟩ := b.oos i rss x h g; let ⟨h2, g2, e2⟩ := a.oos i rss x h1 g1; ⟨h2, g2, e1.trans e2⟩⟩
theorem EStep.x (a : EStep σ Γ Hf H Γ1 Hf1 H1) : XStep σ Γ Hf H σ Γ1 Hf1 H1 := ⟨a.toStep, a.shr, a.oos⟩
theorem XStep.e (a : XStep σ Γ Hf H σ Γ1 Hf1 H1) : EStep σ Γ Hf H Γ1 Hf1 H1 := ⟨a.toStep, a.shr, a.oos⟩
/-- slots set, nothing owned there behind -/
theorem so_put {i j : Nat} {v : V} {m : MV} {q : Bool} {b : Addr} (hm : NoOwn m) (h : SO (σ.set i (some v)) (Γ.set i m) H j q b) : j ≠ i ∧ SO σ Γ H j q b := by
  have sne : ∀ {j : Nat}, j ≠ i → (σ.set i (some v))[j]? = σ[j]? := fun {j} hj => by rw [List.getElem?_set, if_neg (fun z => hj z.symm)]
  rcases h with ⟨ds, h1, h2⟩ | ⟨rfl, rss, a, as, h1, h2, h3, h4⟩
  · rcases get_set h1 with ⟨_, e, _⟩ | ⟨hj, e⟩
    · subst e; exact hm.elim
    · rw [sne hj] at h2; exact ⟨hj, .inl ⟨ds, e, h2⟩⟩
  · rcases get_set h1 with ⟨_, e, _⟩ | ⟨hj, e⟩
    · subst e; exact hm.elim
    · rw [sne hj] at h2; exact ⟨hj, .inr ⟨rfl, rss, a, as, e, h2, h3, h4⟩⟩
/-- a value stored -/
theorem Rel.put {i : Nat} {v : V} {d : D} (R : Rel K Hf H σ Γ) (h : Dq K Hf v d) (hi : i < Γ.length) : Rel K Hf H (σ.set i (some v)) (Γ.set i (.fz d)) ∧ XStep σ Γ Hf H (σ.set i (some v)) (Γ.set i (.fz d)) Hf H := by
  have hs : i < σ.length := by rw [← R.len]; exact hi
  have sne : ∀ {j : Nat}, j ≠ i → (σ.set i (some v))[j]? = σ[j]? := fun {j} hj => by rw [List.getElem?_set, if_neg (fun z => hj z.symm)]
  have nm : NoOwn (.fz d) := trivial
  have ownAt : ∀ q x, OwnAt (σ.set i (some v)) (Γ.set i (.fz d)) H q x → OwnAt σ Γ H q x := fun q x ⟨j, h⟩ => ⟨j, (so_put nm h).2⟩
  refine ⟨⟨by simp [R.len], R.sub, fun j d' e => ?_, fun j q ds e => ?_, fun j rss e => ?_, fun j j' q q' b h h' => R.inj j j' q q' b (so_put nm h).2 (so_put nm h').2⟩,
    ⟨⟨Ext.rfl', fun _ _ h _ => h, fun _ h => h, fun _ h => .inl h, fun b h => .inl (ownAt _ _ h), fun b h => ownAt _ _ h, hid_set (fun _ z => nomatch z) fun j hj => sne hj⟩, fun b h => ownAt _ _ h, fun j rss a e g => ?_⟩⟩
  · rcases get_set e with ⟨rfl, e, _⟩ | ⟨hj, e⟩
    · cases e
      exact ⟨v, by rw [List.getElem?_set, if_pos rfl, if_pos hs], h⟩
    · rw [sne hj]
      exact R.fz j d' e
  · rcases get_set e with ⟨rfl, e, _⟩ | ⟨hj, e⟩
    · cases e
    · rw [sne hj]
      exact R.own j q ds e
  · rcases get_set e with ⟨rfl, e, _⟩ | ⟨hj, e⟩
    · cases e
    · rw [sne hj]
      exact R.oo j rss e
  · rcases get_set e with ⟨rfl, e, _⟩ | ⟨hj, e⟩
    · cases e
    · rw [sne hj] at g
      exact ⟨e, g, rfl⟩
end
mutual
def tgIx : Tg → List Nat
  | .nm i => [i]
  | .tp ts => tgsIx ts
def tgsIx : List Tg → List Nat
  | [] => []
  | t :: ts => tgIx t ++ tgsIx ts
end
def tG (K : PySem.W.Frag) (t : Tg) : TG := fun v σ H Q => ∃ Γ Hf d Γ', Rel K Hf H σ Γ ∧ Dq K Hf v d ∧ asg t d Γ = some Γ' ∧
  ∀ σ', Rel K Hf H σ' Γ' → XStep σ Γ Hf H σ' Γ' Hf H → (∀ j, j ∉ tgIx t → σ'[j]? = σ[j]?) → σ'.length = σ.length → Q σ' H
def tGs (K : PySem.W.Frag) (ts : List Tg) : TGs := fun vs σ H Q => ∃ Γ Hf ds Γ', Rel K Hf H σ Γ ∧ Dqs K Hf vs ds ∧ asgs ts ds Γ = some Γ' ∧
  ∀ σ', Rel K Hf H σ' Γ' → XStep σ Γ Hf H σ' Γ' Hf H → (∀ j, j ∉ tgsIx ts → σ'[j]? = σ[j]?) → σ'.length = σ.length → Q σ' H
theorem ng {Γ : Ga} {P : Prop} (e : (none : Option Ga) = some Γ) : P := nomatch e
section
variable {X : Cx} {e : Expr} {es : List Expr} {pos : Pos}
theorem PG_imp {t t' : TG} (h : PG X e t) (k : ∀ v σ H Q, t' v σ H Q → t v σ H Q) : PG X e t' := ⟨fun pins s σ H v u Q I r q => h.run pins s σ H v u Q I r (k v σ H Q q)⟩
theorem PGs_imp {t t' : TGs} (h : PGs X es t) (k : ∀ vs σ H Q, t' vs σ H Q → t vs σ H Q) : PGs X es t' := ⟨fun pins s σ H vs us Q I r q => h.run pins s σ H vs us Q I r (k vs σ H Q q)⟩
theorem g_nm {i : Nat} {x : Str} (hN : X.N.Nodup) (hi : X.N[i]? = some x) (hx : Loc X.env.scope x) (hf : X.fn x = true ∨ X.env.scope.names.lookup x = some .local) : PG X (.Name x pos) (tG X.K (.nm i)) :=
  PG_imp (pg_name hN hi hx hf) fun v σ H Q ⟨Γ, Hf, d, Γ', R, h, e, k⟩ => by
    unfold asg at e
    split at e
    · rename_i hl
      cases e
      obtain ⟨R', S'⟩ := R.put h hl
      refine k _ R' S' (fun j hj => ?_) (by simp)
      have : i ≠ j := fun z => hj (by subst z; simp [tgIx])
      rw [List.getElem?_set, if_neg this]
    · exact ng e
theorem g_nil : PGs X [] (tGs X.K []) := PGs_imp pgs_nil fun vs σ H Q ⟨Γ, Hf, ds, Γ', R, h, e, k⟩ => by
  cases ds with
  | nil =>
    cases h
    cases (show some Γ = some Γ' from e)
    exact ⟨rfl, k σ R .rfl' (fun _ _ => rfl) rfl⟩
  | cons => exact ng e
theorem asg_cons {env : Env} (h : unstar e = true) : assignEach (e :: es) env = (false, assign e env) :: assignEach es env := by
  cases e <;> first | rfl | (cases h; done)
theorem asg_len {env : Env} : ∀ {es : List Expr}, es.all unstar = true → (assignEach es env).length = es.length ∧ (assignEach es env).findIdx? (·.1) = none
  | [], _ => ⟨rfl, rfl⟩
  | e :: es, h => by
    simp only [List.all_cons, Bool.and_eq_true] at h
    obtain ⟨a, b⟩ := asg_len (env := env) h.2
    rw [asg_cons h.1]
    exact ⟨by simp [a], by rw [List.findIdx?_cons]; simp [b]⟩
theorem g_cons {t : Tg} {ts : List Tg} (h1 : PG X e (tG X.K t)) (h2 : PGs X es (tGs X.K ts)) (hu : unstar e = true) : PGs X (e :: es) (tGs X.K (t :: ts)) :=
  PGs_imp (pgs_cons h1 h2 (by rw [asg_cons hu]; rfl)) fun vs σ H Q ⟨Γ, Hf, ds, Γ', R, h, e, k⟩ => by
    cases ds with
    | nil => exact ng e
    | cons d ds =>
      cases h with
      | cons hv hs =>
        obtain ⟨Γ1, e1, e2⟩ := bindS (show (asg t d Γ).bind (fun Γ => asgs ts ds Γ) = some Γ' from e)
        refine ⟨_, _, rfl, Γ, Hf, d, Γ1, R, hv, e1, fun σ' R' S' f' l' => ⟨Γ1, Hf, ds, Γ', R', hs, e2, fun σ2 R2 S2 f2 l2 => k σ2 R2 (S'.tr S2) (fun j hj => ?_) (l2.trans l')⟩⟩
        rw [tgsIx, List.mem_append, not_or] at hj
        rw [f2 j hj.2, f' j hj.1]
theorem asgs_len : ∀ {ts : List Tg} {ds : List D} {Γ Γ' : Ga}, asgs ts ds Γ = some Γ' → ds.length = ts.length
  | [], [], _, _, _ => rfl
  | [], _ :: _, _, _, e => ng e
  | _ :: _, [], _, _, e => ng e
  | t :: ts, d :: ds, Γ, Γ', e => by
    obtain ⟨Γ1, _, e2⟩ := bindS (show (asg t d Γ).bind (fun Γ => asgs ts ds Γ) = some Γ' from e)
    simp [asgs_len e2]
theorem g_tp {k : Nat} {ts : List Tg} (hc : X.calm = true) (hl : es.length = ts.length) (hu : es.all unstar = true) (h : PGs X es (tGs X.K ts)) : PG X (.Tuple es k pos) (tG X.K (.tp ts)) :=
  ⟨fun pins s σ H v u Q I r ⟨Γ, Hf, d, Γ', R, hv, e, kk⟩ => by
    cases hv with
    | tup hs hq =>
      have e : asgs ts _ Γ = some Γ' := e
      exact (pg_tup hc h (asg_len hu).1 (asg_len hu).2).run pins s σ H _ u Q I r ⟨_, _, rfl, R.sub.st hs, by rw [dps_len hq, asgs_len e, hl], Γ, Hf, _, Γ', R, hq, e, kk⟩
    | lst hs hq =>
      have e : asgs ts _ Γ = some Γ' := e
      exact (pg_lst hc h (asg_len hu).1 (asg_len hu).2).run pins s σ H _ u Q I r ⟨_, _, rfl, .inl (R.sub.rd hs), by rw [dps_len hq, asgs_len e, hl], Γ, Hf, _, Γ', R, hq, e, kk⟩
    | _ => exact ng e⟩
end
end EvL

set_option Elab.async false
set_option linter.all false
set_option maxRecDepth 100000
set_option maxHeartbeats 4000000
namespace EvL
open PySem PySem.Spec PyProof.Rows L2

/-! ### comprehensions -/
theorem wipe_at {σ : L2.St} {i : Nat} : ∀ {vs : List Nat}, i ∈ vs → i < σ.length → (wipe σ vs)[i]? = some none
  | [], h, _ => by cases h
  | v :: vs, h, hl => by
    unfold wipe
    by_cases hv : v = i
    · subst hv
      rw [List.getElem?_set, if_pos rfl, if_pos (by rw [wipe_length]; exact hl)]
    · rw [List.getElem?_set, if_neg hv]
      exact wipe_at ((List.mem_cons.mp h).resolve_left fun z => hv z.symm) hl
theorem wipeG_len (Γ : Ga) : ∀ vs : List Nat, (wipeG Γ vs).length = Γ.length
  | [] => rfl
  | v :: vs => by unfold wipeG; rw [List.length_set, wipeG_len Γ vs]
theorem wipeG_out {Γ : Ga} {i : Nat} : ∀ {vs : List Nat}, i ∉ vs → (wipeG Γ vs)[i]? = Γ[i]?
  | [], _ => rfl
  | v :: vs, h => by
    rw [List.mem_cons, not_or] at h
    unfold wipeG
    rw [List.getElem?_set, if_neg (fun z => h.1 z.symm)]
    exact wipeG_out h.2
theorem wipeG_at {Γ : Ga} {i : Nat} {m : MV} : ∀ {vs : List Nat}, i ∈ vs → (wipeG Γ vs)[i]? = some m → m = .un
  | [], h, _ => by cases h
  | v :: vs, h, e => by
    unfold wipeG at e
    by_cases hv : v = i
    · subst hv
      rw [List.getElem?_set, if_pos rfl] at e
      split at e
      · cases e; rfl
      · cases e
    · rw [List.getElem?_set, if_neg hv] at e
      exact wipeG_at ((List.mem_cons.mp h).resolve_left fun z => hv z.symm) e
theorem backG_len (Γ0 Γ : Ga) : ∀ vs : List Nat, (backG Γ0 Γ vs).length = Γ.length
  | [] => rfl
  | v :: vs => by unfold backG; rw [List.length_set, backG_len Γ0 Γ vs]
theorem backG_out {Γ0 Γ : Ga} {i : Nat} : ∀ {vs : List Nat}, i ∉ vs → (backG Γ0 Γ vs)[i]? = Γ[i]?
  | [], _ => rfl
  | v :: vs, h => by
    rw [List.mem_cons, not_or] at h
    unfold backG
    rw [List.getElem?_set, if_neg (fun z => h.1 z.symm)]
    exact backG_out h.2
theorem backG_at {Γ0 Γ : Ga} {i : Nat} {m : MV} : ∀ {vs : List Nat}, i ∈ vs → (backG Γ0 Γ vs)[i]? = some m → m = .un ∨ ∃ d, m = .fz d ∧ Γ0[i]? = some (.fz d)
  | [], h, _ => by cases h
  | v :: vs, h, e => by
    unfold backG at e
    by_cases hv : v = i
    · subst hv
      rw [List.getElem?_set, if_pos rfl] at e
      split at e
      · have e := Option.some.inj e
        subst e
        split
        · rename_i d h0; exact .inr ⟨d, rfl, h0⟩
        · exact .inl rfl
      · cases e
    · rw [List.getElem?_set, if_neg hv] at e
      exact backG_at ((List.mem_cons.mp h).resolve_left fun z => hv z.symm) e
section
variable {K : PySem.W.Frag} {σ σ' : L2.St} {Γ Γ1 Γ5 : Ga} {Hf H Hf1 H1 : Hp} {vs : List Nat}
theorem so_wipe {i : Nat} {q : Bool} {b : Addr} (h : SO (wipe σ vs) (wipeG Γ vs) H i q b) : i ∉ vs ∧ SO σ Γ H i q b := by
  by_cases hi : i ∈ vs
  · rcases h with ⟨ds, h1, h2⟩ | ⟨rfl, rss, a, as, h1, h2, h3, h4⟩
    · cases wipeG_at hi h1
    · cases wipeG_at hi h1
  · refine ⟨hi, ?_⟩
    unfold SO at h
    rw [wipeG_out hi, wipe_out hi] at h
    exact h
theorem own_wipe {q : Bool} {b : Addr} (h : OwnAt (wipe σ vs) (wipeG Γ vs) H q b) : OwnAt σ Γ H q b := let ⟨i, h⟩ := h; ⟨i, (so_wipe h).2⟩
theorem Rel.wipe (R : Rel K Hf H σ Γ) : Rel K Hf H (wipe σ vs) (wipeG Γ vs) where
  len := by rw [wipeG_len, wipe_length]; exact R.len
  sub := R.sub
  fz := fun i d h => by
    by_cases hi : i ∈ vs
    · cases wipeG_at hi h
    · rw [wipeG_out hi] at h
      rw [wipe_out hi]
      exact R.fz i d h
  own := fun i q ds h => by
    by_cases hi : i ∈ vs
    · cases wipeG_at hi h
    · rw [wipeG_out hi] at h
      rw [wipe_out hi]
      exact R.own i q ds h
  oo := fun i rss h => by
    by_cases hi : i ∈ vs
    · cases wipeG_at hi h
    · rw [wipeG_out hi] at h
      rw [wipe_out hi]
      exact R.oo i rss h
  inj := fun i j q q' b h h' => R.inj i j q q' b (so_wipe h).2 (so_wipe h').2
theorem xwipe : XStep σ Γ Hf H (L2.wipe σ vs) (wipeG Γ vs) Hf H :=
  ⟨⟨Ext.rfl', fun _ _ h _ => h, fun _ h => h, fun _ h => .inl h, fun b h => .inl (own_wipe h), fun b h => own_wipe h, fun i ds h => by
    by_cases hi : i ∈ vs
    · cases wipeG_at hi h
    · rw [wipeG_out hi] at h
      exact ⟨h, wipe_out hi⟩⟩, fun b h => own_wipe h, fun i rss a h g => by
    by_cases hi : i ∈ vs
    · cases wipeG_at hi h
    · rw [wipeG_out hi] at h
      rw [wipe_out hi] at g
      exact ⟨h, g, rfl⟩⟩
/-- behind the loop: σ again -/
theorem so_back {i : Nat} {q : Bool} {b : Addr} (h : SO σ (backG Γ1 Γ5 vs) H i q b) : i ∉ vs ∧ SO (L2.wipe σ vs) (wipeG Γ5 vs) H i q b := by
  by_cases hi : i ∈ vs
  · rcases h with ⟨ds, h1, h2⟩ | ⟨rfl, rss, a, as, h1, h2, h3, h4⟩
    · rcases backG_at hi h1 with z | ⟨d', z, h0⟩ <;> cases z
    · rcases backG_at hi h1 with z | ⟨d', z, h0⟩ <;> cases z
  · refine ⟨hi, ?_⟩
    unfold SO at h ⊢
    rw [wipeG_out hi, wipe_out hi]
    rw [backG_out hi] at h
    exact h
theorem Rel.back (R1 : Rel K Hf1 H1 σ Γ1) (R : Rel K Hf H (L2.wipe σ vs) (wipeG Γ5 vs)) (ext : Ext Hf1 Hf) : Rel K Hf H σ (backG Γ1 Γ5 vs) where
  len := by rw [backG_len]; have := R.len; rw [wipeG_len, wipe_length] at this; exact this
  sub := R.sub
  fz := fun i d h => by
    by_cases hi : i ∈ vs
    · rcases backG_at hi h with z | ⟨d', z, h0⟩
      · cases z
      · cases z
        obtain ⟨v, e1, e2⟩ := R1.fz i d h0
        exact ⟨v, e1, dpM ext e2⟩
    · rw [backG_out hi] at h
      have := R.fz i d (by rw [wipeG_out hi]; exact h)
      rwa [wipe_out hi] at this
  own := fun i q ds h => by
    by_cases hi : i ∈ vs
    · rcases backG_at hi h with z | ⟨d', z, h0⟩ <;> cases z
    · rw [backG_out hi] at h
      have := R.own i q ds (by rw [wipeG_out hi]; exact h)
      rwa [wipe_out hi] at this
  oo := fun i rss h => by
    by_cases hi : i ∈ vs
    · rcases backG_at hi h with z | ⟨d', z, h0⟩ <;> cases z
    · rw [backG_out hi] at h
      have := R.oo i rss (by rw [wipeG_out hi]; exact h)
      rwa [wipe_out hi] at this
  inj := fun i j q q' b h h' => R.inj i j q q' b (so_back h).2 (so_back h').2
theorem own_back {q : Bool} {b : Addr} (h : OwnAt σ (backG Γ1 Γ5 vs) H q b) : OwnAt (L2.wipe σ vs) (wipeG Γ5 vs) H q b := let ⟨i, h⟩ := h; ⟨i, (so_back h).2⟩
theorem xback : XStep (L2.wipe σ vs) (wipeG Γ5 vs) Hf H σ (backG Γ1 Γ5 vs) Hf H :=
  ⟨⟨Ext.rfl', fun _ _ h _ => h, fun _ h => h, fun _ h => .inl h, fun b h => .inl (own_back h), fun b h => own_back h, fun i ds h => by
    by_cases hi : i ∈ vs
    · rcases backG_at hi h with z | ⟨d', z, h0⟩ <;> cases z
    · rw [backG_out hi] at h
      exact ⟨by rw [wipeG_out hi]; exact h, (wipe_out hi).symm⟩⟩, fun b h => own_back h, fun i rss a h g => by
    by_cases hi : i ∈ vs
    · rcases backG_at hi h with z | ⟨d', z, h0⟩ <;> cases z
    · rw [backG_out hi] at h
      exact ⟨by rw [wipeG_out hi]; exact h, by rw [wipe_out hi]; exact g, rfl⟩⟩
end
end EvL

set_option Elab.async false
set_option linter.all false
set_option maxRecDepth 100000
set_option maxHeartbeats 4000000
namespace EvL
open PySem PySem.Spec PyProof.Rows L2

def lcF (tg : Tg) (vs : List Nat) (fIf : Ga → Option (Bool × Ga)) (fE : FX) : D → Ga → Option (Option D × Ga) := fun x Γ =>
  (asg tg x (wipeG Γ vs)).bind fun Γ2 => (fIf Γ2).bind fun (c, Γ3) => if c then (fE Γ3).map fun (y, Γ4) => (some y.d, Γ4) else some (none, Γ3)
def lcX (k : IK) (gI : FA) (tg : Tg) (vs : List Nat) (fIf : Ga → Option (Bool × Ga)) (fE : FX) : FX := fun Γ => (gI Γ).bind fun (ds, Γ1) => (itD k ds).bind fun xs =>
  if xs.length ≤ lim then (lcLoop (lcF tg vs fIf fE) xs (wipeG Γ1 vs)).map fun (ys, Γ5) => (.ow ys, backG Γ1 Γ5 vs) else none
theorem wipe_wipe (σ : L2.St) (vs : List Nat) : wipe (wipe σ vs) vs = wipe σ vs := by
  refine List.ext_getElem? fun i => ?_
  by_cases hi : i ∈ vs
  · by_cases hl : i < σ.length
    · rw [wipe_at hi (by rw [wipe_length]; exact hl), wipe_at hi hl]
    · rw [List.getElem?_eq_none (by rw [wipe_length, wipe_length]; omega), List.getElem?_eq_none (by rw [wipe_length]; omega)]
  · rw [wipe_out hi]
theorem wipe_same {σ σ' : L2.St} {vs : List Nat} (h : ∀ j, j ∉ vs → σ'[j]? = σ[j]?) (hl : σ'.length = σ.length) : wipe σ' vs = wipe σ vs := by
  refine List.ext_getElem? fun i => ?_
  by_cases hi : i ∈ vs
  · by_cases hl' : i < σ.length
    · rw [wipe_at hi (by rw [hl]; exact hl'), wipe_at hi hl']
    · rw [List.getElem?_eq_none (by rw [wipe_length]; omega), List.getElem?_eq_none (by rw [wipe_length]; omega)]
  · rw [wipe_out hi, wipe_out hi, h i hi]
theorem wipeG_wipeG (Γ : Ga) (vs : List Nat) : wipeG (wipeG Γ vs) vs = wipeG Γ vs := by
  have at_ : ∀ {Γ : Ga} {vs : List Nat} {i : Nat}, i ∈ vs → i < Γ.length → (wipeG Γ vs)[i]? = some .un := fun {Γ vs i} h hl => by
    have h1 : i < (wipeG Γ vs).length := by rw [wipeG_len]; exact hl
    have h2 := List.getElem?_eq_getElem h1
    rw [h2, wipeG_at h h2]
  refine List.ext_getElem? fun i => ?_
  by_cases hi : i ∈ vs
  · by_cases hl : i < Γ.length
    · rw [at_ hi (by rw [wipeG_len]; exact hl), at_ hi hl]
    · rw [List.getElem?_eq_none (by rw [wipeG_len, wipeG_len]; omega), List.getElem?_eq_none (by rw [wipeG_len]; omega)]
  · rw [wipeG_out hi]
/-- a temporary list beside everything grows -/
theorem temp_set {K : PySem.W.Frag} {σ0 σ : L2.St} {Γ0 Γ : Ga} {Hf0 H0 Hf H : Hp} {p : Addr} {ws : List V} (R : Rel K Hf H σ Γ) (S : XStep σ0 Γ0 Hf0 H0 σ Γ Hf H) (R0 : Rel K Hf0 H0 σ0 Γ0) (h0 : H0 p = none) (hf : Hf p = none) :
    Rel K Hf (upd H p (.lst ws)) σ Γ ∧ XStep σ0 Γ0 Hf0 H0 σ Γ Hf (upd H p (.lst ws)) := by
  have no : ∀ q, ¬ OwnAt σ Γ H q p := fun q z => by
    cases q with
    | false => exact R0.fresh h0 false (S.shr p z)
    | true => exact R0.fresh h0 true (S.newb p z)
  obtain ⟨R2, same, back⟩ := R.beside (H' := upd H p (.lst ws)) no Ext.rfl' (R.sub.upd hf) (fun x o hx e => by rw [upd_ne hx]; exact e) (fun x h => .inl h)
  refine ⟨R2, ⟨⟨S.ext, fun b o h n => ?_, fun b h => ?_, S.newf, fun b h => S.newo b (back _ _ h), fun b h => S.newb b (back _ _ h), S.hid⟩, fun b h => S.shr b (back _ _ h), fun i rss a h g => ?_⟩⟩
  · have : b ≠ p := fun z => by subst z; rw [h0] at h; cases h
    rw [upd_ne this]; exact S.keep b o h n
  · by_cases hb : b = p
    · subst hb; rw [upd_same]; simp
    · rw [upd_ne hb]; exact S.live b h
  · obtain ⟨a', as, e1, o⟩ := R.oo i rss h
    rw [g] at e1; cases e1
    obtain ⟨h1, g1, e1⟩ := S.oos i rss a h g
    exact ⟨h1, g1, (same a ⟨i, .oo h g o (List.mem_cons_self ..)⟩).trans e1⟩
theorem temp_keep {K : PySem.W.Frag} {σ0 σ σ' : L2.St} {Γ0 Γ Γ' : Ga} {Hf0 H0 Hf H Hf' H' : Hp} {p : Addr} {ws : List V} (S : XStep σ0 Γ0 Hf0 H0 σ Γ Hf H) (R0 : Rel K Hf0 H0 σ0 Γ0) (h0 : H0 p = none) (hf : Hf p = none) (hp : H p = some (.lst ws))
    (T : XStep σ Γ Hf H σ' Γ' Hf' H') : H' p = some (.lst ws) ∧ Hf' p = none := by
  have no : ∀ q, ¬ OwnAt σ Γ H q p := fun q z => by
    cases q with
    | false => exact R0.fresh h0 false (S.shr p z)
    | true => exact R0.fresh h0 true (S.newb p z)
  refine ⟨T.keep p _ hp no, ?_⟩
  cases q : Hf' p with
  | none => rfl
  | some o =>
    rcases T.newf p (by rw [q]; simp) with z | z | z
    · exact absurd hf z
    · rw [hp] at z; cases z
    · exact absurd z (no false)
theorem lc_read {K : PySem.W.Frag} {k : IK} {gI : FA} {tg : Tg} {fIf : Ga → Option (Bool × Ga)} {fE : FX} {vs : List Nat} (hvs : ∀ j ∈ tgIx tg, j ∈ vs) {σ : L2.St} {H : Hp} {Q : VK}
    (h : tX K (lcX k gI tg vs fIf fE) σ H Q) : tLc (tI K k gI) (tG K tg) (tT K fIf) (tE K fE) vs σ H Q := by
  obtain ⟨Γ, Hf, r, Γ', R, ef, kk⟩ := h
  obtain ⟨⟨ds, Γ1⟩, e1, ef⟩ := bindS ef
  obtain ⟨xs, e2, ef⟩ := bindS ef
  have hlim : xs.length ≤ lim := by
    by_cases hl : xs.length ≤ lim
    · exact hl
    · simp only [hl, if_false] at ef; cases ef
  simp only [hlim, if_true] at ef
  obtain ⟨⟨ys, Γ5⟩, e3, e4⟩ := mapS' ef
  cases e4
  refine ⟨Γ, Hf, ds, Γ1, xs, R, e1, e2, fun J H1 Hf1 R1 S1 wk D hD => ?_⟩
  have hD0 : H D = none := S1.dead D hD
  have Rw : Rel K Hf1 H1 (wipe σ vs) (wipeG Γ1 vs) := R1.wipe
  have hDf : Hf1 D = none := R1.sub.none hD
  refine ⟨fun i m Hi => m = xs.length - i ∧ i ≤ xs.length ∧ ∃ Γi Hfi acc da rest, Rel K Hfi Hi (wipe σ vs) (wipeG Γi vs) ∧ XStep (wipe σ vs) (wipeG Γ1 vs) Hf1 H1 (wipe σ vs) (wipeG Γi vs) Hfi Hi ∧
      Hi D = some (.lst acc) ∧ Hfi D = none ∧ Dqs K Hfi acc da ∧ acc.length ≤ i ∧ lcLoop (lcF tg vs fIf fE) (xs.drop i) Γi = some (rest, Γ5) ∧ ys = da ++ rest, ⟨xs.length, by simp, Nat.zero_le _, ?_⟩, ?_⟩
  · obtain ⟨Ra, Sa⟩ := temp_set (ws := []) Rw .rfl' Rw hD hDf
    exact ⟨wipeG Γ1 vs, Hf1, [], [], ys, by rw [wipeG_wipeG]; exact Ra, by rw [wipeG_wipeG]; exact Sa, upd_same, hDf, .nil, Nat.le_refl _, e3, rfl⟩
  · rintro i m Hi ⟨rfl, hi, Γi, Hfi, acc, da, rest, Ri, Si, d1, d2, d3, d4, el, ey⟩
    by_cases hlt : i < xs.length
    · refine .inr ⟨wk.go i Hi (Si.ext.tr Ri.sub) hlt, fun Hn => ∃ m', m' < xs.length - i ∧ (m' = xs.length - (i + 1) ∧ i + 1 ≤ xs.length ∧ ∃ Γi Hfi acc da rest, Rel K Hfi Hn (wipe σ vs) (wipeG Γi vs) ∧ XStep (wipe σ vs) (wipeG Γ1 vs) Hf1 H1 (wipe σ vs) (wipeG Γi vs) Hfi Hn ∧
        Hn D = some (.lst acc) ∧ Hfi D = none ∧ Dqs K Hfi acc da ∧ acc.length ≤ i + 1 ∧ lcLoop (lcF tg vs fIf fE) (xs.drop (i + 1)) Γi = some (rest, Γ5) ∧ ys = da ++ rest), fun Hn h => h, fun x Hy hy => ?_⟩
      have hx : xs[i]? = some xs[i] := List.getElem?_eq_getElem hlt
      obtain ⟨Hfy, gy, dx⟩ := wk.yld i Hi Hfi x Hy _ Si.ext Ri.sub hx hy
      have Ry := gy.rel Ri
      have Sy : XStep (wipe σ vs) (wipeG Γ1 vs) Hf1 H1 (wipe σ vs) (wipeG Γi vs) Hfy Hy := Si.tr (gy.step Ri).x
      have dy1 : Hy D = some (.lst acc) := gy.keep _ _ d1
      have dy2 : Hfy D = none := by
        cases q : Hfy D with
        | none => rfl
        | some o =>
          rcases gy.newf D (by rw [q]; simp) with z | z
          · exact absurd d2 z
          · rw [d1] at z; cases z
      rw [List.drop_eq_getElem_cons hlt] at el
      obtain ⟨⟨o, Γ4⟩, el1, el⟩ := bindS (show (lcF tg vs fIf fE xs[i] Γi).bind (fun (o, Γ1) => (lcLoop (lcF tg vs fIf fE) (xs.drop (i + 1)) Γ1).map fun (ys, Γ2) => (match o with | some y => y :: ys | none => ys, Γ2)) = some (rest, Γ5) from el)
      obtain ⟨⟨ys', Γ5'⟩, el2, el3⟩ := mapS' el
      obtain ⟨Γ2, t1, el1⟩ := bindS el1
      obtain ⟨⟨c, Γ3⟩, t2, el1⟩ := bindS el1
      refine ⟨wipeG Γi vs, Hfy, xs[i], Γ2, Ry, dx, t1, fun σ2 R2 S2 f2 l2 => ?_⟩
      have hw : wipe σ2 vs = wipe σ vs := by
        rw [wipe_same (σ := wipe σ vs) (σ' := σ2) (fun j hj => f2 j fun z => hj (hvs j z)) l2, wipe_wipe]
      refine ⟨hw, Γ2, Hfy, c, Γ3, R2, t2, fun H3 Hf3 R3 S3 => ?_⟩
      have S03 := (Sy.tr S2).tr S3.x
      obtain ⟨k1, k2⟩ := temp_keep Sy Rw hD dy2 dy1 (S2.tr S3.x)
      have acc3 := dpMs (gy.ext.tr S3.ext) d3
      cases c with
      | true =>
        refine iteT ?_
        obtain ⟨⟨y, Γ4'⟩, t3, t4⟩ := mapS' (show (fE Γ3).map (fun (y, Γ4) => (some y.d, Γ4)) = some (o, Γ4) from el1)
        cases t4
        refine ⟨Γ3, Hf3, y, _, R3, t3, fun v H4 Hf4 R4 S4 d => ?_⟩
        obtain ⟨j1, j2⟩ := temp_keep S03 Rw hD k2 k1 S4.x
        have S04 : XStep (wipe σ vs) (wipeG Γ1 vs) Hf1 H1 (wipe σ vs) (wipeG Γ4 vs) Hf4 H4 := by
          have := (S03.tr S4.x).tr (xwipe (vs := vs))
          rwa [hw] at this
        have R4' : Rel K Hf4 H4 (wipe σ vs) (wipeG Γ4 vs) := by
          have := R4.wipe (vs := vs)
          rwa [hw] at this
        obtain ⟨R5, S5⟩ := temp_set (ws := acc ++ [v]) R4' S04 Rw hD j2
        have hz : acc.length < sizeLine := Nat.lt_of_lt_of_le (Nat.lt_of_le_of_lt d4 hlt) (Nat.le_trans hlim lim_le)
        refine ⟨acc, j1, hz, xs.length - (i + 1), by omega, rfl, hlt, Γ4, Hf4, acc ++ [v], da ++ [y.d], ys', R5, S5, upd_same, j2, dps_app (dpMs S4.ext acc3) (.cons d .nil), by simp; omega, ?_, ?_⟩
        · cases el3; exact el2
        · cases el3; rw [ey]; simp
      | false =>
        refine iteF ?_
        cases (show some ((none : Option PyData), Γ3) = some (o, Γ4) from el1)
        have S04 : XStep (wipe σ vs) (wipeG Γ1 vs) Hf1 H1 (wipe σ vs) (wipeG Γ4 vs) Hf3 H3 := by
          have := S03.tr (xwipe (vs := vs))
          rwa [hw] at this
        have R4' : Rel K Hf3 H3 (wipe σ vs) (wipeG Γ4 vs) := by
          have := R3.wipe (vs := vs)
          rwa [hw] at this
        refine ⟨xs.length - (i + 1), by omega, rfl, hlt, Γ4, Hf3, acc, da, ys', R4', S04, k1, k2, acc3, by omega, ?_, ?_⟩
        · cases el3; exact el2
        · cases el3; exact ey
    · have hie : i = xs.length := by omega
      subst hie
      rw [List.drop_length] at el
      cases (show some (([] : List PyData), Γi) = some (rest, Γ5) from el)
      refine .inl ⟨wk.stop _ Hi (Si.ext.tr Ri.sub) (Nat.le_refl _), ?_⟩
      have R6 : Rel K Hfi Hi σ (backG Γ1 Γ5 vs) := R1.back Ri Si.ext
      have S6 : EStep σ Γ1 Hf1 H1 (backG Γ1 Γ5 vs) Hfi Hi := (((xwipe (vs := vs) (σ := σ) (Γ := Γ1) (Hf := Hf1) (H := H1)).tr Si).tr (xback (Γ1 := Γ1))).e
      refine kk _ Hi Hfi R6 (S1.tr S6) ⟨D, acc, rfl, hD0, d2, d1, ?_⟩
      rw [ey, List.append_nil]
      exact d3
/-! ### comprehensions whose parts are lists of one's own -/
def lcFO (tg : Tg) (vs : List Nat) (fE : FX) : D → Ga → Option (List D × Ga) := fun x Γ =>
  (asg tg x (wipeG Γ vs)).bind fun Γ2 => (fE Γ2).bind fun (y, Γ4) => y.own.map fun ds => (ds, Γ4)
def lcXO (k : IK) (gI : FA) (tg : Tg) (vs : List Nat) (fE : FX) : FX := fun Γ => (gI Γ).bind fun (ds, Γ1) => (itD k ds).bind fun xs =>
  if xs.length ≤ lim then (lcLoopO (lcFO tg vs fE) xs (wipeG Γ1 vs)).map fun (ys, Γ5) => (.oo ys, backG Γ1 Γ5 vs) else none
theorem rows_keep {K : PySem.W.Frag} {σ0 σ σ' : L2.St} {Γ0 Γ Γ' : Ga} {Hf0 H0 Hf H Hf' H' : Hp} (S : XStep σ0 Γ0 Hf0 H0 σ Γ Hf H) (R0 : Rel K Hf0 H0 σ0 Γ0) (T : XStep σ Γ Hf H σ' Γ' Hf' H') :
    ∀ {ps : List Addr} {da : List (List D)}, (∀ b ∈ ps, H0 b = none) → Rows K Hf H ps da → Rows K Hf' H' ps da
  | _, _, _, .nil => .nil
  | _, _, h, .cons a b c t => by
    obtain ⟨e1, e2⟩ := temp_keep S R0 (h _ (List.mem_cons_self ..)) a b T
    exact .cons e2 e1 (dpMs T.ext c) (rows_keep S R0 T (fun x hx => h x (List.mem_cons_of_mem _ hx)) t)
theorem Rows.app {K : PySem.W.Frag} {Hf H : Hp} : ∀ {ps qs : List Addr} {da db : List (List D)}, Rows K Hf H ps da → Rows K Hf H qs db → Rows K Hf H (ps ++ qs) (da ++ db)
  | _, _, _, _, .nil, q => q
  | _, _, _, _, .cons a b c t, q => .cons a b c (Rows.app t q)
theorem own_some {r : RV} {ds : List D} (h : r.own = some ds) : r = .ow ds := by
  cases r with
  | ow es => cases h; rfl
  | _ => cases h
theorem lc_readO {K : PySem.W.Frag} {k : IK} {gI : FA} {tg : Tg} {fE : FX} {vs : List Nat} (hvs : ∀ j ∈ tgIx tg, j ∈ vs) {σ : L2.St} {H : Hp} {Q : VK}
    (h : tX K (lcXO k gI tg vs fE) σ H Q) : tLc (tI K k gI) (tG K tg) (tT K fun Γ => some (true, Γ)) (tX K fE) vs σ H Q := by
  obtain ⟨Γ, Hf, r, Γ', R, ef, kk⟩ := h
  obtain ⟨⟨ds, Γ1⟩, e1, ef⟩ := bindS ef
  obtain ⟨xs, e2, ef⟩ := bindS ef
  have hlim : xs.length ≤ lim := by
    by_cases hl : xs.length ≤ lim
    · exact hl
    · simp only [hl, if_false] at ef; cases ef
  simp only [hlim, if_true] at ef
  obtain ⟨⟨ys, Γ5⟩, e3, e4⟩ := mapS' ef
  cases e4
  refine ⟨Γ, Hf, ds, Γ1, xs, R, e1, e2, fun J H1 Hf1 R1 S1 wk D hD => ?_⟩
  have hD0 : H D = none := S1.dead D hD
  have Rw : Rel K Hf1 H1 (wipe σ vs) (wipeG Γ1 vs) := R1.wipe
  have hDf : Hf1 D = none := R1.sub.none hD
  refine ⟨fun i m Hi => m = xs.length - i ∧ i ≤ xs.length ∧ ∃ Γi Hfi ps da rest, Rel K Hfi Hi (wipe σ vs) (wipeG Γi vs) ∧ XStep (wipe σ vs) (wipeG Γ1 vs) Hf1 H1 (wipe σ vs) (wipeG Γi vs) Hfi Hi ∧
      Hi D = some (.lst (ps.map .ref)) ∧ Hfi D = none ∧ Rows K Hfi Hi ps da ∧ (∀ b ∈ ps, H1 b = none) ∧ (D :: ps).Nodup ∧ ps.length ≤ i ∧ lcLoopO (lcFO tg vs fE) (xs.drop i) Γi = some (rest, Γ5) ∧ ys = da ++ rest, ⟨xs.length, by simp, Nat.zero_le _, ?_⟩, ?_⟩
  · obtain ⟨Ra, Sa⟩ := temp_set (ws := []) Rw .rfl' Rw hD hDf
    exact ⟨wipeG Γ1 vs, Hf1, [], [], ys, by rw [wipeG_wipeG]; exact Ra, by rw [wipeG_wipeG]; exact Sa, upd_same, hDf, .nil, (fun _ z => by cases z), by simp, Nat.le_refl _, e3, rfl⟩
  · rintro i m Hi ⟨rfl, hi, Γi, Hfi, ps, da, rest, Ri, Si, d1, d2, d3, dn, nd, d4, el, ey⟩
    by_cases hlt : i < xs.length
    · refine .inr ⟨wk.go i Hi (Si.ext.tr Ri.sub) hlt, fun Hn => ∃ m', m' < xs.length - i ∧ (m' = xs.length - (i + 1) ∧ i + 1 ≤ xs.length ∧ ∃ Γi Hfi ps da rest, Rel K Hfi Hn (wipe σ vs) (wipeG Γi vs) ∧ XStep (wipe σ vs) (wipeG Γ1 vs) Hf1 H1 (wipe σ vs) (wipeG Γi vs) Hfi Hn ∧
        Hn D = some (.lst (ps.map .ref)) ∧ Hfi D = none ∧ Rows K Hfi Hn ps da ∧ (∀ b ∈ ps, H1 b = none) ∧ (D :: ps).Nodup ∧ ps.length ≤ i + 1 ∧ lcLoopO (lcFO tg vs fE) (xs.drop (i + 1)) Γi = some (rest, Γ5) ∧ ys = da ++ rest), fun Hn h => h, fun x Hy hy => ?_⟩
      have hx : xs[i]? = some xs[i] := List.getElem?_eq_getElem hlt
      obtain ⟨Hfy, gy, dx⟩ := wk.yld i Hi Hfi x Hy _ Si.ext Ri.sub hx hy
      have Ry := gy.rel Ri
      have Sy : XStep (wipe σ vs) (wipeG Γ1 vs) Hf1 H1 (wipe σ vs) (wipeG Γi vs) Hfy Hy := Si.tr (gy.step Ri).x
      have dy1 : Hy D = some (.lst (ps.map .ref)) := gy.keep _ _ d1
      have dy2 : Hfy D = none := gy.nf d2 d1
      have dy3 : Rows K Hfy Hy ps da := rows_keep Si Rw (gy.step Ri).x dn d3
      rw [List.drop_eq_getElem_cons hlt] at el
      obtain ⟨⟨o, Γ4⟩, el1, el⟩ := bindS (show (lcFO tg vs fE xs[i] Γi).bind (fun (y, Γ1) => (lcLoopO (lcFO tg vs fE) (xs.drop (i + 1)) Γ1).map fun (ys, Γ2) => (y :: ys, Γ2)) = some (rest, Γ5) from el)
      obtain ⟨⟨ys', Γ5'⟩, el2, el3⟩ := mapS' el
      obtain ⟨Γ2, t1, el1⟩ := bindS el1
      obtain ⟨⟨y, Γ4'⟩, t3, el1⟩ := bindS el1
      obtain ⟨o', t4, t5⟩ := mapS' el1
      have ho := own_some t4
      subst ho
      cases t5
      refine ⟨wipeG Γi vs, Hfy, xs[i], Γ2, Ry, dx, t1, fun σ2 R2 S2 f2 l2 => ?_⟩
      have hw : wipe σ2 vs = wipe σ vs := by
        rw [wipe_same (σ := wipe σ vs) (σ' := σ2) (fun j hj => f2 j fun z => hj (hvs j z)) l2, wipe_wipe]
      refine ⟨hw, Γ2, Hfy, true, Γ2, R2, rfl, fun H3 Hf3 R3 S3 => ?_⟩
      have S03 := (Sy.tr S2).tr S3.x
      obtain ⟨k1, k2⟩ := temp_keep Sy Rw hD dy2 dy1 (S2.tr S3.x)
      have acc3 := rows_keep Sy Rw (S2.tr S3.x) dn dy3
      refine iteT ?_
      refine ⟨Γ2, Hf3, .ow o, _, R3, t3, fun v H4 Hf4 R4 S4 rr => ?_⟩
      obtain ⟨p, ws, rfl, p0, pf, p1, pq⟩ := rr
      obtain ⟨j1, j2⟩ := temp_keep S03 Rw hD k2 k1 S4.x
      have acc4 := rows_keep S03 Rw S4.x dn acc3
      have hpH1 : H1 p = none := S03.dead p p0
      have hpD : p ≠ D := fun z => by subst z; rw [k1] at p0; cases p0
      have hpps : p ∉ ps := fun z => by
        obtain ⟨_, vs', e⟩ := acc3.mem p z
        rw [p0] at e; cases e
      have hDps : D ∉ ps := (List.nodup_cons.mp nd).1
      have hw2 : wipe (wipe σ vs) vs = wipe σ vs := wipe_wipe σ vs
      have S04 : XStep (wipe σ vs) (wipeG Γ1 vs) Hf1 H1 (wipe σ vs) (wipeG Γ4 vs) Hf4 H4 := by
        have := (S03.tr S4.x).tr (xwipe (vs := vs))
        rwa [hw] at this
      have R4' : Rel K Hf4 H4 (wipe σ vs) (wipeG Γ4 vs) := by
        have := R4.wipe (vs := vs)
        rwa [hw] at this
      obtain ⟨R5, S5⟩ := temp_set (ws := (ps ++ [p]).map .ref) R4' S04 Rw hD j2
      have hz : (ps.map V.ref).length < sizeLine := by rw [List.length_map]; exact Nat.lt_of_lt_of_le (Nat.lt_of_le_of_lt d4 hlt) (Nat.le_trans hlim lim_le)
      refine ⟨ps.map .ref, j1, hz, xs.length - (i + 1), by omega, rfl, hlt, Γ4, Hf4, ps ++ [p], da ++ [o], ys', ?_, ?_, ?_, j2, ?_, ?_, ?_, by simp; omega, ?_, ?_⟩
      · rw [List.map_append] at R5; exact R5
      · rw [List.map_append] at S5; exact S5
      · rw [List.map_append]; exact upd_same
      · refine Rows.mono (Hf := Hf4) (H := H4) Ext.rfl' (fun b hb => ?_) (fun b hb => ?_) (acc4.app (.cons pf p1 pq .nil))
        · rcases List.mem_append.mp hb with hb | hb
          · exact (acc4.mem b hb).1
          · rw [List.mem_singleton.mp hb]; exact pf
        · have hbD : b ≠ D := fun z => by
            subst z
            rcases List.mem_append.mp hb with hb | hb
            · exact hDps hb
            · exact hpD (List.mem_singleton.mp hb).symm
          exact upd_ne hbD
      · intro b hb
        rcases List.mem_append.mp hb with hb | hb
        · exact dn b hb
        · rw [List.mem_singleton.mp hb]; exact hpH1
      · refine List.nodup_cons.mpr ⟨fun z => ?_, List.nodup_append.mpr ⟨(List.nodup_cons.mp nd).2, by simp, fun a ha b hb z => ?_⟩⟩
        · rcases List.mem_append.mp z with z | z
          · exact hDps z
          · exact hpD (List.mem_singleton.mp z).symm
        · rw [List.mem_singleton.mp hb] at z
          subst z; exact hpps ha
      · cases el3; exact el2
      · cases el3; rw [ey]; simp
    · have hie : i = xs.length := by omega
      subst hie
      rw [List.drop_length] at el
      cases (show some (([] : List (List PyData)), Γi) = some (rest, Γ5) from el)
      refine .inl ⟨wk.stop _ Hi (Si.ext.tr Ri.sub) (Nat.le_refl _), ?_⟩
      have R6 : Rel K Hfi Hi σ (backG Γ1 Γ5 vs) := R1.back Ri Si.ext
      have S6 : EStep σ Γ1 Hf1 H1 (backG Γ1 Γ5 vs) Hfi Hi := (((xwipe (vs := vs) (σ := σ) (Γ := Γ1) (Hf := Hf1) (H := H1)).tr Si).tr (xback (Γ1 := Γ1))).e
      refine kk _ Hi Hfi R6 (S1.tr S6) ⟨D, ps, rfl, fun b hb => ?_, ⟨d2, d1, nd, ?_⟩⟩
      · rcases List.mem_cons.mp hb with rfl | hb
        · exact hD0
        · exact S1.dead b (dn b hb)
      · rw [ey, List.append_nil]; exact d3
end EvL

set_option Elab.async false
set_option linter.all false
set_option maxRecDepth 100000
set_option maxHeartbeats 8000000
namespace EvL
open PySem PySem.Spec PyProof.Rows L2

/-! ### from the model's syntax to the small language -/
structure Cc extends Ctx where
  fnC : List Str
  oo : List Str := []
  fo : List Str := []
def okName (x : Str) : Bool := !(x == ("__debug__" : Str)) && !(x == ("__classdict__" : Str)) && decide (x ≠ "__name__")
def visK (sc : Scope) (x : Str) : Bool := match sc.names.lookup x with
  | some .local => true | some .cell => true | some .free => true | _ => false
def gloK (sc : Scope) (x : Str) : Bool := match sc.names.lookup x with
  | some .globalImplicit => true | _ => false
def locK (c : Cc) (x : Str) : Bool := match c.sc.names.lookup x with
  | some .local => true | some .cell => c.fnC.contains x | _ => false
def ixOf (N : List Str) (x : Str) : Option Nat := (N.findIdx? fun y => decide (y = x))
theorem ixOf_get {N : List Str} {x : Str} {i : Nat} (h : ixOf N x = some i) : N[i]? = some x := by
  unfold ixOf at h
  obtain ⟨hl, h1, _⟩ := List.findIdx?_eq_some_iff_getElem.mp h
  rw [List.getElem?_eq_getElem hl]
  simp only [decide_eq_true_eq] at h1
  rw [h1]
def plainE : Expr → Bool
  | .Starred .. => false | .Slice .. => false | .Set .. => false | _ => true
def lookC (l : List (Str × D)) (x : Str) : Option D := (l.find? fun p => decide (p.1 = x)).map (·.2)
def compL (f : Expr → Option IE) : List Expr → Option (List IE)
  | [] => some []
  | e :: es => (f e).bind fun x => (compL f es).map fun xs => x :: xs
def binOf : Operator → Option BOp
  | .Add => some .add | .Sub => some .sub | .Mult => some .mul | .FloorDiv => some .fdiv | .Mod => some .mod | .Pow => some .pow | _ => none
def cmpOf : CmpOp → Option COp
  | .Eq => some .eq | .NotEq => some .ne | .Lt => some .lt | .LtE => some .le | .Gt => some .gt | .GtE => some .ge | .Is => some .is | .IsNot => some .isn | .In => some .in_ | .NotIn => some .nin
def tyBF (T : Str) : Option BF := if T = "int" then some .isint else if T = "bool" then some .isbool else if T = "tuple" then some .istuple else if T = "list" then some .islist else if T = "str" then some .isstr else none
/-- the built-ins by name: and whether it is a type -/
def biOf (f : Str) (n : Nat) : Option BF :=
  if n = 1 then (if f = "len" then some .len else if f = "abs" then some .abs else if f = "int" then some .int else if f = "repr" then some .repr else if f = "tuple" then some .tuple else if f = "list" then some .list
    else if f = "all" then some .all else if f = "any" then some .any else if f = "sum" then some .sum else none)
  else if n = 2 then (if f = "divmod" then some .divmod else if f = "max" then some .max2 else if f = "min" then some .min2 else none) else none
def mkB : BoolOp → IE → IE → IE
  | .And, x, y => .and x y
  | .Or, x, y => .or x y
def compBool (f : Expr → Option IE) (op : BoolOp) : List Expr → Option IE
  | [] => none
  | [e] => f e
  | e :: es => (f e).bind fun x => (compBool f op es).map fun y => mkB op x y
def lenArg (c : Cc) (x : Str) (es : List Expr) (kws : List Keyword) : Option Nat := if decide (x = "len") && c.bl.contains x && kws.isEmpty then match es with
    | [.Name y _] => if okName y && visK c.sc y then ixOf c.N y else none
    | _ => none
  else none
def isTup : Expr → Bool
  | .Tuple .. => true | _ => false
def compIx (f : Expr → Option IE) (c : Cc) (a b : Expr) : Option IE := match a with
  | .Name x _ => if okName x && visK c.sc x then (ixOf c.N x).bind fun i => (f b).map fun y => .ixv i y else (f a).bind fun x => (f b).map fun y => .ix x y
  | .Subscript (.Name x _) a1 _ => if okName x && visK c.sc x && c.oo.contains x && plainE a1 && !isTup a1 then (ixOf c.N x).bind fun i => (f a1).bind fun y => (f b).map fun z => .ixo i y z else (f a).bind fun x => (f b).map fun y => .ix x y
  | _ => (f a).bind fun x => (f b).map fun y => .ix x y
def compCall (f : Expr → Option IE) (c : Cc) (x : Str) (es : List Expr) (kws : List Keyword) : Option IE :=
  if okName x && gloK c.sc x && es.all unstar then
    if x = "isinstance" then match es, kws with
      | [a, .Name T _], [] => if c.bl.contains x && c.bl.contains T && gloK c.sc T && okName T then (tyBF T).bind fun b => (f a).map fun a' => .bi b [a'] else none
      | _, _ => none
    else if x = "gcd" then (if c.gcd && kws.isEmpty && decide (es.length = 2) then (compL f es).map (.bi .gcd) else none)
    else match lenArg c x es kws with
      | some i => some (.lenv i)
      | none => match biOf x es.length with
      | some b => if c.bl.contains x && kws.isEmpty then (compL f es).map (.bi b) else none
      | none => match c.fns.find? (fun E => decide (E.name = x) && decide (E.np = es.length) && decide (kws.map (·.arg) = E.kws.map some)) with
        | none => none
        | some E =>
          if E.f.mt then
            if decide (E.kws = []) && decide (E.ar = (List.range E.np).map Sum.inl) then match es with
              | [] => none
              | .Name y _ :: rest => if okName y && visK c.sc y then (ixOf c.N y).bind fun i => (compL f rest).map fun r => .callm E.f i r else none
              | [e] => (f e).map fun r => .callt E.f r
              | _ => none
            else none
          else (compL f es).bind fun a => (compL f (kws.map (·.value))).map fun b => .call E.f E.pm (a ++ b)
  else none
def compI (f : Expr → Option IE) (c : Cc) (tg : Expr) (e : Expr) : Option (IK × List IE) :=
  let seq : Option (IK × List IE) := (f e).map fun a => (.seq, [a])
  match e with
  | .Call (.Name x _) es [] _ =>
    if okName x && gloK c.sc x && c.bl.contains x && es.all unstar then
      if x = "range" then match es with
        | [a] => (f a).map fun a => (.rng1, [a])
        | [a, b] => (f a).bind fun a => (f b).map fun b => (.rng2, [a, b])
        | [a, b, d] => (f a).bind fun a => (f b).bind fun b => (f d).map fun d => (.rng3, [a, b, d])
        | _ => none
      else if x = "reversed" then match es with
        | [a] => (f a).map fun a => (.rev, [a])
        | _ => none
      else if x = "enumerate" then match es with
        | [a] => if isTup tg then (f a).map fun a => (.enum, [a]) else none
        | _ => none
      else if x = "zip" then match es with
        | [a, b] => if isTup tg then (f a).bind fun a => (f b).map fun b => (.zip, [a, b]) else none
        | _ => none
      else seq
    else seq
  | _ => seq
def compTs (f : Expr → Option Tg) : List Expr → Option (List Tg)
  | [] => some []
  | e :: es => if unstar e then (f e).bind fun x => (compTs f es).map fun xs => x :: xs else none
def compT : Nat → Cc → Expr → Option Tg
  | 0, _, _ => none
  | _ + 1, c, .Name x _ => if okName x && locK c x then (ixOf c.N x).map .nm else none
  | n + 1, c, .Tuple es _ _ => (compTs (compT n c) es).map .tp
  | _, _, _ => none
def blkCc (c : Cc) (scope : Scope) : Cc := { c with sc := relS scope c.sc, fnC := (scope.names.filter fun y => scope.names.lookup y.1 == some .cell).map (·.1) }
def ownOf (N : List Str) (scope : Scope) : List (Str × Nat) := (scope.names.filter fun y => decide (y.2 = .local) || decide (y.2 = .cell)).filterMap fun y => (ixOf N y.1).map fun i => (y.1, i)
def compE : Nat → Cc → Expr → Option IE
  | 0, _, _ => none
  | n + 1, c, e => if plainE e then match e with
    | .Name x _ => if okName x then (if visK c.sc x then (ixOf c.N x).map .var else if gloK c.sc x then (lookC c.consts x).map .cst else none) else none
    | .Constant (.int i) _ _ => some (.cst (.int i))
    | .Constant (.bool b) _ _ => some (.cst (.bool b))
    | .Constant .none _ _ => some (.cst .none)
    | .Constant (.str x) _ _ => some (.cst (.str x))
    | .Tuple es _ _ => if es.length ≤ 1000 then (compL (compE n c) es).map .tup else none
    | .List es _ => if es.length ≤ 1000 then (compL (compE n c) es).map .lst else none
    | .BinOp a op b _ => (binOf op).bind fun o => (compE n c a).bind fun x => (compE n c b).map fun y => .bin o x y
    | .UnaryOp .USub a _ => (compE n c a).map .neg
    | .UnaryOp .Not a _ => (compE n c a).map .not
    | .Compare a [op] [b] _ => (cmpOf op).bind fun o => (compE n c a).bind fun x => (compE n c b).map fun y => .cmp o x y
    | .Compare a [op, op'] [b, d] _ => (cmpOf op).bind fun o => (cmpOf op').bind fun o' => (compE n c a).bind fun x => (compE n c b).bind fun y => (compE n c d).map fun z => .chn o o' x y z
    | .BoolOp op vs _ => compBool (compE n c) op vs
    | .IfExp t a b _ => (compE n c t).bind fun t => (compE n c a).bind fun x => (compE n c b).map fun y => .ite t x y
    | .Subscript a (.Slice none none (some (.UnaryOp .USub (.Constant (.int 1) _ _) _)) _) _ => (compE n c a).map .rev
    | .Subscript a (.Slice none none none _) _ => (compE n c a).map fun x => .slc false false x (.cst .none) (.cst .none)
    | .Subscript a (.Slice (some l) none none _) _ => (compE n c a).bind fun x => (compE n c l).map fun l => .slc true false x l (.cst .none)
    | .Subscript a (.Slice none (some h) none _) _ => (compE n c a).bind fun x => (compE n c h).map fun h => .slc false true x (.cst .none) h
    | .Subscript a (.Slice (some l) (some h) none _) _ => (compE n c a).bind fun x => (compE n c l).bind fun l => (compE n c h).map fun h => .slc true true x l h
    | .Subscript a b _ => if plainE b && !isTup b then compIx (compE n c) c a b else none
    | .Call (.Name x _) es kws _ => compCall (compE n c) c x es kws
    | .ListComp elt [⟨tg, iter, ifs, 0⟩] scope _ =>
      if blkC c.N c.sc scope (ownOf c.N scope) && plainE iter && decide (ifs.length ≤ 1) then
        (compT n (blkCc c scope) tg).bind fun t => (compI (compE n c) c tg iter).bind fun p => (compL (compE n (blkCc c scope)) ifs).bind fun fs => (compE n (blkCc c scope) elt).bind fun el =>
          if (tgIx t).all (fun j => (((ownOf c.N scope).map (·.2)).contains j)) then some (.lc ((ownOf c.N scope).map (·.2)) t p.1 p.2 fs el) else none
      else none
    | _ => none
  else none
/-- a comprehension whose parts stay lists of one's own -/
def compLco (n : Nat) (c : Cc) : Expr → Option IE
  | .ListComp elt [⟨tg, iter, [], 0⟩] scope _ =>
      if blkC c.N c.sc scope (ownOf c.N scope) && plainE iter then
        (compT n (blkCc c scope) tg).bind fun t => (compI (compE n c) c tg iter).bind fun p => (compE n (blkCc c scope) elt).bind fun el =>
          if (tgIx t).all (fun j => (((ownOf c.N scope).map (·.2)).contains j)) then some (.lco ((ownOf c.N scope).map (·.2)) t p.1 p.2 el) else none
      else none
  | _ => none
/-- what stands around -/
structure EOk (k : Nat) (c : Cc) (X : Cx) : Prop where
  hN : X.N = c.N
  nd : X.N.Nodup
  sc : X.env.scope = c.sc
  calm : X.calm = true
  gd : X.A.guards = some []
  rm : Room (k + 40) X.A
  pyl : Pyl X
  fns : ∀ E ∈ c.fns, FnAt X.prog X.w X.K X.mg X.base k E
  cst : ∀ p ∈ c.consts, ∃ v u, X.mg p.1 = some u ∧ L2.RelV v u ∧ ∀ H, Dq X.K H v p.2
  gcd : c.gcd = true → X.mg "gcd" = some (.builtin "math.gcd")
  bl : ∀ x ∈ c.bl, X.mg x = none
  fnC : ∀ x ∈ c.fnC, X.fn x = true
theorem EOk.un {k : Nat} {c : Cc} {X : Cx} (h : EOk k c X) : X.A.units + 65 < cLine := by have := h.rm.un; omega
theorem EOk.blk {k : Nat} {c : Cc} {X : Cx} (h : EOk k c X) (scope : Scope) (s : Shared) (H : Hp) (C : Addr) (cl : List (Str × Addr)) (fp : List Addr) : EOk k (blkCc c scope) (X.blk s H scope (compEnvC scope cl C X.env) fp) where
  hN := h.hN
  nd := h.nd
  sc := by show relS scope X.env.scope = relS scope c.sc; rw [h.sc]
  calm := h.calm
  gd := h.gd
  rm := h.rm
  pyl := h.pyl
  fns := h.fns
  cst := h.cst
  gcd := h.gcd
  bl := h.bl
  fnC := fun x hx => by
    obtain ⟨y, hy, rfl⟩ := List.mem_map.mp hx
    exact (List.mem_filter.mp hy).2
end EvL

set_option Elab.async false
set_option linter.all false
set_option maxRecDepth 100000
set_option maxHeartbeats 8000000
namespace EvL
open PySem PySem.Spec PyProof.Rows L2

/-! ### zip of two things, each one a list or a tuple -/
/-- what is said of some objects alone -/
def Firm (S : List Addr) (P : Heap → Prop) : Prop := ∀ g g' : Heap, (∀ b ∈ S, ∀ o, g.get? b = some o → g'.get? b = some o) → P g → P g'
def Gives (prog : Program) (w : World) (it : Addr) (P P' : Heap → Prop) (x : Value) : Prop :=
  ∀ (A : Around) (E : Value → Shared → Prop) (s : Shared) (Q : Value → Shared → Prop), P s.heap → (∀ g, P' g → Heap.SameBut it s.heap g → Q x { s with heap := g }) → wpAny (model prog w) A (Builtin.SmallTypes.nextOf (.ref it)) Q E s
def Ends_ (prog : Program) (w : World) (it : Addr) (P : Heap → Prop) : Prop :=
  ∀ (A : Around) (E : Value → Shared → Prop) (s : Shared) (Q : Value → Shared → Prop), A.handled = none → P s.heap → (∀ g e, Heap.ExtBut it s.heap g → (∃ o, g.get? e = some o ∧ o.cls = .type "StopIteration") → E (.ref e) { s with heap := g }) →
    wpAny (model prog w) A (Builtin.SmallTypes.nextOf (.ref it)) Q E s
/-- a kind: tuples (true), lists (false) -/
def KSq (k : Bool) (g : Heap) (l : Addr) (xs : Array Value) : Prop := match k with
  | true => g.IsTuple l xs
  | false => g.IsList l xs
def KIt (k : Bool) (g : Heap) (it l : Addr) (i : Nat) : Prop := match k with
  | true => g.IsTupleIter it l i
  | false => g.IsListIter it l i
def KP (k : Bool) (it l : Addr) (xs : Array Value) (i : Nat) (g : Heap) : Prop := KIt k g it l i ∧ KSq k g l xs
theorem kit_firm {k : Bool} {it l : Addr} {i : Nat} : Firm [it] fun g => KIt k g it l i := fun g g' e h => by
  cases k with
  | true => exact Heap.IsTupleIter.at (show g.IsTupleIter it l i from h) fun o q => e it (by simp) o q
  | false => exact Heap.IsListIter.at (show g.IsListIter it l i from h) fun o q => e it (by simp) o q
theorem ksq_firm {k : Bool} {l : Addr} {xs : Array Value} : Firm [l] fun g => KSq k g l xs := fun g g' e h => by
  cases k with
  | true => obtain ⟨o, q, r⟩ := (show g.IsTuple l xs from h); exact (show g'.IsTuple l xs from ⟨o, e l (by simp) o q, r⟩)
  | false => exact (show g'.IsList l xs from Heap.IsList.at (show g.IsList l xs from h) fun o q => e l (by simp) o q)
theorem kp_firm {k : Bool} {it l : Addr} {xs : Array Value} {i : Nat} : Firm [it, l] (KP k it l xs i) := fun g g' e h =>
  ⟨kit_firm g g' (fun b hb => e b (by simp at hb ⊢; exact .inl hb)) h.1, ksq_firm g g' (fun b hb => e b (by simp at hb ⊢; exact .inr hb)) h.2⟩
theorem kit_lt {k : Bool} {g : Heap} {it l : Addr} {i : Nat} (h : KIt k g it l i) : it < g.objs.size := by
  cases k with
  | true => obtain ⟨_, e, _⟩ := (show g.IsTupleIter it l i from h); exact Heap.lt_size e
  | false => obtain ⟨_, e, _⟩ := (show g.IsListIter it l i from h); exact Heap.lt_size e
section
variable {prog : Program} {w : World}
theorem kp_gives {k : Bool} {it l : Addr} {xs : Array Value} {i : Nat} {x : Value} (hl : l ≠ it) (hx : xs[i]? = some x) : Gives prog w it (KP k it l xs i) (KP k it l xs (i + 1)) x := fun A E s Q ⟨h1, h2⟩ q => by
  have keepL : ∀ g, Heap.SameBut it s.heap g → KSq k g l xs := fun g sb => ksq_firm _ _ (fun b hb o e => by
    rw [List.mem_singleton.mp hb] at e ⊢
    exact sb.extBut _ _ hl e) h2
  cases k with
  | true => exact RZ.nextOf_tuple_item h1 h2 hx fun g a b => q g ⟨a, keepL g b⟩ b
  | false => exact wpAny_nextOf_list_item h1 h2 hx fun g a b => q g ⟨a, keepL g b⟩ b
theorem kp_ends {k : Bool} {it l : Addr} {xs : Array Value} {i : Nat} (hx : xs[i]? = none) : Ends_ prog w it (KP k it l xs i) := fun A E s Q hh ⟨h1, h2⟩ q => by
  cases k with
  | true => exact RZ.nextOf_tuple_end hh h1 h2 hx q
  | false => exact wpAny_nextOf_list_end hh h1 h2 hx q
variable {A : Around} {E : Value → Shared → Prop} {s : Shared} {z ti to_ i1 i2 l1 l2 : Addr} {P1 P1' P2 P2' : Heap → Prop} {a b : Value}
theorem firm_but {S : List Addr} {P : Heap → Prop} (f : Firm S P) {c : Addr} {g g' : Heap} (e : Heap.ExtBut c g g') (hc : ∀ b ∈ S, b ≠ c) (h : P g) : P g' := f g g' (fun b hb o q => e b o (hc b hb) q) h
/-- what comes of the two -/
inductive Both (prog : Program) (w : World) (i1 i2 : Addr) (P1 P1' P2 P2' : Heap → Prop) : Option (Value × Value) → Prop
  | both {x y : Value} : Gives prog w i1 P1 P1' x → Gives prog w i2 P2 P2' y → Both prog w i1 i2 P1 P1' P2 P2' (some (x, y))
  | fst : Ends_ prog w i1 P1 → Both prog w i1 i2 P1 P1' P2 P2' none
  | snd {x : Value} : Gives prog w i1 P1 P1' x → Ends_ prog w i2 P2 → Both prog w i1 i2 P1 P1' P2 P2' none
/-- the heap behind an item -/
structure Behind (z ti to_ i1 i2 T : Addr) (P1' P2' : Heap → Prop) (x y : Value) (g g' : Heap) : Prop where
  iz : IsZip g' z ti to_ (rawInt T)
  io : IsPair g' to_ x y
  p1 : P1' g'
  p2 : P2' g'
  new : IsPair g' T x y
  size : g'.objs.size = g.objs.size + 1
  keep : ∀ c o, c ≠ z → c ≠ to_ → c ≠ i1 → c ≠ i2 → g.get? c = some o → g'.get? c = some o
theorem zipN_next {r : Option (Value × Value)} {Q : Value → Shared → Prop} (hh : A.handled = none) (D : ZipApart z ti to_ i1 i2 l1 l2) (hz : IsZip s.heap z ti to_ .none) (hI : IsPair s.heap ti (.ref i1) (.ref i2)) (hO : IsPair s.heap to_ a b)
    (F1 : Firm [i1, l1] P1) (F1' : Firm [i1, l1] P1') (F2 : Firm [i2, l2] P2) (F2' : Firm [i2, l2] P2') (p1 : P1 s.heap) (p2 : P2 s.heap) (hb : Both prog w i1 i2 P1 P1' P2 P2' r)
    (hQ : ∀ x y, r = some (x, y) → ∀ g, Behind z ti to_ i1 i2 s.heap.objs.size P1' P2' x y s.heap g → Q (.ref s.heap.objs.size) { s with heap := g })
    (hE : r = none → ∀ g e, (∀ c o, c ≠ z → c ≠ to_ → c ≠ i1 → c ≠ i2 → s.heap.get? c = some o → g.get? c = some o) → (∃ o, g.get? e = some o ∧ o.cls = .type "StopIteration") → E (.ref e) { s with heap := g }) :
    wpAny (model prog w) A (Builtin.«zip.__next__» ⟨[.ref z], []⟩) (fun fin s' => ∃ v, fin = .done (.ret v) ∧ Q v s') E s := by
  have a1 : ∀ b ∈ [i1, l1], b ≠ z := by simp [D.i1z, D.l1z]
  have a2 : ∀ b ∈ [i2, l2], b ≠ z := by simp [D.i2z, D.l2z]
  have c1 : ∀ b ∈ [i1, l1], b ≠ to_ := by simp [D.TOi1.symm, D.l1TO]
  have c2 : ∀ b ∈ [i2, l2], b ≠ to_ := by simp [D.TOi2.symm, D.l2TO]
  have d1 : ∀ b ∈ [i1, l1], b ≠ i2 := by simp [D.i12, D.l1i2]
  have d2 : ∀ b ∈ [i2, l2], b ≠ i1 := by simp [D.i12.symm, D.l2i1]
  show wpAny _ _ (field (.ref z) 2 >>= _) _ _ _
  refine wpAny_bind (wpAny_field (x := .bool false) hz rfl rfl ?_); show wpAny _ _ (field (.ref z) 3 >>= _) _ _ _
  refine wpAny_bind (wpAny_field (x := .ref ti) hz rfl rfl ?_); refine wpAny_bind (wpAny_seqItems hI rfl ?_)
  show wpAny _ _ (Builtin.SmallTypes.ownedTupleIsFree (.ref z) >>= _) _ _ _
  refine wpAny_bind ?_; unfold Builtin.SmallTypes.ownedTupleIsFree; refine wpAny_bind (wpAny_field (x := .none) hz rfl rfl (wpAny_pure ?_)); simp only [if_true]
  refine wpAny_bind (wpAny_rule (wpAny_bind (wpAny_field (x := .ref to_) hz rfl rfl ?_)))
  refine wpAny_bind (wpAny_setField_rec hz (by simp) fun g1 w1 k1 => ?_)
  have w1 : IsZip g1 z ti to_ .ellipsis := w1
  simp only [List.zipIdx_cons, List.zipIdx_nil, List.forIn_cons, List.forIn_nil]; refine wpAny_bind ?_
  have p1a : P1 g1 := firm_but F1 k1.extBut a1 p1
  have p2a : P2 g1 := firm_but F2 k1.extBut a2 p2
  have hOa : IsPair g1 to_ a b := k1.extBut _ _ D.TOz hO
  refine wpAny_bind (wpAny_bind (wpAny_onRaise ?_)); show wpAny _ _ (Builtin.SmallTypes.nextOf (.ref i1) >>= _) _ _ _
  cases hb with
  | fst e1 =>
    refine wpAny_bind (e1 _ _ _ _ hh p1a fun g2 e k2 he => ?_)
    obtain ⟨oe, he1, he2⟩ := he
    have w2 : IsZip g2 z ti to_ .ellipsis := k2 _ _ D.i1z.symm w1
    have ez : e ≠ z := fun q => by subst q; rw [w2] at he1; cases he1; simp at he2
    refine wpAny_setField_rec w2 (by simp) fun g3 _ k3 => hE rfl g3 e (fun c o q1 _ q3 _ q => k3.extBut _ _ q1 (k2 _ _ q3 (k1.extBut _ _ q1 q))) ⟨oe, k3.extBut _ _ ez he1, he2⟩
  | snd n1 e2 =>
    refine wpAny_bind (n1 _ _ _ _ p1a fun g2 r2 k2 => wpAny_pure ?_)
    have hOb : IsPair g2 to_ a b := k2.extBut _ _ D.TOi1 hOa
    refine wpAny_bind (wpAny_seqItems hOb rfl (wpAny_bind (wpAny_updateSeq_pair hOb fun g3 v3 k3 => wpAny_bind (wpAny_letGo (wpAny_pure ?_)))))
    refine wpAny_bind (wpAny_bind (wpAny_onRaise ?_)); show wpAny _ _ (Builtin.SmallTypes.nextOf (.ref i2) >>= _) _ _ _
    have p2c : P2 g3 := firm_but F2 k3.extBut c2 (firm_but F2 k2.extBut d2 p2a)
    refine wpAny_bind (e2 _ _ _ _ hh p2c fun g4 e k4 he => ?_)
    obtain ⟨oe, he1, he2⟩ := he
    have w4 : IsZip g4 z ti to_ .ellipsis := k4 _ _ D.i2z.symm (k3.extBut _ _ D.TOz.symm (k2.extBut _ _ D.i1z.symm w1))
    have ez : e ≠ z := fun q => by subst q; rw [w4] at he1; cases he1; simp at he2
    refine wpAny_setField_rec w4 (by simp) fun g5 _ k5 => hE rfl g5 e (fun c o q1 q2 q3 q4 q => k5.extBut _ _ q1 (k4 _ _ q4 (k3.extBut _ _ q2 (k2.extBut _ _ q3 (k1.extBut _ _ q1 q))))) ⟨oe, k5.extBut _ _ ez he1, he2⟩
  | both n1 n2 =>
    rename_i x y
    refine wpAny_bind (n1 _ _ _ _ p1a fun g2 r2 k2 => wpAny_pure ?_)
    have hOb : IsPair g2 to_ a b := k2.extBut _ _ D.TOi1 hOa
    refine wpAny_bind (wpAny_seqItems hOb rfl (wpAny_bind (wpAny_updateSeq_pair hOb fun g3 v3 k3 => wpAny_bind (wpAny_letGo (wpAny_pure ?_)))))
    have v3 : IsPair g3 to_ x b := v3
    refine wpAny_bind (wpAny_bind (wpAny_onRaise ?_)); show wpAny _ _ (Builtin.SmallTypes.nextOf (.ref i2) >>= _) _ _ _
    have p2c : P2 g3 := firm_but F2 k3.extBut c2 (firm_but F2 k2.extBut d2 p2a)
    refine wpAny_bind (n2 _ _ _ _ p2c fun g4 r4 k4 => wpAny_pure ?_)
    have v4 : IsPair g4 to_ x b := k4.extBut _ _ D.TOi2 v3
    refine wpAny_bind (wpAny_seqItems v4 rfl (wpAny_bind (wpAny_updateSeq_pair v4 fun g5 v5 k5 => wpAny_bind (wpAny_letGo (wpAny_pure (wpAny_pure ?_))))))
    have v5 : IsPair g5 to_ x y := v5
    have sz : g5.objs.size = s.heap.objs.size := by rw [k5.1, k4.1, k3.1, k2.1, k1.1]
    have w5 : IsZip g5 z ti to_ .ellipsis := k5.extBut _ _ D.TOz.symm (k4.extBut _ _ D.i2z.symm (k3.extBut _ _ D.TOz.symm (k2.extBut _ _ D.i1z.symm w1)))
    have q1 : P1' g5 := firm_but F1' k5.extBut c1 (firm_but F1' k4.extBut d1 (firm_but F1' k3.extBut c1 r2))
    have q2 : P2' g5 := firm_but F2' k5.extBut c2 r4
    have kk : ∀ c o, c ≠ z → c ≠ to_ → c ≠ i1 → c ≠ i2 → s.heap.get? c = some o → g5.get? c = some o := fun c o u1 u2 u3 u4 q =>
      k5.extBut _ _ u2 (k4.extBut _ _ u4 (k3.extBut _ _ u2 (k2.extBut _ _ u3 (k1.extBut _ _ u1 q))))
    refine wpAny_bind (wpAny_seqItems v5 rfl (wpAny_bind (wpAny_newTuple ?_)))
    have zl : z < g5.objs.size := Heap.lt_size w5
    show wpAny _ _ (Builtin.SmallTypes.ownedTupleHandOut (.ref z) (.ref g5.objs.size) >>= _) _ _ _
    have w6 : IsZip (g5.push { cls := .type "tuple", data := .seq #[x, y] }) z ti to_ .ellipsis := Heap.get?_push_of_some _ w5
    refine wpAny_bind ?_; unfold Builtin.SmallTypes.ownedTupleHandOut; refine wpAny_bind (wpAny_setField_rec w6 (by simp) fun g7 w7 k7 => ?_)
    have w7 : IsZip g7 z ti to_ (rawInt g5.objs.size) := w7
    refine wpAny_setField_rec w7 (by simp) fun g8 w8 k8 => ?_
    have w8 : IsZip g8 z ti to_ (rawInt g5.objs.size) := w8
    have up : ∀ c o, c ≠ z → g5.get? c = some o → g8.get? c = some o := fun c o u q => k8.extBut _ _ u (k7.extBut _ _ u (Heap.get?_push_of_some _ q))
    have t8 : IsPair g8 g5.objs.size x y := k8.extBut _ _ (Nat.ne_of_gt zl) (k7.extBut _ _ (Nat.ne_of_gt zl) (Heap.get?_push_size _ rfl))
    have s8 : g8.objs.size = g5.objs.size + 1 := by rw [k8.1, k7.1, Heap.size_push]
    refine wpAny_pure ⟨_, rfl, ?_⟩
    show Q (.ref g5.objs.size) _
    rw [sz] at w8 t8 s8 ⊢
    exact hQ x y rfl g8 ⟨w8, up _ _ D.TOz v5, F1' _ _ (fun b hb o q => up b o (a1 b hb) q) q1, F2' _ _ (fun b hb o q => up b o (a2 b hb) q) q2, t8, s8, fun c o u1 u2 u3 u4 q => up c o u1 (kk c o u1 u2 u3 u4 q)⟩
theorem zipN_py {r : Option (Value × Value)} {Q : Option Value → Shared → Prop} (hh : A.handled = none) (D : ZipApart z ti to_ i1 i2 l1 l2) (hz : IsZip s.heap z ti to_ .none) (hI : IsPair s.heap ti (.ref i1) (.ref i2)) (hO : IsPair s.heap to_ a b)
    (F1 : Firm [i1, l1] P1) (F1' : Firm [i1, l1] P1') (F2 : Firm [i2, l2] P2) (F2' : Firm [i2, l2] P2') (p1 : P1 s.heap) (p2 : P2 s.heap) (hb : Both prog w i1 i2 P1 P1' P2 P2' r)
    (hQ : ∀ x y, r = some (x, y) → ∀ g, Behind z ti to_ i1 i2 s.heap.objs.size P1' P2' x y s.heap g → Q (some (.ref s.heap.objs.size)) { s with heap := g })
    (hE : r = none → ∀ g, (∀ c o, c ≠ z → c ≠ to_ → c ≠ i1 → c ≠ i2 → s.heap.get? c = some o → g.get? c = some o) → Q none { s with heap := g }) : wpAny (model prog w) A (pyNext (.ref z)) Q E s := by
  have ty : s.TypeIs (.ref z) "zip" := ⟨_, hz, rfl⟩
  unfold pyNext
  refine wpAny_bind (wpAny_attempt (wpAny_callSpecial?_slot (name := Str.ofString "__next__") ty F.slot_zip_next (wpAny_call_entry F.slot_zip_next ty F.entry_zip_next
    (zipN_next hh D hz hI hO F1 F1' F2 F2' p1 p2 hb (Q := fun v s' => wpAny (model prog w) A _ Q E s') (fun x y e g B => ?_) fun e g ex k hx => ?_) (F.args_zip_next_1 _))))
  · exact wpAny_pure (hQ x y e g B)
  · obtain ⟨ox, ho, hc⟩ := hx
    exact wpAny_bind (wpAny_isInstance (T := "StopIteration") (b := true) ⟨ox, ho, hc⟩ isSubtype_stop (wpAny_pure (hE e g k)))
end
def itObj (k : Bool) (l : Addr) : Obj := match k with
  | true => { cls := .type "tuple_iterator", data := .fields #[.ref l, .int 0 0] }
  | false => { cls := .type "list_iterator", data := .fields #[.ref l, .int 0 0] }
theorem itObj_it (k : Bool) (l : Addr) {g : Heap} {p : Addr} (h : g.get? p = some (itObj k l)) : KIt k g p l 0 := by
  cases k with
  | true => exact (show g.IsTupleIter p l 0 from ⟨_, h, rfl, rfl⟩)
  | false => exact (show g.IsListIter p l 0 from ⟨_, h, rfl, rfl⟩)
theorem itObj_free (k : Bool) (l : Addr) : (itObj k l).isFreed = false := by cases k <;> rfl
section
variable {prog : Program} {w : World} {A : Around} {E : Value → Shared → Prop} {s : Shared}
abbrev zk1 (k1 : Bool) (g : Heap) (l1 : Addr) : Heap := g.push (itObj k1 l1)
abbrev zk2 (k1 k2 : Bool) (g : Heap) (l1 l2 : Addr) : Heap := (zk1 k1 g l1).push (itObj k2 l2)
abbrev zk3 (k1 k2 : Bool) (g : Heap) (l1 l2 : Addr) : Heap := (zk2 k1 k2 g l1 l2).push { cls := .type "tuple", data := .seq #[.ref g.objs.size, .ref (zk1 k1 g l1).objs.size] }
abbrev zk4 (k1 k2 : Bool) (g : Heap) (l1 l2 : Addr) : Heap := (zk3 k1 k2 g l1 l2).push { cls := .type "tuple", data := .seq #[.none, .none] }
abbrev zk5 (k1 k2 : Bool) (g : Heap) (l1 l2 : Addr) : Heap := (zk4 k1 k2 g l1 l2).push { cls := .type "zip", data := .fields #[.none, .bool false, .bool false, .ref (zk2 k1 k2 g l1 l2).objs.size, .ref (zk3 k1 k2 g l1 l2).objs.size] }
theorem zk_tl (l1 l2 : Addr) (xs ys : Array Value) :
    Meets (Builtin.«zip.__new__» ⟨[.type "zip", .ref l1, .ref l2], []⟩) (fun _ R s => s.heap.IsTuple l1 xs ∧ s.heap.IsList l2 ys ∧ R (.ok (.ret (.ref (zk4 true false s.heap l1 l2).objs.size))) { s with heap := zk5 true false s.heap l1 l2 }) :=
  .of_wp fun prog w A R s h => by
    obtain ⟨hp, g, d, tk, os⟩ := s
    obtain ⟨h1, h2, h⟩ := h
    have sub := sub_zip
    have m1 : Heap.IsTuple (Shared.heap ⟨hp, g, d, tk, os⟩) l1 xs := h1
    have m2 : Heap.IsList (Shared.heap ⟨hp.push { cls := .type "tuple_iterator", data := .fields #[.ref l1, .int 0 0] }, g, d, tk, os⟩) l2 ys := Heap.IsList.push h2 _
    wp_walk using wpAny_pyIter_tuple m1, wpAny_pyIter_list m2
    exact ⟨_, rfl, h⟩
theorem zk_lt (l1 l2 : Addr) (xs ys : Array Value) :
    Meets (Builtin.«zip.__new__» ⟨[.type "zip", .ref l1, .ref l2], []⟩) (fun _ R s => s.heap.IsList l1 xs ∧ s.heap.IsTuple l2 ys ∧ R (.ok (.ret (.ref (zk4 false true s.heap l1 l2).objs.size))) { s with heap := zk5 false true s.heap l1 l2 }) :=
  .of_wp fun prog w A R s h => by
    obtain ⟨hp, g, d, tk, os⟩ := s
    obtain ⟨h1, h2, h⟩ := h
    have sub := sub_zip
    have m1 : Heap.IsList (Shared.heap ⟨hp, g, d, tk, os⟩) l1 xs := h1
    have m2 : Heap.IsTuple (Shared.heap ⟨hp.push { cls := .type "list_iterator", data := .fields #[.ref l1, .int 0 0] }, g, d, tk, os⟩) l2 ys := Heap.IsTuple.push h2 _
    wp_walk using wpAny_pyIter_list m1, wpAny_pyIter_tuple m2
    exact ⟨_, rfl, h⟩
theorem zk_meets (k1 k2 : Bool) (l1 l2 : Addr) (xs ys : Array Value) :
    Meets (Builtin.«zip.__new__» ⟨[.type "zip", .ref l1, .ref l2], []⟩) (fun _ R s => KSq k1 s.heap l1 xs ∧ KSq k2 s.heap l2 ys ∧ R (.ok (.ret (.ref (zk4 k1 k2 s.heap l1 l2).objs.size))) { s with heap := zk5 k1 k2 s.heap l1 l2 }) :=
  match k1, k2 with
  | true, true => RZ.meets_zipT_new l1 l2 xs ys
  | true, false => zk_tl l1 l2 xs ys
  | false, true => zk_lt l1 l2 xs ys
  | false, false => meets_zip_new l1 l2 xs ys
theorem zk_call {k1 k2 : Bool} {l1 l2 : Addr} {xs ys : Array Value} {Q : Value → Shared → Prop} (h1 : KSq k1 s.heap l1 xs) (h2 : KSq k2 s.heap l2 ys)
    (h : ∀ g, IsZip g (s.heap.objs.size + 4) (s.heap.objs.size + 2) (s.heap.objs.size + 3) .none → IsPair g (s.heap.objs.size + 2) (.ref s.heap.objs.size) (.ref (s.heap.objs.size + 1)) → IsPair g (s.heap.objs.size + 3) .none .none →
      KIt k1 g s.heap.objs.size l1 0 → KIt k2 g (s.heap.objs.size + 1) l2 0 → (∀ c o, s.heap.get? c = some o → g.get? c = some o) → Q (.ref (s.heap.objs.size + 4)) { s with heap := g }) : wpAny (model prog w) A (call (.type "zip") [.ref l1, .ref l2]) Q E s := by
  refine callType_new F.called_zip (by decide) (F.typeCall_zip_2 _ _) (F.newCall_zip_2 _ _) (fun obj => F.args_object_init_3 obj _ _) F.entry_zip_new (zk_meets k1 k2 l1 l2 xs ys) ⟨h1, h2, ?_⟩
  have e1 : (zk1 k1 s.heap l1).objs.size = s.heap.objs.size + 1 := Heap.size_push ..
  have e2 : (zk2 k1 k2 s.heap l1 l2).objs.size = s.heap.objs.size + 2 := by rw [Heap.size_push, e1]
  have e3 : (zk3 k1 k2 s.heap l1 l2).objs.size = s.heap.objs.size + 3 := by rw [Heap.size_push, e2]
  have e4 : (zk4 k1 k2 s.heap l1 l2).objs.size = s.heap.objs.size + 4 := by rw [Heap.size_push, e3]
  have up : ∀ {g : Heap} {o : Obj} {c : Addr} {u : Obj}, g.get? c = some u → (g.push o).get? c = some u := fun q => Heap.get?_push_of_some _ q
  have f5 : (zk5 k1 k2 s.heap l1 l2).get? (zk4 k1 k2 s.heap l1 l2).objs.size = some _ := Heap.get?_push_size _ rfl
  have f4 : (zk5 k1 k2 s.heap l1 l2).get? (zk3 k1 k2 s.heap l1 l2).objs.size = some _ := up (Heap.get?_push_size _ rfl)
  have f3 : (zk5 k1 k2 s.heap l1 l2).get? (zk2 k1 k2 s.heap l1 l2).objs.size = some _ := up (up (Heap.get?_push_size _ rfl))
  have f2 : (zk5 k1 k2 s.heap l1 l2).get? (zk1 k1 s.heap l1).objs.size = some _ := up (up (up (Heap.get?_push_size _ (itObj_free _ _))))
  have f1 : (zk5 k1 k2 s.heap l1 l2).get? s.heap.objs.size = some _ := up (up (up (up (Heap.get?_push_size _ (itObj_free _ _)))))
  show _ ∧ _
  rw [e2, e3, e4] at f5; rw [e1, e2] at f3; rw [e3] at f4; rw [e1] at f2; rw [e4]
  exact ⟨⟨_, f5, rfl⟩, h _ f5 f3 f4 (itObj_it _ _ f1) (itObj_it _ _ f2) fun c o q => up (up (up (up (up q))))⟩
end
/-! ### .. at the layer of values -/
def SqK (k : Bool) (K : PySem.W.Frag) (H : Hp) (a : Addr) (xs : List V) : Prop := match k with
  | true => SqT K H a xs
  | false => SqL K H a xs
section
variable {X : Cx} {pins : List (Addr × Obj)} {σ : L2.St} {H : Hp} {s : Shared}
theorem sqk_at (I : Inv X pins σ H s) {k : Bool} {a : Addr} {xs : List V} (h : SqK k X.K H a xs) : ∃ its, Vals xs its ∧ KSq k s.heap a its.toArray ∧ a < s.heap.objs.size := by
  cases k with
  | true =>
    obtain ⟨its, rv, p, _⟩ := I.tuple (show SqT X.K H a xs from h)
    obtain ⟨o, ho, r⟩ := id p
    exact ⟨its, rv, p, Heap.lt_size ho⟩
  | false =>
    obtain ⟨its, rv, p, _⟩ := I.list (show SqL X.K H a xs from h)
    exact ⟨its, rv, p.isList, p.lt⟩
theorem sqk_inj (I : Inv X pins σ H s) {k : Bool} {a : Addr} {xs ys : List V} (h : SqK k X.K H a xs) (g : SqK k X.K H a ys) : xs = ys := by
  cases k with
  | true => exact I.tuple_inj h g
  | false => exact I.list_inj h g
end
/-- both as they stand at each turn, the items in new pairs -/
def ItK (k1 k2 : Bool) (K : PySem.W.Frag) (a b : Addr) : It :=
  ⟨fun i H => ∃ (xs ys : List V) (x y : V), SqK k1 K H a xs ∧ SqK k2 K H b ys ∧ xs[i]? = some x ∧ ys[i]? = some y,
    fun i H v H' => ∃ p x y, v = .ref p ∧ H p = none ∧ H' = upd H p (.tup [x, y]) ∧ (∀ xs, SqK k1 K H a xs → xs[i]? = some x) ∧ ∀ ys, SqK k2 K H b ys → ys[i]? = some y,
    fun i H => ∃ xs ys : List V, SqK k1 K H a xs ∧ SqK k2 K H b ys ∧ (xs.length ≤ i ∨ ys.length ≤ i)⟩
def TnK (k1 k2 : Bool) (z ti to_ i1 i2 a b : Addr) (i : Nat) (g : Heap) : Prop := IsZip g z ti to_ .none ∧ IsPair g ti (.ref i1) (.ref i2) ∧ (∃ x y, IsPair g to_ x y) ∧ KIt k1 g i1 a i ∧ KIt k2 g i2 b i
theorem kit_obj {k : Bool} {g : Heap} {it l : Addr} {i : Nat} (h : KIt k g it l i) : ∃ o, g.get? it = some o ∧ ∀ v, o.data ≠ .cell v := by
  cases k with
  | true => obtain ⟨o, e, _, d⟩ := (show g.IsTupleIter it l i from h); exact ⟨o, e, fun v q => by rw [d] at q; cases q⟩
  | false => obtain ⟨o, e, _, d⟩ := (show g.IsListIter it l i from h); exact ⟨o, e, fun v q => by rw [d] at q; cases q⟩
theorem five {z ti to_ i1 i2 c : Addr} {P : Prop} (h : c ∈ [z, ti, to_, i1, i2]) (h1 : c = z → P) (h2 : c = ti → P) (h3 : c = to_ → P) (h4 : c = i1 → P) (h5 : c = i2 → P) : P := by
  simp only [List.mem_cons, List.not_mem_nil, or_false] at h
  rcases h with h | h | h | h | h
  · exact h1 h
  · exact h2 h
  · exact h3 h
  · exact h4 h
  · exact h5 h
theorem not5 {z ti to_ i1 i2 c : Addr} (h : c ∉ [z, ti, to_, i1, i2]) : c ≠ z ∧ c ≠ ti ∧ c ≠ to_ ∧ c ≠ i1 ∧ c ≠ i2 := by simpa using h
theorem turn_K {k1 k2 : Bool} {P : Program} {w : World} {K : PySem.W.Frag} {elts : List Expr} {kk : Nat} {tpos : Pos} {a b z ti to_ i1 i2 : Addr} (D : ZipApart z ti to_ i1 i2 a b) :
    Turn P w K (.Tuple elts kk tpos) (ItK k1 k2 K a b) [z, ti, to_, i1, i2] z (TnK k1 k2 z ti to_ i1 i2 a b) where
  mem := by simp
  obj := fun i g ⟨hz, hI, ⟨x, y, hO⟩, h1, h2⟩ c hc => five hc (fun e => by rw [e]; exact ⟨_, hz, fun v q => nomatch q⟩) (fun e => by rw [e]; exact ⟨_, hI, fun v q => nomatch q⟩) (fun e => by rw [e]; exact ⟨_, hO, fun v q => nomatch q⟩)
    (fun e => by rw [e]; exact kit_obj h1) (fun e => by rw [e]; exact kit_obj h2)
  keep := fun i g g' ⟨hz, hI, ⟨x, y, hO⟩, h1, h2⟩ k => ⟨k z (by simp) _ hz, k ti (by simp) _ hI, ⟨x, y, k to_ (by simp) _ hO⟩, kit_firm g g' (fun b hb o q => by rw [List.mem_singleton.mp hb] at q ⊢; exact k i1 (by simp) o q) h1,
    kit_firm g g' (fun b hb o q => by rw [List.mem_singleton.mp hb] at q ⊢; exact k i2 (by simp) o q) h2⟩
  item := by
    intro X hP hw hK hc i pins s σ H E I hf ⟨hz, hI, ⟨x0, y0, hO⟩, h1, h2⟩ ⟨xs, ys, x, y, qx, qy, hx, hy⟩
    subst hP hw hK
    obtain ⟨is1, v1, s1, _⟩ := sqk_at I qx
    obtain ⟨is2, v2, s2, _⟩ := sqk_at I qy
    obtain ⟨u1, hu1, r1⟩ := v1.get hx
    obtain ⟨u2, hu2, r2⟩ := v2.get hy
    have lz : z < s.heap.objs.size := Heap.lt_size hz
    refine zipN_py (I.ok.hd hc) D hz hI hO kp_firm kp_firm kp_firm kp_firm (show KP k1 i1 a is1.toArray i s.heap from ⟨h1, s1⟩) (show KP k2 i2 b is2.toArray i s.heap from ⟨h2, s2⟩) (.both (kp_gives D.l1i1 (x := u1) (by simpa using hu1)) (kp_gives D.l2i2 (x := u2) (by simpa using hu2)))
      (fun xx yy exy g B => ?_) (fun e => nomatch e)
    cases exy
    refine ⟨_, rfl, wpAny_letOwnedTupleGo_zip (s := { s with heap := g }) B.iz fun g2 z2 sb => ?_⟩
    have t2 : g2.get? s.heap.objs.size = some { cls := .type "tuple", data := .seq #[u1, u2] } := (sb.2 _ (Nat.ne_of_gt lz)).trans B.new
    have fresh : ObjOk X.prog X.w (upd H s.heap.objs.size (.tup [x, y])) g2 s.heap.objs.size (.tup [x, y]) := ⟨by show 2 ≤ sizeLine; decide, [u1, u2], .cons r1 (.cons r2 .nil), ⟨_, t2, rfl, _, rfl⟩⟩
    have I2 : Inv X pins σ (upd H s.heap.objs.size (.tup [x, y])) { s with heap := g2 } := I.turnedNew (t' := s.toks) (ch := [z, ti, to_, i1, i2]) (fun c o hb q => by
      obtain ⟨n1, n2, n3, n4, n5⟩ := not5 hb
      exact (sb.2 c n1).trans (B.keep c o n1 n3 n4 n5 q)) hf (Nat.le_refl _) fresh
    have keep2 : ∀ c o, c ≠ z → g.get? c = some o → g2.get? c = some o := fun c o n q => (sb.2 c n).trans q
    refine ⟨.ref s.heap.objs.size, _, I2, rfl, ⟨_, x, y, rfl, I.hok.fresh (Nat.le_refl _), rfl, fun l hl => by rw [sqk_inj I hl qx]; exact hx, fun l hl => by rw [sqk_inj I hl qy]; exact hy⟩,
      ⟨z2, keep2 _ _ D.TIz (B.keep _ _ D.TIz D.TITO D.TIi1 D.TIi2 hI), ⟨u1, u2, keep2 _ _ D.TOz B.io⟩, kit_firm _ _ (fun b hb o q => by rw [List.mem_singleton.mp hb] at q ⊢; exact keep2 _ o D.i1z q) B.p1.1,
        kit_firm _ _ (fun b hb o q => by rw [List.mem_singleton.mp hb] at q ⊢; exact keep2 _ o D.i2z q) B.p2.1⟩, fun c hcm => ?_⟩
    have lc : c < s.heap.objs.size := five hcm (fun e => by rw [e]; exact lz) (fun e => by rw [e]; exact Heap.lt_size hI) (fun e => by rw [e]; exact Heap.lt_size hO) (fun e => by rw [e]; exact kit_lt h1) (fun e => by rw [e]; exact kit_lt h2)
    rw [upd_ne (Nat.ne_of_lt lc)]; exact (hf c hcm).1
  done := by
    intro X hP hw hK hc i pins s σ H E I hf ⟨hz, hI, ⟨x0, y0, hO⟩, h1, h2⟩ ⟨xs, ys, qx, qy, hend⟩
    subst hP hw hK
    obtain ⟨is1, v1, s1, _⟩ := sqk_at I qx
    obtain ⟨is2, v2, s2, _⟩ := sqk_at I qy
    have n1 := v1.length
    have n2 := v2.length
    have both : Both X.prog X.w i1 i2 (KP k1 i1 a is1.toArray i) (KP k1 i1 a is1.toArray (i + 1)) (KP k2 i2 b is2.toArray i) (KP k2 i2 b is2.toArray (i + 1)) none := by
      cases q1 : is1.toArray[i]? with
      | none => exact .fst (kp_ends q1)
      | some u =>
        refine .snd (kp_gives D.l1i1 q1) (kp_ends ?_)
        have l1 : i < is1.length := by
          have := (Array.getElem?_eq_some_iff.mp q1).1
          simpa using this
        have : is2.length ≤ i := by omega
        simp [this]
    exact zipN_py (I.ok.hd hc) D hz hI hO kp_firm kp_firm kp_firm kp_firm ⟨h1, s1⟩ ⟨h2, s2⟩ both (fun xx yy exy => nomatch exy)
      (fun _ g k => ⟨rfl, I.turnedL (t' := s.toks) (ch := [z, ti, to_, i1, i2]) (fun c o hb q => by
        obtain ⟨n1, n2, n3, n4, n5⟩ := not5 hb
        exact k c o n1 n3 n4 n5 q) hf⟩)
  self := fun A i s Q E st h => wpAny_pyIter_zip st.1 h
def iZipK (K : PySem.W.Frag) (ta : TA) : TI := fun σ H R => ta σ H fun vs H1 => ∃ k1 k2 a b xs ys, vs = [.ref a, .ref b] ∧ SqK k1 K H1 a xs ∧ SqK k2 K H1 b ys ∧ R (ItK k1 k2 K a b) H1
theorem pi_zipK {X : Cx} {e e2 : Expr} {ta : TA} {p pos tpos : Pos} {elts : List Expr} {kk : Nat} (hg : Gl X "zip") (hm : X.mg "zip" = none) (ha : PA X [e, e2] ta) (hs : starEach [e, e2] X.env = (false, eval e X.env) :: starEach [e2] X.env) (hpl : (backTo pos (starEach [e2] X.env)).any (·.1) = false) :
    PI X (.Tuple elts kk tpos) (.Call (.Name "zip" p) [e, e2] [] pos) (iZipK X.K ta) := ⟨fun pins s σ H R I h => by
  refine Call_ (ld_blt I hg hm PyProof.Rows.boot_zip (PyProof.Rows.callWith_type1 (thn (ha.run pos pins s σ H _ I h) fun us s1 ⟨vs, H1, I1, r1, q1⟩ => ?_) hs hpl))
  obtain ⟨k1, k2, a, b, xs, ys, ex, qx, qy, q⟩ := q1
  subst ex
  obtain ⟨is1, v1, s1', la⟩ := sqk_at I1 qx
  obtain ⟨is2, v2, s2', lb⟩ := sqk_at I1 qy
  have ge : ∀ c ∈ [s1.heap.objs.size + 4, s1.heap.objs.size + 2, s1.heap.objs.size + 3, s1.heap.objs.size, s1.heap.objs.size + 1], s1.heap.objs.size ≤ c := fun c hc =>
    five hc (fun e => e ▸ Nat.le_add_right _ _) (fun e => e ▸ Nat.le_add_right _ _) (fun e => e ▸ Nat.le_add_right _ _) (fun e => e ▸ Nat.le_refl _) (fun e => e ▸ Nat.le_add_right _ _)
  cases r1 with
  | cons ra r1 =>
    cases r1 with
    | cons rb r1 =>
      cases r1; cases ra; cases rb
      refine zk_call s1' s2' fun g hz hI hO h1 h2 hk => wpAny_pyIter_zip hz ?_
      exact ⟨s1.heap.objs.size + 4, [s1.heap.objs.size + 4, s1.heap.objs.size + 2, s1.heap.objs.size + 3, s1.heap.objs.size, s1.heap.objs.size + 1], _, _, H1, rfl, I1.kept (t' := s1.toks) hk, turn_K (PySem.W.ktu_apart s1.heap.objs.size a b la lb), ⟨hz, hI, ⟨_, _, hO⟩, h1, h2⟩,
        fun c hc => I1.fpOk (ge c hc) (I1.hok.fresh (ge c hc)), q⟩⟩
end EvL

set_option Elab.async false
set_option linter.all false
set_option maxRecDepth 100000
set_option maxHeartbeats 8000000
namespace EvL
open PySem PySem.Spec PyProof.Rows L2

/-! ### enumerate of a tuple; zip -/
theorem enum1_meets {v : Value} {o : Obj} {P : Heap → Prop} (B : PySem.Begins v o P) :
    Meets (Builtin.«enumerate.__new__» ⟨[.type "enumerate", v], []⟩) (fun _ R s => P s.heap ∧
      R (.ok (.ret (.ref (s.heap.push o).objs.size))) { s with heap := (s.heap.push o).push { cls := .type "enumerate", data := .fields #[.none, .bool false, .ref s.heap.objs.size, rawInt 0, .none, .none] } }) :=
  .of_wp fun prog w A R s h => by
    obtain ⟨hp, g, d, tk, os⟩ := s
    obtain ⟨h1, h⟩ := h
    have hsub := sub_enumerate
    have it : ∀ {A' : Around} {E : Value → Shared → Prop} {Q : Value → Shared → Prop}, Q (.ref hp.objs.size) ⟨hp.push o, g, d, tk, os⟩ → wpAny (model prog w) A' (pyIter v) Q E ⟨hp, g, d, tk, os⟩ :=
      fun q => B.iter prog w _ _ ⟨hp, g, d, tk, os⟩ _ h1 q
    wp_walk using it
    refine wpAny_stack_any fun st => wpAny_pure ?_
    split
    · rename_i c _ _ _ _ _
      cases (c == Value.type "enumerate") <;> (wp_walk using it; exact ⟨_, rfl, h⟩)
    · wp_walk using it
      exact ⟨_, rfl, h⟩
theorem enum1_call {prog : Program} {w : World} {A : Around} {E : Value → Shared → Prop} {s : Shared} {v : Value} {o : Obj} {P : Heap → Prop} {Q : Value → Shared → Prop} (B : PySem.Begins v o P) (h1 : P s.heap)
    (h : ∀ h', IsEnum h' (s.heap.objs.size + 1) s.heap.objs.size 0 .none → h'.get? s.heap.objs.size = some o → (∀ b o, s.heap.get? b = some o → h'.get? b = some o) → Q (.ref (s.heap.objs.size + 1)) { s with heap := h' }) :
    wpAny (model prog w) A (call (.type "enumerate") [v]) Q E s := by
  refine callType_new F.called_enumerate (by decide) (F.typeCall_enumerate_1 _) (F.newCall_enumerate_1 _) (fun obj => F.args_object_init_2 obj _) F.entry_enumerate_new (enum1_meets B) ⟨h1, ?_⟩
  have hz : (s.heap.push o).objs.size = s.heap.objs.size + 1 := Heap.size_push ..
  show _ ∧ _
  rw [hz]
  have he := Heap.get?_push_size (s.heap.push o) (o := { cls := .type "enumerate", data := .fields #[.none, .bool false, .ref s.heap.objs.size, rawInt 0, .none, .none] }) rfl
  rw [hz] at he
  exact ⟨⟨_, he, rfl⟩, h _ he (Heap.get?_push_of_some _ (Heap.get?_push_size _ B.free)) fun b ob x => Heap.get?_push_of_some _ (Heap.get?_push_of_some _ x)⟩
/-- the tuple at a, each item in a new pair -/
def IteT (K : PySem.W.Frag) (a : Addr) (n : Nat) : It :=
  ⟨fun i H => i < n ∧ ∃ xs : List V, SqT K H a xs ∧ xs.length = n, fun i H v H' => ∃ T x, v = .ref T ∧ H T = none ∧ H' = upd H T (.tup [.int (i : Nat), x]) ∧ ∀ xs, SqT K H a xs → xs[i]? = some x,
   fun i H => n ≤ i ∧ ∃ xs : List V, SqT K H a xs ∧ xs.length = n⟩
theorem turn_enumT {P : Program} {w : World} {K : PySem.W.Frag} {elts : List Expr} {kk n : Nat} {tpos : Pos} (a e it : Addr) :
    Turn P w K (.Tuple elts kk tpos) (IteT K a n) [e, it] e (fun i h => (∃ old, IsEnum h e it ((i : Nat) : Int) old) ∧ h.IsTupleIter it a i ∧ e ≠ it ∧ a ≠ it ∧ a ≠ e ∧ i ≤ n) where
  mem := by simp
  obj := fun i h st b hb => by
    obtain ⟨⟨old, he⟩, ⟨o, ho, hc, hd⟩, _⟩ := st
    rcases (by simpa using hb : b = e ∨ b = it) with z | z
    · subst z; exact ⟨_, he, fun v q => nomatch q⟩
    · subst z; exact ⟨o, ho, fun v q => by rw [hd] at q; cases q⟩
  keep := fun i h h' st k => ⟨let ⟨old, he⟩ := st.1; ⟨old, k e (by simp) _ he⟩, st.2.1.at fun o q => k it (by simp) o q, st.2.2⟩
  item := by
    intro X hP hw hK hc i pins s σ H E I hf st hg
    subst hP hw hK
    obtain ⟨⟨old, he⟩, hit, hne, hai, hae, hin⟩ := st
    obtain ⟨hlt, xs, hq, hl⟩ := hg
    obtain ⟨its, rv, p, hz⟩ := I.tuple hq
    have hx : xs[i]? = some (xs[i]'(by omega)) := List.getElem?_eq_getElem _
    have hsz : its.toArray.size = n := by rw [List.size_toArray, ← rv.length, hl]
    have hel : e < s.heap.objs.size := Heap.lt_size he
    have hil : it < s.heap.objs.size := by obtain ⟨_, q, _⟩ := hit; exact Heap.lt_size q
    refine wpAny_pyNext_enum_itemD (Draws.tuple (A := X.A.in1) (I.ok.hd hc) it a hai its.toArray) he ⟨hit, p⟩ (by rw [hsz]; exact hlt) hne (by simp [hne, Ne.symm hae]) fun u h' tk hu ho hst' hT hsz' hk => ?_
    obtain ⟨u', hu', ru⟩ := rv.get hx
    have eu : u = u' := by
      have : its[i]? = some u := by simpa using hu
      rw [this] at hu'; exact Option.some.inj hu'
    subst eu
    refine ⟨_, rfl, wpAny_letOwnedTupleGo_enum (s := { s with heap := h', toks := tk + 1 }) ho fun h'' he' sb => ?_⟩
    have hT2 : h''.get? s.heap.objs.size = some { cls := .type "tuple", data := .seq #[.int i tk, u] } := (sb.2 _ (Nat.ne_of_gt hel)).trans hT
    have new : ObjOk X.prog X.w (upd H s.heap.objs.size (.tup [.int (i : Nat), xs[i]'(by omega)])) h'' s.heap.objs.size (.tup [.int (i : Nat), xs[i]'(by omega)]) :=
      ⟨by show 2 ≤ sizeLine; decide, [.int i tk, u], .cons ⟨_, rfl⟩ (.cons ru .nil), ⟨_, hT2, rfl, _, rfl⟩⟩
    have I1 : Inv X pins σ (upd H s.heap.objs.size (.tup [.int (i : Nat), xs[i]'(by omega)])) { s with heap := h'', toks := tk + 1 } :=
      I.turnedNew (ch := [e, it]) (fun b ob hb q => (sb.2 b (fun z => hb (by simp [z]))).trans (hk b ob (fun z => hb (by simp [z])) (fun z => hb (by simp [z])) q)) hf (Nat.le_refl _) new
    refine ⟨.ref s.heap.objs.size, _, I1, rfl, ⟨_, _, rfl, I.hok.fresh (Nat.le_refl _), rfl, fun ys hy => by rw [I.tuple_inj hy hq]; exact hx⟩, ⟨⟨u, ?_⟩, hst'.1.at fun o q => (sb.2 it (Ne.symm hne)).trans q, hne, hai, hae, hlt⟩, fun b hb => ?_⟩
    · have e1 : ((i + 1 : Nat) : Int) = (i : Int) + 1 := by omega
      rw [e1]; exact he'
    · have hb' : b < s.heap.objs.size := by
        rcases (by simpa using hb : b = e ∨ b = it) with z | z
        · subst z; exact hel
        · subst z; exact hil
      rw [upd_ne (Nat.ne_of_lt hb')]
      exact (hf b hb).1
  done := by
    intro X hP hw hK hc i pins s σ H E I hf st hg
    subst hP hw hK
    obtain ⟨⟨old, he⟩, hit, hne, hai, hae, hin⟩ := st
    obtain ⟨hle, xs, hq, hl⟩ := hg
    obtain ⟨its, rv, p, hz⟩ := I.tuple hq
    have hsz : its.toArray.size = n := by rw [List.size_toArray, ← rv.length, hl]
    have hi : i = its.toArray.size := by omega
    obtain ⟨f0, f1, f2, f3, f4, f5⟩ := hf it (by simp)
    exact wpAny_pyNext_enum_endD (Draws.tuple (A := X.A.in1) (I.ok.hd hc) it a hai its.toArray) he ⟨by rw [← hi]; exact hit, p⟩ fun h' eb => ⟨rfl, I.turned (t' := s.toks) (fun b o hb q => eb b o hb q) f0 f1 f3 f4 f5⟩
  self := fun A i s Q E st h => let ⟨⟨_, he⟩, _⟩ := st; wpAny_pyIter_enum he h
section
variable {X : Cx} {e e2 : Expr} {fa : FX} {p pos tpos : Pos} {g : FA} {elts : List Expr} {kk : Nat}
theorem pi_enumT {te : TE} (hg : Gl X "enumerate") (hm : X.mg "enumerate" = none) (he : PE X e te) (hu : unstar e = true) :
    PI X (.Tuple elts kk tpos) (.Call (.Name "enumerate" p) [e] [] pos) (fun σ H R => te σ H fun v H1 => ∃ a xs, v = .ref a ∧ SqT X.K H1 a xs ∧ R (IteT X.K a xs.length) H1) := by
  refine ⟨fun pins s σ H R I h => ?_⟩
  have hs : starEach [e] X.env = [(false, eval e X.env)] := star_cons hu
  have ha : PA X [e] (tCons te tNil) := pa_cons he pa_nil (star_cons hu)
  refine Call_ (ld_blt I hg hm boot_enumerate (PyProof.Rows.callWith_type1 (thn (ha.run pos pins s σ H (fun vs H1 => match vs with | [v] => (∃ a xs, v = .ref a ∧ SqT X.K H1 a xs ∧ R (IteT X.K a xs.length) H1) | _ => False) I h) fun us s1 ⟨vs, H1, I1, r1, q1⟩ => ?_) hs rfl))
  match vs, r1, q1 with
  | [v], r1, q1 =>
    obtain ⟨a, xs, ex, hq, q⟩ := q1
    subst ex
    obtain ⟨u, rfl, ru⟩ := vals1 r1
    cases ru
    obtain ⟨its, rv, p', hz⟩ := I1.tuple hq
    have hal : a < s1.heap.objs.size := p'.lt
    refine enum1_call (PySem.begins_tuple a its.toArray) p' fun h' he' hit hk => wpAny_pyIter_enum he' ?_
    have I2 : Inv X pins σ H1 { s1 with heap := h' } := I1.kept (t' := s1.toks) hk
    refine ⟨s1.heap.objs.size + 1, [s1.heap.objs.size + 1, s1.heap.objs.size], _, _, H1, rfl, I2, turn_enumT a (s1.heap.objs.size + 1) s1.heap.objs.size, ⟨⟨.none, he'⟩, ⟨_, hit, rfl, rfl⟩, Nat.succ_ne_self _, Nat.ne_of_lt hal, Nat.ne_of_lt (Nat.lt_succ_of_lt hal), Nat.zero_le _⟩, fun b hb => ?_, q⟩
    have hle : s1.heap.objs.size ≤ b := by
      rcases (by simpa using hb : b = s1.heap.objs.size + 1 ∨ b = s1.heap.objs.size) with z | z <;> subst z
      · exact Nat.le_add_right _ _
      · exact Nat.le_refl _
    exact I1.fpOk hle (I1.hok.fresh hle)
end
end EvL

set_option Elab.async false
set_option linter.all false
set_option maxRecDepth 100000
set_option maxHeartbeats 8000000
namespace EvL
open PySem PySem.Spec PyProof.Rows L2

section
variable {K : PySem.W.Frag} {Hf : Hp}
theorem idx_get {xs : List D} {i : Nat} {d : D} (e : (xs.mapIdx fun k x => PyData.tuple [.int (k : Nat), x])[i]? = some d) : ∃ x, xs[i]? = some x ∧ d = .tuple [.int (i : Nat), x] := by
  rw [List.getElem?_mapIdx] at e
  cases h : xs[i]? with
  | none => rw [h] at e; cases e
  | some x => rw [h] at e; cases e; exact ⟨x, rfl, rfl⟩
theorem grow_pair {H Hc : Hp} {T : Addr} {x : V} {y : V} {d d' : D} (s : Ext Hc H) (hT : H T = none) (h1 : Dq K Hc x d) (h2 : Dq K Hc y d') : ∃ Hc', Grow Hc H Hc' (upd H T (.tup [x, y])) ∧ Dq K Hc' (.ref T) (.tuple [d, d']) :=
  ⟨_, Grow.tup s hT, .tup (.inl (.inl upd_same)) (dpMs (Ext.new (s.none hT)) (.cons h1 (.cons h2 .nil)))⟩
theorem wk_enum {a : Addr} {vs : List V} {xs : List D} (h : Rd Hf a (.lst vs)) (q : Dqs K Hf vs xs) : Wk K (Ite K a) Hf (xs.mapIdx fun k x => .tuple [.int (k : Nat), x]) where
  go := fun i H s l => by
    have l' : i < vs.length := by rw [dps_len q]; simpa using l
    exact ⟨vs, vs[i], .inl (s.rd h), List.getElem?_eq_getElem _⟩
  stop := fun i H s l => ⟨vs, .inl (s.rd h), by rw [dps_len q]; simpa using l⟩
  yld := fun i H Hc v H' d s1 s2 e ⟨T, x, e1, e2, e3, e4⟩ => by
    subst e1 e3
    obtain ⟨y, g1, rfl⟩ := idx_get e
    obtain ⟨w, g2, g3⟩ := dps_get q g1
    have := e4 vs (.inl ((s1.tr s2).rd h))
    rw [g2] at this; cases this
    exact grow_pair s2 e2 (.int _) (dpM s1 g3)
theorem wk_enumT {a : Addr} {vs : List V} {xs : List D} (h : SqT K Hf a vs) (q : Dqs K Hf vs xs) : Wk K (IteT K a vs.length) Hf (xs.mapIdx fun k x => .tuple [.int (k : Nat), x]) where
  go := fun i H s l => by
    have l' : i < vs.length := by rw [dps_len q]; simpa using l
    exact ⟨l', vs, s.st h, rfl⟩
  stop := fun i H s l => ⟨by rw [dps_len q]; simpa using l, vs, s.st h, rfl⟩
  yld := fun i H Hc v H' d s1 s2 e ⟨T, x, e1, e2, e3, e4⟩ => by
    subst e1 e3
    obtain ⟨y, g1, rfl⟩ := idx_get e
    obtain ⟨w, g2, g3⟩ := dps_get q g1
    have := e4 vs ((s1.tr s2).st h)
    rw [g2] at this; cases this
    exact grow_pair s2 e2 (.int _) (dpM s1 g3)
theorem zip_get {xs ys : List D} {i : Nat} {d : D} (e : ((xs.zip ys).map fun p => PyData.tuple [p.1, p.2])[i]? = some d) : ∃ x y, xs[i]? = some x ∧ ys[i]? = some y ∧ d = .tuple [x, y] := by
  rw [List.getElem?_map] at e
  cases h : (xs.zip ys)[i]? with
  | none => rw [h] at e; cases e
  | some p =>
    rw [h] at e; cases e
    obtain ⟨h1, h2⟩ := List.getElem?_zip_eq_some.mp h
    exact ⟨_, _, h1, h2, rfl⟩
/-- a value that stands for a list or a tuple -/
theorem dq_seq {v : V} {d : D} {xs : List D} (h : Dq K Hf v d) (e : seqD d = some xs) : ∃ k a vs, v = .ref a ∧ Dqs K Hf vs xs ∧ ∀ H, Ext Hf H → SqK k K H a vs := by
  cases h with
  | lst h q => cases e; exact ⟨false, _, _, rfl, q, fun H s => (show SqL K H _ _ from .inl (s.rd h))⟩
  | tup h q => cases e; exact ⟨true, _, _, rfl, q, fun H s => (show SqT K H _ _ from s.st h)⟩
  | _ => cases e
theorem wk_K {k1 k2 : Bool} {a b : Addr} {vs ws : List V} {xs ys : List D} (h : ∀ H, Ext Hf H → SqK k1 K H a vs) (q : Dqs K Hf vs xs) (h2 : ∀ H, Ext Hf H → SqK k2 K H b ws) (q2 : Dqs K Hf ws ys) : Wk K (ItK k1 k2 K a b) Hf ((xs.zip ys).map fun p => .tuple [p.1, p.2]) where
  go := fun i H s l => by
    have l' : i < min xs.length ys.length := by simpa using l
    have l1 : i < vs.length := by rw [dps_len q]; omega
    have l2 : i < ws.length := by rw [dps_len q2]; omega
    exact ⟨vs, ws, vs[i], ws[i], h H s, h2 H s, List.getElem?_eq_getElem _, List.getElem?_eq_getElem _⟩
  stop := fun i H s l => by
    have l' : min xs.length ys.length ≤ i := by rw [List.length_map, List.length_zip] at l; exact l
    exact ⟨vs, ws, h H s, h2 H s, by rw [dps_len q, dps_len q2]; omega⟩
  yld := fun i H Hc v H' d s1 s2 e ⟨T, x, y, e1, e2, e3, e4, e5⟩ => by
    subst e1 e3
    obtain ⟨x', y', g1, g2, rfl⟩ := zip_get e
    obtain ⟨w, k1, k2⟩ := dps_get q g1
    obtain ⟨w', k3, k4⟩ := dps_get q2 g2
    have t1 := e4 vs (h _ (s1.tr s2))
    rw [k1] at t1; cases t1
    have t2 := e5 ws (h2 _ (s1.tr s2))
    rw [k3] at t2; cases t2
    exact grow_pair s2 e2 (dpM s1 k2) (dpM s1 k4)
end
section
variable {X : Cx} {e e2 : Expr} {fa : FX} {p pos tpos : Pos} {g : FA} {elts : List Expr} {kk : Nat}
theorem i_enum (hg : Gl X "enumerate") (hm : X.mg "enumerate" = none) (ha : PE X e (tX X.K fa)) (hu : unstar e = true) : PI X (.Tuple elts kk tpos) (.Call (.Name "enumerate" p) [e] [] pos) (tI X.K .enum fun Γ => (fa Γ).bind fun (x, Γ) => some ([x.d], Γ)) :=
  ⟨fun pins s σ H R I ⟨Γ, Hf, ds, Γ', xs, R0, eg, ei, k⟩ => by
    obtain ⟨⟨rx, Γ1⟩, e1, eg⟩ := bindS eg
    cases eg
    have e0 : (seqD rx.d).map (fun xs => xs.mapIdx fun k x => PyData.tuple [.int k, x]) = some xs := ei
    cases hd : rx.d with
    | list ys =>
      rw [hd] at e0; cases e0
      exact (pi_enum hg hm (pa_cons (pe_fast ha) pa_nil (star_cons hu)) (star_cons hu)).run pins s σ H R I ⟨Γ, Hf, rx, _, R0, e1, fun v H1 Hf1 R1 S1 d1 => by
        rw [hd] at d1
        cases d1 with
        | lst h q => exact ⟨_, _, rfl, .inl (R1.sub.rd h), k _ _ Hf1 R1 S1 (wk_enum h q)⟩⟩
    | tuple ys =>
      rw [hd] at e0; cases e0
      exact (pi_enumT hg hm (pe_fast ha) hu).run pins s σ H R I ⟨Γ, Hf, rx, _, R0, e1, fun v H1 Hf1 R1 S1 d1 => by
        rw [hd] at d1
        cases d1 with
        | tup h q => exact ⟨_, _, rfl, R1.sub.st h, k _ _ Hf1 R1 S1 (wk_enumT h q)⟩⟩
    | _ => rw [hd] at e0; exact nl e0⟩
theorem zip_ds {ds xs : List D} (e : itD .zip ds = some xs) : ∃ a b ys zs, ds = [a, b] ∧ seqD a = some ys ∧ seqD b = some zs ∧ xs = (ys.zip zs).map fun p => .tuple [p.1, p.2] := by
  match ds, e with
  | [], e => exact nl e
  | [d], e => cases d <;> exact nl e
  | [a, b], e =>
    have e : (seqD a).bind (fun xs => (seqD b).map fun ys => (xs.zip ys).map fun p => PyData.tuple [p.1, p.2]) = some xs := e
    obtain ⟨ys, h1, e⟩ := bindS e
    obtain ⟨zs, h2, e⟩ := mapS' e
    exact ⟨a, b, ys, zs, rfl, h1, h2, e.symm⟩
  | a :: b :: c :: r, e => cases a <;> first | exact nl e | (cases b <;> first | exact nl e | (cases c <;> exact nl e))
theorem i_zip (hg : Gl X "zip") (hm : X.mg "zip" = none) (ha : PA X [e, e2] (tAs X.K g)) (hu : unstar e = true) (hu2 : unstar e2 = true) : PI X (.Tuple elts kk tpos) (.Call (.Name "zip" p) [e, e2] [] pos) (tI X.K .zip g) :=
  ⟨fun pins s σ H R I ⟨Γ, Hf, ds, Γ', xs, R0, eg, ei, k⟩ => by
    refine (pi_zipK hg hm ha (star_cons hu) (star_plain (by simp [hu2]))).run pins s σ H R I ⟨Γ, Hf, ds, Γ', R0, eg, fun vs H1 Hf1 R1 S1 d1 => ?_⟩
    obtain ⟨a, b, ys, zs, rfl, h1, h2, rfl⟩ := zip_ds ei
    obtain ⟨x, y, rfl, hx, hy⟩ := ds2 d1
    obtain ⟨k1, p1, v1, rfl, q1, s1⟩ := dq_seq hx h1
    obtain ⟨k2, p2, v2, rfl, q2, s2⟩ := dq_seq hy h2
    exact ⟨k1, k2, p1, p2, v1, v2, rfl, s1 _ R1.sub, s2 _ R1.sub, k _ _ Hf1 R1 S1 (wk_K s1 q1 s2 q2)⟩⟩
end
end EvL

set_option Elab.async false
set_option linter.all false
set_option maxRecDepth 100000
set_option maxHeartbeats 8000000
namespace EvL
open PySem PySem.Spec PyProof.Rows L2

/-! ### the small language tells what the model's expressions do -/
def isBoolOp : Expr → Bool
  | .BoolOp .. => true | _ => false
structure Snd (X : Cx) (e : Expr) (ir : IE) : Prop where
  pe : PE X e (tX X.K (evX ir))
  pt : PT X e (tT X.K (evT ir))
  pw : isBoolOp e = true → PW X e (tT X.K (evT ir))
  pl : plainE e = true
theorem plain_unstar {e : Expr} (h : plainE e = true) : unstar e = true := by cases e <;> first | rfl | (cases h; done)
theorem plain_ix {e : Expr} (h : plainE e = true) (h2 : isTup e = false) : PlainIx e := by cases e <;> first | (intro o i; rfl) | (cases h; done) | (cases h2; done)
theorem plain_fold {e : Expr} {env : Env} (h : plainE e = true) : ∀ x, foldedSetIterable e env x = pure x := by cases e <;> first | (intro x; rfl) | (cases h; done)
theorem plain_marks {e : Expr} {op : CmpOp} (h : plainE e = true) : behindInMarks op e = false := by cases e <;> first | rfl | (cases h; done)
def plainT : Expr → Bool
  | .UnaryOp .Not _ _ => false | .BoolOp .. => false | .IfExp .. => false | .Compare .. => false | _ => true
theorem plain_test {e : Expr} {env : Env} (h : plainT e = true) : ∀ whole, isTrue e env whole = (do let v ← whole; standAt e.pos; holding [v] (truthy v)) := by
  cases e <;> first | (intro w; rfl) | (cases h; done) | skip
  rename_i op a p
  cases op <;> first | (intro w; rfl) | (cases h; done)
section
variable {X : Cx} {k : Nat} {c : Cc}
theorem vis_of (h : EOk k c X) {x : Str} (hv : visK c.sc x = true) : Vis X.env.scope x := by
  unfold visK at hv
  rw [← h.sc] at hv
  split at hv
  · exact .inl ‹_›
  · exact .inr (.inl ‹_›)
  · exact .inr (.inr ‹_›)
  · cases hv
theorem glo_of (h : EOk k c X) {x : Str} (hv : gloK c.sc x = true) : Gl X x := by
  unfold gloK at hv
  rw [← h.sc] at hv
  split at hv
  · assumption
  · cases hv
theorem ok_names {x : Str} (h : okName x = true) : (x == ("__debug__" : Str)) = false ∧ (x == ("__classdict__" : Str)) = false ∧ x ≠ "__name__" := by
  simp only [okName, Bool.and_eq_true, Bool.not_eq_true', decide_eq_true_eq] at h
  exact ⟨h.1.1, h.1.2, h.2⟩
theorem bl_of (h : EOk k c X) {x : Str} (hb : c.bl.contains x = true) : X.mg x = none := h.bl x (List.contains_iff_mem.mp hb)
theorem lookC_mem {l : List (Str × D)} {x : Str} {d : D} (h : lookC l x = some d) : (x, d) ∈ l := by
  unfold lookC at h
  obtain ⟨p, h1, h2⟩ := mapS' h
  have h3 := List.find?_some h1
  have h4 := List.mem_of_find?_eq_some h1
  obtain ⟨a, b⟩ := p
  simp only [decide_eq_true_eq] at h3
  subst h3 h2
  exact h4
/-- a value as a test, where the small language has one -/
theorem mk (e : Expr) (ir : IE) (hp : plainE e = true) (ht : plainT e = true) (h : PE X e (tX X.K (evX ir))) (hf : (∀ Γ, evT ir Γ = (evX ir Γ).bind fun (x, Γ) => (trD x.d).map fun c => (c, Γ)) ∨ ∀ Γ, evT ir Γ = none) : Snd X e ir where
  pe := h
  pt := by
    rcases hf with hf | hf
    · exact t_val hf h (plain_test ht)
    · exact t_none hf
  pw := fun hb => by cases e <;> first | (cases hb; done) | (cases ht; done)
  pl := hp
theorem compL_sound {f : Expr → Option IE} {X : Cx} (hf : ∀ e ir, f e = some ir → Snd X e ir) : ∀ {es : List Expr} {irs : List IE}, compL f es = some irs → PA X es (tAs X.K (evs irs)) ∧ es.all unstar = true ∧ irs.length = es.length
  | [], irs, h => by
    cases (show some [] = some irs from h)
    exact ⟨by have := s_nil (X := X); rwa [show evs [] = fun Γ => some ([], Γ) from by funext Γ; rw [evs]], rfl, rfl⟩
  | e :: es, irs, h => by
    obtain ⟨x, h1, h⟩ := bindS (show (f e).bind (fun x => (compL f es).map fun xs => x :: xs) = some irs from h)
    obtain ⟨xs, h2, rfl⟩ := mapS' h
    obtain ⟨a, b, l⟩ := compL_sound hf h2
    have q := hf e x h1
    refine ⟨?_, by simp [plain_unstar q.pl, b], by simp [l]⟩
    have := s_cons q.pe a (plain_unstar q.pl)
    rwa [show evs (x :: xs) = fun Γ => (evX x Γ).bind fun (y, Γ) => (evs xs Γ).map fun (ds, Γ) => (y.d :: ds, Γ) from by funext Γ; rw [evs]]
theorem compK_sound {f : Expr → Option IE} {X : Cx} (hf : ∀ e ir, f e = some ir → Snd X e ir) : ∀ {kws : List Keyword} {irs : List IE}, compL f (kws.map (·.value)) = some irs → PK X kws (tAs X.K (evs irs)) ∧ irs.length = kws.length
  | [], irs, h => by
    cases (show some [] = some irs from h)
    exact ⟨by have := k_nil (X := X); rwa [show evs [] = fun Γ => some ([], Γ) from by funext Γ; rw [evs]], rfl⟩
  | ⟨nm, e, p⟩ :: kws, irs, h => by
    obtain ⟨x, h1, h⟩ := bindS (show (f e).bind (fun x => (compL f (kws.map (·.value))).map fun xs => x :: xs) = some irs from h)
    obtain ⟨xs, h2, rfl⟩ := mapS' h
    obtain ⟨a, l⟩ := compK_sound hf h2
    refine ⟨?_, by simp [l]⟩
    have := k_cons (nm := nm) (kp := p) (hf e x h1).pe a
    rwa [show evs (x :: xs) = fun Γ => (evX x Γ).bind fun (y, Γ) => (evs xs Γ).map fun (ds, Γ) => (y.d :: ds, Γ) from by funext Γ; rw [evs]]
theorem compBool_sound {f : Expr → Option IE} {X : Cx} (hf : ∀ e ir, f e = some ir → Snd X e ir) (op : BoolOp) (pos : Pos) : ∀ {es : List Expr} {ir : IE}, compBool f op es = some ir → Snd X (.BoolOp op es pos) ir
  | [], _, h => by cases h
  | [e], ir, h => by
    have q := hf e ir h
    have w : PW X (.BoolOp op [e] pos) (tT X.K (evT ir)) := by
      cases op with
      | And => exact pw_and1 q.pt
      | Or => exact pw_or1 q.pt
    exact ⟨pe_one q.pe, w.pt, fun _ => w, rfl⟩
  | a :: b :: es, ir, h => by
    obtain ⟨x, h1, h⟩ := bindS (show (f a).bind (fun x => (compBool f op (b :: es)).map fun y => mkB op x y) = some ir from h)
    obtain ⟨y, h2, h3⟩ := mapS' h
    have qa := hf a x h1
    have qb := compBool_sound hf op pos h2
    cases op with
    | And =>
      cases h3
      have e1 : evX (.and x y) = fun Γ => (evX x Γ).bind fun (x, Γ) => (trD x.d).bind fun c => if c then (evX y Γ).map fun (y, Γ) => (.fz y.d, Γ) else some (.fz x.d, Γ) := by funext Γ; rw [evX]
      have e2 : evT (.and x y) = fun Γ => (evT x Γ).bind fun (c, Γ) => if c then evT y Γ else some (false, Γ) := by funext Γ; rw [evT]
      have w := t_and qa.pt (qb.pw rfl)
      rw [← e2] at w
      exact ⟨by show PE X _ (tX X.K (evX (IE.and x y))); rw [e1]; exact s_and qa.pe qb.pe, w.pt, fun _ => w, rfl⟩
    | Or =>
      cases h3
      have e1 : evX (.or x y) = fun Γ => (evX x Γ).bind fun (x, Γ) => (trD x.d).bind fun c => if c then some (.fz x.d, Γ) else (evX y Γ).map fun (y, Γ) => (.fz y.d, Γ) := by funext Γ; rw [evX]
      have e2 : evT (.or x y) = fun Γ => (evT x Γ).bind fun (c, Γ) => if c then some (true, Γ) else evT y Γ := by funext Γ; rw [evT]
      have w := t_or qa.pt (qb.pw rfl)
      rw [← e2] at w
      exact ⟨by show PE X _ (tX X.K (evX (IE.or x y))); rw [e1]; exact s_or qa.pe qb.pe, w.pt, fun _ => w, rfl⟩
theorem bin_sound (hp : Pyl X) (op : Operator) (o : BOp) (h : binOf op = some o) : OpR X (binaryOp op) (rB X.K (binD o)) := by
  cases op <;> cases h
  · exact op_addD
  · exact op_subD
  · exact op_mulD
  · exact op_modD
  · exact op_powD
  · exact op_fdivD hp
theorem cmp_sound (hu : X.A.units + 65 < cLine) (op : CmpOp) (o : COp) (h : cmpOf op = some o) : OpR X (compareOp op) (rC X.K (cmpD o)) := by
  cases op <;> cases h
  · exact op_eqC hu
  · exact op_neC hu
  · exact op_ltC
  · exact op_leC
  · exact op_gtC
  · exact op_geC
  · exact op_isC
  · exact op_isnC
  · exact op_inC hu
  · exact op_ninC hu
theorem bi_callB {id : String} {f : BF} {x : Str} {es : List Expr} {g : FA} {p pos : Pos} (h : EOk k c X) (hc : CallR X (.builtin id) (rK X.K f)) (hg : Gl X x) (hm : X.mg x = none) (hv : bootBuiltins x = some (.builtin id)) (ha : PA X es (tAs X.K g)) (hu : es.all unstar = true) (hne : es ≠ []) (hx : okName x = true) :
    PE X (.Call (.Name x p) es [] pos) (tX X.K fun Γ => (g Γ).bind fun (ds, Γ) => (biD f ds).map fun r => (r, Γ)) := by
  obtain ⟨n1, n2, n3⟩ := ok_names hx
  cases es with
  | nil => exact absurd rfl hne
  | cons e es =>
    simp only [List.all_cons, Bool.and_eq_true] at hu
    exact s_bi (t := tAs X.K g) (pe_callB hc hg hm hv ha n3 n1 (star_cons hu.1) (star_plain hu.2))
theorem bi_callT {T : String} {f : BF} {x : Str} {es : List Expr} {g : FA} {p pos : Pos} (h : EOk k c X) (hc : CallR X (.type T) (rK X.K f)) (hg : Gl X x) (hm : X.mg x = none) (hv : bootBuiltins x = some (.type T)) (ha : PA X es (tAs X.K g)) (hu : es.all unstar = true) (hne : es ≠ []) (hx : okName x = true) :
    PE X (.Call (.Name x p) es [] pos) (tX X.K fun Γ => (g Γ).bind fun (ds, Γ) => (biD f ds).map fun r => (r, Γ)) := by
  obtain ⟨n1, n2, n3⟩ := ok_names hx
  cases es with
  | nil => exact absurd rfl hne
  | cons e es =>
    simp only [List.all_cons, Bool.and_eq_true] at hu
    exact s_bi (t := tAs X.K g) (pe_callTy hc hg hm hv ha n3 n1 (star_cons hu.1) (star_plain hu.2))
theorem biOf_sound {x : Str} {es : List Expr} {f : BF} {g : FA} {p pos : Pos} (h : EOk k c X) (hb : biOf x es.length = some f) (hg : Gl X x) (hm : X.mg x = none) (ha : PA X es (tAs X.K g)) (hu : es.all unstar = true) (hx : okName x = true) :
    PE X (.Call (.Name x p) es [] pos) (tX X.K fun Γ => (g Γ).bind fun (ds, Γ) => (biD f ds).map fun r => (r, Γ)) := by
  have hne : es ≠ [] := fun z => by subst z; simp [biOf] at hb
  unfold biOf at hb
  repeat' (split at hb)
  all_goals (first | (cases hb; done) | skip)
  all_goals (cases hb; subst_vars)
  · exact bi_callB h k_len hg hm PySem.boot_len ha hu hne hx
  · exact bi_callB h k_abs hg hm PyProof.Rows.boot_abs ha hu hne hx
  · exact bi_callT h k_int hg hm PyProof.Rows.boot_int ha hu hne hx
  · exact bi_callB h (k_repr h.gd h.un) hg hm PyProof.Rows.boot_repr ha hu hne hx
  · exact bi_callT h k_tuple hg hm PyProof.Rows.boot_tuple ha hu hne hx
  · exact bi_callT h k_list hg hm PyProof.Rows.boot_list ha hu hne hx
  · exact bi_callB h (k_all h.calm) hg hm PyProof.Rows.boot_all ha hu hne hx
  · exact bi_callB h (k_any h.calm) hg hm PyProof.Rows.boot_any ha hu hne hx
  · exact bi_callB h (k_sum h.calm) hg hm PyProof.Rows.boot_sum ha hu hne hx
  · exact bi_callB h k_divmod hg hm PyProof.Rows.boot_divmod ha hu hne hx
  · exact bi_callB h (k_max h.calm) hg hm PyProof.Rows.boot_max ha hu hne hx
  · exact bi_callB h (k_min h.calm) hg hm PyProof.Rows.boot_min ha hu hne hx
end
end EvL

set_option Elab.async false
set_option linter.all false
set_option maxRecDepth 100000
set_option maxHeartbeats 8000000
namespace EvL
open PySem PySem.Spec PyProof.Rows L2

section
variable {X : Cx} {k : Nat} {c : Cc}
theorem compCall_sound {f : Expr → Option IE} (h : EOk k c X) (hf : ∀ e ir, f e = some ir → Snd X e ir) {x : Str} {es : List Expr} {kws : List Keyword} {p pos : Pos} {ir : IE} (hc : compCall f c x es kws = some ir) : Snd X (.Call (.Name x p) es kws pos) ir := by
  unfold compCall at hc
  split at hc
  case isFalse => cases hc
  rename_i h0
  simp only [Bool.and_eq_true] at h0
  obtain ⟨⟨hx, hgl⟩, hu⟩ := h0
  have hg := glo_of h hgl
  obtain ⟨n1, n2, n3⟩ := ok_names hx
  split at hc
  · -- isinstance
    rename_i hxi
    subst hxi
    split at hc
    · rename_i a T tp
      split at hc
      · rename_i hh
        simp only [Bool.and_eq_true] at hh
        obtain ⟨⟨⟨b1, b2⟩, b3⟩, b4⟩ := hh
        obtain ⟨bf, t1, hc⟩ := bindS hc
        obtain ⟨a', t2, rfl⟩ := mapS' hc
        have q := hf a a' t2
        obtain ⟨m1, m2, m3⟩ := ok_names b4
        have hT : ∃ n : String, bootBuiltins T = some (.type n) ∧ tyName bf = some n := by
          unfold tyBF at t1
          repeat' (split at t1)
          all_goals (first | (cases t1; done) | skip)
          all_goals (cases t1; subst_vars)
          · exact ⟨_, PyProof.Rows.boot_int, rfl⟩
          · exact ⟨"bool", by decide +kernel, rfl⟩
          · exact ⟨_, PyProof.Rows.boot_tuple, rfl⟩
          · exact ⟨_, PyProof.Rows.boot_list, rfl⟩
          · exact ⟨"str", by decide +kernel, rfl⟩
        obtain ⟨n, hb, hn⟩ := hT
        have pT : PE X (.Name T tp) (tC (.ty n)) := pe_bltn (glo_of h b3) (bl_of h b2) hb rfl m3 m1
        have key : PE X (.Call (.Name "isinstance" p) [a, .Name T tp] [] pos) (tX X.K (evX (.bi bf [a']))) := by
          refine (pe_callB (k_isi (f := bf)) hg (bl_of h b1) PyProof.Rows.boot_isinstance (pa_cons (pe_fast q.pe) (pa_cons pT pa_nil (star_cons rfl)) (star_cons (plain_unstar q.pl))) n3 n1 (star_cons (plain_unstar q.pl)) (star_plain rfl)).imp fun σ H Q ⟨Γ, Hf, r, Γ', R, ef, kk⟩ => ?_
          rw [evX] at ef
          obtain ⟨⟨ds, Γ1⟩, e1, ef⟩ := bindS ef
          rw [evs] at e1
          obtain ⟨⟨rx, Γ2⟩, e2, e1⟩ := bindS e1
          obtain ⟨⟨ds', Γ3⟩, e2', e1⟩ := mapS' e1
          rw [evs] at e2'
          cases e2'
          cases e1
          obtain ⟨w, e3, e4⟩ := mapS' ef
          cases e4
          have e5 : r = .fz (.bool (isD bf rx.d)) := by
            cases bf <;> first | (cases hn; done) | (cases e3; rfl)
          subst e5
          exact ⟨Γ, Hf, rx, _, R, e2, fun v H1 Hf1 R1 S1 d1 => ⟨Hf1, v, n, rx.d, rfl, hn, R1.sub, d1, kk _ _ Hf1 R1 S1 (.bl _)⟩⟩
        exact mk _ _ rfl rfl key (.inl fun Γ => by
          rw [evX, evT]
          cases evs [a'] Γ with
          | none => rfl
          | some p => obtain ⟨ds, Γ1⟩ := p; simp only [Option.bind_some]; cases biD bf ds <;> rfl)
      · cases hc
    · cases hc
  · have fin : ∀ (bf : BF) (irs : List IE), PE X (.Call (.Name x p) es [] pos) (tX X.K fun Γ => (evs irs Γ).bind fun (ds, Γ) => (biD bf ds).map fun r => (r, Γ)) → Snd X (.Call (.Name x p) es [] pos) (.bi bf irs) := fun bf irs q =>
      mk _ _ rfl rfl (by rwa [show evX (.bi bf irs) = fun Γ => (evs irs Γ).bind fun (ds, Γ) => (biD bf ds).map fun r => (r, Γ) from by funext Γ; rw [evX]]) (.inl fun Γ => by
        rw [evX, evT]
        cases evs irs Γ with
        | none => rfl
        | some p => obtain ⟨ds, Γ1⟩ := p; simp only [Option.bind_some]; cases biD bf ds <;> rfl)
    split at hc
    · -- gcd
      rename_i _ hxg
      subst hxg
      split at hc
      · rename_i hh
        simp only [Bool.and_eq_true, decide_eq_true_eq] at hh
        obtain ⟨⟨g1, g2⟩, g3⟩ := hh
        obtain ⟨irs, t1, rfl⟩ := mapS' hc
        cases kws with
        | cons => cases g2
        | nil =>
          obtain ⟨a, _, _⟩ := compL_sound hf t1
          cases es with
          | nil => cases g3
          | cons e es =>
            simp only [List.all_cons, Bool.and_eq_true] at hu
            exact fin .gcd irs (s_bi (t := tAs X.K (evs irs)) (pe_callBfun k_gcd hg (h.gcd g1) a n1 (star_cons hu.1) (star_plain hu.2)))
      · cases hc
    · split at hc
      · -- len of a slot
        rename_i i hi
        cases hc
        unfold lenArg at hi
        split at hi
        case isFalse => cases hi
        rename_i h1
        simp only [Bool.and_eq_true, decide_eq_true_eq] at h1
        obtain ⟨⟨q1, q2⟩, q3⟩ := h1
        subst q1
        split at hi
        case h_2 => cases hi
        split at hi
        case isFalse => cases hi
        rename_i y p2 h2
        simp only [Bool.and_eq_true] at h2
        have hix := ixOf_get hi
        rw [← h.hN] at hix
        obtain ⟨m1, m2, _⟩ := ok_names h2.1
        cases kws with
        | cons => cases q3
        | nil =>
          have key := s_lenv (pos := pos) (p := p) (py := p2) hix (vis_of h h2.2) m1 m2 hg (bl_of h q2)
          refine mk _ _ rfl rfl ?_ (.inl fun Γ => ?_)
          · rwa [show evX (.lenv i) = fun Γ => (slotD i Γ).bind fun d => (biD .len [d]).map fun r => (r, Γ) from by funext Γ; rw [evX]]
          · rw [evX, evT]
            cases slotD i Γ with
            | none => rfl
            | some d => simp only [Option.bind_some]; cases biD .len [d] <;> rfl
      · split at hc
        · -- a built-in
          rename_i bf hb
          split at hc
          · rename_i hh
            simp only [Bool.and_eq_true] at hh
            obtain ⟨irs, t1, rfl⟩ := mapS' hc
            cases kws with
            | cons => cases hh.2
            | nil =>
              obtain ⟨a, _, _⟩ := compL_sound hf t1
              exact fin bf irs (biOf_sound h hb hg (bl_of h hh.1) a hu hx)
          · cases hc
        · -- the table
          split at hc
          · cases hc
          · rename_i E hE
            have h3 := List.find?_some hE
            have h4 := List.mem_of_find?_eq_some hE
            simp only [Bool.and_eq_true, decide_eq_true_eq] at h3
            obtain ⟨⟨d1, d2⟩, d3⟩ := h3
            subst d1
            have C := h.fns E h4
            split at hc
            · rename_i hmt
              split at hc
              · rename_i hh
                simp only [Bool.and_eq_true, decide_eq_true_eq] at hh
                obtain ⟨k1, k2⟩ := hh
                have hkw : kws = [] := by
                  rw [k1] at d3
                  cases kws with
                  | nil => rfl
                  | cons => simp at d3
                subst hkw
                split at hc
                · cases hc
                · rename_i y py rest hlen hbn
                  split at hc
                  · rename_i hy
                    simp only [Bool.and_eq_true] at hy
                    obtain ⟨i, t1, hc⟩ := bindS hc
                    obtain ⟨irs, t2, rfl⟩ := mapS' hc
                    obtain ⟨a, u2, l2⟩ := compL_sound hf t2
                    obtain ⟨m1, m2, m3⟩ := ok_names hy.1
                    have hi := ixOf_get t1
                    rw [← h.hN] at hi
                    have key := s_callm (p := p) (pos := pos) (px := py) C h.rm h.gd hg n1 hi (vis_of h hy.2) m1 m2 (by simpa using d2.symm) k1 k2 u2 a (fun Γ ds Γ' e => (evs_len e).trans l2)
                    refine mk _ _ rfl rfl ?_ (.inl fun Γ => ?_)
                    · rwa [show evX (.callm E.f i irs) = _ from by funext Γ; rw [evX]]
                    · rw [evX, evT]
                      split
                      · cases evs irs Γ with
                        | none => rfl
                        | some p =>
                          obtain ⟨ds, Γ1⟩ := p
                          simp only [Option.bind_some]
                          split
                          · rename_i b cc _
                            simp only [hmt, if_true]
                            cases E.f.run (.list cc :: ds) <;> rfl
                          · rfl
                      · rfl
                  · cases hc
                · rename_i e hne hlen hbn
                  obtain ⟨r, t1, rfl⟩ := mapS' hc
                  have q := hf e r t1
                  have key := s_callt (p := p) (pos := pos) C h.rm h.gd hg n1 (by simpa using d2.symm) k1 k2 (plain_unstar q.pl) q.pe
                  refine mk _ _ rfl rfl ?_ (.inl fun Γ => ?_)
                  · rwa [show evX (.callt E.f r) = _ from by funext Γ; rw [evX]]
                  · rw [evX, evT]
                    cases evX r Γ with
                    | none => rfl
                    | some p =>
                      obtain ⟨x, Γ1⟩ := p
                      cases x with
                      | fz d => rfl
                      | oo rss => rfl
                      | ow cc =>
                        simp only [Option.bind_some, hmt, if_true]
                        cases E.f.run [.list cc] <;> rfl
                · cases hc
              · cases hc
            · rename_i hmt
              obtain ⟨as, t1, hc⟩ := bindS hc
              obtain ⟨bs, t2, rfl⟩ := mapS' hc
              obtain ⟨a, u2, l2⟩ := compL_sound hf t1
              obtain ⟨b, l3⟩ := compK_sound hf t2
              have l4 : kws.length = E.kws.length := by have := congrArg List.length d3; simpa using this
              have key := s_call (p := p) (pos := pos) C h.rm h.gd hg n1 d2.symm d3 u2 a b (fun Γ ds Γ' e => by rw [evs_len e, l2, d2]) (fun Γ ds Γ' e => by rw [evs_len e, l3, l4])
                (fun z => by subst z; cases (show some [] = some as from t1); funext Γ; rw [evs])
              have ee : ∀ Γ, evX (.call E.f E.pm (as ++ bs)) Γ = ((evs as Γ).bind fun (ds, Γ) => (evs bs Γ).bind fun (xs, Γ) => if E.f.mt then none else (E.f.run (E.pm (ds ++ xs))).map fun (r, _) => (r, Γ)) := fun Γ => by
                rw [evX, evs_app]
                cases evs as Γ with
                | none => rfl
                | some p =>
                  obtain ⟨ds, Γ1⟩ := p
                  simp only [Option.bind_some]
                  cases evs bs Γ1 with
                  | none => rfl
                  | some p => rfl
              refine mk _ _ rfl rfl ?_ (.inl fun Γ => ?_)
              · rwa [show evX (.call E.f E.pm (as ++ bs)) = _ from funext ee]
              · rw [evX, evT]
                cases evs (as ++ bs) Γ with
                | none => rfl
                | some p =>
                  obtain ⟨ds, Γ1⟩ := p
                  simp only [Option.bind_some]
                  split
                  · rfl
                  · cases E.f.run (E.pm ds) <;> rfl
theorem evs1 (a : IE) : evs [a] = fun Γ => (evX a Γ).bind fun (x, Γ) => some ([x.d], Γ) := by
  funext Γ
  rw [evs]
  cases evX a Γ with
  | none => rfl
  | some p => obtain ⟨x, Γ1⟩ := p; simp only [Option.bind_some]; rw [evs]; rfl
theorem compI_sound {f : Expr → Option IE} (h : EOk k c X) (hf : ∀ e ir, f e = some ir → Snd X e ir) {tg e : Expr} {kk : IK} {irs : List IE} (hc : compI f c tg e = some (kk, irs)) : PI X tg e (tI X.K kk (evs irs)) := by
  have seq : ∀ {e : Expr}, ((f e).map fun a => ((IK.seq, [a]) : IK × List IE)) = some (kk, irs) → PI X tg e (tI X.K kk (evs irs)) := fun {e} hc => by
    obtain ⟨a, t1, t2⟩ := mapS' hc
    cases t2
    rw [evs1]
    exact i_seq (hf e a t1).pe
  have pa : ∀ {es : List Expr} {irs : List IE}, compL f es = some irs → PA X es (tAs X.K (evs irs)) := fun h => (compL_sound hf h).1
  unfold compI at hc
  simp only at hc
  split at hc
  · rename_i x p es pos
    split at hc
    · rename_i h0
      simp only [Bool.and_eq_true] at h0
      obtain ⟨⟨⟨hx, hgl⟩, hb⟩, hu⟩ := h0
      have hg := glo_of h hgl
      have hm := bl_of h hb
      split at hc
      · rename_i hxr
        subst hxr
        split at hc
        · obtain ⟨a, t1, t2⟩ := mapS' hc
          cases t2
          exact i_rng1 hg hm (pa (show compL f _ = some [a] by simp [compL, t1])) (plain_unstar (hf _ _ t1).pl)
        · obtain ⟨a, t1, hc⟩ := bindS hc
          obtain ⟨b, t2, t3⟩ := mapS' hc
          cases t3
          exact i_rng2 hg hm (pa (show compL f _ = some [a, b] by simp [compL, t1, t2])) (plain_unstar (hf _ _ t1).pl) (plain_unstar (hf _ _ t2).pl)
        · obtain ⟨a, t1, hc⟩ := bindS hc
          obtain ⟨b, t2, hc⟩ := bindS hc
          obtain ⟨d, t3, t4⟩ := mapS' hc
          cases t4
          exact i_rng3 hg hm (pa (show compL f _ = some [a, b, d] by simp [compL, t1, t2, t3])) (plain_unstar (hf _ _ t1).pl) (by simp [plain_unstar (hf _ _ t2).pl, plain_unstar (hf _ _ t3).pl])
        · cases hc
      · split at hc
        · rename_i hxr
          subst hxr
          split at hc
          · obtain ⟨a, t1, t2⟩ := mapS' hc
            cases t2
            rw [evs1]
            exact i_rev hg hm (hf _ _ t1).pe (plain_unstar (hf _ _ t1).pl)
          · cases hc
        · split at hc
          · rename_i hxr
            subst hxr
            split at hc
            · split at hc
              · rename_i ht
                obtain ⟨a, t1, t2⟩ := mapS' hc
                cases t2
                rw [evs1]
                cases tg <;> first | (cases ht; done) | exact i_enum hg hm (hf _ _ t1).pe (plain_unstar (hf _ _ t1).pl)
              · cases hc
            · cases hc
          · split at hc
            · rename_i hxr
              subst hxr
              split at hc
              · split at hc
                · rename_i ht
                  obtain ⟨a, t1, hc⟩ := bindS hc
                  obtain ⟨b, t2, t3⟩ := mapS' hc
                  cases t3
                  cases tg <;> first | (cases ht; done) | exact i_zip hg hm (pa (show compL f _ = some [a, b] by simp [compL, t1, t2])) (plain_unstar (hf _ _ t1).pl) (plain_unstar (hf _ _ t2).pl)
                · cases hc
              · cases hc
            · exact seq hc
    · exact seq hc
  · exact seq hc
theorem compTs_sound {f : Expr → Option Tg} (hf : ∀ e t, f e = some t → PG X e (tG X.K t)) : ∀ {es : List Expr} {ts : List Tg}, compTs f es = some ts → PGs X es (tGs X.K ts) ∧ es.all unstar = true ∧ es.length = ts.length
  | [], ts, h => by
    cases (show some [] = some ts from h)
    exact ⟨g_nil, rfl, rfl⟩
  | e :: es, ts, h => by
    unfold compTs at h
    split at h
    · rename_i hu
      obtain ⟨x, h1, h⟩ := bindS h
      obtain ⟨xs, h2, rfl⟩ := mapS' h
      obtain ⟨a, b, l⟩ := compTs_sound hf h2
      exact ⟨g_cons (hf e x h1) a hu, by simp [hu, b], by simp [l]⟩
    · cases h
theorem compT_sound (h : EOk k c X) (n : Nat) : ∀ (e : Expr) (t : Tg), compT n c e = some t → PG X e (tG X.K t) := by
  induction n with
  | zero => intro e t hc; cases hc
  | succ n ih =>
    intro e t hc
    unfold compT at hc
    split at hc
    · cases ‹_ = 0›
    · rename_i x p _
      split at hc
      · rename_i hh
        simp only [Bool.and_eq_true] at hh
        obtain ⟨i, t1, rfl⟩ := mapS' hc
        have hi := ixOf_get t1
        rw [← h.hN] at hi
        have hl := hh.2
        unfold locK at hl
        rw [← h.sc] at hl
        split at hl
        · exact g_nm h.nd hi (.inl ‹_›) (.inr ‹_›)
        · exact g_nm h.nd hi (.inr ‹_›) (.inl (h.fnC _ (List.contains_iff_mem.mp hl)))
        · cases hl
      · cases hc
    · rename_i m es kk p e0
      cases e0
      obtain ⟨ts, t1, rfl⟩ := mapS' hc
      obtain ⟨a, b, l⟩ := compTs_sound ih t1
      exact g_tp h.calm l b a
    · cases hc
end
end EvL

set_option Elab.async false
set_option linter.all false
set_option maxRecDepth 100000
set_option maxHeartbeats 16000000
namespace EvL
open PySem PySem.Spec PyProof.Rows L2

/-! ### xs[::-1] -/
theorem fm_map {α β : Type} (f : α → Option β) (g : α → β) : ∀ xs : List α, (∀ x ∈ xs, f x = some (g x)) → xs.filterMap f = xs.map g
  | [], _ => rfl
  | x :: xs, h => by
    rw [List.filterMap_cons, h x List.mem_cons_self, List.map_cons]
    simp only
    rw [fm_map f g xs fun y hy => h y (List.mem_cons_of_mem _ hy)]
section
variable {prog : Program} {w : World} {A : Around} {E : Value → Shared → Prop} {s : Shared}
theorem pick_rev (items : Array Value) : ((List.range items.size).filterMap fun (m : Nat) => items[((items.size : Int) - 1 + (m : Int) * -1).toNat]?).toArray = items.toList.reverse.toArray := by
  congr 1
  refine List.ext_getElem? fun i => ?_
  have e : (List.range items.size).filterMap (fun (m : Nat) => items[((items.size : Int) - 1 + (m : Int) * -1).toNat]?) = (List.range items.size).map fun m => items.toList.reverse.getD m .none := by
    refine fm_map _ _ _ fun m hm => ?_
    have hm := List.mem_range.mp hm
    have h1 : ((items.size : Int) - 1 + (m : Int) * -1).toNat = items.size - 1 - m := by omega
    rw [h1]
    have h2 : items.size - 1 - m < items.size := by omega
    rw [Array.getElem?_eq_getElem h2]
    congr 1
    have h3 : m < items.toList.reverse.length := by simp; exact hm
    rw [List.getD_eq_getElem?_getD, List.getElem?_eq_getElem h3, Option.getD_some, List.getElem_reverse]
    simp
  rw [e, List.getElem?_map]
  by_cases hi : i < items.size
  · rw [List.getElem?_range hi]
    have h3 : i < items.toList.reverse.length := by simp; exact hi
    simp only [Option.map_some]
    rw [List.getD_eq_getElem?_getD, List.getElem?_eq_getElem h3, Option.getD_some]
  · rw [List.getElem?_eq_none (by simp; omega), List.getElem?_eq_none (by simp; omega)]; rfl
theorem places_rev (n : Nat) : Builtin.Slice.slicePlaces ((n : Int) - 1) (-1) (-1) = n := by
  unfold Builtin.Slice.slicePlaces
  rw [if_neg (by decide)]
  by_cases h : n = 0
  · subst h; decide
  · rw [if_pos (by omega)]
    rw [show (- -1 : Int) = 1 by decide, Int.ediv_one]
    omega
theorem applied_rev {sl : Addr} {vs : Value} {n : Nat} {Q : Int × Int × Nat → Shared → Prop} (hs : s.heap.IsSliceOf sl .none .none vs) (ps : IsPart vs (some (-1))) (h : Q ((n : Int) - 1, -1, n) s) : wpAny (model prog w) A (Builtin.Slice.sliceApplied (.ref sl) (pure (n : Int))) Q E s := by
  obtain ⟨os, hos, hcs, hds⟩ := id hs
  unfold Builtin.Slice.sliceApplied Builtin.Slice.sliceFields
  refine wpAny_bind (wpAny_bind (wpAny_field hos hds (x := .none) rfl (wpAny_bind (wpAny_field hos hds (x := .none) rfl (wpAny_bind (wpAny_field hos hds (x := vs) rfl (wpAny_pure ?_)))))))
  refine wpAny_bind (HT.slicePart_ ps ?_)
  show wpAny _ _ (if ((-1 : Int) == 0) = true then _ else _) _ _ s
  rw [if_neg (by decide)]
  refine wpAny_bind (slicePart_none (wpAny_bind (slicePart_none (wpAny_bind (wpAny_pure ?_)))))
  show wpAny _ _ (pure ((n : Int) - 1, (-1 : Int), Builtin.Slice.slicePlaces ((n : Int) - 1) (-1) (-1))) _ _ s
  rw [places_rev]
  exact wpAny_pure h
end
theorem getItem_tuple_rev {prog : Program} {w : World} {A : Around} {E : Value → Shared → Prop} {s : Shared} {t sl : Addr} {items : Array Value} {vs : Value} {Q : Value → Shared → Prop} (ht : IsTup s.heap t items) (hs : s.heap.IsSliceOf sl .none .none vs) (ps : IsPart vs (some (-1)))
    (h : Q (.ref s.heap.objs.size) { s with heap := s.heap.push { cls := .type "tuple", data := .seq items.toList.reverse.toArray } }) (hsz : items.size ≤ sizeLine) : wpAny (model prog w) A (getItem (.ref t) (.ref sl)) Q E s := by
  have hok : sizeOk (.seq items.toList.reverse.toArray) := by
    show items.toList.reverse.toArray.size ≤ sizeLine
    simpa using hsz
  obtain ⟨os, hos, hcs, hds⟩ := id hs
  have hTs : s.TypeIs (.ref sl) "slice" := ⟨os, hos, hcs⟩
  unfold getItem
  try with_reducible refine wpAny_holding ?_
  first | refine wpAny_bind (wpAny_pure ?_) | skip
  refine wpAny_bind (wpAny_sequenceKey ht.typeIs (by decide) ?_)
  refine wpAny_bind (wpAny_callSpecial?_slot (name := Str.ofString "__getitem__") ht.typeIs PyProof.Rows.slot_tuple_getitem (wpAny_call_entry PyProof.Rows.slot_tuple_getitem ht.typeIs entry_tuple_getitem ?_ (args_tuple_getitem _ _)))
  show wpAny _ _ (Builtin.Tuple.tupleItemsOf (.ref t) >>= _) _ _ s
  refine wpAny_bind (tupleItemsOf_ ht ?_)
  refine wpAny_bind (wpAny_typeOf hTs ?_)
  rw [if_pos (by decide)]
  refine wpAny_bind (applied_rev hs ps ?_)
  have hno : ¬ ((((items.size : Int) - 1) == 0 && (-1 : Int) == 1 && items.size == items.size) = true) := by
    intro q
    rw [Bool.and_eq_true, Bool.and_eq_true] at q
    exact absurd q.1.2 (by decide)
  show wpAny _ _ (if (((items.size : Int) - 1) == 0 && (-1 : Int) == 1 && items.size == items.size) = true then _ else _) _ _ s
  rw [if_neg hno, pick_rev]
  first
    | exact wpAny_bind (m := Builtin.Tuple.tupleExact _) (wpAny_newObj_type (wpAny_pure ⟨_, rfl, wpAny_pure h⟩) hok)
    | exact wpAny_bind (m := Builtin.Tuple.tupleExact _) (wpAny_newObj_type (wpAny_bind (wpAny_pure (wpAny_pure ⟨_, rfl, wpAny_pure h⟩))) hok)
    | exact wpAny_bind (wpAny_bind (m := Builtin.Tuple.tupleExact _) (wpAny_newObj_type (wpAny_pure (wpAny_pure ⟨_, rfl, wpAny_pure h⟩)) hok))
    | exact wpAny_bind (wpAny_bind (m := Builtin.Tuple.tupleExact _) (wpAny_newObj_type (wpAny_pure ⟨_, rfl, wpAny_pure h⟩) hok))
section
variable {X : Cx} {e : Expr} {fa : FX}
theorem pe_revT {te : TE} {k : Nat} {p1 p2 p3 pos : Pos} (he : PE X e te) : PE X (.Subscript e (.Slice none none (some (.UnaryOp .USub (.Constant (.int 1) k p1) p2)) p3) pos)
    (fun σ H Q => te σ H fun x H1 => ∃ a xs, x = .ref a ∧ SqT X.K H1 a xs ∧ ∀ p, H1 p = none → Q (.ref p) (upd H1 p (.tup xs.reverse))) := by
  refine ⟨fun pins s σ H Q I h => Subscript_ (thn (he.run pins s σ H _ I h) ?_)⟩
  rintro v s1 ⟨x, H1, I1, r1, a, xs, rfl, hx, q⟩
  cases r1
  have hst : PO X (some (.UnaryOp .USub (.Constant (.int 1) k p1) p2)) (tPart (tUn (rU fun i => .int (-i)) (tC (.int 1)))) := po_some (pe_un un_neg pe_int)
  refine wpAny_Slice (thn (po_none.run pins s1 σ H1 (fun o H2 => o = none ∧ H2 = H1) I1 ⟨rfl, rfl⟩) fun vl s2 ⟨l, H2, I2, pl, el, e2⟩ => ?_)
  subst el e2
  refine thn (po_none.run pins s2 σ H2 (fun o H3 => o = none ∧ H3 = H2) I2 ⟨rfl, rfl⟩) fun vu s3 ⟨u, H3, I3, pu, eu, e3⟩ => ?_
  subst eu e3
  refine thn (hst.run pins s3 σ H3 (fun o H4 => o = some (-1) ∧ H4 = H3) I3 ⟨1, rfl, -1, rfl, rfl, rfl⟩) fun vs s4 ⟨o, H4, I4, ps, eo, e4⟩ => ?_
  subst eo e4
  cases pl; cases pu
  have I5 : Inv X pins σ H4 { s4 with heap := s4.heap.push { cls := .type "slice", data := .fields #[.none, .none, vs] } } := I4.kept (t' := s4.toks) fun b ob q => Heap.get?_push_of_some _ q
  obtain ⟨its, r, ht, hz⟩ := I5.tuple hx
  have hlen := r.length
  show wpAny (model X.prog X.w) X.A (subscriptTail e (.Slice none none (some (.UnaryOp .USub (.Constant (.int 1) k p1) p2)) p3) (.ref a) (.ref s4.heap.objs.size)) (EP X pins σ Q) X.xe { s4 with heap := s4.heap.push { cls := .type "slice", data := .fields #[.none, .none, vs] } }
  refine tail_any (ops := [.ref a, .ref s4.heap.objs.size]) ht.typeIs (PyProof.Rows.slot_tuple_getitem.lookup) ?_ (by with_unfolding_all rfl)
  refine getItem_tuple_rev ht (Heap.IsSliceOf.new _ .none .none vs) ps ?_ (by rw [List.size_toArray]; omega)
  refine ⟨.ref _, _, I5.laid (t' := s4.toks) (o := .tup xs.reverse) (fun b ob q => Heap.get?_push_of_some _ q) (Nat.le_refl _) ?_, rfl, q _ (I5.hok.fresh (Nat.le_refl _))⟩
  refine ⟨by rw [List.length_reverse]; exact hz, its.reverse, r.reverse, ?_⟩
  have := IsTup.new ({ s4 with heap := s4.heap.push { cls := .type "slice", data := .fields #[.none, .none, vs] } }).heap its.reverse.toArray
  simpa using this
theorem s_rev {k : Nat} {p1 p2 p3 pos : Pos} (ha : PE X e (tX X.K fa)) : PE X (.Subscript e (.Slice none none (some (.UnaryOp .USub (.Constant (.int 1) k p1) p2)) p3) pos)
    (tX X.K fun Γ => (fa Γ).bind fun (x, Γ) => (revD x.d).map fun r => (r, Γ)) := ⟨fun pins s σ H Q I ⟨Γ, Hf, r, Γ', R, ef, kk⟩ => by
  obtain ⟨⟨rx, Γ1⟩, e1, ef⟩ := bindS ef
  obtain ⟨w, e2, e3⟩ := mapS' ef
  cases e3
  cases hd : rx.d with
  | list xs =>
    rw [hd] at e2; cases e2
    exact (pe_revL (pe_fast ha)).run pins s σ H Q I ⟨Γ, Hf, rx, _, R, e1, fun v H1 Hf1 R1 S1 d1 => by
      rw [hd] at d1
      cases d1 with
      | lst h q => exact ⟨_, _, rfl, .inl (R1.sub.rd h), (Post.fin R1 S1 kk).lst R1.sub (dps_rev q)⟩⟩
  | tuple xs =>
    rw [hd] at e2; cases e2
    exact (pe_revT (pe_fast ha)).run pins s σ H Q I ⟨Γ, Hf, rx, _, R, e1, fun v H1 Hf1 R1 S1 d1 => by
      rw [hd] at d1
      cases d1 with
      | tup h q => exact ⟨_, _, rfl, R1.sub.st h, (Post.fin R1 S1 kk).tup R1.sub (dps_rev q)⟩⟩
  | _ => rw [hd] at e2; exact nn e2⟩
end
end EvL

set_option Elab.async false
set_option linter.all false
set_option maxRecDepth 100000
set_option maxHeartbeats 16000000
namespace EvL
open PySem PySem.Spec PyProof.Rows L2

section
variable {X : Cx} {k : Nat} {c : Cc}
theorem lookG (h : EOk k c X) {x : Str} {d : D} {p : Pos} (hx : okName x = true) (hg : gloK c.sc x = true) (hl : lookC c.consts x = some d) : PE X (.Name x p) (tX X.K (evX (.cst d))) := by
  obtain ⟨n1, _, _⟩ := ok_names hx
  obtain ⟨v, u, h1, h2, h3⟩ := h.cst _ (lookC_mem hl)
  have := s_cst (pe_glob (pos := p) (glo_of h hg) h1 h2 n1) h3
  rwa [show evX (.cst d) = fun Γ => some (.fz d, Γ) from by funext Γ; rw [evX]]
theorem sndC {e : Expr} {d : D} (hp : plainE e = true) (ht : plainT e = true) (h : PE X e (tX X.K fun Γ => some (.fz d, Γ))) : Snd X e (.cst d) :=
  mk _ _ hp ht (by rwa [show evX (.cst d) = fun Γ => some (.fz d, Γ) from by funext Γ; rw [evX]]) (.inl fun Γ => by rw [evX, evT]; rfl)
theorem ex_cst (d : D) : evX (.cst d) = fun Γ => some (.fz d, Γ) := by funext Γ; rw [evX]
theorem p_none' : PO X none (tP X.K false (evX (.cst .none))) := by rw [ex_cst]; exact p_none
theorem ex_slc (l h : Bool) (x lo hi : IE) : evX (.slc l h x lo hi) = fun Γ => (evX x Γ).bind fun (x, Γ) => (evX lo Γ).bind fun (u, Γ) => (optI l u.d).bind fun i => (evX hi Γ).bind fun (w, Γ) => (optI h w.d).bind fun j => (slcD x.d i j).map fun r => (r, Γ) := by funext Γ; rw [evX]
theorem snd_slc {a : Expr} {l h : Bool} {lo hi : Option Expr} {p2 pos : Pos} {x xl xh : IE} (q : Snd X a x) (ql : PO X lo (tP X.K l (evX xl))) (qh : PO X hi (tP X.K h (evX xh))) (hp : plainE (.Subscript a (.Slice lo hi none p2) pos) = true) : Snd X (.Subscript a (.Slice lo hi none p2) pos) (.slc l h x xl xh) :=
  mk _ _ hp rfl (by rw [ex_slc]; exact s_slc q.pe ql qh) (.inr fun Γ => by rw [evT] <;> simp)
theorem compIx_sound {f : Expr → Option IE} {a b : Expr} {pos : Pos} {ir : IE} (h : EOk k c X) (hf : ∀ e ir, f e = some ir → Snd X e ir) (hc : compIx f c a b = some ir) (hs : PlainIx b) : Snd X (.Subscript a b pos) ir := by
  have gen : ∀ {ir : IE}, ((f a).bind fun x => (f b).map fun y => .ix x y) = some ir → Snd X (.Subscript a b pos) ir := fun {ir} hc => by
    obtain ⟨x, t1, hc⟩ := bindS hc
    obtain ⟨y, t2, rfl⟩ := mapS' hc
    refine mk _ _ rfl rfl ?_ (.inl fun Γ => ?_)
    · rw [show evX (.ix x y) = _ from by funext Γ; rw [evX]]
      exact s_ix (hf _ _ t1).pe (hf _ _ t2).pe hs
    · rw [evX, evT]
      cases evX x Γ with
      | none => rfl
      | some p =>
        obtain ⟨a, Γ1⟩ := p
        simp only [Option.bind_some]
        cases evX y Γ1 with
        | none => rfl
        | some p =>
          obtain ⟨b, Γ2⟩ := p
          simp only [Option.bind_some]
          cases ixD a.d b.d <;> rfl
  unfold compIx at hc
  split at hc
  · rename_i x p
    split at hc
    · rename_i hh
      simp only [Bool.and_eq_true] at hh
      obtain ⟨i, hi, hc⟩ := bindS hc
      obtain ⟨y, t2, rfl⟩ := mapS' hc
      obtain ⟨n1, n2, n3⟩ := ok_names hh.1
      have hix := ixOf_get hi
      rw [← h.hN] at hix
      refine mk _ _ rfl rfl ?_ (.inl fun Γ => ?_)
      · rw [show evX (.ixv i y) = _ from by funext Γ; rw [evX]]
        exact s_ixv hix (vis_of h hh.2) n1 n2 (hf _ _ t2).pe hs
      · rw [evX, evT]
        cases slotD i Γ with
        | none => rfl
        | some d0 =>
          simp only [Option.bind_some]
          cases evX y Γ with
          | none => rfl
          | some p =>
            obtain ⟨b, Γ2⟩ := p
            simp only [Option.bind_some]
            cases slotD i Γ2 with
            | none => rfl
            | some d => simp only [Option.bind_some]; cases ixD d b.d <;> rfl
    · exact gen hc
  · rename_i x p a1 pos1
    split at hc
    · rename_i hh
      simp only [Bool.and_eq_true, Bool.not_eq_true'] at hh
      obtain ⟨⟨⟨⟨h1, h2⟩, _⟩, h3⟩, h4⟩ := hh
      obtain ⟨i, hi, hc⟩ := bindS hc
      obtain ⟨y, t1, hc⟩ := bindS hc
      obtain ⟨z, t2, rfl⟩ := mapS' hc
      obtain ⟨n1, n2, n3⟩ := ok_names h1
      have hix := ixOf_get hi
      rw [← h.hN] at hix
      refine mk _ _ rfl rfl ?_ (.inr fun Γ => by rw [evT] <;> simp)
      rw [show evX (.ixo i y z) = _ from by funext Γ; rw [evX]]
      exact s_ixo hix (vis_of h h2) n1 n2 (hf _ _ t1).pe (hf _ _ t2).pe (plain_ix h3 h4) hs
    · exact gen hc
  · exact gen hc
theorem compE_sound (n : Nat) : ∀ {X : Cx} {c : Cc}, EOk k c X → ∀ (e : Expr) (ir : IE), compE n c e = some ir → Snd X e ir := by
  induction n with
  | zero => intro X c h e ir hc; cases hc
  | succ n ih =>
    intro X c h e ir hc
    have hf := ih h
    unfold compE at hc
    split at hc
    case isFalse => cases hc
    rename_i hpl
    split at hc
    · -- a name
      rename_i x p
      split at hc
      · rename_i hx
        obtain ⟨n1, n2, n3⟩ := ok_names hx
        split at hc
        · rename_i hv
          obtain ⟨i, t1, rfl⟩ := mapS' hc
          have hi := ixOf_get t1
          rw [← h.hN] at hi
          have q := s_var (pos := p) hi (vis_of h hv) n1 n2
          refine ⟨?_, ?_, (fun z => nomatch z), rfl⟩
          · rwa [show evX (.var i) = fun Γ => (getV i Γ).map fun (d, Γ) => (.fz d, Γ) from by funext Γ; rw [evX]]
          · rw [show evT (.var i) = fun Γ => (slotD i Γ).bind fun d => (trD d).map fun c => (c, Γ) from by funext Γ; rw [evT]]
            exact t_var hi (vis_of h hv) n1 n2 (plain_test rfl)
        · split at hc
          · rename_i hg
            obtain ⟨d, t1, rfl⟩ := mapS' hc
            exact mk _ _ rfl rfl (lookG h hx hg t1) (.inl fun Γ => by rw [evX, evT]; rfl)
          · cases hc
      · cases hc
    · cases hc; exact sndC rfl rfl (s_cst pe_int fun _ => .int _)
    · cases hc; exact sndC rfl rfl (s_cst pe_bl fun _ => .bl _)
    · cases hc; exact sndC rfl rfl (s_cst pe_non fun _ => .non)
    · cases hc; exact sndC rfl rfl (s_cst pe_str fun _ => .str _)
    · -- a tuple
      split at hc
      · rename_i hl
        obtain ⟨irs, t1, rfl⟩ := mapS' hc
        obtain ⟨a, u, l⟩ := compL_sound hf t1
        refine mk _ _ rfl rfl ?_ (.inr fun Γ => by rw [evT] <;> simp)
        rw [show evX (.tup irs) = _ from by funext Γ; rw [evX]]
        exact s_tup a fun Γ ds Γ' e => by rw [evs_len e, l]; exact hl
      · cases hc
    · -- a list
      split at hc
      · rename_i hl
        obtain ⟨irs, t1, rfl⟩ := mapS' hc
        obtain ⟨a, u, l⟩ := compL_sound hf t1
        refine mk _ _ rfl rfl ?_ (.inr fun Γ => by rw [evT] <;> simp)
        rw [show evX (.lst irs) = _ from by funext Γ; rw [evX]]
        exact s_lst a fun Γ ds Γ' e => by rw [evs_len e, l]; exact hl
      · cases hc
    · -- a + b
      obtain ⟨o, t0, hc⟩ := bindS hc
      obtain ⟨x, t1, hc⟩ := bindS hc
      obtain ⟨y, t2, rfl⟩ := mapS' hc
      refine mk _ _ rfl rfl ?_ (.inr fun Γ => by rw [evT] <;> simp)
      rw [show evX (.bin o x y) = _ from by funext Γ; rw [evX]]
      exact s_bin (bin_sound h.pyl _ _ t0) (hf _ _ t1).pe (hf _ _ t2).pe
    · obtain ⟨x, t1, rfl⟩ := mapS' hc
      refine mk _ _ rfl rfl ?_ (.inr fun Γ => by rw [evT] <;> simp)
      rw [show evX (.neg x) = _ from by funext Γ; rw [evX]]
      exact s_neg (hf _ _ t1).pe
    · obtain ⟨x, t1, rfl⟩ := mapS' hc
      refine ⟨?_, ?_, (fun z => nomatch z), rfl⟩
      · rw [show evX (.not x) = _ from by funext Γ; rw [evX]]
        exact s_not (hf _ _ t1).pe
      · rw [show evT (.not x) = _ from by funext Γ; rw [evT]]
        exact t_not (hf _ _ t1).pt
    · -- a comparison
      obtain ⟨o, t0, hc⟩ := bindS hc
      obtain ⟨x, t1, hc⟩ := bindS hc
      obtain ⟨y, t2, rfl⟩ := mapS' hc
      have hm := plain_marks (op := ‹CmpOp›) (hf _ _ t2).pl
      refine ⟨?_, ?_, (fun z => nomatch z), rfl⟩
      · rw [show evX (.cmp o x y) = _ from by funext Γ; rw [evX]]
        exact s_cmp (cmp_sound h.un _ _ t0) (hf _ _ t1).pe (hf _ _ t2).pe (plain_marks (hf _ _ t2).pl)
      · rw [show evT (.cmp o x y) = _ from by funext Γ; rw [evT]]
        exact t_cmp (cmp_sound h.un _ _ t0) (hf _ _ t1).pe (hf _ _ t2).pe (plain_marks (hf _ _ t2).pl)
    · -- a < b < c
      obtain ⟨o, t0, hc⟩ := bindS hc
      obtain ⟨o', t0', hc⟩ := bindS hc
      obtain ⟨x, t1, hc⟩ := bindS hc
      obtain ⟨y, t2, hc⟩ := bindS hc
      obtain ⟨z, t3, rfl⟩ := mapS' hc
      refine ⟨?_, ?_, (fun z => nomatch z), rfl⟩
      · rw [show evX (.chn o o' x y z) = _ from by funext Γ; rw [evX]]
        exact s_chn (cmp_sound h.un _ _ t0) (cmp_sound h.un _ _ t0') (hf _ _ t1).pe (hf _ _ t2).pe (hf _ _ t3).pe (plain_marks (hf _ _ t3).pl)
      · rw [show evT (.chn o o' x y z) = _ from by funext Γ; rw [evT]]
        exact t_chn (cmp_sound h.un _ _ t0) (cmp_sound h.un _ _ t0') (hf _ _ t1).pe (hf _ _ t2).pe (hf _ _ t3).pe (plain_marks (hf _ _ t3).pl)
    · exact compBool_sound hf _ _ hc
    · -- a if c else b
      obtain ⟨t, t0, hc⟩ := bindS hc
      obtain ⟨x, t1, hc⟩ := bindS hc
      obtain ⟨y, t2, rfl⟩ := mapS' hc
      refine ⟨?_, t_none fun Γ => by rw [evT] <;> simp, (fun z => nomatch z), rfl⟩
      rw [show evX (.ite t x y) = _ from by funext Γ; rw [evX]]
      exact s_ite (hf _ _ t0).pt (hf _ _ t1).pe (hf _ _ t2).pe
    · obtain ⟨x, t1, rfl⟩ := mapS' hc
      refine mk _ _ rfl rfl ?_ (.inr fun Γ => by rw [evT] <;> simp)
      rw [show evX (.rev x) = _ from by funext Γ; rw [evX]]
      exact s_rev (hf _ _ t1).pe
    · obtain ⟨x, t1, rfl⟩ := mapS' hc
      exact snd_slc (hf _ _ t1) p_none' p_none' rfl
    · obtain ⟨x, t1, hc⟩ := bindS hc
      obtain ⟨l, t2, rfl⟩ := mapS' hc
      exact snd_slc (hf _ _ t1) (p_some (hf _ _ t2).pe) p_none' rfl
    · obtain ⟨x, t1, hc⟩ := bindS hc
      obtain ⟨l, t2, rfl⟩ := mapS' hc
      exact snd_slc (hf _ _ t1) p_none' (p_some (hf _ _ t2).pe) rfl
    · obtain ⟨x, t1, hc⟩ := bindS hc
      obtain ⟨l, t2, hc⟩ := bindS hc
      obtain ⟨w, t3, rfl⟩ := mapS' hc
      exact snd_slc (hf _ _ t1) (p_some (hf _ _ t2).pe) (p_some (hf _ _ t3).pe) rfl
    · -- a[b]
      split at hc
      · rename_i hh
        simp only [Bool.and_eq_true, Bool.not_eq_true'] at hh
        exact compIx_sound h hf hc (plain_ix hh.1 hh.2)
      · cases hc
    · exact compCall_sound h hf hc
    · -- a comprehension
      rename_i elt tg iter ifs scope p
      split at hc
      · rename_i hh
        simp only [Bool.and_eq_true, decide_eq_true_eq] at hh
        obtain ⟨⟨hb, hpi⟩, hl⟩ := hh
        obtain ⟨t, t1, hc⟩ := bindS hc
        obtain ⟨⟨kk, its⟩, t2, hc⟩ := bindS hc
        obtain ⟨fs, t3, hc⟩ := bindS hc
        obtain ⟨el, t4, hc⟩ := bindS hc
        split at hc
        · rename_i hvs
          cases hc
          have hvs' : ∀ j ∈ tgIx t, j ∈ (ownOf c.N scope).map (·.2) := fun j hj => List.contains_iff_mem.mp (List.all_eq_true.mp hvs j hj)
          have hblk : BlkOk X.N X.env.scope scope (ownOf c.N scope) := by rw [h.hN, h.sc]; exact blkOk_by hb
          have hI := compI_sound h hf t2
          have hT : ∀ (s : Shared) (H : Hp) (C : Addr) (cl : List (Str × Addr)) (fp : List Addr), PTs (X.blk s H scope (compEnvC scope cl C X.env) fp) ifs (tT X.K (evIfs fs)) := by
            intro s H C cl fp
            match ifs, fs, t3, hl with
            | [], fs, t3, _ =>
              cases (show some [] = some fs from t3)
              refine ⟨fun pins s2 σ H2 Q I ⟨Γ, Hf, r, Γ', R, ef, k2⟩ => ?_⟩
              rw [evIfs] at ef
              cases ef
              exact pts_nil.run pins s2 σ H2 Q I (k2 H2 Hf R .rfl')
            | [i], fs, t3, _ =>
              obtain ⟨x, u1, u2⟩ := bindS (show (compE n (blkCc c scope) i).bind (fun x => (compL (compE n (blkCc c scope)) []).map fun xs => x :: xs) = some fs from t3)
              obtain ⟨xs, u3, rfl⟩ := mapS' u2
              cases (show some [] = some xs from u3)
              have q := (ih (h.blk scope s H C cl fp) i x u1).pt
              have e0 : evIfs [x] = evT x := by
                funext Γ
                rw [evIfs]
                cases evT x Γ with
                | none => rfl
                | some p =>
                  obtain ⟨b, Γ1⟩ := p
                  simp only [Option.bind_some]
                  cases b
                  · rfl
                  · rw [if_pos rfl, evIfs]
              rw [e0]
              exact pts_one q
            | _ :: _ :: _, _, _, hl => exact absurd hl (by simp)
          have key := (pe_lc (pos := p) (ifs := ifs) h.calm h.nd hI hblk (fun s H C cl fp => compT_sound (h.blk scope s H C cl fp) n tg t t1)
            (tt := tT X.K (evIfs fs)) hT (fun s H C cl fp => pe_fast (ih (h.blk scope s H C cl fp) elt el t4).pe) (plain_fold hpi)).imp fun σ H Q hh => lc_read (K := X.K) (k := kk) (gI := evs its) (tg := t) (fIf := evIfs fs) (fE := evX el) hvs' hh
          refine mk _ _ rfl rfl ?_ (.inr fun Γ => by rw [evT] <;> simp)
          rw [show evX (.lc ((ownOf c.N scope).map (·.2)) t kk its fs el) = lcX kk (evs its) t ((ownOf c.N scope).map (·.2)) (evIfs fs) (evX el) from by funext Γ; rw [evX]; rfl]
          exact key
        · cases hc
      · cases hc
    · cases hc
end
end EvL

set_option Elab.async false
set_option linter.all false
set_option maxRecDepth 100000
set_option maxHeartbeats 16000000
namespace EvL
open PySem PySem.Spec PyProof.Rows L2

/-! ### statements -/
inductive IS where
  | set (i : Nat) (e : IE) | asg (t : Tg) (e : IE) | par (is : List Nat) (es : List IE)
  | put (i : Nat) (ix : IE) (e : IE) | puto (i : Nat) (ix jx : IE) (e : IE) | reto (i : Nat) | augp (i : Nat) (ix : IE) (o : BOp) (e : IE) | dip (i : Nat) (ix : IE) (j : Nat) (e : IE)
  | aug (i : Nat) (o : BOp) (e : IE) | app (i : Nat) (e : IE)
  | ife (c : IE) (a b : List IS) | whl (c : IE) (b : List IS) | fr (t : Tg) (k : IK) (its : List IE) (b : List IS)
  | fro (t : Tg) (i : Nat) (b : List IS)
  | ret (e : IE) | retn | exp (e : IE) | brk | cnt | pss | nev
inductive Out where
  | nx (Γ : Ga) | rt (r : RV) (Γ : Ga) | bk (Γ : Ga) | ct (Γ : Ga)
def evRs : List IE → Ga → Option (List RV × Ga)
  | [], Γ => some ([], Γ)
  | e :: es, Γ => (evX e Γ).bind fun (x, Γ) => (evRs es Γ).map fun (ds, Γ) => (x.low :: ds, Γ)
def putAll : List Nat → List RV → Ga → Option Ga
  | [], [], Γ => some Γ
  | i :: is, r :: rs, Γ => if i < Γ.length then putAll is rs (Γ.set i r.mv) else none
  | _, _, _ => none
/-- x[ix] = v on a list of one's own -/
def putAt (i : Nat) (ix : D) (v : D) (Γ : Ga) : Option Ga :=
  match Γ[i]?, ix with
  | some (.ow b ds), .int k => (ixN ds.length k).map fun j => Γ.set i (.ow b (ds.set j v))
  | _, _ => none
def isOw (i : Nat) (Γ : Ga) : Bool := match Γ[i]? with
  | some (.ow _ _) => true
  | _ => false
def getAt (i : Nat) (ix : D) (Γ : Ga) : Option D :=
  match Γ[i]?, ix with
  | some (.ow _ ds), .int k => (ixN ds.length k).bind fun j => ds[j]?
  | _, _ => none
/-- x[ix][jx] = v on own rows -/
def putO (i : Nat) (ix jx : D) (v : D) (Γ : Ga) : Option Ga :=
  match Γ[i]?, ix, jx with
  | some (.oo rss), .int k, .int l => (ixN rss.length k).bind fun m => (rss[m]?).bind fun rs => (ixN rs.length l).map fun j => Γ.set i (.oo (rss.set m (rs.set j v)))
  | _, _, _ => none
def augD : BOp → D → D → Option D
  | .add, .int i, .int j => some (.int (i + j))
  | .sub, .int i, .int j => some (.int (i - j))
  | .mul, .int i, .int j => if mulOk i j then some (.int (i * j)) else none
  | _, _, _ => none
def WF : Nat := 1000000000
/-- a loop's end -/
def onTurn (again : Ga → Option Out) : Out → Option Out
  | .nx Γ => again Γ
  | .ct Γ => again Γ
  | .bk Γ => some (.nx Γ)
  | .rt r Γ => some (.rt r Γ)
def evW (c : Ga → Option (Bool × Ga)) (b : Ga → Option Out) : Nat → Ga → Option Out
  | 0, _ => none
  | n + 1, Γ => (c Γ).bind fun (t, Γ) => if t then (b Γ).bind (onTurn (evW c b n)) else some (.nx Γ)
def evF (t : Tg) (b : Ga → Option Out) : List D → Ga → Option Out
  | [], Γ => some (.nx Γ)
  | x :: xs, Γ => (asg t x Γ).bind fun Γ => (b Γ).bind (onTurn (evF t b xs))
/-- a hidden list is one's own again -/
def backH (i : Nat) (Γ : Ga) : Option Out := match Γ[i]? with
  | some (.hid ds) => some (.nx (Γ.set i (.ow false ds)))
  | _ => none
/-- a loop over a list of one's own, which is hidden the while -/
def evFo (t : Tg) (i : Nat) (b : Ga → Option Out) : List D → Ga → Option Out
  | [], Γ => backH i Γ
  | x :: xs, Γ => (asg t x Γ).bind fun Γ => (b Γ).bind fun o => match o with
    | .nx Γ => evFo t i b xs Γ
    | .ct Γ => evFo t i b xs Γ
    | .bk Γ => backH i Γ
    | .rt r Γ => some (.rt r (Γ.set i .un))
def hideO (i : Nat) (k : List D → Ga → Option Out) (Γ : Ga) : Option Out := match Γ[i]? with
  | some (.ow false ds) => k ds (Γ.set i (.hid ds))
  | _ => none
def onNext (again : Ga → Option Out) : Out → Option Out
  | .nx Γ => again Γ
  | o => some o
mutual
def evS : IS → Ga → Option Out
  | .set i e, Γ => (evX e Γ).bind fun (r, Γ) => if i < Γ.length then some (.nx (Γ.set i r.mv)) else none
  | .asg t e, Γ => (evX e Γ).bind fun (r, Γ) => (asg t r.d Γ).map .nx
  | .par is es, Γ => (evRs es Γ).bind fun (rs, Γ) => (putAll is rs Γ).map .nx
  | .put i ix e, Γ => (evX e Γ).bind fun (r, Γ) => if isOw i Γ then (evX ix Γ).bind fun (x, Γ) => (putAt i x.d r.d Γ).map .nx else none
  | .augp i ix o e, Γ => if isOw i Γ then (evX ix Γ).bind fun (x, Γ) => (getAt i x.d Γ).bind fun a => (evX e Γ).bind fun (r, Γ) => (augD o a r.d).bind fun z => (putAt i x.d z Γ).map .nx else none
  | .puto i ix jx e, Γ => (evX e Γ).bind fun (r, Γ) => if isOo i Γ then (evX ix Γ).bind fun (x, Γ) => (rowO i x.d Γ).bind fun _ => (evX jx Γ).bind fun (y, Γ) => (putO i x.d y.d r.d Γ).map .nx else none
  | .reto i, Γ => match Γ[i]? with
      | some (.oo rss) => some (.rt (.oo rss) (Γ.set i .un))
      | _ => (getV i Γ).map fun (d, Γ) => .rt (.fz d) Γ
  | .dip i ix j e, Γ => (evX e Γ).bind fun (r, Γ) => match r.d with
      | .tuple [a, b] => if isOw i Γ then (evX ix Γ).bind fun (x, Γ) => (putAt i x.d a Γ).bind fun Γ => if j < Γ.length then some (.nx (Γ.set j (.fz b))) else none else none
      | _ => none
  | .aug i o e, Γ => match Γ[i]? with
      | some (.fz d) => (evX e Γ).bind fun (r, Γ) => (augD o d r.d).map fun z => .nx (Γ.set i (.fz z))
      | _ => none
  | .app i e, Γ => match Γ[i]? with
      | some (.ow _ _) => (evX e Γ).bind fun (r, Γ) => match Γ[i]? with
        | some (.ow b ds) => if ds.length < lim then some (.nx (Γ.set i (.ow b (ds ++ [r.d])))) else none
        | _ => none
      | _ => none
  | .ife c a b, Γ => (evT c Γ).bind fun (t, Γ) => if t then evB a Γ else evB b Γ
  | .whl c b, Γ => evW (evT c) (evB b) WF Γ
  | .fr t k its b, Γ => (evs its Γ).bind fun (ds, Γ) => (itD k ds).bind fun xs => evF t (evB b) xs Γ
  | .ret e, Γ => (evX e Γ).map fun (r, Γ) => .rt r Γ
  | .retn, Γ => some (.rt (.fz .none) Γ)
  | .exp e, Γ => (evX e Γ).map fun (_, Γ) => .nx Γ
  | .brk, Γ => some (.bk Γ)
  | .cnt, Γ => some (.ct Γ)
  | .pss, Γ => some (.nx Γ)
  | .fro t i b, Γ => hideO i (evFo t i (evB b)) Γ
  | .nev, _ => none
def evB : List IS → Ga → Option Out
  | [], Γ => some (.nx Γ)
  | s :: ss, Γ => (evS s Γ).bind (onNext (evB ss))
end
abbrev FS := Ga → Option Out
/-- a result that may have been a slot's -/
def RRelM (K : PySem.W.Frag) (σ : L2.St) (Γ : Ga) (H Hf' H' : Hp) (v : V) : RV → Prop
  | .oo rss => ∃ p as, v = .ref p ∧ (∀ b ∈ p :: as, H b = none ∨ OwnAt σ Γ H false b) ∧ OO K Hf' H' p as rss
  | r => RRel K H Hf' H' v r
theorem RRel.m {K : PySem.W.Frag} {σ : L2.St} {Γ : Ga} {H Hf' H' : Hp} {v : V} {r : RV} (h : RRel K H Hf' H' v r) : RRelM K σ Γ H Hf' H' v r := by
  cases r with
  | fz d => exact h
  | ow ds => exact h
  | oo rss => obtain ⟨p, as, e, h0, o⟩ := h; exact ⟨p, as, e, fun b hb => .inl (h0 b hb), o⟩
theorem RRelM.back {K : PySem.W.Frag} {σ σ1 : L2.St} {Γ Γ1 : Ga} {Hf H Hf1 H1 Hf' H' : Hp} {v : V} {r : RV} (h : RRelM K σ1 Γ1 H1 Hf' H' v r) (s : Step σ Γ Hf H σ1 Γ1 Hf1 H1) : RRelM K σ Γ H Hf' H' v r := by
  cases r with
  | fz d => exact h
  | ow ds => exact RRel.back (r := .ow ds) h s.dead
  | oo rss =>
    obtain ⟨p, as, e, h0, o⟩ := h
    exact ⟨p, as, e, fun b hb => (h0 b hb).elim (fun z => .inl (s.dead b z)) fun z => (s.newo b z).symm, o⟩
theorem RRelM.un {K : PySem.W.Frag} {σ : L2.St} {Γ : Ga} {H Hf' H' : Hp} {v : V} {r : RV} (h : RRelM K σ Γ H Hf' H' v r) (no : ∀ b, ¬ OwnAt σ Γ H false b) : RRel K H Hf' H' v r := by
  cases r with
  | fz d => exact h
  | ow ds => exact h
  | oo rss => obtain ⟨p, as, e, h0, o⟩ := h; exact ⟨p, as, e, fun b hb => (h0 b hb).resolve_right (no b), o⟩
/-- what stands behind a statement -/
def AfterS (K : PySem.W.Frag) (σ : L2.St) (Γ : Ga) (Hf H : Hp) (D : Ends) : Out → Prop
  | .nx Γ' => ∀ σ' H' Hf', Rel K Hf' H' σ' Γ' → Step σ Γ Hf H σ' Γ' Hf' H' → D.nx σ' H'
  | .bk Γ' => ∀ σ' H' Hf', Rel K Hf' H' σ' Γ' → Step σ Γ Hf H σ' Γ' Hf' H' → D.bk σ' H'
  | .ct Γ' => ∀ σ' H' Hf', Rel K Hf' H' σ' Γ' → Step σ Γ Hf H σ' Γ' Hf' H' → D.ct σ' H'
  | .rt r Γ' => ∀ v σ' H' Hf', Rel K Hf' H' σ' Γ' → Step σ Γ Hf H σ' Γ' Hf' H' → RRelM K σ Γ H Hf' H' v r → D.rt v H'
def tS (K : PySem.W.Frag) (f : FS) : TS := fun D σ H => ∃ Γ Hf o, Rel K Hf H σ Γ ∧ f Γ = some o ∧ AfterS K σ Γ Hf H D o
section
variable {K : PySem.W.Frag} {σ σ1 : L2.St} {Γ Γ1 : Ga} {Hf H Hf1 H1 : Hp} {D : Ends}
theorem AfterS.back {o : Out} (a : AfterS K σ Γ Hf H D o) (s : Step σ Γ Hf H σ1 Γ1 Hf1 H1) : AfterS K σ1 Γ1 Hf1 H1 D o := by
  cases o with
  | nx Γ' => exact fun σ' H' Hf' R S => a σ' H' Hf' R (s.tr S)
  | bk Γ' => exact fun σ' H' Hf' R S => a σ' H' Hf' R (s.tr S)
  | ct Γ' => exact fun σ' H' Hf' R S => a σ' H' Hf' R (s.tr S)
  | rt r Γ' => exact fun v σ' H' Hf' R S q => a v σ' H' Hf' R (s.tr S) (q.back s)
end
theorem _root_.L2.PS.imp {X : Cx} {st : Stmt} {t t' : TS} (h : PS X st t) (k : ∀ D σ H, t' D σ H → t D σ H) : PS X st t' := ⟨fun pins s σ H D I q => h.run pins s σ H D I (k D σ H q)⟩
theorem _root_.L2.PSs.imp {X : Cx} {st : List Stmt} {t t' : TS} (h : PSs X st t) (k : ∀ D σ H, t' D σ H → t D σ H) : PSs X st t' := ⟨fun pins s σ H D I q => h.run pins s σ H D I (k D σ H q)⟩
section
variable {X : Cx} {st : Stmt} {rest body orelse : List Stmt} {f g : FS} {e c : Expr} {fx : FX} {ft : Ga → Option (Bool × Ga)} {pos : Pos}
theorem b_nil : PSs X [] (tS X.K fun Γ => some (.nx Γ)) := pss_nil.imp fun D σ H ⟨Γ, Hf, o, R, e, k⟩ => by
  cases e
  exact k σ H Hf R .rfl'
theorem b_cons (h1 : PS X st (tS X.K f)) (h2 : PSs X rest (tS X.K g)) : PSs X (st :: rest) (tS X.K fun Γ => (f Γ).bind (onNext g)) := (pss_cons h1 h2).imp fun D σ H ⟨Γ, Hf, o, R, e, k⟩ => by
  obtain ⟨o1, e1, e2⟩ := bindS e
  refine ⟨Γ, Hf, o1, R, e1, ?_⟩
  cases o1 with
  | nx Γ1 => exact fun σ1 H1 Hf1 R1 S1 => ⟨Γ1, Hf1, o, R1, e2, k.back S1⟩
  | bk Γ1 => cases e2; exact k
  | ct Γ1 => cases e2; exact k
  | rt r Γ1 => cases e2; exact k
theorem b_never (hf : ∀ Γ, f Γ = none) : PS X st (tS X.K f) := ⟨fun pins s σ H D I ⟨Γ, Hf, o, R, e, k⟩ => by rw [hf] at e; cases e⟩
theorem z_ret (he : PE X e (tX X.K fx)) : PS X (.Return (some e) pos) (tS X.K fun Γ => (fx Γ).map fun (r, Γ) => .rt r Γ) := (ps_ret he).imp fun D σ H ⟨Γ, Hf, o, R, ef, k⟩ => by
  obtain ⟨⟨r, Γ1⟩, e1, e2⟩ := mapS' ef
  cases e2
  exact ⟨Γ, Hf, r, _, R, e1, fun v H' Hf' R' S' q => k v σ H' Hf' R' S'.toStep q.m⟩
theorem z_retn : PS X (.Return none pos) (tS X.K fun Γ => some (.rt (.fz .none) Γ)) := ps_retN.imp fun D σ H ⟨Γ, Hf, o, R, ef, k⟩ => by
  cases ef
  exact k .non σ H Hf R .rfl' (RRel.m (r := .fz .none) .non)
theorem z_pass : PS X (.Pass pos) (tS X.K fun Γ => some (.nx Γ)) := ps_pass.imp fun D σ H ⟨Γ, Hf, o, R, ef, k⟩ => by cases ef; exact k σ H Hf R .rfl'
theorem z_brk : PS X (.Break pos) (tS X.K fun Γ => some (.bk Γ)) := ps_break.imp fun D σ H ⟨Γ, Hf, o, R, ef, k⟩ => by cases ef; exact k σ H Hf R .rfl'
theorem z_cnt : PS X (.Continue pos) (tS X.K fun Γ => some (.ct Γ)) := ps_continue.imp fun D σ H ⟨Γ, Hf, o, R, ef, k⟩ => by cases ef; exact k σ H Hf R .rfl'
theorem z_exp (he : PE X e (tX X.K fx)) (hs : swapsWith e none pos.line X.env = pure false) : PS X (.Expr e pos) (tS X.K fun Γ => (fx Γ).map fun (_, Γ) => .nx Γ) := (ps_expr he hs).imp fun D σ H ⟨Γ, Hf, o, R, ef, k⟩ => by
  obtain ⟨⟨r, Γ1⟩, e1, e2⟩ := mapS' ef
  cases e2
  exact ⟨Γ, Hf, r, _, R, e1, fun v H' Hf' R' S' q => k σ H' Hf' R' S'.toStep⟩
theorem z_ife (hc : PT X c (tT X.K ft)) (ha : PSs X body (tS X.K f)) (hb : PSs X orelse (tS X.K g)) : PS X (.If c body orelse pos) (tS X.K fun Γ => (ft Γ).bind fun (t, Γ) => if t then f Γ else g Γ) :=
  (ps_if hc ha hb).imp fun D σ H ⟨Γ, Hf, o, R, ef, k⟩ => by
    obtain ⟨⟨t, Γ1⟩, e1, e2⟩ := bindS ef
    refine ⟨Γ, Hf, t, Γ1, R, e1, fun H1 Hf1 R1 S1 => ?_⟩
    cases t with
    | true => exact ⟨Γ1, Hf1, o, R1, e2, k.back S1.toStep⟩
    | false => exact ⟨Γ1, Hf1, o, R1, e2, k.back S1.toStep⟩
theorem z_whl (hp : PassesOwn (model X.prog X.w) X.A X.env X.xe) (hc : PT X c (tT X.K ft)) (hb : PSs X body (tS X.K f)) (n : Nat) : PS X (.While c body [] pos) (tS X.K (evW ft f n)) :=
  (ps_while hp hc hb).imp fun D σ H ⟨Γ, Hf, o, R, ef, k⟩ => by
    refine ⟨fun m σ' H' => ∃ Γ' Hf', Rel X.K Hf' H' σ' Γ' ∧ Step σ Γ Hf H σ' Γ' Hf' H' ∧ evW ft f m Γ' = some o, ⟨n, Γ, Hf, R, .rfl', ef⟩, ?_⟩
    rintro m σ1 H1 ⟨Γ1, Hf1, R1, S1, e1⟩
    cases m with
    | zero => cases e1
    | succ m =>
      obtain ⟨⟨t, Γ2⟩, e2, e3⟩ := bindS (show (ft Γ1).bind (fun (t, Γ) => if t then (f Γ).bind (onTurn (evW ft f m)) else some (.nx Γ)) = some o from e1)
      refine ⟨Γ1, Hf1, t, Γ2, R1, e2, fun H2 Hf2 R2 S2 => ?_⟩
      have S := S1.tr S2.toStep
      cases t with
      | false =>
        cases (show some (Out.nx Γ2) = some o from e3)
        exact iteF (k σ1 H2 Hf2 R2 S)
      | true =>
        obtain ⟨o1, e4, e5⟩ := bindS (show (f Γ2).bind (onTurn (evW ft f m)) = some o from e3)
        refine iteT ⟨fun σ' H' => ∃ Γ' Hf', Rel X.K Hf' H' σ' Γ' ∧ Step σ Γ Hf H σ' Γ' Hf' H' ∧ evW ft f m Γ' = some o, fun σ' H' hN => ⟨m, Nat.lt_succ_self _, hN⟩, Γ2, Hf2, o1, R2, e4, ?_⟩
        cases o1 with
        | nx Γ3 => exact fun σ3 H3 Hf3 R3 S3 => ⟨Γ3, Hf3, R3, S.tr S3, e5⟩
        | ct Γ3 => exact fun σ3 H3 Hf3 R3 S3 => ⟨Γ3, Hf3, R3, S.tr S3, e5⟩
        | bk Γ3 => cases e5; exact fun σ3 H3 Hf3 R3 S3 => k σ3 H3 Hf3 R3 (S.tr S3)
        | rt r Γ3 => cases e5; exact fun v σ3 H3 Hf3 R3 S3 q => k v σ3 H3 Hf3 R3 (S.tr S3) (q.back S)
theorem z_for {tg iter : Expr} {t : Tg} {kk : IK} {gi : FA} (hp : PassesOwn (model X.prog X.w) X.A X.env X.xe) (hcalm : X.calm = true) (hi : PI X tg iter (tI X.K kk gi)) (hg : PG X tg (tG X.K t)) (hb : PSs X body (tS X.K f))
    (hs : ∀ x, foldedSetIterable iter X.env x = pure x) : PS X (.For tg iter body [] pos) (tS X.K fun Γ => (gi Γ).bind fun (ds, Γ) => (itD kk ds).bind fun xs => evF t f xs Γ) :=
  (ps_for hp hcalm hi hg hb hs).imp fun D σ H ⟨Γ, Hf, o, R, ef, k⟩ => by
    obtain ⟨⟨ds, Γ1⟩, e1, ef⟩ := bindS ef
    obtain ⟨xs, e2, ef⟩ := bindS ef
    refine ⟨Γ, Hf, ds, Γ1, xs, R, e1, e2, fun J H1 Hf1 R1 S1 wk => ?_⟩
    let W : Nat → Nat → L2.St → Hp → Prop := fun i m σ' H' => m = xs.length - i ∧ i ≤ xs.length ∧ ∃ Γ' Hf', Rel X.K Hf' H' σ' Γ' ∧ Step σ Γ Hf H σ' Γ' Hf' H' ∧ Ext Hf1 Hf' ∧ evF t f (xs.drop i) Γ' = some o
    refine ⟨W, ⟨xs.length, by simp, Nat.zero_le _, Γ1, Hf1, R1, S1.toStep, Ext.rfl', ef⟩, ?_⟩
    rintro i m σ2 H2 ⟨rfl, hi', Γ2, Hf2, R2, S2, x2, e3⟩
    by_cases hlt : i < xs.length
    · refine .inr ⟨wk.go i H2 (x2.tr R2.sub) hlt, fun σ' H' => ∃ m', m' < xs.length - i ∧ W (i + 1) m' σ' H', fun _ _ h => h, fun x H3 hy => ?_⟩
      have hx : xs[i]? = some xs[i] := List.getElem?_eq_getElem hlt
      obtain ⟨Hf3, g3, d3⟩ := wk.yld i H2 Hf2 x H3 _ x2 R2.sub hx hy
      have R3 := g3.rel R2
      have S3 : Step σ Γ Hf H σ2 Γ2 Hf3 H3 := S2.tr (g3.step R2).toStep
      rw [List.drop_eq_getElem_cons hlt] at e3
      obtain ⟨Γ4, e4, e5⟩ := bindS (show (asg t xs[i] Γ2).bind (fun Γ => (f Γ).bind (onTurn (evF t f (xs.drop (i + 1))))) = some o from e3)
      obtain ⟨o1, e6, e7⟩ := bindS e5
      refine ⟨Γ2, Hf3, xs[i], Γ4, R3, d3, e4, fun σ4 R4 S4 _ _ => ⟨Γ4, Hf3, o1, R4, e6, ?_⟩⟩
      have S := S3.tr S4.toStep
      have again : ∀ {σ5 H5 Hf5 Γ5}, Rel X.K Hf5 H5 σ5 Γ5 → Step σ4 Γ4 Hf3 H3 σ5 Γ5 Hf5 H5 → evF t f (xs.drop (i + 1)) Γ5 = some o → ∃ m', m' < xs.length - i ∧ W (i + 1) m' σ5 H5 := fun {σ5 H5 Hf5 Γ5} R5 S5 e =>
        ⟨xs.length - (i + 1), by omega, rfl, hlt, Γ5, Hf5, R5, S.tr S5, (x2.tr g3.ext).tr S5.ext, e⟩
      cases o1 with
      | nx Γ5 => exact fun σ5 H5 Hf5 R5 S5 => again R5 S5 e7
      | ct Γ5 => exact fun σ5 H5 Hf5 R5 S5 => again R5 S5 e7
      | bk Γ5 => cases e7; exact fun σ5 H5 Hf5 R5 S5 => k σ5 H5 Hf5 R5 (S.tr S5)
      | rt r Γ5 => cases e7; exact fun v σ5 H5 Hf5 R5 S5 q => k v σ5 H5 Hf5 R5 (S.tr S5) (q.back S)
    · have hie : i = xs.length := by omega
      subst hie
      rw [List.drop_length] at e3
      cases (show some (Out.nx Γ2) = some o from e3)
      exact .inl ⟨wk.stop _ H2 (x2.tr R2.sub) (Nat.le_refl _), k σ2 H2 Hf2 R2 S2⟩
end
end EvL

set_option Elab.async false
set_option linter.all false
set_option maxRecDepth 100000
set_option maxHeartbeats 16000000
namespace EvL
open PySem PySem.Spec PyProof.Rows L2

/-! ### stores -/
section
variable {K : PySem.W.Frag} {σ0 σ : L2.St} {Γ0 Γ : Ga} {Hf0 H0 Hf H : Hp}
/-- what a fresh list of one's own is -/
def Has (K : PySem.W.Frag) (Hf H : Hp) (p : Addr) (L : List Addr) : MV → Prop
  | .ow q ds => q = false ∧ L = [p] ∧ ∃ ws, Hf p = none ∧ H p = some (.lst ws) ∧ Dqs K Hf ws ds
  | .oo rss => ∃ as, L = p :: as ∧ OO K Hf H p as rss
  | _ => False
theorem Rel.putO {i : Nat} {p : Addr} {L : List Addr} {m : MV} (R : Rel K Hf H σ Γ) (S : Step σ0 Γ0 Hf0 H0 σ Γ Hf H) (h0 : ∀ b ∈ L, H0 b = none) (h : Has K Hf H p L m)
    (hno : ∀ b ∈ L, ∀ q, ¬ OwnAt σ Γ H q b) (hi : i < Γ.length) : Rel K Hf H (σ.set i (some (.ref p))) (Γ.set i m) ∧ Step σ0 Γ0 Hf0 H0 (σ.set i (some (.ref p))) (Γ.set i m) Hf H := by
  have hs : i < σ.length := by rw [← R.len]; exact hi
  have sne : ∀ {j : Nat}, j ≠ i → (σ.set i (some (V.ref p)))[j]? = σ[j]? := fun {j} hj => by rw [List.getElem?_set, if_neg (fun z => hj z.symm)]
  have sat : (σ.set i (some (V.ref p)))[i]? = some (some (.ref p)) := by rw [List.getElem?_set, if_pos rfl, if_pos hs]
  have so : ∀ {j : Nat} {q : Bool} {b : Addr}, SO (σ.set i (some (V.ref p))) (Γ.set i m) H j q b → (j = i ∧ q = false ∧ b ∈ L) ∨ (j ≠ i ∧ SO σ Γ H j q b ∧ b ∉ L) := fun {j q b} g => by
    have fin : j ≠ i → SO σ Γ H j q b → (j = i ∧ q = false ∧ b ∈ L) ∨ (j ≠ i ∧ SO σ Γ H j q b ∧ b ∉ L) := fun hj g => .inr ⟨hj, g, fun z => hno b z q ⟨j, g⟩⟩
    rcases g with ⟨ds, e, g⟩ | ⟨rfl, rss, a, as, e, g, g3, g4⟩
    · rcases get_set e with ⟨rfl, e, _⟩ | ⟨hj, e⟩
      · subst e
        obtain ⟨rfl, rfl, _⟩ := h
        rw [sat] at g; cases g
        exact .inl ⟨rfl, rfl, List.mem_singleton.mpr rfl⟩
      · rw [sne hj] at g; exact fin hj (.inl ⟨ds, e, g⟩)
    · rcases get_set e with ⟨rfl, e, _⟩ | ⟨hj, e⟩
      · subst e
        obtain ⟨as', rfl, o⟩ := h
        rw [sat] at g; cases g
        have := o.at_
        rw [g3] at this
        injection this with this
        injection this with this
        rw [map_ref_inj this] at g4
        exact .inl ⟨rfl, rfl, g4⟩
      · rw [sne hj] at g; exact fin hj (.inr ⟨rfl, rss, a, as, e, g, g3, g4⟩)
  refine ⟨⟨by simp [R.len], R.sub, fun j d' e => ?_, fun j q es e => ?_, fun j rss e => ?_, fun j j' q q' b g g' => ?_⟩, ⟨S.ext, S.keep, S.live, S.newf, fun b g => ?_, fun b g => ?_, fun j ds g => let ⟨h1, e1⟩ := hid_set (fun _ z => by subst z; exact h) (fun j hj => sne hj) j ds g; let ⟨h2, e2⟩ := S.hid j ds h1; ⟨h2, e1.trans e2⟩⟩⟩
  · rcases get_set e with ⟨rfl, e, _⟩ | ⟨hj, e⟩
    · subst e; exact h.elim
    · rw [sne hj]
      exact R.fz j d' e
  · rcases get_set e with ⟨rfl, e, _⟩ | ⟨hj, e⟩
    · subst e
      obtain ⟨rfl, rfl, ws, hf, hp, hq⟩ := h
      exact ⟨p, ws, sat, hf, hp, hq⟩
    · rw [sne hj]
      exact R.own j q es e
  · rcases get_set e with ⟨rfl, e, _⟩ | ⟨hj, e⟩
    · subst e
      obtain ⟨as, rfl, o⟩ := h
      exact ⟨p, as, sat, o⟩
    · rw [sne hj]
      exact R.oo j rss e
  · rcases so g with ⟨rfl, _, hb⟩ | ⟨hj, g, hb⟩
    · rcases so g' with ⟨rfl, _⟩ | ⟨_, _, hb'⟩
      · rfl
      · exact absurd hb hb'
    · rcases so g' with ⟨rfl, _, hb'⟩ | ⟨hj', g', _⟩
      · exact absurd hb' hb
      · exact R.inj j j' q q' b g g'
  · obtain ⟨j, g⟩ := g
    rcases so g with ⟨_, _, hb⟩ | ⟨_, g, _⟩
    · exact .inr (h0 b hb)
    · exact S.newo b ⟨j, g⟩
  · obtain ⟨j, g⟩ := g
    rcases so g with ⟨_, z, _⟩ | ⟨_, g, _⟩
    · cases z
    · exact S.newb b ⟨j, g⟩
/-- a fresh result is nobody's -/
theorem EStep.noone {σ : L2.St} (R0 : Rel K Hf0 H0 σ Γ0) (S : EStep σ Γ0 Hf0 H0 Γ Hf H) {p : Addr} (h0 : H0 p = none) : ∀ q, ¬ OwnAt σ Γ H q p := fun q z => by
  cases q with
  | false => exact R0.fresh h0 false (S.shr p z)
  | true => exact R0.fresh h0 true (S.newb p z)
theorem Rel.putR {i : Nat} {v : V} {r : RV} (R : Rel K Hf H σ Γ) (S : Step σ0 Γ0 Hf0 H0 σ Γ Hf H) (h : RRel K H0 Hf H v r) (hno : ∀ p, H0 p = none → (∀ rss, r ≠ .oo rss) → (∀ ds, r = .ow ds → v = .ref p → ∀ q, ¬ OwnAt σ Γ H q p)) (hoo : ∀ rss, r = .oo rss → ∀ p, H0 p = none → ∀ q, ¬ OwnAt σ Γ H q p) (hi : i < Γ.length) :
    Rel K Hf H (σ.set i (some v)) (Γ.set i r.mv) ∧ Step σ0 Γ0 Hf0 H0 (σ.set i (some v)) (Γ.set i r.mv) Hf H := by
  cases r with
  | fz d =>
    obtain ⟨a, b⟩ := R.put h hi
    exact ⟨a, S.tr b.toStep⟩
  | ow ds =>
    obtain ⟨p, ws, rfl, h0, hf, hp, hq⟩ := h
    exact R.putO (L := [p]) (m := .ow false ds) S (fun b hb => by rw [List.mem_singleton.mp hb]; exact h0) ⟨rfl, rfl, ws, hf, hp, hq⟩ (fun b hb => by rw [List.mem_singleton.mp hb]; exact hno p h0 (fun _ z => nomatch z) _ rfl rfl) hi
  | oo rss =>
    obtain ⟨p, as, rfl, h0, o⟩ := h
    exact R.putO (L := p :: as) (m := .oo rss) S h0 ⟨as, rfl, o⟩ (fun b hb => hoo _ rfl b (h0 b hb)) hi
end
/-! ### several results, temporary lists kept apart -/
def OwnR (vs : List V) (rs : List RV) (p : Addr) : Prop := ∃ (j : Nat) (ds : List D), rs[j]? = some (.ow ds) ∧ vs[j]? = some (.ref p)
inductive RRels (K : PySem.W.Frag) (H0 Hf H : Hp) : List V → List RV → Prop
  | nil : RRels K H0 Hf H [] []
  | cons {v : V} {vs : List V} {r : RV} {rs : List RV} : RRel K H0 Hf H v r → (∀ rss, r ≠ .oo rss) → (∀ ds p, r = .ow ds → v = .ref p → ¬ OwnR vs rs p) → RRels K H0 Hf H vs rs → RRels K H0 Hf H (v :: vs) (r :: rs)
section
variable {K : PySem.W.Frag} {σ0 σ : L2.St} {Γ0 Γ : Ga} {Hf0 H0 Hf H : Hp}
theorem RRels.dead : ∀ {vs : List V} {rs : List RV} {p : Addr}, RRels K H0 Hf H vs rs → OwnR vs rs p → H0 p = none
  | _, _, _, .nil, ⟨j, ds, e, _⟩ => by simp at e
  | _, _, p, .cons h _ _ t, ⟨0, ds, e, g⟩ => by
    simp at e g
    subst e; subst g
    obtain ⟨q, ws, e, h0, _⟩ := h
    cases e; exact h0
  | _, _, p, .cons _ _ _ t, ⟨j + 1, ds, e, g⟩ => RRels.dead t ⟨j, ds, by simpa using e, by simpa using g⟩
theorem RRels.back {H1 : Hp} (e : ∀ b, H b = none → H1 b = none) : ∀ {vs : List V} {rs : List RV} {Hf' H' : Hp}, RRels K H Hf' H' vs rs → RRels K H1 Hf' H' vs rs
  | _, _, _, _, .nil => .nil
  | _, _, _, _, .cons h no n t => .cons (h.back e) no n (RRels.back e t)
end
def tRs (K : PySem.W.Frag) (f : Ga → Option (List RV × Ga)) : TA := fun σ H Q => ∃ Γ Hf r Γ', Rel K Hf H σ Γ ∧ f Γ = some (r, Γ') ∧
  ∀ vs H' Hf', Rel K Hf' H' σ Γ' → EStep σ Γ Hf H Γ' Hf' H' → RRels K H Hf' H' vs r → Q vs H'
section
variable {X : Cx} {e : Expr} {es : List Expr} {fa : FX} {g : Ga → Option (List RV × Ga)}
theorem r_nil : PA X [] (tRs X.K fun Γ => some ([], Γ)) := pa_nil.imp fun σ H Q ⟨Γ, Hf, r, Γ', R, ef, k⟩ => by
  cases ef
  exact k [] H Hf R .rfl' .nil
theorem low_ne (r : RV) : ∀ rss, r.low ≠ .oo rss := fun rss z => by cases r <;> cases z
theorem pe_low (ha : PE X e (tX X.K fa)) : PE X e (tX X.K fun Γ => (fa Γ).map fun (x, Γ) => (x.low, Γ)) := ha.imp fun σ H Q ⟨Γ, Hf, r, Γ', R, ef, k⟩ => by
  obtain ⟨⟨rx, Γ1⟩, e1, e2⟩ := mapS' ef
  cases e2
  refine ⟨Γ, Hf, rx, _, R, e1, fun v H' Hf' R' S' rr => ?_⟩
  cases rx with
  | fz d => exact k v H' Hf' R' S' rr
  | ow ds => exact k v H' Hf' R' S' rr
  | oo rss =>
    obtain ⟨Hf2, R2, S2, d⟩ := freeze R' S' R rr
    exact k v H' Hf2 R2 S2 d
theorem r_cons (ha : PE X e (tX X.K fa)) (hr : PA X es (tRs X.K g)) (hu : unstar e = true) : PA X (e :: es) (tRs X.K fun Γ => (fa Γ).bind fun (x, Γ) => (g Γ).map fun (ds, Γ) => (x.low :: ds, Γ)) :=
  (pa_cons (pe_low ha) hr (star_cons hu)).imp fun σ H Q ⟨Γ, Hf, r, Γ', R, ef, k⟩ => by
    obtain ⟨⟨rx0, Γ1⟩, e1, ef⟩ := bindS ef
    obtain ⟨⟨rs, Γ2⟩, e2, e3⟩ := mapS' ef
    cases e3
    have hlow := low_ne rx0
    refine ⟨Γ, Hf, rx0.low, Γ1, R, by simp [e1], fun x H1 Hf1 R1 S1 d1 => ⟨Γ1, Hf1, rs, _, R1, e2, fun vs H2 Hf2 R2 S2 d2 => k _ H2 Hf2 R2 (S1.tr S2) (.cons ?_ hlow ?_ (d2.back S1.dead))⟩⟩
    · generalize rx0.low = rx at d1 hlow
      cases rx with
      | fz d => exact dpM S2.ext d1
      | oo rss => exact absurd rfl (hlow rss)
      | ow ds =>
        obtain ⟨p, ws, rfl, h0, hf, hp, hq⟩ := d1
        obtain ⟨t1, t2⟩ := temp_keep S1.x R h0 hf hp S2.x
        exact ⟨p, ws, rfl, h0, t2, t1, dpMs S2.ext hq⟩
    · generalize rx0.low = rx at d1 hlow
      intro ds p e0 e1 hO
      subst e0
      obtain ⟨q, ws, e, h0, hf, hp, hq⟩ := d1
      rw [show x = V.ref p from by assumption] at e
      cases e
      have := d2.dead hO
      rw [hp] at this; cases this
end
def setAll : List Nat → List V → L2.St → L2.St
  | i :: is, v :: vs, σ => setAll is vs (σ.set i (some v))
  | _, _, σ => σ
section
variable {K : PySem.W.Frag} {σ0 : L2.St} {Γ0 : Ga} {Hf0 H0 Hf H : Hp}
theorem putAll_ok : ∀ {is : List Nat} {vs : List V} {rs : List RV} {σ : L2.St} {Γ Γ' : Ga}, Rel K Hf H σ Γ → Step σ0 Γ0 Hf0 H0 σ Γ Hf H → RRels K H0 Hf H vs rs → (∀ p, OwnR vs rs p → ∀ q, ¬ OwnAt σ Γ H q p) → putAll is rs Γ = some Γ' →
    Rel K Hf H (setAll is vs σ) Γ' ∧ Step σ0 Γ0 Hf0 H0 (setAll is vs σ) Γ' Hf H ∧ is.length = vs.length
  | [], [], [], σ, Γ, Γ', R, S, _, _, e => by cases e; exact ⟨R, S, rfl⟩
  | i :: is, v :: vs, r :: rs, σ, Γ, Γ', R, S, .cons h hoo hd t, hno, e => by
    unfold putAll at e
    split at e
    · rename_i hi
      obtain ⟨R1, S1⟩ := R.putR S h (fun p _ _ ds e1 e2 => hno p ⟨0, ds, by simp [e1], by simp [e2]⟩) (fun rss z => absurd z (hoo rss)) hi
      have := putAll_ok (is := is) R1 S1 t (fun p ho q ha => ?_) e
      · exact ⟨this.1, this.2.1, by simp [this.2.2]⟩
      · obtain ⟨j, ha⟩ := ha
        have hs : i < σ.length := by rw [← R.len]; exact hi
        have old : SO σ Γ H j q p → False := fun z => by
          obtain ⟨j0, ds0, o1, o2⟩ := ho
          exact hno p ⟨j0 + 1, ds0, by simpa using o1, by simpa using o2⟩ q ⟨j, z⟩
        cases r with
        | fz d => exact old (so_put (m := .fz d) trivial ha).2
        | oo rss => exact absurd rfl (hoo rss)
        | ow ds =>
          rcases ha with ⟨es, e1, e2⟩ | ⟨rfl, rss, a, as, e1, e2, e3, e4⟩
          · rcases get_set e1 with ⟨rfl, e1, _⟩ | ⟨hj, e1⟩
            · rw [List.getElem?_set, if_pos rfl, if_pos hs] at e2
              cases e2; exact hd _ _ rfl rfl ho
            · rw [List.getElem?_set, if_neg (fun z => hj z.symm)] at e2
              exact old (.inl ⟨es, e1, e2⟩)
          · rcases get_set e1 with ⟨rfl, e1, _⟩ | ⟨hj, e1⟩
            · cases e1
            · rw [List.getElem?_set, if_neg (fun z => hj z.symm)] at e2
              exact old (.inr ⟨rfl, rss, a, as, e1, e2, e3, e4⟩)
    · cases e
  | [], _, _ :: _, _, _, _, _, _, _, _, e => by cases e
  | _ :: _, _, [], _, _, _, _, _, _, _, e => by cases e
  | [], _ :: _, [], _, _, _, _, _, h, _, _ => by cases h
end
section
variable {X : Cx} {st : Stmt} {f g : FS} {e c a b : Expr} {fx fy : FX} {pos : Pos}
theorem set_read {K : PySem.W.Frag} {i : Nat} {D : Ends} {σ : L2.St} {H : Hp} (h : tS K (fun Γ => (fx Γ).bind fun (r, Γ) => if i < Γ.length then some (.nx (Γ.set i r.mv)) else none) D σ H) : tX K fx σ H fun x H1 => D.nx (σ.set i (some x)) H1 := by
  obtain ⟨Γ, Hf, o, R, ef, k⟩ := h
  obtain ⟨⟨r, Γ1⟩, e1, e2⟩ := bindS ef
  simp only at e2
  split at e2
  · rename_i hi
    cases e2
    refine ⟨Γ, Hf, r, Γ1, R, e1, fun v H' Hf' R' S' q => ?_⟩
    obtain ⟨R2, S2⟩ := R'.putR S'.toStep q (fun p h0 _ ds _ _ => S'.noone R h0) (fun rss _ p h0 => S'.noone R h0) hi
    exact k _ _ _ R2 S2
  · cases e2
theorem z_set {i : Nat} {x : Str} {pos' : Pos} (hN : X.N.Nodup) (hi : X.N[i]? = some x) (hx : Loc X.env.scope x) (he : PE X e (tX X.K fx)) (hs : swapsWith e (some (.Name x pos')) pos.line X.env = pure false) (hf : X.fn x = true ∨ X.env.scope.names.lookup x = some .local) :
    PS X (.Assign [.Name x pos'] e pos) (tS X.K fun Γ => (fx Γ).bind fun (r, Γ) => if i < Γ.length then some (.nx (Γ.set i r.mv)) else none) := (ps_set hN hi hx he hs hf).imp fun D σ H h => set_read h
theorem z_asg {tg : Expr} {t : Tg} (he : PE X e (tX X.K fx)) (hg : PG X tg (tG X.K t)) (hs : swapsWithSole [tg] e pos.line X.env = pure false) (hw : swappedStores [tg] e X.env = pure none) (h1 : (assignEach [tg] X.env).map (·.2) = [assign tg X.env]) :
    PS X (.Assign [tg] e pos) (tS X.K fun Γ => (fx Γ).bind fun (r, Γ) => (asg t r.d Γ).map .nx) := (ps_asg (pe_fast he) hg hs hw h1).imp fun D σ H ⟨Γ, Hf, o, R, ef, k⟩ => by
  obtain ⟨⟨r, Γ1⟩, e1, e2⟩ := bindS ef
  obtain ⟨Γ2, e3, e4⟩ := mapS' e2
  cases e4
  exact ⟨Γ, Hf, r, Γ1, R, e1, fun v H' Hf' R' S' q => ⟨Γ1, Hf', _, Γ2, R', q, e3, fun σ' R2 S2 _ _ => k _ _ _ R2 (S'.toStep.tr S2.toStep)⟩⟩
theorem z_par {i j : Nat} {x y : Str} {px py pt : Pos} {kt k2 pt2} {h : Ga → Option (List RV × Ga)} (hc : X.calm = true) (hN : X.N.Nodup) (hi : X.N[i]? = some x) (hj : X.N[j]? = some y) (hij : i ≠ j)
    (hx : X.env.scope.names.lookup x = some .local) (hy : X.env.scope.names.lookup y = some .local) (ha : PA X [a, b] (tRs X.K h))
    (hw : swappedStores [.Tuple [.Name x px, .Name y py] kt pt] (.Tuple [a, b] k2 pt2) X.env = pure (some [x, y])) :
    PS X (.Assign [.Tuple [.Name x px, .Name y py] kt pt] (.Tuple [a, b] k2 pt2) pos) (tS X.K fun Γ => (h Γ).bind fun (rs, Γ) => (putAll [i, j] rs Γ).map .nx) := (ps_par hc hN hi hj hij hx hy ha hw rfl).imp fun D σ H ⟨Γ, Hf, o, R, ef, k⟩ => by
  obtain ⟨⟨r, Γ1⟩, e1, e2⟩ := bindS ef
  obtain ⟨Γ2, e3, e4⟩ := mapS' e2
  cases e4
  refine ⟨Γ, Hf, r, Γ1, R, e1, fun vs H' Hf' R' S' q => ?_⟩
  obtain ⟨R2, S2, hl⟩ := putAll_ok R' S'.toStep q (fun p ho => S'.noone R (q.dead ho)) e3
  match vs, hl, R2, S2 with
  | [v, w], _, R2, S2 => exact ⟨v, w, rfl, k _ _ _ R2 S2⟩
  | [], hl, _, _ => simp at hl
  | [_], hl, _, _ => simp at hl
  | _ :: _ :: _ :: _, hl, _, _ => simp at hl
theorem z_par3 {i j l : Nat} {x y z : Str} {px py pz pt : Pos} {kt k2 pt2} {h : Ga → Option (List RV × Ga)} (hc : X.calm = true) (hN : X.N.Nodup) (hi : X.N[i]? = some x) (hj : X.N[j]? = some y) (hl : X.N[l]? = some z) (hij : i ≠ j) (hil : i ≠ l) (hjl : j ≠ l)
    (hx : X.env.scope.names.lookup x = some .local) (hy : X.env.scope.names.lookup y = some .local) (hz : X.env.scope.names.lookup z = some .local) (ha : PA X [a, b, c] (tRs X.K h))
    (hw : swappedStores [.Tuple [.Name x px, .Name y py, .Name z pz] kt pt] (.Tuple [a, b, c] k2 pt2) X.env = pure (some [x, y, z])) :
    PS X (.Assign [.Tuple [.Name x px, .Name y py, .Name z pz] kt pt] (.Tuple [a, b, c] k2 pt2) pos) (tS X.K fun Γ => (h Γ).bind fun (rs, Γ) => (putAll [i, j, l] rs Γ).map .nx) := (ps_par3 hc hN hi hj hl hij hil hjl hx hy hz ha hw rfl).imp fun D σ H ⟨Γ, Hf, o, R, ef, k⟩ => by
  obtain ⟨⟨r, Γ1⟩, e1, e2⟩ := bindS ef
  obtain ⟨Γ2, e3, e4⟩ := mapS' e2
  cases e4
  refine ⟨Γ, Hf, r, Γ1, R, e1, fun vs H' Hf' R' S' q => ?_⟩
  obtain ⟨R2, S2, hl⟩ := putAll_ok R' S'.toStep q (fun p ho => S'.noone R (q.dead ho)) e3
  match vs, hl, R2, S2 with
  | [u, v, w], _, R2, S2 => exact ⟨u, v, w, rfl, k _ _ _ R2 S2⟩
  | [], hl, _, _ => simp at hl
  | [_], hl, _, _ => simp at hl
  | [_, _], hl, _, _ => simp at hl
  | _ :: _ :: _ :: _ :: _, hl, _, _ => simp at hl
/-- a slot's list is written -/
theorem Rel.wrote {K : PySem.W.Frag} {σ : L2.St} {Γ : Ga} {Hf H : Hp} {i : Nat} {b : Bool} {ds es : List D} {p : Addr} {ws : List V} (R : Rel K Hf H σ Γ) (h1 : Γ[i]? = some (.ow b ds)) (h2 : σ[i]? = some (some (.ref p))) (hq : Dqs K Hf ws es) :
    Rel K Hf (upd H p (.lst ws)) σ (Γ.set i (.ow b es)) ∧ EStep σ Γ Hf H (Γ.set i (.ow b es)) Hf (upd H p (.lst ws)) := by
  obtain ⟨a, vs, e, hf, hp, _⟩ := R.own i b ds h1
  rw [h2] at e; cases e
  exact lent R h1 h2 .rfl' (R.sub.upd hf) (fun x o hx e => by rw [upd_ne hx]; exact e) (fun x h => .inl h) upd_same hf hq
theorem put_at {K : PySem.W.Frag} {σ : L2.St} {Γ Γ' : Ga} {Hf H : Hp} {i : Nat} {ix d : D} {y v : V} {p : Addr} (R : Rel K Hf H σ Γ) (h2 : σ[i]? = some (some (.ref p))) (hy : Dq K Hf y ix) (hv : Dq K Hf v d) (e : putAt i ix d Γ = some Γ') :
    ∃ xs k j, y = .int k ∧ H p = some (.lst xs) ∧ ixN xs.length k = some j ∧ Rel K Hf (upd H p (.lst (xs.set j v))) σ Γ' ∧ EStep σ Γ Hf H Γ' Hf (upd H p (.lst (xs.set j v))) := by
  unfold putAt at e
  split at e
  · rename_i b ds k h1
    obtain ⟨j, e1, e2⟩ := mapS' e
    subst e2
    obtain ⟨a, vs, g, hf, hp, hq⟩ := R.own i b ds h1
    rw [h2] at g; cases g
    cases hy
    obtain ⟨R2, S2⟩ := R.wrote h1 h2 (dps_set j hq hv)
    exact ⟨vs, _, j, rfl, hp, by rw [dps_len hq]; exact e1, R2, S2⟩
  · cases e
theorem own_ref {K : PySem.W.Frag} {σ : L2.St} {Γ : Ga} {Hf H : Hp} {i : Nat} {ix d : D} {Γ' : Ga} (R : Rel K Hf H σ Γ) (e : putAt i ix d Γ = some Γ') : ∃ p, σ[i]? = some (some (.ref p)) := by
  unfold putAt at e
  split at e
  · rename_i b ds k h1
    obtain ⟨a, vs, g, _⟩ := R.own i b ds h1
    exact ⟨a, g⟩
  · cases e
theorem isOw_ref {K : PySem.W.Frag} {σ : L2.St} {Γ : Ga} {Hf H : Hp} {i : Nat} (R : Rel K Hf H σ Γ) (h : isOw i Γ = true) : ∃ w, σ[i]? = some (some w) := by
  unfold isOw at h
  split at h
  · rename_i b ds h1
    obtain ⟨a, vs, g, _⟩ := R.own i b ds h1
    exact ⟨_, g⟩
  · cases h
theorem ifO {α : Type} {c : Bool} {o : Option α} {r : α} (e : (if c then o else none) = some r) : c = true ∧ o = some r := by
  cases c with
  | true => exact ⟨rfl, e⟩
  | false => cases e
theorem z_put {i : Nat} {x : Str} {px ps : Pos} (hN : X.N[i]? = some x) (hv : Vis X.env.scope x) (hd : (x == ("__debug__" : Str)) = false) (hcd : (x == ("__classdict__" : Str)) = false)
    (he : PE X e (tX X.K fx)) (hb : PE X b (tX X.K fy)) (ht : isTup b = false ∧ plainE b = true) (hs : swapsWithSole [.Subscript (.Name x px) b ps] e pos.line X.env = pure false) (hw : swappedStores [.Subscript (.Name x px) b ps] e X.env = pure none) :
    PS X (.Assign [.Subscript (.Name x px) b ps] e pos) (tS X.K fun Γ => (fx Γ).bind fun (r, Γ) => if isOw i Γ then (fy Γ).bind fun (y, Γ) => (putAt i y.d r.d Γ).map .nx else none) := by
  have hg : PG X (.Subscript (.Name x px) b ps) (gSub (tVar i) (tE X.K fy) rSetL) := pg_sub (pe_var hN hv hd hcd) (pe_fast hb) set_list (by cases b <;> first | (intro _; rfl) | (cases ht.2; done) | (cases ht.1; done))
  refine (ps_asg (pe_fast he) hg hs hw rfl).imp fun D σ H ⟨Γ, Hf, o, R, ef, k⟩ => ?_
  obtain ⟨⟨r, Γ1⟩, e1, ef⟩ := bindS ef
  obtain ⟨h0, ef⟩ := ifO ef
  obtain ⟨⟨y, Γ2⟩, e2, ef⟩ := bindS ef
  obtain ⟨Γ3, e3, e4⟩ := mapS' ef
  cases e4
  refine ⟨Γ, Hf, r, Γ1, R, e1, fun v H1 Hf1 R1 S1 q => ?_⟩
  obtain ⟨w, hw⟩ := isOw_ref R1 h0
  refine ⟨w, hw, Γ1, Hf1, y, Γ2, R1, e2, fun yv H2 Hf2 R2 S2 q2 => ?_⟩
  obtain ⟨p, hp⟩ := own_ref R2 e3
  rw [hw] at hp; cases hp
  obtain ⟨xs, kk, j, a1, a2, a3, R3, S3⟩ := put_at R2 hw q2 (dpM S2.ext q) e3
  exact ⟨p, xs, kk, j, rfl, a1, a2, a3, k _ _ _ R3 ((S1.toStep.tr S2.toStep).tr S3.toStep)⟩
/-- own rows are written -/
theorem Rows.set {K : PySem.W.Frag} {Hf H : Hp} {x : Addr} {ws : List V} {ds : List D} (hf : Hf x = none) (hq : Dqs K Hf ws ds) : ∀ {as : List Addr} {rss : List (List D)} {m : Nat}, as.Nodup → as[m]? = some x → Rows K Hf H as rss → Rows K Hf (upd H x (.lst ws)) as (rss.set m ds)
  | _, _, _, _, e, .nil => by simp at e
  | _, _, 0, nd, e, .cons a b c t => by
    simp at e; subst e
    exact .cons hf upd_same hq (t.mono Ext.rfl' (fun y hy => (t.mem y hy).1) fun y hy => upd_ne fun z => (List.nodup_cons.mp nd).1 (by subst z; exact hy))
  | y :: _, _, m + 1, nd, e, .cons a b c t => by
    rw [List.getElem?_cons_succ] at e
    have e' := e
    have hy : y ≠ x := fun z => (List.nodup_cons.mp nd).1 (by subst z; exact List.mem_of_getElem? e')
    exact .cons a (by rw [upd_ne hy]; exact b) c (Rows.set hf hq (List.nodup_cons.mp nd).2 e' t)
theorem Rel.wroteO {K : PySem.W.Frag} {σ : L2.St} {Γ : Ga} {Hf H : Hp} {i m : Nat} {rss : List (List D)} {ds : List D} {a x : Addr} {as : List Addr} {ws : List V} (R : Rel K Hf H σ Γ) (h1 : Γ[i]? = some (.oo rss)) (h2 : σ[i]? = some (some (.ref a))) (o : OO K Hf H a as rss) (hx : as[m]? = some x) (hq : Dqs K Hf ws ds) :
    Rel K Hf (upd H x (.lst ws)) σ (Γ.set i (.oo (rss.set m ds))) ∧ Step σ Γ Hf H σ (Γ.set i (.oo (rss.set m ds))) Hf (upd H x (.lst ws)) := by
  have hi := lt_of_get h1
  have xin : x ∈ as := List.mem_of_getElem? hx
  have mine : SO σ Γ H i false x := .oo h1 h2 o (List.mem_cons_of_mem _ xin)
  have hxa : a ≠ x := fun z => (List.nodup_cons.mp o.nd).1 (by subst z; exact xin)
  have hf := (o.mem x (List.mem_cons_of_mem _ xin)).1
  have other : ∀ {j : Nat} {q : Bool} {y : Addr}, j ≠ i → SO σ Γ H j q y → y ≠ x := fun {j q y} hj h z => hj (by subst z; exact R.inj j i q false y h mine)
  have so : ∀ {j : Nat} {q : Bool} {y : Addr}, SO σ (Γ.set i (.oo (rss.set m ds))) (upd H x (.lst ws)) j q y → SO σ Γ H j q y := fun {j q y} h => by
    rcases h with ⟨es, e1, e2⟩ | ⟨rfl, rss', b, bs, e1, e2, e3, e4⟩
    · rcases get_set e1 with ⟨rfl, e, _⟩ | ⟨hj, e⟩
      · cases e
      · exact .inl ⟨es, e, e2⟩
    · rcases get_set e1 with ⟨rfl, e, _⟩ | ⟨hj, e⟩
      · rw [h2] at e2; cases e2
        rw [upd_ne hxa] at e3
        exact .inr ⟨rfl, rss, a, bs, h1, h2, e3, e4⟩
      · obtain ⟨b', bs', g, o'⟩ := R.oo j rss' e
        rw [e2] at g; cases g
        rw [upd_ne (other hj (.oo e e2 o' (List.mem_cons_self ..)))] at e3
        exact .inr ⟨rfl, rss', b, bs, e, e2, e3, e4⟩
  refine ⟨⟨by rw [List.length_set]; exact R.len, R.sub.upd hf, fun j d e => ?_, fun j q es e => ?_, fun j rss' e => ?_, fun j j' q q' y h h' => R.inj j j' q q' y (so h) (so h')⟩,
    ⟨Ext.rfl', fun y u e n => ?_, fun y e => ?_, fun _ h => .inl h, fun y ⟨j, h⟩ => .inl ⟨j, so h⟩, fun y ⟨j, h⟩ => ⟨j, so h⟩, hid_set (fun _ z => nomatch z) fun _ _ => rfl⟩⟩
  · rcases get_set e with ⟨rfl, e, _⟩ | ⟨hj, e⟩
    · cases e
    · exact R.fz j d e
  · rcases get_set e with ⟨rfl, e, _⟩ | ⟨hj, e⟩
    · cases e
    · obtain ⟨y, us, e1, e2, e3, e4⟩ := R.own j q es e
      exact ⟨y, us, e1, e2, by rw [upd_ne (other hj (.inl ⟨es, e, e1⟩))]; exact e3, e4⟩
  · rcases get_set e with ⟨rfl, e, _⟩ | ⟨hj, e⟩
    · cases e
      exact ⟨a, as, h2, o.hf, by rw [upd_ne hxa]; exact o.at_, o.nd, o.rows.set hf hq (List.nodup_cons.mp o.nd).2 hx⟩
    · obtain ⟨b, bs, e1, o'⟩ := R.oo j rss' e
      exact ⟨b, bs, e1, o'.mono Ext.rfl' (fun y hy => (o'.mem y hy).1) fun y hy => upd_ne (other hj (.oo e e1 o' hy))⟩
  · rw [upd_ne fun z => n false ⟨i, by subst z; exact mine⟩]; exact e
  · by_cases hy : y = x
    · subst hy; rw [upd_same]; simp
    · rw [upd_ne hy]; exact e
theorem z_puto {i : Nat} {x : Str} {px p1 ps : Pos} (hN : X.N[i]? = some x) (hv : Vis X.env.scope x) (hd : (x == ("__debug__" : Str)) = false) (hcd : (x == ("__classdict__" : Str)) = false)
    (he : PE X e (tX X.K fx)) {fa : FX} (ha : PE X a (tX X.K fa)) (hb : PE X b (tX X.K fy)) (hs1 : PlainIx a) (ht : isTup b = false ∧ plainE b = true) (hs : swapsWithSole [.Subscript (.Subscript (.Name x px) a p1) b ps] e pos.line X.env = pure false) (hw : swappedStores [.Subscript (.Subscript (.Name x px) a p1) b ps] e X.env = pure none) :
    PS X (.Assign [.Subscript (.Subscript (.Name x px) a p1) b ps] e pos) (tS X.K fun Γ => (fx Γ).bind fun (r, Γ) => if isOo i Γ then (fa Γ).bind fun (x, Γ) => (rowO i x.d Γ).bind fun _ => (fy Γ).bind fun (y, Γ) => (putO i x.d y.d r.d Γ).map .nx else none) := by
  have hg : PG X (.Subscript (.Subscript (.Name x px) a p1) b ps) (gSub _ (tE X.K fy) rSetL) := pg_sub (pe_ix (pos := p1) ix_list (pe_var (pos := px) hN hv hd hcd) (pe_fast ha) hs1) (pe_fast hb) set_list (by cases b <;> first | (intro _; rfl) | (cases ht.2; done) | (cases ht.1; done))
  refine (ps_asg (pe_fast he) hg hs hw rfl).imp fun D σ H ⟨Γ, Hf, o, R, ef, k⟩ => ?_
  obtain ⟨⟨r, Γ1⟩, e1, ef⟩ := bindS ef
  obtain ⟨h0, ef⟩ := ifO ef
  obtain ⟨⟨rx, Γ2⟩, e2, ef⟩ := bindS ef
  obtain ⟨rs, e3, ef⟩ := bindS ef
  obtain ⟨⟨ry, Γ3⟩, e4, ef⟩ := bindS ef
  obtain ⟨Γ4, e5, e6⟩ := mapS' ef
  cases e6
  refine ⟨Γ, Hf, r, Γ1, R, e1, fun v H1 Hf1 R1 S1 q => ?_⟩
  obtain ⟨_, A, _, _, hA, _⟩ := isOo_ref R1 h0
  refine ⟨_, hA, Γ1, Hf1, rx, Γ2, R1, e2, fun vx H2 Hf2 R2 S2 d2 => ?_⟩
  obtain ⟨rss, as, kk, j, rr, vs, g1, oo, gd, rfl, g2, g3, g4, g5, g6, g7, g8⟩ := row_ref R2 hA d2 e3
  refine ⟨A, _, kk, .ref rr, rfl, rfl, .inl (.inl oo.at_), g5, Γ2, Hf2, ry, _, R2, e4, fun vy H3 Hf3 R3 S3 d3 => ?_⟩
  unfold putO at e5
  split at e5
  · rename_i rss2 k2 l2 q1 q2 q3
    obtain ⟨t1, t2, t3⟩ := S3.oos i rss2 A q1 hA
    rw [g1] at t1; cases t1
    obtain ⟨A', as2, t4, o2⟩ := R3.oo i rss q1
    rw [hA] at t4; cases t4
    have t5 := o2.at_
    rw [t3, oo.at_] at t5
    injection t5 with t5
    injection t5 with t5
    obtain rfl := map_ref_inj t5
    rw [gd] at q2; cases q2
    obtain ⟨m, u1, u2⟩ := bindS e5
    obtain ⟨rs2, u3, u4⟩ := bindS u2
    obtain ⟨l, u5, u6⟩ := mapS' u4
    rw [← oo.rows.len, g2] at u1
    cases u1
    rw [g4] at u3; cases u3
    obtain ⟨r2, vs2, w1, w2, w3, w4⟩ := o2.rows.get g4
    rw [g3] at w1; cases w1
    rw [q3] at d3; cases d3
    subst u6
    obtain ⟨R4, S4⟩ := R3.wroteO q1 hA o2 g3 (dps_set l w4 (dpM (S2.ext.tr S3.ext) q))
    exact ⟨rr, vs2, l2, l, rfl, rfl, w3, by rw [dps_len w4]; exact u5, k _ _ _ R4 (((S1.toStep.tr S2.toStep).tr S3.toStep).tr S4)⟩
  · cases e5
/-- a slot is given up -/
theorem Rel.forget {K : PySem.W.Frag} {σ : L2.St} {Γ : Ga} {Hf H : Hp} (R : Rel K Hf H σ Γ) (i : Nat) : Rel K Hf H σ (Γ.set i .un) ∧ Step σ Γ Hf H σ (Γ.set i .un) Hf H := by
  have nm : NoOwn .un := trivial
  refine ⟨⟨by rw [List.length_set]; exact R.len, R.sub, fun j d e => ?_, fun j q es e => ?_, fun j rss e => ?_, fun j j' q q' y h h' => R.inj j j' q q' y (so_set nm h).2 (so_set nm h').2⟩, ⟨Ext.rfl', fun _ _ h _ => h, fun _ h => h, fun _ h => .inl h, fun b h => .inl (own_set nm h), fun b h => own_set nm h, hid_set (fun _ z => nomatch z) fun _ _ => rfl⟩⟩
  · rcases get_set e with ⟨_, e, _⟩ | ⟨hj, e⟩
    · cases e
    · exact R.fz j d e
  · rcases get_set e with ⟨_, e, _⟩ | ⟨hj, e⟩
    · cases e
    · exact R.own j q es e
  · rcases get_set e with ⟨_, e, _⟩ | ⟨hj, e⟩
    · cases e
    · exact R.oo j rss e
theorem z_reto {i : Nat} {x : Str} {p : Pos} (hN : X.N[i]? = some x) (hv : Vis X.env.scope x) (hd : (x == ("__debug__" : Str)) = false) (hcd : (x == ("__classdict__" : Str)) = false) :
    PS X (.Return (some (.Name x p)) pos) (tS X.K fun Γ => match Γ[i]? with
      | some (.oo rss) => some (.rt (.oo rss) (Γ.set i .un))
      | _ => (getV i Γ).map fun (d, Γ) => .rt (.fz d) Γ) := (ps_ret (pe_var hN hv hd hcd)).imp fun D σ H ⟨Γ, Hf, o, R, ef, k⟩ => by
  simp only at ef
  split at ef
  · rename_i rss h1
    cases ef
    obtain ⟨a, as, e, oo⟩ := R.oo i rss h1
    obtain ⟨R1, S1⟩ := R.forget i
    exact ⟨_, e, k _ σ H Hf R1 S1 ⟨a, as, rfl, fun b hb => .inr ⟨i, .oo h1 e oo hb⟩, oo⟩⟩
  · obtain ⟨⟨d, Γ1⟩, e1, e2⟩ := mapS' ef
    cases e2
    obtain ⟨v, Hf', h1, h2, h3, h4⟩ := read_slot R e1
    exact ⟨v, h1, k v σ H Hf' h2 h3.toStep (RRel.m (r := .fz d) h4)⟩
theorem z_aug {i : Nat} {x : Str} {pos' : Pos} {op : Operator} {o : BOp} (hN : X.N.Nodup) (hi : X.N[i]? = some x) (hx : Loc X.env.scope x) (he : PE X e (tX X.K fx)) (ho : op = .Add ∧ o = .add ∨ op = .Sub ∧ o = .sub) (hf : X.fn x = true ∨ X.env.scope.names.lookup x = some .local) :
    PS X (.AugAssign (.Name x pos') op e pos) (tS X.K fun Γ => match Γ[i]? with
      | some (.fz d) => (fx Γ).bind fun (r, Γ) => (augD o d r.d).map fun z => .nx (Γ.set i (.fz z))
      | _ => none) := by
  have hp : PIp X op (ipI fun a b => if o = .add then a + b else a - b) := by
    rcases ho with ⟨rfl, rfl⟩ | ⟨rfl, rfl⟩
    · exact ip_add
    · exact ip_sub
  refine (ps_aug hN hi hx (pe_fast he) hp hf).imp fun D σ H ⟨Γ, Hf, out, R, ef, k⟩ => ?_
  simp only at ef
  split at ef
  · rename_i d h1
    obtain ⟨⟨r, Γ1⟩, e1, ef⟩ := bindS ef
    obtain ⟨z, e2, e3⟩ := mapS' ef
    cases e3
    obtain ⟨v, hv, dv⟩ := R.fz i d h1
    refine ⟨v, hv, Γ, Hf, r, Γ1, R, e1, fun w H1 Hf1 R1 S1 q => ?_⟩
    have hl : i < Γ1.length := by rw [R1.len, ← R.len]; exact (List.getElem?_eq_some_iff.mp h1).1
    have fin : ∀ a b : Int, d = .int a → r.d = .int b → z = .int (if o = .add then a + b else a - b) := by
      intro a b h2 h3
      rw [h2, h3] at e2
      rcases ho with ⟨rfl, rfl⟩ | ⟨rfl, rfl⟩ <;> (cases e2; rfl)
    have ab : ∃ a b, d = .int a ∧ r.d = .int b := by
      rcases ho with ⟨rfl, rfl⟩ | ⟨rfl, rfl⟩ <;> (revert e2; cases d <;> cases r.d <;> (intro e2; first | exact ⟨_, _, rfl, rfl⟩ | cases e2))
    obtain ⟨a, b, h2, h3⟩ := ab
    have hz := fin a b h2 h3
    rw [h2] at dv; cases dv
    rw [h3] at q; cases q
    subst hz
    obtain ⟨R2, S2⟩ := R1.put (Dq.int (if o = .add then a + b else a - b)) hl
    exact ⟨a, b, rfl, rfl, k _ _ _ R2 (S1.toStep.tr S2.toStep)⟩
  · cases ef
theorem z_app {i : Nat} {x : Str} {px ap cp : Pos} (hN : X.N[i]? = some x) (hv : Vis X.env.scope x) (hd : (x == ("__debug__" : Str)) = false) (hcd : (x == ("__classdict__" : Str)) = false) (he : PE X e (tX X.K fx)) (hu : unstar e = true) (hline : (ap.endLine == cp.line) = true) :
    PS X (.Expr (.Call (.Attribute (.Name x px) "append" ap) [e] [] cp) pos) (tS X.K fun Γ => match Γ[i]? with
      | some (.ow _ _) => (fx Γ).bind fun (r, Γ) => match Γ[i]? with
        | some (.ow b ds) => if ds.length < lim then some (.nx (Γ.set i (.ow b (ds ++ [r.d])))) else none
        | _ => none
      | _ => none) := by
  have hm : MtR X "list.append" rAppend := mt_append
  have hA : PA X [e] (tCons (tE X.K fx) tNil) := pa_cons (pe_fast he) pa_nil (star_cons hu)
  have hp := pe_bm (cpos := cp) (apos := ap) PySem.F.plainAttrs_list PySem.F.slot_list_append PySem.F.type_list_append hm (pe_var (pos := px) hN hv hd hcd) hA rfl (by rw [star_cons hu]; rfl) hline (star_cons hu) rfl
  refine (ps_expr hp rfl).imp fun D σ H ⟨Γ, Hf, out, R, ef, k⟩ => ?_
  simp only at ef
  split at ef
  · rename_i b0 ds0 h0
    obtain ⟨⟨r, Γ1⟩, e1, ef⟩ := bindS ef
    simp only at ef
    split at ef
    · rename_i b ds h1
      split at ef
      · rename_i hl
        cases ef
        obtain ⟨p, vs0, g0, f0, p0, q0⟩ := R.own i b0 ds0 h0
        refine ⟨.ref p, g0, .inl ⟨rfl, vs0, .inl (.inl p0)⟩, Γ, Hf, r, Γ1, R, e1, fun w H1 Hf1 R1 S1 q => ?_⟩
        obtain ⟨p', vs, g, f1, p1, q1⟩ := R1.own i b ds h1
        rw [g0] at g; cases g
        obtain ⟨R2, S2⟩ := R1.wrote h1 g0 (dps_app q1 (.cons q .nil))
        exact ⟨p, vs, w, rfl, rfl, p1, Nat.lt_of_lt_of_le (by rw [dps_len q1]; exact hl) lim_le, k _ _ _ R2 (S1.toStep.tr S2.toStep)⟩
      · cases ef
    · cases ef
  · cases ef
theorem z_dip {i j : Nat} {x y : Str} {px ps py pt : Pos} {kt : Nat} (hc : X.calm = true) (hnd : X.N.Nodup) (hN : X.N[i]? = some x) (hv : Vis X.env.scope x) (hd : (x == ("__debug__" : Str)) = false) (hcd : (x == ("__classdict__" : Str)) = false) (hj : X.N[j]? = some y) (hy : L2.Loc X.env.scope y) (hf : X.fn y = true ∨ X.env.scope.names.lookup y = some .local)
    (he : PE X e (tX X.K fx)) (hb : PE X b (tX X.K fy)) (ht : isTup b = false ∧ plainE b = true) (hs : swapsWithSole [.Tuple [.Subscript (.Name x px) b ps, .Name y py] kt pt] e pos.line X.env = pure false) (hw : swappedStores [.Tuple [.Subscript (.Name x px) b ps, .Name y py] kt pt] e X.env = pure none) :
    PS X (.Assign [.Tuple [.Subscript (.Name x px) b ps, .Name y py] kt pt] e pos) (tS X.K fun Γ => (fx Γ).bind fun (r, Γ) => match r.d with
      | .tuple [a, b] => if isOw i Γ then (fy Γ).bind fun (x, Γ) => (putAt i x.d a Γ).bind fun Γ => if j < Γ.length then some (.nx (Γ.set j (.fz b))) else none else none
      | _ => none) := by
  have hg : PG X (.Subscript (.Name x px) b ps) (gSub (tVar i) (tE X.K fy) rSetL) := pg_sub (pe_var hN hv hd hcd) (pe_fast hb) set_list (by cases b <;> first | (intro _; rfl) | (cases ht.2; done) | (cases ht.1; done))
  have hg2 : PG X (.Name y py) (gName j) := pg_name hnd hj hy hf
  refine (ps_asg (pe_fast he) (pg_tup (n := 2) hc (pgs_cons hg (pgs_cons hg2 pgs_nil))) hs hw rfl).imp fun D σ H ⟨Γ, Hf, o, R, ef, k⟩ => ?_
  obtain ⟨⟨r, Γ1⟩, e1, ef⟩ := bindS ef
  simp only at ef
  split at ef
  · rename_i a d hr
    obtain ⟨h0, ef⟩ := ifO ef
    obtain ⟨⟨ix, Γ2⟩, e2, ef⟩ := bindS ef
    obtain ⟨Γ3, e3, ef⟩ := bindS ef
    split at ef
    · rename_i hl
      cases ef
      refine ⟨Γ, Hf, r, Γ1, R, e1, fun v H1 Hf1 R1 S1 q => ?_⟩
      rw [hr] at q
      cases q with
      | tup hq hqs =>
        cases hqs with
        | cons q1 t =>
          cases t with
          | cons q2 t =>
            cases t
            obtain ⟨w, hw⟩ := isOw_ref R1 h0
            refine ⟨_, _, rfl, R1.sub.st hq, rfl, _, _, rfl, w, hw, Γ1, Hf1, ix, Γ2, R1, e2, fun yv H2 Hf2 R2 S2 q3 => ?_⟩
            obtain ⟨p, hp⟩ := own_ref R2 e3
            rw [hw] at hp; cases hp
            obtain ⟨xs, kk, n, a1, a2, a3, R3, S3⟩ := put_at R2 hw q3 (dpM S2.ext q1) e3
            obtain ⟨R4, S4⟩ := R3.put (dpM S2.ext q2) hl
            exact ⟨p, xs, kk, n, rfl, a1, a2, a3, _, _, rfl, rfl, k _ _ _ R4 (((S1.toStep.tr S2.toStep).tr S3.toStep).tr S4.toStep)⟩
    · cases ef
  · cases ef
end
section
variable {K : PySem.W.Frag} {Hf H H1 H0 : Hp}
theorem RRel.up {v : V} {r : RV} (h : RRel K H0 Hf H v r) (e : Ext H H1) : RRel K H0 Hf H1 v r := by
  cases r with
  | fz d => exact h
  | ow ds =>
    obtain ⟨p, ws, a, b, c, d, f⟩ := h
    exact ⟨p, ws, a, b, c, e _ _ d, f⟩
  | oo rss =>
    obtain ⟨p, as, a, b, o⟩ := h
    exact ⟨p, as, a, b, o.mono Ext.rfl' (fun x hx => (o.mem x hx).1) fun x hx => let ⟨_, vs, z⟩ := o.mem x hx; e.eq_at z⟩
theorem RRels.up (e : Ext H H1) : ∀ {vs : List V} {rs : List RV}, RRels K H0 Hf H vs rs → RRels K H0 Hf H1 vs rs
  | _, _, .nil => .nil
  | _, _, .cons h no n t => .cons (h.up e) no n (RRels.up e t)
theorem RRels.len : ∀ {vs : List V} {rs : List RV}, RRels K H0 Hf H vs rs → vs.length = rs.length
  | _, _, .nil => rfl
  | _, _, .cons _ _ _ t => by simp [RRels.len t]
end
section
variable {X : Cx}
def NmOk (X : Cx) : List Expr → List Nat → Prop
  | [], [] => True
  | e :: es, i :: is => (∃ x p, e = .Name x p ∧ X.N[i]? = some x ∧ Loc X.env.scope x ∧ (X.fn x = true ∨ X.env.scope.names.lookup x = some .local)) ∧ NmOk X es is
  | _, _ => False
theorem nmOk_unstar : ∀ {es : List Expr} {is : List Nat}, NmOk X es is → es.all unstar = true ∧ es.length = is.length
  | [], [], _ => ⟨rfl, rfl⟩
  | e :: es, i :: is, h => by
    obtain ⟨⟨x, p, rfl, _⟩, h2⟩ := h
    obtain ⟨a, b⟩ := nmOk_unstar h2
    exact ⟨by simpa using ⟨rfl, by simpa using a⟩, by simp [b]⟩
  | [], _ :: _, h => h.elim
  | _ :: _, [], h => h.elim
theorem gs_names (hN : X.N.Nodup) : ∀ {es : List Expr} {is : List Nat}, NmOk X es is → PGs X es (fun vs σ H Q => is.length = vs.length ∧ Q (setAll is vs σ) H)
  | [], [], _ => PGs_imp pgs_nil fun vs σ H Q ⟨e, q⟩ => by
    cases vs with
    | nil => exact ⟨rfl, q⟩
    | cons => cases e
  | e :: es, i :: is, h => by
    obtain ⟨⟨x, p, rfl, hi, hx, hf⟩, h2⟩ := h
    exact PGs_imp (pgs_cons (pg_name hN hi hx hf) (gs_names hN h2) (by rw [asg_cons rfl]; rfl)) fun vs σ H Q ⟨e, q⟩ => by
      cases vs with
      | nil => simp at e
      | cons v vs => exact ⟨v, vs, rfl, by simpa using e, q⟩
  | [], _ :: _, h => h.elim
  | _ :: _, [], h => h.elim
theorem z_parT {ts vs : List Expr} {is : List Nat} {kt k2 : Nat} {pt pt2 pos : Pos} {h : Ga → Option (List RV × Ga)} (hc : X.calm = true) (hN : X.N.Nodup) (hn : NmOk X ts is) (ha : PA X vs (tRs X.K h)) (hl : ∀ Γ rs Γ', h Γ = some (rs, Γ') → rs.length ≤ 1000)
    (hs : swapsWithSole [.Tuple ts kt pt] (.Tuple vs k2 pt2) pos.line X.env = pure false) (hw : swappedStores [.Tuple ts kt pt] (.Tuple vs k2 pt2) X.env = pure none) :
    PS X (.Assign [.Tuple ts kt pt] (.Tuple vs k2 pt2) pos) (tS X.K fun Γ => (h Γ).bind fun (rs, Γ) => (putAll is rs Γ).map .nx) := by
  obtain ⟨u1, u2⟩ := nmOk_unstar hn
  refine (ps_asg (pe_tup ha) (pg_tup hc (gs_names hN hn) (asg_len u1).1 (asg_len u1).2) hs hw rfl).imp fun D σ H ⟨Γ, Hf, o, R, ef, k⟩ => ?_
  obtain ⟨⟨r, Γ1⟩, e1, e2⟩ := bindS ef
  obtain ⟨Γ2, e3, e4⟩ := mapS' e2
  cases e4
  refine ⟨Γ, Hf, r, Γ1, R, e1, fun vs H' Hf' R' S' q => ⟨by rw [q.len]; exact Nat.le_trans (hl _ _ _ e1) (by decide), fun p hp => ?_⟩⟩
  have g : Grow Hf' H' Hf' (upd H' p (.tup vs)) := ⟨Ext.rfl', R'.sub.upd (R'.sub.none hp), Ext.new hp, fun _ e => .inl e⟩
  obtain ⟨R2, S2, hl2⟩ := putAll_ok (g.rel R') (S'.tr (g.step R')).toStep (q.up (Ext.new hp)) (fun b ho => (S'.tr (g.step R')).noone R (q.dead ho)) e3
  exact ⟨p, vs, rfl, .inl (.inl upd_same), by rw [← hl2, ← u2], hl2, k _ _ _ R2 S2⟩
end
/-! ### a loop over a list of one's own -/
section
variable {K : PySem.W.Frag} {σ σ' : L2.St} {Γ Γ' : Ga} {Hf H Hf' H' : Hp} {i : Nat} {ds : List D} {p : Addr} {vs : List V}
theorem so_hid {j : Nat} {q : Bool} {b : Addr} (h : SO σ (Γ.set i (.hid ds)) H j q b) : j ≠ i ∧ SO σ Γ H j q b := by
  rcases h with ⟨es, h1, h2⟩ | ⟨rfl, rss, a, as, h1, h2, h3, h4⟩
  · rcases get_set h1 with ⟨_, e, _⟩ | ⟨hj, e⟩
    · cases e
    · exact ⟨hj, .inl ⟨es, e, h2⟩⟩
  · rcases get_set h1 with ⟨_, e, _⟩ | ⟨hj, e⟩
    · cases e
    · exact ⟨hj, .inr ⟨rfl, rss, a, as, e, h2, h3, h4⟩⟩
theorem Rel.hide (R : Rel K Hf H σ Γ) : Rel K Hf H σ (Γ.set i (.hid ds)) where
  len := by rw [List.length_set]; exact R.len
  sub := R.sub
  fz := fun j d e => by
    rcases get_set e with ⟨_, e, _⟩ | ⟨_, e⟩
    · cases e
    · exact R.fz j d e
  own := fun j q es e => by
    rcases get_set e with ⟨_, e, _⟩ | ⟨_, e⟩
    · cases e
    · exact R.own j q es e
  oo := fun j rss e => by
    rcases get_set e with ⟨_, e, _⟩ | ⟨_, e⟩
    · cases e
    · exact R.oo j rss e
  inj := fun j j' q q' b h h' => R.inj j j' q q' b (so_hid h).2 (so_hid h').2
theorem own_hid {q : Bool} {b : Addr} (h : OwnAt σ (Γ.set i (.hid ds)) H q b) : OwnAt σ Γ H q b := let ⟨j, h⟩ := h; ⟨j, (so_hid h).2⟩
/-- the list is nobody's while it is hidden -/
theorem Rel.hidden (R : Rel K Hf H σ Γ) (h1 : Γ[i]? = some (.ow false ds)) (h2 : σ[i]? = some (some (.ref p))) : ∀ q, ¬ OwnAt σ (Γ.set i (.hid ds)) H q p := fun q ⟨j, h⟩ => by
  obtain ⟨hj, g⟩ := so_hid h
  exact hj (R.inj j i q false p g (.inl ⟨ds, h1, h2⟩))
theorem Step.hidden (R : Rel K Hf H σ Γ) (h1 : Γ[i]? = some (.ow false ds)) (h2 : σ[i]? = some (some (.ref p))) (hf : Hf p = none) (hp : H p = some (.lst vs)) (S : Step σ (Γ.set i (.hid ds)) Hf H σ' Γ' Hf' H') :
    H' p = some (.lst vs) ∧ Hf' p = none ∧ ∀ q, ¬ OwnAt σ' Γ' H' q p := by
  have no := R.hidden h1 h2
  refine ⟨S.keep p _ hp no, ?_, fun q z => ?_⟩
  · cases w : Hf' p with
    | none => rfl
    | some u =>
      rcases S.newf p (by rw [w]; simp) with z | z | z
      · exact absurd hf z
      · rw [hp] at z; cases z
      · exact absurd z (no false)
  · cases q with
    | true => exact no true (S.newb p z)
    | false =>
      rcases S.newo p z with z | z
      · exact no false z
      · rw [hp] at z; cases z
/-- all but what stands at i -/
theorem Step.shown {m : MV} (hm : ∀ es, m ≠ .hid es) (S : Step σ (Γ.set i (.hid ds)) Hf H σ' Γ' Hf' H') (h1 : ∀ b, OwnAt σ' (Γ'.set i m) H' false b → OwnAt σ' Γ' H' false b ∨ OwnAt σ Γ H false b) (h2 : ∀ b, OwnAt σ' (Γ'.set i m) H' true b → OwnAt σ' Γ' H' true b) :
    Step σ Γ Hf H σ' (Γ'.set i m) Hf' H' where
  ext := S.ext
  keep := fun b o h n => S.keep b o h fun q z => n q (own_hid z)
  live := S.live
  newf := fun b h => (S.newf b h).imp id fun z => z.imp id own_hid
  newo := fun b h => (h1 b h).elim (fun z => (S.newo b z).imp own_hid id) .inl
  newb := fun b h => own_hid (S.newb b (h2 b h))
  hid := fun j es h => by
    rcases get_set h with ⟨_, e, _⟩ | ⟨hj, e⟩
    · exact absurd e.symm (hm es)
    · obtain ⟨g, e2⟩ := S.hid j es e
      rw [List.getElem?_set, if_neg (fun z => hj z.symm)] at g
      exact ⟨g, e2⟩
theorem Rel.unhide (R : Rel K Hf H σ Γ) (h1 : Γ[i]? = some (.ow false ds)) (h2 : σ[i]? = some (some (.ref p))) (hf : Hf p = none) (hp : H p = some (.lst vs)) (hq : Dqs K Hf vs ds)
    (R' : Rel K Hf' H' σ' Γ') (S : Step σ (Γ.set i (.hid ds)) Hf H σ' Γ' Hf' H') {es : List D} (h3 : Γ'[i]? = some (.hid es)) :
    Rel K Hf' H' σ' (Γ'.set i (.ow false es)) ∧ Step σ Γ Hf H σ' (Γ'.set i (.ow false es)) Hf' H' := by
  obtain ⟨hp', hf', no⟩ := S.hidden R h1 h2 hf hp
  have hi : i < Γ'.length := lt_of_get h3
  obtain ⟨g, es2⟩ := S.hid i es h3
  rw [List.getElem?_set, if_pos rfl, if_pos (lt_of_get h1)] at g
  cases g
  rw [h2] at es2
  have so : ∀ {j : Nat} {q : Bool} {b : Addr}, SO σ' (Γ'.set i (.ow false ds)) H' j q b → (j = i ∧ q = false ∧ b = p) ∨ (j ≠ i ∧ SO σ' Γ' H' j q b ∧ b ≠ p) := fun {j q b} g => by
    have fin : j ≠ i → SO σ' Γ' H' j q b → (j = i ∧ q = false ∧ b = p) ∨ (j ≠ i ∧ SO σ' Γ' H' j q b ∧ b ≠ p) := fun hj g => .inr ⟨hj, g, fun z => by subst z; exact no q ⟨j, g⟩⟩
    rcases g with ⟨fs, e, g⟩ | ⟨rfl, rss, a, as, e, g, g3, g4⟩
    · rcases get_set e with ⟨rfl, e, _⟩ | ⟨hj, e⟩
      · cases e
        rw [es2] at g; cases g
        exact .inl ⟨rfl, rfl, rfl⟩
      · exact fin hj (.inl ⟨fs, e, g⟩)
    · rcases get_set e with ⟨rfl, e, _⟩ | ⟨hj, e⟩
      · cases e
      · exact fin hj (.inr ⟨rfl, rss, a, as, e, g, g3, g4⟩)
  refine ⟨⟨by rw [List.length_set]; exact R'.len, R'.sub, fun j d e => ?_, fun j q fs e => ?_, fun j rss e => ?_, fun j j' q q' b g g' => ?_⟩, S.shown (fun _ z => nomatch z) (fun b ⟨j, g⟩ => ?_) fun b ⟨j, g⟩ => ?_⟩
  · rcases get_set e with ⟨_, e, _⟩ | ⟨_, e⟩
    · cases e
    · exact R'.fz j d e
  · rcases get_set e with ⟨rfl, e, _⟩ | ⟨_, e⟩
    · cases e
      exact ⟨p, vs, es2, hf', hp', dpMs S.ext hq⟩
    · exact R'.own j q fs e
  · rcases get_set e with ⟨_, e, _⟩ | ⟨_, e⟩
    · cases e
    · exact R'.oo j rss e
  · rcases so g with ⟨rfl, rfl, rfl⟩ | ⟨hj, g1, n1⟩
    · rcases so g' with ⟨rfl, _, _⟩ | ⟨_, _, n2⟩
      · rfl
      · exact absurd rfl n2
    · rcases so g' with ⟨_, _, rfl⟩ | ⟨_, g2, _⟩
      · exact absurd rfl n1
      · exact R'.inj j j' q q' b g1 g2
  · rcases so g with ⟨rfl, _, rfl⟩ | ⟨_, g1, _⟩
    · exact .inr ⟨_, .inl ⟨ds, h1, h2⟩⟩
    · exact .inl ⟨j, g1⟩
  · rcases so g with ⟨_, e, _⟩ | ⟨_, g1, _⟩
    · cases e
    · exact ⟨j, g1⟩
end
section
variable {X : Cx} {body : List Stmt} {f : FS} {pos : Pos}
theorem z_fro {i : Nat} {x : Str} {px : Pos} {tg : Expr} {t : Tg} (hp : PassesOwn (model X.prog X.w) X.A X.env X.xe) (hcalm : X.calm = true) (hN : X.N[i]? = some x) (hv : Vis X.env.scope x) (hd : (x == ("__debug__" : Str)) = false) (hcd : (x == ("__classdict__" : Str)) = false)
    (hg : PG X tg (tG X.K t)) (hb : PSs X body (tS X.K f)) (hs : ∀ y, foldedSetIterable (.Name x px) X.env y = pure y) : PS X (.For tg (.Name x px) body [] pos) (tS X.K (hideO i (evFo t i f))) :=
  (ps_for hp hcalm (pi_list (pe_var (pos := px) hN hv hd hcd)) hg hb hs).imp fun D σ H ⟨Γ, Hf, o, R, ef, k⟩ => by
    unfold hideO at ef
    split at ef
    case h_2 => cases ef
    rename_i ds h0
    obtain ⟨p, vs, g0, f0, p0, q0⟩ := R.own i false ds h0
    have R1 : Rel X.K Hf H σ (Γ.set i (.hid ds)) := R.hide
    let W : Nat → Nat → L2.St → Hp → Prop := fun j m σ' H' => m = ds.length - j ∧ j ≤ ds.length ∧ ∃ Γ' Hf', Rel X.K Hf' H' σ' Γ' ∧ Step σ (Γ.set i (.hid ds)) Hf H σ' Γ' Hf' H' ∧ evFo t i f (ds.drop j) Γ' = some o
    refine ⟨.ref p, g0, p, rfl, ⟨vs, .inl (.inl p0)⟩, W, ⟨ds.length, by simp, Nat.zero_le _, _, Hf, R1, .rfl', ef⟩, ?_⟩
    have fin : ∀ {σ2 : L2.St} {H2 Hf2 : Hp} {Γ2 : Ga}, Rel X.K Hf2 H2 σ2 Γ2 → Step σ (Γ.set i (.hid ds)) Hf H σ2 Γ2 Hf2 H2 → backH i Γ2 = some o → ∃ Γ3, o = .nx Γ3 ∧ Rel X.K Hf2 H2 σ2 Γ3 ∧ Step σ Γ Hf H σ2 Γ3 Hf2 H2 := fun {σ2 H2 Hf2 Γ2} R2 S2 e => by
      unfold backH at e
      split at e
      · rename_i es h3
        cases e
        obtain ⟨R3, S3⟩ := R.unhide h0 g0 f0 p0 q0 R2 S2 h3
        exact ⟨_, rfl, R3, S3⟩
      · cases e
    rintro j m σ2 H2 ⟨rfl, hj, Γ2, Hf2, R2, S2, e3⟩
    obtain ⟨hp2, hf2, no2⟩ := S2.hidden R h0 g0 f0 p0
    by_cases hlt : j < ds.length
    · have hlv : j < vs.length := by rw [dps_len q0]; exact hlt
      refine .inr ⟨⟨vs, vs[j], .inl (.inl hp2), List.getElem?_eq_getElem _⟩, fun σ' H' => ∃ m', m' < ds.length - j ∧ W (j + 1) m' σ' H', fun _ _ h => h, fun x H3 hy => ?_⟩
      obtain ⟨rfl, hy⟩ := hy
      have hx : ds[j]? = some ds[j] := List.getElem?_eq_getElem hlt
      obtain ⟨v, g1, g2⟩ := dps_get q0 hx
      have hv2 := hy vs (.inl (.inl hp2))
      rw [g1] at hv2; cases hv2
      have d3 := dpM S2.ext g2
      rw [List.drop_eq_getElem_cons hlt] at e3
      obtain ⟨Γ4, e4, e5⟩ := bindS (show (asg t ds[j] Γ2).bind (fun Γ => (f Γ).bind fun o => match o with
        | .nx Γ => evFo t i f (ds.drop (j + 1)) Γ
        | .ct Γ => evFo t i f (ds.drop (j + 1)) Γ
        | .bk Γ => backH i Γ
        | .rt r Γ => some (.rt r (Γ.set i .un))) = some o from e3)
      obtain ⟨o1, e6, e7⟩ := bindS e5
      refine ⟨Γ2, Hf2, ds[j], Γ4, R2, d3, e4, fun σ4 R4 S4 _ _ => ⟨Γ4, Hf2, o1, R4, e6, ?_⟩⟩
      have S := S2.tr S4.toStep
      have again : ∀ {σ5 H5 Hf5 Γ5}, Rel X.K Hf5 H5 σ5 Γ5 → Step σ4 Γ4 Hf2 H3 σ5 Γ5 Hf5 H5 → evFo t i f (ds.drop (j + 1)) Γ5 = some o → ∃ m', m' < ds.length - j ∧ W (j + 1) m' σ5 H5 := fun {σ5 H5 Hf5 Γ5} R5 S5 e =>
        ⟨ds.length - (j + 1), by omega, rfl, hlt, Γ5, Hf5, R5, S.tr S5, e⟩
      cases o1 with
      | nx Γ5 => exact fun σ5 H5 Hf5 R5 S5 => again R5 S5 e7
      | ct Γ5 => exact fun σ5 H5 Hf5 R5 S5 => again R5 S5 e7
      | bk Γ5 =>
        intro σ5 H5 Hf5 R5 S5
        obtain ⟨Γ6, rfl, R6, S6⟩ := fin R5 (S.tr S5) e7
        exact k σ5 H5 Hf5 R6 S6
      | rt r Γ5 =>
        cases e7
        intro v σ5 H5 Hf5 R5 S5 q
        have S6 := S.tr S5
        obtain ⟨R7, _⟩ := R5.forget i
        have q1 := q.back S
        have nm : NoOwn .un := trivial
        refine k v σ5 H5 Hf5 R7 (S6.shown (fun _ z => nomatch z) (fun b h => .inl (own_set nm h)) fun b h => own_set nm h) ?_
        cases r with
        | fz d => exact q1
        | ow es => exact q1
        | oo rss =>
          obtain ⟨a, as, e, h0', oo'⟩ := q1
          exact ⟨a, as, e, fun b hb => (h0' b hb).imp id own_hid, oo'⟩
    · have hie : j = ds.length := by omega
      subst hie
      rw [List.drop_length] at e3
      obtain ⟨Γ6, rfl, R6, S6⟩ := fin R2 S2 e3
      exact .inl ⟨⟨vs, .inl (.inl hp2), by rw [dps_len q0]; exact Nat.le_refl _⟩, k σ2 H2 Hf2 R6 S6⟩
end
end EvL

set_option Elab.async false
set_option linter.all false
set_option maxRecDepth 100000
set_option maxHeartbeats 16000000
namespace EvL
open PySem PySem.Spec PyProof.Rows L2

/-! ### statements: from the model's syntax -/
def env0 (sc : Scope) : Env := { scope := sc, locals := 0, globals := 0, cells := [] }
def semV {α : Type} : Sem α → Option α
  | .pure a => some a
  | _ => none
theorem semV_eq {α : Type} {x : Sem α} {a : α} (h : semV x = some a) : x = pure a := by
  unfold semV at h
  split at h
  · cases h; rfl
  · cases h
def swS (sc : Scope) (ts : List Expr) (v : Expr) : Option (Option (List Str)) := semV (swappedStores ts v (env0 sc))
def swW (sc : Scope) (v : Expr) (tg : Option Expr) (line : Nat) : Option Bool := semV (swapsWith v tg line (env0 sc))
theorem swS_eq {env : Env} {sc : Scope} {ts : List Expr} {v : Expr} {r : Option (List Str)} (he : env.scope = sc) (h : swS sc ts v = some r) : swappedStores ts v env = pure r := by
  have e : swappedStores ts v env = swappedStores ts v (env0 env.scope) := by unfold swappedStores; rfl
  rw [e, he]
  exact semV_eq h
theorem swW_eq {env : Env} {sc : Scope} {tg : Option Expr} {v : Expr} {line : Nat} {r : Bool} (he : env.scope = sc) (h : swW sc v tg line = some r) : swapsWith v tg line env = pure r := by
  have e : swapsWith v tg line env = swapsWith v tg line (env0 env.scope) := by unfold swapsWith; rfl
  rw [e, he]
  exact semV_eq h
theorem swSole {env : Env} {sc : Scope} {tg : Expr} {v : Expr} {line : Nat} {r : Bool} (he : env.scope = sc) (h : swW sc v (some tg) line = some r) : swapsWithSole [tg] v line env = pure r := swW_eq he h
def EF : Nat := 40
def augOf : Operator → Option BOp
  | .Add => some .add | .Sub => some .sub | _ => none
def isLcS : Expr → Bool
  | .ListComp _ [⟨_, _, _, 0⟩] _ _ => true | _ => false
def locL (c : Cc) (x : Str) : Bool := match c.sc.names.lookup x with
  | some .local => true | _ => false
/-- the names of a display of plain names -/
def nmsOf (c : Cc) : List Expr → Option (List Nat)
  | [] => some []
  | .Name x _ :: es => if locL c x then (ixOf c.N x).bind fun i => (nmsOf c es).map fun is => i :: is else none
  | _ :: _ => none
def compPar (c : Cc) (ts vs : List Expr) : Option IS := (nmsOf c ts).bind fun is => (compL (compE EF c) vs).bind fun es => match is with
  | [i, j] => if i ≠ j then some (.par is es) else none
  | [i, j, l] => if i ≠ j ∧ i ≠ l ∧ j ≠ l then some (.par is es) else none
  | _ => none
def nmsK (c : Cc) : List Expr → Option (List Nat)
  | [] => some []
  | .Name x _ :: es => if okName x && locK c x then (ixOf c.N x).bind fun i => (nmsK c es).map fun is => i :: is else none
  | _ :: _ => none
def compParT (c : Cc) (ts : List Expr) (e : Expr) : Option IS := match e with
  | .Tuple vs _ _ => if vs.length ≤ 1000 then (nmsK c ts).bind fun is => (compL (compE EF c) vs).map fun es => .par is es else none
  | _ => none
def compDip (c : Cc) (ts : List Expr) (e : Expr) : Option IS := match ts with
  | [.Subscript (.Name x _) b _, .Name y _] => if okName x && visK c.sc x && plainE b && !isTup b && locK c y then
      (ixOf c.N x).bind fun i => (ixOf c.N y).bind fun j => (compE EF c e).bind fun v => (compE EF c b).map fun ix => .dip i ix j v
    else none
  | _ => none
def compAsg (c : Cc) (tg e : Expr) (pos : Pos) : Option IS := match tg with
  | .Name x p => if okName x && locK c x then (ixOf c.N x).bind fun i => (if c.oo.contains x then (compLco EF c e) else none).elim ((compE EF c e).bind fun ir => match swW c.sc e (some (.Name x p)) pos.line with
      | some false => some (.set i ir)
      | some true => if locL c x && isLcS e then some (.set i ir) else none
      | none => none) fun ir => match swW c.sc e (some (.Name x p)) pos.line with
      | some false => some (.set i ir)
      | some true => if locL c x then some (.set i ir) else none
      | none => none
    else none
  | .Subscript (.Subscript (.Name x px) a p1) b ps => if okName x && visK c.sc x && plainE a && !isTup a && plainE b && !isTup b then
      match swW c.sc e (some tg) pos.line, swS c.sc [tg] e with
      | some false, some none => (ixOf c.N x).bind fun i => (compE EF c e).bind fun v => (compE EF c a).bind fun ix => (compE EF c b).map fun jx => .puto i ix jx v
      | _, _ => none
    else none
  | .Subscript (.Name x px) b ps => if okName x && visK c.sc x && plainE b && !isTup b then
      match swW c.sc e (some tg) pos.line, swS c.sc [tg] e with
      | some false, some none => (ixOf c.N x).bind fun i => (compE EF c e).bind fun v => (compE EF c b).map fun ix => .put i ix v
      | _, _ => none
    else none
  | .Tuple ts k p => match swW c.sc e (some tg) pos.line, swS c.sc [tg] e with
      | some false, some none => (match compParT c ts e with
      | some s => some s
      | none => (match compT EF c tg with
        | some t => (compE EF c e).map fun v => .asg t v
        | none => compDip c ts e))
      | some false, some (some nms) => (match e with
          | .Tuple vs _ _ => if decide (ts.map (fun | .Name x _ => some x | _ => none) = nms.map some) then compPar c ts vs else none
          | _ => none)
      | _, _ => none
  | _ => none
def compB (f : Stmt → Option IS) (ss : List Stmt) : List IS := ss.map fun s => (f s).getD .nev
/-- a name of own rows told back -/
def froName (c : Cc) : Expr → Option Nat
  | .Name x _ => if c.fo.contains x && okName x && visK c.sc x then ixOf c.N x else none
  | _ => none
def retName (c : Cc) : Expr → Option Nat
  | .Name x _ => if okName x && visK c.sc x && c.oo.contains x then ixOf c.N x else none
  | _ => none
def compS : Nat → Cc → Stmt → Option IS
  | 0, _, _ => none
  | n + 1, c, s => match s with
    | .Return none _ => some .retn
    | .Return (some e) _ => (retName c e).elim ((compE EF c e).map .ret) fun i => some (.reto i)
    | .Pass _ => some .pss
    | .Break _ => some .brk
    | .Continue _ => some .cnt
    | .Expr (.Call (.Attribute (.Name x _) nm ap) [e] [] cp) _ => if decide (nm = "append") && okName x && visK c.sc x && decide (ap.endLine = cp.line) then (ixOf c.N x).bind fun i => (compE EF c e).map fun v => .app i v else none
    | .Expr e pos => if swW c.sc e none pos.line = some false then (compE EF c e).map .exp else none
    | .Assign [tg] e pos => compAsg c tg e pos
    | .AugAssign (.Name x _) op e _ => if okName x && locK c x then (augOf op).bind fun o => (ixOf c.N x).bind fun i => (compE EF c e).map fun v => .aug i o v else none
    | .If t a b _ => (compE EF c t).map fun t => .ife t (compB (compS n c) a) (compB (compS n c) b)
    | .While t b [] _ => (compE EF c t).map fun t => .whl t (compB (compS n c) b)
    | .For tg it b [] _ => (froName c it).elim (if plainE it then (compT EF c tg).bind fun t => (compI (compE EF c) c tg it).map fun p => .fr t p.1 p.2 (compB (compS n c) b) else none) fun i => (compT EF c tg).map fun t => .fro t i (compB (compS n c) b)
    | _ => none
/-! ### .. and it is sound -/
theorem loc_of {k : Nat} {c : Cc} {X : Cx} (h : EOk k c X) {x : Str} (hv : locK c x = true) : L2.Loc X.env.scope x ∧ (X.fn x = true ∨ X.env.scope.names.lookup x = some .local) := by
  unfold locK at hv
  rw [← h.sc] at hv
  split at hv
  · rename_i e
    exact ⟨.inl e, .inr e⟩
  · rename_i e
    exact ⟨.inr e, .inl (h.fnC x (List.contains_iff_mem.mp hv))⟩
  · cases hv
theorem locL_of {k : Nat} {c : Cc} {X : Cx} (h : EOk k c X) {x : Str} (hv : locL c x = true) : X.env.scope.names.lookup x = some .local := by
  unfold locL at hv
  rw [← h.sc] at hv
  split at hv
  · assumption
  · cases hv
theorem ix_of {k : Nat} {c : Cc} {X : Cx} (h : EOk k c X) {x : Str} {i : Nat} (hi : ixOf c.N x = some i) : X.N[i]? = some x := by
  rw [h.hN]; exact ixOf_get hi
theorem lc_pts {c : Cc} {X : Cx} {k n : Nat} {ifs : List Expr} {fs : List IE} (h : EOk k c X) (t3 : compL (compE n c) ifs = some fs) (hl : ifs.length ≤ 1) : PTs X ifs (tT X.K (evIfs fs)) := by
  match ifs, fs, t3, hl with
  | [], fs, t3, _ =>
    cases (show some [] = some fs from t3)
    refine ⟨fun pins s2 σ H2 Q I ⟨Γ, Hf, r, Γ', R, ef, k2⟩ => ?_⟩
    rw [evIfs] at ef
    cases ef
    exact pts_nil.run pins s2 σ H2 Q I (k2 H2 Hf R .rfl')
  | [i], fs, t3, _ =>
    obtain ⟨x, u1, u2⟩ := bindS (show (compE n c i).bind (fun x => (compL (compE n c) []).map fun xs => x :: xs) = some fs from t3)
    obtain ⟨xs, u3, rfl⟩ := mapS' u2
    cases (show some [] = some xs from u3)
    have q := (compE_sound n h i x u1).pt
    have e0 : evIfs [x] = evT x := by
      funext Γ
      rw [evIfs]
      cases evT x Γ with
      | none => rfl
      | some p =>
        obtain ⟨b, Γ1⟩ := p
        simp only [Option.bind_some]
        cases b
        · rfl
        · rw [if_pos rfl, evIfs]
    rw [e0]
    exact pts_one q
  | _ :: _ :: _, _, _, hl => exact absurd hl (by simp)
theorem z_setLc {k : Nat} {c : Cc} {X : Cx} {n i : Nat} {e : Expr} {ir : IE} {y : Str} {py spos : Pos} (h : EOk k c X) (hlc : isLcS e = true) (hc : compE (n + 1) c e = some ir) (hy : X.N[i]? = some y) (hyl : X.env.scope.names.lookup y = some .local)
    (hsw : swapsWith e (some (.Name y py)) spos.line X.env = pure true) : PS X (.Assign [.Name y py] e spos) (tS X.K fun Γ => (evX ir Γ).bind fun (r, Γ) => if i < Γ.length then some (.nx (Γ.set i r.mv)) else none) := by
  unfold isLcS at hlc
  split at hlc
  case h_2 => cases hlc
  rename_i elt tg iter ifs scope p
  unfold compE at hc
  rw [if_pos (by rfl)] at hc
  simp only at hc
  split at hc
  · rename_i hh
    simp only [Bool.and_eq_true, decide_eq_true_eq] at hh
    obtain ⟨⟨hb, hpi⟩, hl⟩ := hh
    obtain ⟨t, t1, hc⟩ := bindS hc
    obtain ⟨⟨kk, its⟩, t2, hc⟩ := bindS hc
    obtain ⟨fs, t3, hc⟩ := bindS hc
    obtain ⟨el, t4, hc⟩ := bindS hc
    split at hc
    · rename_i hvs
      cases hc
      have hvs' : ∀ j ∈ tgIx t, j ∈ (ownOf c.N scope).map (·.2) := fun j hj => List.contains_iff_mem.mp (List.all_eq_true.mp hvs j hj)
      have hblk : BlkOk X.N X.env.scope scope (ownOf c.N scope) := by rw [h.hN, h.sc]; exact blkOk_by hb
      have hI := compI_sound h (compE_sound n h) t2
      refine (ps_setLc (own := ownOf c.N scope) (te := tE X.K (evX el)) (g := tG X.K t) (tt := tT X.K (evIfs fs)) h.calm h.nd hy hyl hsw hI hblk (fun s H C cl fp => compT_sound (h.blk scope s H C cl fp) n tg t t1) (fun s H C cl fp => lc_pts (h.blk scope s H C cl fp) t3 hl)
        (fun s H C cl fp => pe_fast (compE_sound n (h.blk scope s H C cl fp) elt el t4).pe) (plain_fold hpi)).imp fun D σ H hh => ?_
      have hh2 := set_read hh
      rw [show evX (.lc ((ownOf c.N scope).map (·.2)) t kk its fs el) = lcX kk (evs its) t ((ownOf c.N scope).map (·.2)) (evIfs fs) (evX el) from by funext Γ; rw [evX]; rfl] at hh2
      exact lc_read hvs' hh2
    · cases hc
  · cases hc
theorem lcXO_ev {vs : List Nat} {t : Tg} {kk : IK} {its : List IE} {el : IE} : evX (.lco vs t kk its el) = lcXO kk (evs its) t vs (evX el) := by funext Γ; rw [evX]; rfl
theorem compLco_inv {n : Nat} {c : Cc} {e : Expr} {ir : IE} (hc : compLco n c e = some ir) : ∃ elt tg iter scope p t kk its el, e = .ListComp elt [⟨tg, iter, [], 0⟩] scope p ∧ blkC c.N c.sc scope (ownOf c.N scope) = true ∧ plainE iter = true ∧
    compT n (blkCc c scope) tg = some t ∧ compI (compE n c) c tg iter = some (kk, its) ∧ compE n (blkCc c scope) elt = some el ∧ (∀ j ∈ tgIx t, j ∈ (ownOf c.N scope).map (·.2)) ∧ ir = .lco ((ownOf c.N scope).map (·.2)) t kk its el := by
  unfold compLco at hc
  split at hc
  · rename_i elt tg iter scope p
    split at hc
    · rename_i hh
      simp only [Bool.and_eq_true] at hh
      obtain ⟨t, t1, hc⟩ := bindS hc
      obtain ⟨⟨kk, its⟩, t2, hc⟩ := bindS hc
      obtain ⟨el, t4, hc⟩ := bindS hc
      split at hc
      · rename_i hvs
        cases hc
        exact ⟨elt, tg, iter, scope, p, t, kk, its, el, rfl, hh.1, hh.2, t1, t2, t4, fun j hj => List.contains_iff_mem.mp (List.all_eq_true.mp hvs j hj), rfl⟩
      · cases hc
    · cases hc
  · cases hc
theorem pts_true {X : Cx} : PTs X [] (tT X.K fun Γ => some (true, Γ)) := ⟨fun pins s2 σ H2 Q I ⟨Γ, Hf, r, Γ', R, ef, k2⟩ => by
  cases ef
  exact pts_nil.run pins s2 σ H2 Q I (k2 H2 Hf R .rfl')⟩
theorem pe_lco {k : Nat} {c : Cc} {X : Cx} {n : Nat} {e : Expr} {ir : IE} (h : EOk k c X) (hc : compLco n c e = some ir) : PE X e (tX X.K (evX ir)) := by
  obtain ⟨elt, tg, iter, scope, p, t, kk, its, el, rfl, hb, hpi, t1, t2, t4, hvs, rfl⟩ := compLco_inv hc
  have hblk : BlkOk X.N X.env.scope scope (ownOf c.N scope) := by rw [h.hN, h.sc]; exact blkOk_by hb
  rw [lcXO_ev]
  exact (pe_lc (pos := p) (ifs := []) h.calm h.nd (compI_sound h (compE_sound n h) t2) hblk (fun s H C cl fp => compT_sound (h.blk scope s H C cl fp) n tg t t1)
    (tt := tT X.K fun Γ => some (true, Γ)) (fun s H C cl fp => pts_true) (fun s H C cl fp => (compE_sound n (h.blk scope s H C cl fp) elt el t4).pe) (plain_fold hpi)).imp fun σ H Q hh => lc_readO (K := X.K) (k := kk) (gI := evs its) (tg := t) (fE := evX el) hvs hh
theorem z_setLco {k : Nat} {c : Cc} {X : Cx} {n i : Nat} {e : Expr} {ir : IE} {y : Str} {py spos : Pos} (h : EOk k c X) (hc : compLco n c e = some ir) (hy : X.N[i]? = some y) (hyl : X.env.scope.names.lookup y = some .local)
    (hsw : swapsWith e (some (.Name y py)) spos.line X.env = pure true) : PS X (.Assign [.Name y py] e spos) (tS X.K fun Γ => (evX ir Γ).bind fun (r, Γ) => if i < Γ.length then some (.nx (Γ.set i r.mv)) else none) := by
  obtain ⟨elt, tg, iter, scope, p, t, kk, its, el, rfl, hb, hpi, t1, t2, t4, hvs, rfl⟩ := compLco_inv hc
  have hblk : BlkOk X.N X.env.scope scope (ownOf c.N scope) := by rw [h.hN, h.sc]; exact blkOk_by hb
  refine (ps_setLc (own := ownOf c.N scope) (te := tX X.K (evX el)) (g := tG X.K t) (tt := tT X.K fun Γ => some (true, Γ)) h.calm h.nd hy hyl hsw (compI_sound h (compE_sound n h) t2) hblk (fun s H C cl fp => compT_sound (h.blk scope s H C cl fp) n tg t t1)
    (fun s H C cl fp => pts_true) (fun s H C cl fp => (compE_sound n (h.blk scope s H C cl fp) elt el t4).pe) (plain_fold hpi)).imp fun D σ H hh => ?_
  have hh2 := set_read hh
  rw [lcXO_ev] at hh2
  exact lc_readO hvs hh2
theorem evRs_sound {k : Nat} {c : Cc} {X : Cx} (h : EOk k c X) {n : Nat} : ∀ {es : List Expr} {irs : List IE}, compL (compE n c) es = some irs → PA X es (tRs X.K (evRs irs))
  | [], irs, hc => by
    cases (show some [] = some irs from hc)
    have := r_nil (X := X)
    rwa [show evRs [] = fun Γ => some ([], Γ) from by funext Γ; rw [evRs]]
  | e :: es, irs, hc => by
    obtain ⟨x, h1, h2⟩ := bindS (show (compE n c e).bind (fun x => (compL (compE n c) es).map fun xs => x :: xs) = some irs from hc)
    obtain ⟨xs, h3, rfl⟩ := mapS' h2
    have q := compE_sound n h e x h1
    rw [show evRs (x :: xs) = fun Γ => (evX x Γ).bind fun (x, Γ) => (evRs xs Γ).map fun (ds, Γ) => (x.low :: ds, Γ) from by funext Γ; rw [evRs]]
    exact r_cons q.pe (evRs_sound h h3) (plain_unstar q.pl)
end EvL

set_option Elab.async false
set_option linter.all false
set_option maxRecDepth 100000
set_option maxHeartbeats 16000000
namespace EvL
open PySem PySem.Spec PyProof.Rows L2

section
variable {k : Nat} {c : Cc} {X : Cx}
theorem nms_cons {e : Expr} {es : List Expr} {is : List Nat} (h : nmsOf c (e :: es) = some is) : ∃ x p i is', e = .Name x p ∧ locL c x = true ∧ ixOf c.N x = some i ∧ nmsOf c es = some is' ∧ is = i :: is' := by
  cases e <;> first | (cases h; done) | skip
  rename_i x p
  unfold nmsOf at h
  split at h
  case isFalse => cases h
  rename_i l1
  obtain ⟨i1, a1, h⟩ := bindS h
  obtain ⟨is', a2, a3⟩ := mapS' h
  exact ⟨x, p, i1, is', rfl, l1, a1, a2, a3.symm⟩
theorem nms_nil {es : List Expr} (h : nmsOf c es = some []) : es = [] := by
  cases es with
  | nil => rfl
  | cons e es =>
    obtain ⟨_, _, _, _, _, _, _, _, z⟩ := nms_cons h
    cases z
theorem nms_ne {es : List Expr} {i : Nat} {is : List Nat} (h : nmsOf c es = some (i :: is)) : ∃ x p r, es = .Name x p :: r ∧ locL c x = true ∧ ixOf c.N x = some i ∧ nmsOf c r = some is := by
  cases es with
  | nil => cases h
  | cons e es =>
    obtain ⟨x, p, i', is', rfl, l, a, b, z⟩ := nms_cons h
    cases z
    exact ⟨x, p, es, rfl, l, a, b⟩
theorem nms2 {es : List Expr} {i j : Nat} (h : nmsOf c es = some [i, j]) : ∃ x y p q, es = [.Name x p, .Name y q] ∧ locL c x = true ∧ locL c y = true ∧ ixOf c.N x = some i ∧ ixOf c.N y = some j := by
  obtain ⟨x, p, r, rfl, l, a, b⟩ := nms_ne h
  obtain ⟨y, q, r, rfl, l', a', b⟩ := nms_ne b
  cases nms_nil b
  exact ⟨x, y, p, q, rfl, l, l', a, a'⟩
theorem nms3 {es : List Expr} {i j l : Nat} (h : nmsOf c es = some [i, j, l]) : ∃ x p r, es = .Name x p :: r ∧ locL c x = true ∧ ixOf c.N x = some i ∧ nmsOf c r = some [j, l] := nms_ne h
theorem compL_len {f : Expr → Option IE} : ∀ {es : List Expr} {irs : List IE}, compL f es = some irs → irs.length = es.length
  | [], irs, h => by cases (show some [] = some irs from h); rfl
  | e :: es, irs, h => by
    obtain ⟨x, h1, h⟩ := bindS (show (f e).bind (fun x => (compL f es).map fun xs => x :: xs) = some irs from h)
    obtain ⟨xs, h2, rfl⟩ := mapS' h
    simp [compL_len h2]
theorem par_ev {is : List Nat} {es : List IE} : evS (.par is es) = fun Γ => (evRs es Γ).bind fun (rs, Γ) => (putAll is rs Γ).map .nx := by funext Γ; rw [evS]
theorem sw_len {sc : Scope} {ts vs : List Expr} {kt k2 : Nat} {pt pt2 : Pos} {nms : List Str} {env : Env} (h : swappedStores [.Tuple ts kt pt] (.Tuple vs k2 pt2) env = pure (some nms)) : vs.length = ts.length := by
  unfold swappedStores at h
  simp only [pure_bind] at h
  split at h
  · cases h
  · rename_i hh
    simp only [Bool.or_eq_true, Bool.not_eq_true', not_or] at hh
    simpa using hh.1.2
theorem compPar_sound (h : EOk k c X) {ts vs : List Expr} {kt k2 : Nat} {pt pt2 pos : Pos} {nms : List Str} {ir : IS} (hc : compPar c ts vs = some ir) (hn : ts.map (fun | .Name x _ => some x | _ => none) = nms.map some)
    (hw : swappedStores [.Tuple ts kt pt] (.Tuple vs k2 pt2) X.env = pure (some nms)) : PS X (.Assign [.Tuple ts kt pt] (.Tuple vs k2 pt2) pos) (tS X.K (evS ir)) := by
  unfold compPar at hc
  obtain ⟨is, a1, hc⟩ := bindS hc
  obtain ⟨es, a2, hc⟩ := bindS hc
  have hvl := sw_len (sc := c.sc) hw
  have hA := evRs_sound h a2
  split at hc
  · rename_i i j
    split at hc
    case isFalse => cases hc
    rename_i hij
    cases hc
    obtain ⟨x, y, p, q, rfl, l1, l2, i1, i2⟩ := nms2 a1
    have hn2 : nms = [x, y] := by
      match nms, hn with
      | [a, b], hn => simp at hn; rw [hn.1, hn.2]
      | [], hn => simp at hn
      | [_], hn => simp at hn
      | _ :: _ :: _ :: _, hn => simp at hn
    subst hn2
    match vs, hvl, hA, hw with
    | [a, b], _, hA, hw =>
      rw [par_ev]
      exact z_par h.calm h.nd (ix_of h i1) (ix_of h i2) hij (locL_of h l1) (locL_of h l2) hA hw
    | [], hvl, _, _ => simp at hvl
    | [_], hvl, _, _ => simp at hvl
    | _ :: _ :: _ :: _, hvl, _, _ => simp at hvl
  · rename_i i j l
    split at hc
    case isFalse => cases hc
    rename_i hij
    cases hc
    obtain ⟨x, p, r, rfl, l0, i0, a1⟩ := nms3 a1
    obtain ⟨y, z, q, q2, rfl, l1, l2, i1, i2⟩ := nms2 a1
    have hn2 : nms = [x, y, z] := by
      match nms, hn with
      | [a, b, d], hn => simp at hn; rw [hn.1, hn.2.1, hn.2.2]
      | [], hn => simp at hn
      | [_], hn => simp at hn
      | [_, _], hn => simp at hn
      | _ :: _ :: _ :: _ :: _, hn => simp at hn
    subst hn2
    match vs, hvl, hA, hw with
    | [a, b, d], _, hA, hw =>
      rw [par_ev]
      exact z_par3 h.calm h.nd (ix_of h i0) (ix_of h i1) (ix_of h i2) hij.1 hij.2.1 hij.2.2 (locL_of h l0) (locL_of h l1) (locL_of h l2) hA hw
    | [], hvl, _, _ => simp at hvl
    | [_], hvl, _, _ => simp at hvl
    | [_, _], hvl, _, _ => simp at hvl
    | _ :: _ :: _ :: _ :: _, hvl, _, _ => simp at hvl
  · cases hc
theorem nmsK_ok (h : EOk k c X) : ∀ {es : List Expr} {is : List Nat}, nmsK c es = some is → NmOk X es is
  | [], is, e => by cases (show some [] = some is from e); trivial
  | e :: es, is, hh => by
    cases e <;> first | (cases hh; done) | skip
    rename_i x p
    unfold nmsK at hh
    split at hh
    case isFalse => cases hh
    rename_i l1
    simp only [Bool.and_eq_true] at l1
    obtain ⟨i1, a1, hh⟩ := bindS hh
    obtain ⟨is', a2, a3⟩ := mapS' hh
    obtain ⟨q1, q2⟩ := loc_of h l1.2
    subst a3
    exact ⟨⟨x, p, rfl, ix_of h a1, q1, q2⟩, nmsK_ok h a2⟩
theorem evRs_len2 : ∀ {es : List IE} {rs : List RV} {Γ Γ' : Ga}, evRs es Γ = some (rs, Γ') → rs.length = es.length
  | [], rs, Γ, Γ', e => by cases (show some ([], Γ) = some (rs, Γ') from e); rfl
  | x :: es, rs, Γ, Γ', e => by
    obtain ⟨⟨r, Γ1⟩, e1, e⟩ := bindS (show (evX x Γ).bind (fun (x, Γ) => (evRs es Γ).map fun (ds, Γ) => (x.low :: ds, Γ)) = some (rs, Γ') from e)
    obtain ⟨⟨rs', Γ2⟩, e2, e3⟩ := mapS' e
    cases e3
    simp [evRs_len2 e2]
theorem compParT_sound (h : EOk k c X) {ts : List Expr} {e : Expr} {kt : Nat} {pt pos : Pos} {ir : IS} (hc : compParT c ts e = some ir)
    (hs : swapsWithSole [.Tuple ts kt pt] e pos.line X.env = pure false) (hw : swappedStores [.Tuple ts kt pt] e X.env = pure none) : PS X (.Assign [.Tuple ts kt pt] e pos) (tS X.K (evS ir)) := by
  unfold compParT at hc
  split at hc
  · split at hc
    case isFalse => cases hc
    rename_i hl
    obtain ⟨is, a1, hc⟩ := bindS hc
    obtain ⟨es, a2, a3⟩ := mapS' hc
    subst a3
    rw [par_ev]
    exact z_parT h.calm h.nd (nmsK_ok h a1) (evRs_sound h a2) (fun Γ rs Γ' e => by rw [evRs_len2 e, compL_len a2]; exact hl) hs hw
  · cases hc
theorem compAsg_sound (h : EOk k c X) {tg e : Expr} {pos : Pos} {ir : IS} (hc : compAsg c tg e pos = some ir) : PS X (.Assign [tg] e pos) (tS X.K (evS ir)) := by
  unfold compAsg at hc
  split at hc
  · rename_i x p
    split at hc
    case isFalse => cases hc
    rename_i hh
    simp only [Bool.and_eq_true] at hh
    obtain ⟨l1, l2⟩ := loc_of h hh.2
    obtain ⟨i, i1, hc⟩ := bindS hc
    cases hoo : (if c.oo.contains x then compLco EF c e else none) with
    | some ir0 =>
      have hlco : compLco EF c e = some ir0 := by
        split at hoo
        · exact hoo
        · cases hoo
      rw [hoo] at hc
      simp only [Option.elim] at hc
      split at hc
      · rename_i hw
        cases hc
        rw [show evS (.set i ir0) = _ from by funext Γ; rw [evS]]
        exact z_set h.nd (ix_of h i1) l1 (pe_lco h hlco) (swW_eq h.sc hw) l2
      · rename_i hw
        split at hc
        case isFalse => cases hc
        rename_i h2
        cases hc
        rw [show evS (.set i ir0) = _ from by funext Γ; rw [evS]]
        exact z_setLco h hlco (ix_of h i1) (locL_of h h2) (swW_eq h.sc hw)
      · cases hc
    | none =>
    rw [hoo] at hc
    simp only [Option.elim] at hc
    obtain ⟨v, e1, hc⟩ := bindS hc
    split at hc
    · rename_i hw
      cases hc
      rw [show evS (.set i v) = _ from by funext Γ; rw [evS]]
      exact z_set h.nd (ix_of h i1) l1 (compE_sound EF h e v e1).pe (swW_eq h.sc hw) l2
    · rename_i hw
      split at hc
      case isFalse => cases hc
      rename_i h2
      simp only [Bool.and_eq_true] at h2
      cases hc
      rw [show evS (.set i v) = _ from by funext Γ; rw [evS]]
      exact z_setLc h h2.2 e1 (ix_of h i1) (locL_of h h2.1) (swW_eq h.sc hw)
    · cases hc
  · rename_i x px a p1 b ps
    split at hc
    case isFalse => cases hc
    rename_i hh
    simp only [Bool.and_eq_true, Bool.not_eq_true'] at hh
    obtain ⟨⟨⟨⟨⟨hh1, hh2⟩, hh3⟩, hh4⟩, hh5⟩, hh6⟩ := hh
    split at hc
    · rename_i w1 w2
      obtain ⟨i, i1, hc⟩ := bindS hc
      obtain ⟨v, e1, hc⟩ := bindS hc
      obtain ⟨ix, e2, hc⟩ := bindS hc
      obtain ⟨jx, e3, e4⟩ := mapS' hc
      cases e4
      obtain ⟨n1, n2, n3⟩ := ok_names hh1
      rw [show evS (.puto i ix jx v) = _ from by funext Γ; rw [evS]]
      exact z_puto (ix_of h i1) (vis_of h hh2) n1 n2 (compE_sound EF h e v e1).pe (compE_sound EF h a ix e2).pe (compE_sound EF h b jx e3).pe (plain_ix hh3 hh4) ⟨hh6, hh5⟩ (swSole h.sc w1) (swS_eq h.sc w2)
    · cases hc
  · rename_i x px b ps
    split at hc
    case isFalse => cases hc
    rename_i hh
    simp only [Bool.and_eq_true, Bool.not_eq_true'] at hh
    split at hc
    · rename_i w1 w2
      obtain ⟨i, i1, hc⟩ := bindS hc
      obtain ⟨v, e1, hc⟩ := bindS hc
      obtain ⟨ix, e2, e3⟩ := mapS' hc
      cases e3
      obtain ⟨n1, n2, n3⟩ := ok_names hh.1.1.1
      rw [show evS (.put i ix v) = _ from by funext Γ; rw [evS]]
      exact z_put (ix_of h i1) (vis_of h hh.1.1.2) n1 n2 (compE_sound EF h e v e1).pe (compE_sound EF h b ix e2).pe ⟨hh.2, hh.1.2⟩ (swSole h.sc w1) (swS_eq h.sc w2)
    · cases hc
  · rename_i ts kt p
    split at hc
    · rename_i w1 w2
      split at hc
      · rename_i s hp
        cases hc
        exact compParT_sound h hp (swSole h.sc w1) (swS_eq h.sc w2)
      split at hc
      · rename_i t t1
        obtain ⟨v, e1, e3⟩ := mapS' hc
        cases e3
        rw [show evS (.asg t v) = _ from by funext Γ; rw [evS]]
        exact z_asg (compE_sound EF h e v e1).pe (compT_sound h EF _ t t1) (swSole h.sc w1) (swS_eq h.sc w2) rfl
      · unfold compDip at hc
        split at hc
        · split at hc
          case isFalse => cases hc
          rename_i hh
          simp only [Bool.and_eq_true, Bool.not_eq_true'] at hh
          obtain ⟨i, i1, hc⟩ := bindS hc
          obtain ⟨j, j1, hc⟩ := bindS hc
          obtain ⟨v, e1, hc⟩ := bindS hc
          obtain ⟨ix, e2, e3⟩ := mapS' hc
          cases e3
          obtain ⟨n1, n2, n3⟩ := ok_names hh.1.1.1.1
          obtain ⟨l1, l2⟩ := loc_of h hh.2
          rw [show evS (.dip i ix j v) = _ from by funext Γ; rw [evS]]
          exact z_dip h.calm h.nd (ix_of h i1) (vis_of h hh.1.1.1.2) n1 n2 (ix_of h j1) l1 l2 (compE_sound EF h e v e1).pe (compE_sound EF h _ ix e2).pe ⟨hh.1.2, hh.1.1.2⟩ (swSole h.sc w1) (swS_eq h.sc w2)
        · cases hc
    · rename_i nms w1 w2
      split at hc
      · split at hc
        · rename_i hn
          exact compPar_sound h hc (of_decide_eq_true hn) (swS_eq h.sc w2)
        · cases hc
      · cases hc
    · cases hc
  · cases hc
theorem compB_sound {f : Stmt → Option IS} (hf : ∀ s ir, f s = some ir → PS X s (tS X.K (evS ir))) : ∀ ss : List Stmt, PSs X ss (tS X.K (evB (compB f ss)))
  | [] => by
    have := b_nil (X := X)
    rwa [show evB (compB f []) = fun Γ => some (.nx Γ) from by funext Γ; simp [compB, evB]]
  | s :: ss => by
    have h1 : PS X s (tS X.K (evS ((f s).getD .nev))) := by
      cases e : f s with
      | none => exact b_never fun Γ => by simp [evS]
      | some ir => exact hf s ir e
    have := b_cons h1 (compB_sound hf ss)
    rwa [show evB (compB f (s :: ss)) = fun Γ => (evS ((f s).getD .nev) Γ).bind (onNext (evB (compB f ss))) from by funext Γ; simp [compB, evB]]
theorem compS_sound (h : EOk k c X) (hp : PassesOwn (model X.prog X.w) X.A X.env X.xe) (n : Nat) : ∀ (s : Stmt) (ir : IS), compS n c s = some ir → PS X s (tS X.K (evS ir)) := by
  induction n with
  | zero => intro s ir hc; cases hc
  | succ n ih =>
    intro s ir hc
    have hB := compB_sound ih
    have hE := compE_sound EF h
    unfold compS at hc
    split at hc
    · cases hc
      rw [show evS .retn = _ from by funext Γ; rw [evS]]
      exact z_retn
    · rename_i e0 pos0
      cases hrn : retName c e0 with
      | none =>
        rw [hrn] at hc
        simp only [Option.elim] at hc
        obtain ⟨e, e1, rfl⟩ := mapS' hc
        rw [show evS (.ret e) = _ from by funext Γ; rw [evS]]
        exact z_ret (hE _ _ e1).pe
      | some i =>
        rw [hrn] at hc
        simp only [Option.elim] at hc
        cases hc
        unfold retName at hrn
        split at hrn
        · split at hrn
          case isFalse => cases hrn
          rename_i hh
          simp only [Bool.and_eq_true] at hh
          obtain ⟨n1, n2, n3⟩ := ok_names hh.1.1
          rw [show evS (.reto i) = _ from by funext Γ; rw [evS] <;> rfl]
          exact z_reto (ix_of h hrn) (vis_of h hh.1.2) n1 n2
        · cases hrn
    · cases hc
      rw [show evS .pss = _ from by funext Γ; rw [evS]]
      exact z_pass
    · cases hc
      rw [show evS .brk = _ from by funext Γ; rw [evS]]
      exact z_brk
    · cases hc
      rw [show evS .cnt = _ from by funext Γ; rw [evS]]
      exact z_cnt
    · split at hc
      case isFalse => cases hc
      rename_i hh
      simp only [Bool.and_eq_true, decide_eq_true_eq] at hh
      obtain ⟨i, i1, hc⟩ := bindS hc
      obtain ⟨v, e1, e2⟩ := mapS' hc
      cases e2
      obtain ⟨n1, n2, n3⟩ := ok_names hh.1.1.2
      rw [hh.1.1.1, show evS (.app i v) = _ from by funext Γ; rw [evS]]
      exact z_app (ix_of h i1) (vis_of h hh.1.2) n1 n2 (hE _ _ e1).pe (plain_unstar (hE _ _ e1).pl) (by simp [hh.2])
    · split at hc
      case isFalse => cases hc
      rename_i hw
      obtain ⟨v, e1, e2⟩ := mapS' hc
      cases e2
      rw [show evS (.exp v) = _ from by funext Γ; rw [evS]]
      exact z_exp (hE _ _ e1).pe (swW_eq h.sc hw)
    · exact compAsg_sound h hc
    · split at hc
      case isFalse => cases hc
      rename_i hh
      simp only [Bool.and_eq_true] at hh
      obtain ⟨o, o1, hc⟩ := bindS hc
      obtain ⟨i, i1, hc⟩ := bindS hc
      obtain ⟨v, e1, e2⟩ := mapS' hc
      cases e2
      obtain ⟨l1, l2⟩ := loc_of h hh.2
      rw [show evS (.aug i o v) = _ from by funext Γ; rw [evS]]
      refine z_aug h.nd (ix_of h i1) l1 (hE _ _ e1).pe ?_ l2
      unfold augOf at o1
      split at o1
      · cases o1; exact .inl ⟨rfl, rfl⟩
      · cases o1; exact .inr ⟨rfl, rfl⟩
      · cases o1
    · obtain ⟨t, t1, e2⟩ := mapS' hc
      cases e2
      rw [show evS (.ife t _ _) = _ from by funext Γ; rw [evS]]
      exact z_ife (hE _ _ t1).pt (hB _) (hB _)
    · obtain ⟨t, t1, e2⟩ := mapS' hc
      cases e2
      rw [show evS (.whl t _) = _ from by funext Γ; rw [evS]]
      exact z_whl hp (hE _ _ t1).pt (hB _) WF
    · rename_i tg0 it0 b0 _
      cases hrn : froName c it0 with
      | some i =>
        rw [hrn] at hc
        simp only [Option.elim] at hc
        obtain ⟨t, t1, e2⟩ := mapS' hc
        cases e2
        unfold froName at hrn
        split at hrn
        · split at hrn
          case isFalse => cases hrn
          rename_i hh
          simp only [Bool.and_eq_true] at hh
          obtain ⟨n1, n2, n3⟩ := ok_names hh.1.2
          rw [show evS (.fro t i _) = _ from by funext Γ; rw [evS]]
          exact z_fro hp h.calm (ix_of h hrn) (vis_of h hh.2) n1 n2 (compT_sound h EF _ t t1) (hB _) (fun _ => rfl)
        · cases hrn
      | none =>
      rw [hrn] at hc
      simp only [Option.elim] at hc
      split at hc
      case isFalse => cases hc
      rename_i hpl
      obtain ⟨t, t1, hc⟩ := bindS hc
      obtain ⟨⟨kk, its⟩, p1, e2⟩ := mapS' hc
      cases e2
      rw [show evS (.fr t kk its _) = _ from by funext Γ; rw [evS]]
      exact z_for hp h.calm (compI_sound h hE p1) (compT_sound h EF _ t t1) (hB _) (plain_fold hpl)
    · cases hc
end
end EvL

set_option Elab.async false
set_option linter.all false
set_option maxRecDepth 100000
set_option maxHeartbeats 16000000
namespace EvL
open PySem PySem.Spec PyProof.Rows L2

/-! ### a def means its compiled body -/
def argM : Bool → List D → Option (List MV)
  | false, ds => some (ds.map .fz)
  | true, .list c :: ds => some (.ow true c :: ds.map .fz)
  | true, _ => none
def endM (mt : Bool) (Γ : Ga) (r : RV) : Option (RV × List D) := match mt with
  | false => some (r, [])
  | true => match Γ[0]? with
    | some (MV.ow true c) => some (r, c)
    | _ => none
def outM (mt : Bool) : Out → Option (RV × List D)
  | .nx Γ => endM mt Γ (.fz .none)
  | .rt r Γ => endM mt Γ r
  | _ => none
/-- np parameters, n names in all -/
def runB (mt : Bool) (np n : Nat) (b : List IS) (ds : List D) : Option (RV × List D) :=
  if ds.length = np then (argM mt ds).bind fun ms => (evB b (ms ++ List.replicate (n - np) .un)).bind (outM mt) else none
/-- what the walk needs to know of a def -/
structure DefOk (c : Cc) (ps : List Str) (scope : Scope) (body : List Stmt) (ir : List IS) : Prop where
  sco : FnScope c.N ps scope
  sc : c.sc = scope
  ir : compB (compS EF c) body = ir
theorem get_app {α : Type} {xs ys : List α} {i : Nat} (h : i < xs.length) : (xs ++ ys)[i]? = xs[i]? := List.getElem?_append_left h
theorem rep_un {m : Nat} {i : Nat} {x : MV} (h : (List.replicate m MV.un)[i]? = some x) : x = .un := by
  rw [List.getElem?_replicate] at h
  split at h
  · cases h; rfl
  · cases h
section
variable {K : PySem.W.Frag} {Hf H : Hp}
theorem start_len {N : List Str} {vs : List V} (h : vs.length ≤ N.length) : (L2.start N vs).length = N.length := by simp [L2.start]; omega
theorem start_get {N : List Str} {vs : List V} {i : Nat} {v : V} (h : vs[i]? = some v) : (L2.start N vs)[i]? = some (some v) := by
  have hi := (List.getElem?_eq_some_iff.mp h).1
  rw [L2.start, get_app (by simpa using hi), List.getElem?_map, h]; rfl
/-- at the start: the parameters' slots -/
theorem start_no {ds : List D} {n i : Nat} {m : MV} (e : (ds.map MV.fz ++ List.replicate n .un)[i]? = some m) : NoOwn m := by
  by_cases hi : i < ds.length
  · rw [get_app (by simpa using hi), List.getElem?_map] at e
    obtain ⟨d, _, z⟩ := Option.map_eq_some_iff.mp e
    subst z; trivial
  · rw [List.getElem?_append_right (by simpa using Nat.le_of_not_lt hi)] at e
    rw [rep_un e]; trivial
theorem so_no {σ : L2.St} {Γ : Ga} {H : Hp} {i : Nat} {q : Bool} {b : Addr} (no : ∀ m, Γ[i]? = some m → NoOwn m) (h : SO σ Γ H i q b) : False := by
  rcases h with ⟨ds, e, _⟩ | ⟨_, rss, _, _, e, _⟩
  · exact no _ e
  · exact no _ e
theorem rel0 {N : List Str} {vs : List V} {ds : List D} (sub : Ext Hf H) (h : Dqs K Hf vs ds) (hn : ds.length ≤ N.length) :
    Rel K Hf H (L2.start N vs) (ds.map .fz ++ List.replicate (N.length - ds.length) .un) := by
  have hl := dps_len h
  refine ⟨by rw [start_len (by omega)]; simp; omega, sub, fun i d e => ?_, fun i q es e => (start_no e).elim, fun i rss e => (start_no e).elim, fun i j q q' a e _ => (so_no (fun m => start_no) e).elim⟩
  by_cases hi : i < ds.length
  · rw [get_app (by simpa using hi), List.getElem?_map] at e
    obtain ⟨d', e1, z⟩ := Option.map_eq_some_iff.mp e
    cases z
    obtain ⟨v, e2, q⟩ := dps_get h e1
    exact ⟨v, start_get e2, q⟩
  · rw [List.getElem?_append_right (by simpa using Nat.le_of_not_lt hi)] at e
    cases rep_un e
/-- what the start owns: the lent list alone -/
theorem so_one {N : List Str} {a b : Addr} {vs : List V} {c ds : List D} {n i : Nat} {q : Bool} (h : SO (L2.start N (.ref a :: vs)) ((.ow true c :: ds.map .fz) ++ List.replicate n .un) H i q b) : i = 0 ∧ q = true ∧ b = a := by
  cases i with
  | zero =>
    rcases h with ⟨es, e, g⟩ | ⟨_, rss, _, _, e, _⟩
    · simp at e
      rw [start_get (v := .ref a) rfl] at g
      cases g
      exact ⟨rfl, by simp_all, rfl⟩
    · simp at e
  | succ i => exact (so_no (i := i + 1) (fun m e => start_no (i := i) (by simpa using e)) h).elim
theorem rel1 {N : List Str} {a : Addr} {vs ws : List V} {c ds : List D} (sub : Ext Hf H) (ha : Hf a = none) (hH : H a = some (.lst ws)) (hc : Dqs K Hf ws c) (h : Dqs K Hf vs ds) (hn : ds.length + 1 ≤ N.length) :
    Rel K Hf H (L2.start N (.ref a :: vs)) ((.ow true c :: ds.map .fz) ++ List.replicate (N.length - (ds.length + 1)) .un) := by
  have hl := dps_len h
  refine ⟨by rw [start_len (by simp; omega)]; simp; omega, sub, fun i d e => ?_, fun i q es e => ?_, fun i rss e => ?_, fun i j q q' b e e' => ?_⟩
  · cases i with
    | zero => simp at e
    | succ i =>
      simp only [List.cons_append, List.getElem?_cons_succ] at e
      by_cases hi : i < ds.length
      · rw [get_app (by simpa using hi), List.getElem?_map] at e
        obtain ⟨d', e1, z⟩ := Option.map_eq_some_iff.mp e
        cases z
        obtain ⟨v, e2, q⟩ := dps_get h e1
        exact ⟨v, start_get (by simpa using e2), q⟩
      · rw [List.getElem?_append_right (by simpa using Nat.le_of_not_lt hi)] at e
        cases rep_un e
  · cases i with
    | zero =>
      simp at e
      obtain ⟨rfl, rfl⟩ := e
      exact ⟨a, ws, start_get rfl, ha, hH, hc⟩
    | succ i => exact (show False from start_no (m := .ow q es) (i := i) (by simpa using e)).elim
  · cases i with
    | zero => simp at e
    | succ i => exact (show False from start_no (m := .oo rss) (i := i) (by simpa using e)).elim
  · rw [(so_one e).1, (so_one e').1]
end
section
variable {P : Program} {w : World} {K : PySem.W.Frag} {mg : Str → Option Value} {base : Heap} {k : Nat} {f : Addr} {ps : List Str}
theorem fnG_body {c : Cc} {mt : Bool} {ir : List IS} {name qual : Str} {params : Arguments} {body : List Stmt} {scope : Scope} {dV kV doc pm cdv ct oc : Value} {an od : Option Addr} {osl : Array (Option Value)}
    (lk : K.lookup f = some ⟨oc, od, .func (PySem.W.fnOf name qual params body scope dV kV doc pm an cdv ct), osl⟩) (hcd : PySem.W.codeIn K cdv qual = true) (D0 : DefOk c ps scope body ir) (hcell : ∀ x ∈ c.fnC, True)
    (fns : ∀ E ∈ c.fns, FnAt P w K mg base k E) (cst : ∀ p ∈ c.consts, ∃ v u, mg p.1 = some u ∧ L2.RelV v u ∧ ∀ H, Dq K H v p.2) (gcd : c.gcd = true → mg "gcd" = some (.builtin "math.gcd")) (bl : ∀ x ∈ c.bl, mg x = none) (htr : P.given.tree = none) (hse : base.NoSeer) :
    FnG P w K mg base (k + 1) f (PySem.W.fnOf name qual params body scope dV kV doc pm an cdv ct) ps (spD K ⟨mt, runB mt ps.length c.N.length ir⟩) := by
  obtain ⟨S, hsc, hir⟩ := D0
  subst hsc
  have hpn : ps.length ≤ c.N.length := by
    have := congrArg List.length S.pre
    rw [List.length_take] at this
    omega
  refine fnG_of (N := c.N) lk hcd S fun A outer s' H vs Q hr hfr hg hl hsp => ?_
  have E : EOk k c (cxOf CX0 P w K mg base c.N qual c.sc f cdv A outer s' H E0).nox := ⟨rfl, S.nd, rfl, rfl, hg, hr, ⟨hse, fun s hl hs => PylongRoom.of hl (show (A.deeper (envOfC qual c.sc s'.heap.objs.size f cdv)).depth + 100 < recursionLimit from by have := hr.dp; omega) (SeerAt.of hs htr (Around.frames_deeper hfr) S.gen S.co rfl rfl)⟩, fns, cst, gcd, bl, fun x hx => rfl⟩
  have hB := compB_sound (compS_sound E PassesOwn.never EF) body
  rw [hir] at hB
  refine ⟨_, hB, ?_⟩
  obtain ⟨Hf, ds, r, c', sub, er, hm⟩ := hsp
  have er : runB mt ps.length c.N.length ir ds = some (r, c') := er
  unfold runB at er
  split at er
  case isFalse => cases er
  rename_i hd
  obtain ⟨ms, em, er⟩ := bindS er
  obtain ⟨o, eo, er⟩ := bindS er
  cases mt with
  | false =>
    obtain ⟨hq, post⟩ := (show Dqs K Hf vs ds ∧ Post K Hf H r Q from hm)
    cases em
    have R := rel0 (N := c.N) sub hq (by omega)
    rw [hd] at R
    refine ⟨_, Hf, o, R, eo, ?_⟩
    have noOwn : ∀ q b, ¬ OwnAt (L2.start c.N vs) (ds.map .fz ++ List.replicate (c.N.length - ps.length) .un) H q b := fun q b ⟨i, e⟩ => so_no (fun m => start_no) e
    have grow : ∀ {σ' : L2.St} {Γ' : Ga} {Hf' H' : Hp}, Rel K Hf' H' σ' Γ' → Step (L2.start c.N vs) (ds.map .fz ++ List.replicate (c.N.length - ps.length) .un) Hf H σ' Γ' Hf' H' → Grow Hf H Hf' H' := fun R' S' =>
      ⟨S'.ext, R'.sub, fun b o e => S'.keep b o e fun q => noOwn q b, fun b h => (S'.newf b h).imp id fun z => z.elim id fun z => (noOwn _ _ z).elim⟩
    cases o with
    | nx Γ' =>
      cases (show some (RV.fz .none, ([] : List EvL.D)) = some (r, c') from er)
      exact fun σ' H' Hf' R' S' => post .non H' Hf' (grow R' S') .non
    | rt r' Γ' =>
      cases (show some (r', ([] : List EvL.D)) = some (r, c') from er)
      exact fun v σ' H' Hf' R' S' q => post v H' Hf' (grow R' S') (q.un (noOwn false))
    | bk Γ' => cases er
    | ct Γ' => cases er
  | true =>
    obtain ⟨a, vs0, ws, c0, ds0, rfl, rfl, ha, hH, hc, hq, post⟩ := hm
    cases em
    have R := rel1 (N := c.N) sub ha hH hc hq (by simp at hd; omega)
    have hd' : ds0.length + 1 = ps.length := by simpa using hd
    rw [hd'] at R
    refine ⟨_, Hf, o, R, eo, ?_⟩
    have own0 : ∀ q b, OwnAt (L2.start c.N (.ref a :: vs0)) ((.ow true c0 :: ds0.map .fz) ++ List.replicate (c.N.length - ps.length) .un) H q b → q = true ∧ b = a := fun q b ⟨i, e⟩ => (so_one e).2
    have fin : ∀ {v : V} {r' : RV} {σ' : L2.St} {Γ' : Ga} {Hf' H' : Hp}, endM true Γ' r' = some (r, c') → Rel K Hf' H' σ' Γ' → Step (L2.start c.N (.ref a :: vs0)) ((.ow true c0 :: ds0.map .fz) ++ List.replicate (c.N.length - ps.length) .un) Hf H σ' Γ' Hf' H' →
        RRel K H Hf' H' v r' → Q v H' := fun {v r' σ' Γ' Hf' H'} e R' S' q => by
      unfold endM at e
      simp only at e
      split at e
      · rename_i c1 h0
        cases e
        obtain ⟨b, ws', g1, g2, g3, g4⟩ := R'.own 0 true _ h0
        obtain ⟨_, rfl⟩ := own0 _ _ (S'.newb b ⟨0, .inl ⟨_, h0, g1⟩⟩)
        exact post v H' Hf' ws' S'.ext R'.sub (fun x o hx e => S'.keep x o e fun q z => hx (own0 _ _ z).2) (fun x h => (S'.newf x h).imp id fun z => z.elim id fun z => by cases (own0 _ _ z).1) g3 g2 g4 q
      · cases e
    cases o with
    | nx Γ' => exact fun σ' H' Hf' R' S' => fin er R' S' (show Dq K Hf' V.non PyData.none from .non)
    | rt r' Γ' => exact fun v σ' H' Hf' R' S' q => fin er R' S' (q.un fun b z => by cases (own0 _ _ z).1)
    | bk Γ' => cases er
    | ct Γ' => cases er
end
end EvL

set_option Elab.async false
set_option linter.all false
set_option maxRecDepth 100000
set_option maxHeartbeats 16000000
namespace EvL
open PySem PySem.Spec PyProof.Rows L2

/-! ### the law's own call, where no repr is on its way -/
/-- the heap that the law sees: the script alone is known -/
def oneH (a : Addr) (o : Obj) (xs : List V) : Hp := fun b => if b = a then some (.frz o (.lst xs)) else none
theorem oneH_at {a : Addr} {o : Obj} {xs : List V} : oneH a o xs a = some (.frz o (.lst xs)) := if_pos rfl
theorem oneH_no {a b : Addr} {o : Obj} {xs : List V} (h : b ≠ a) : oneH a o xs b = none := if_neg h
section
variable {P : Program} {w : World} {K : PySem.W.Frag} {mg mb : Str → Option Value} {k : Nat} {fa a : Addr} {fd : FuncData} {x : Str} {sp : Sp} {s₁ : Shared} {vs : List Value} {ns : List Int}
theorem law_run (KX : K.In s₁.heap) (h1 : s₁.heap.Ns mainGlobals mg) (h2 : s₁.heap.Ns builtinsNs mb) (h3 : ∀ x : Str, x ≠ "__name__" → mb x = bootBuiltins x) (h4 : s₁.heap.NoLimit) (h4s : s₁.heap.NoSeer) (h5 : s₁.gens = #[]) (h6 : K.lookup a = none)
    (ha : s₁.heap.get? a = some { cls := .type "list", data := .seq vs.toArray }) (hi : IntsAre vs ns) (hl : ns.length ≤ sizeLine) (hr : Room (k + 40) callerA) (hg : callerA.guards = some [])
    (F : ∀ base : Heap, K.In base → base.Ns mainGlobals mg → base.NoSeer → FnG P w K mg base k fa fd [x] sp) (hb : ∀ (s : Shared) (u : Value), BindsTo s fd ⟨[u], []⟩ [(x, u)])
    (hsp : ∀ H : Hp, Rd H a (.lst (ns.map V.int)) → sp [.ref a] H (fun v _ => v = .bl true) E0) :
    codeAny (model P w) callerA (.call (.ref fa) ⟨[.ref a], []⟩) (fun r s' => r = .ok (.ret (.bool true)) ∧ OldK s₁.heap s'.heap ∧ s'.os = s₁.os ∧ AllBare s'.gens) s₁ := by
  let o : Obj := { cls := .type "list", data := .seq vs.toArray }
  let H : Hp := oneH a o (ns.map V.int)
  have rv : Vals (ns.map V.int) vs := vals_ints hi
  have hok : HOk P w H s₁.heap := fun b u z => by
    by_cases hb : b = a
    · subst hb
      rw [show H b = some (.frz o (.lst (ns.map V.int))) from oneH_at] at z
      cases z
      exact ⟨ha, by rw [List.length_map]; exact hl, vs, _, rv, ha⟩
    · rw [show H b = none from oneH_no hb] at z
      cases z
  have keep : ∀ {b : Addr} {u : Obj}, s₁.heap.get? b = some u → b ≠ a → (hidT s₁.heap H).get? b = some u := fun e n => hidT_get e (oneH_no n)
  have notA : ∀ {b : Addr} {u : Obj} {es : Array DictEntry} {ep : Nat}, s₁.heap.get? b = some u → u.data = .dict es ep → b ≠ a := fun {b u es ep} e d z => by
    subst z
    rw [ha] at e
    cases e
    exact nomatch (show Data.seq vs.toArray _ = Data.dict es ep from d)
  have ns' : ∀ {b : Addr} {m : Str → Option Value}, s₁.heap.Ns b m → (hidT s₁.heap H).Ns b m := fun {b m} q => by
    obtain ⟨u, es, ep, e, d, r⟩ := q
    exact ⟨u, es, ep, keep e (notA e d), d, r⟩
  have inB : K.In (hidT s₁.heap H) := fun b u e => keep (KX b u e) fun z => by subst z; rw [h6] at e; cases e
  have lim' : (hidT s₁.heap H).NoLimit := by
    obtain ⟨mc, q1, q2⟩ := h4
    exact ⟨mc, ns' q1, q2⟩
  have md : Mod K mg (hidT s₁.heap H) := ⟨inB, ns' h1, ⟨mb, ns' h2, h3⟩, lim'⟩
  have e0 : Env0 P w K mg (hidT s₁.heap H) callerA [] s₁ H := by
    refine ⟨rfl, md, fun b u e => of_hidT e, Nat.le_of_eq (hidT_size _ _), trivial, fun b hb => ?_, hok, .of_eq h5⟩
    exact absurd (show b ∈ ([] : List Addr) from hb) (by simp)
  have see' : (hidT s₁.heap H).NoSeer := by
    obtain ⟨⟨mc, q1, q2⟩, ⟨mm, q3, q4⟩, ⟨mi, q5, q6⟩, ⟨mn, bm, ob, q7, q8, q9, q10, q11⟩⟩ := h4s
    refine ⟨⟨mc, ns' q1, q2⟩, ⟨mm, ns' q3, q4⟩, ⟨mi, ns' q5, q6⟩, ⟨mn, bm, ob, ns' q7, q8, keep q9 (fun z => ?_), q10, q11⟩⟩
    subst z
    rw [ha] at q9
    cases q9
    exact absurd q10 (by simp)
  have call := (F _ inB (ns' h1) see').go callerA [] s₁ H ⟨[.ref a], []⟩ [.ref a] [.ref a] _ hr hg e0 (hb s₁ (.ref a)) (.cons rfl .nil) rfl (hsp H (.inr ⟨o, oneH_at⟩))
  refine codeAny_mono call fun r s' z => ?_
  match r, z with
  | .error e, z => exact (show False from z).elim
  | .ok .next, z => exact False.elim z
  | .ok .brk, z => exact False.elim z
  | .ok .cont, z => exact False.elim z
  | .ok (.ret u), z =>
    obtain ⟨v, H', os, bare, un, hok', r', q⟩ := z
    cases (show v = V.bl true from q)
    cases (show u = Value.bool true from r')
    refine ⟨rfl, OldK.of_keep fun b ob e => ?_, os, bare⟩
    by_cases hb : b = a
    · subst hb
      obtain ⟨e2, _⟩ := hok' b _ (un.frzs b o _ oneH_at)
      rw [ha] at e
      cases e
      exact e2
    · exact un.keep b ob e (oneH_no hb) (by intro z; exact absurd (show b ∈ ([] : List Addr) from z) (by simp)) (by simp)
end
end EvL

set_option Elab.async false
set_option linter.all false
set_option maxRecDepth 100000
set_option maxHeartbeats 16000000
namespace EvL
open PySem PySem.Spec PyProof.Rows L2

/-! ### constants of the module -/
def valB (K : PySem.W.Frag) : Nat → Value → D → Bool
  | _, .int j _, .int i => decide (i = j)
  | _, .bool c, .bool b => decide (b = c)
  | _, .none, .none => true
  | _, .str y _, .str x => decide (x = y)
  | n + 1, .ref a, .tuple ds => match K.lookup a with
      | some ⟨.type c, _, .seq its _, _⟩ => decide (c = "tuple") && decide (its.size ≤ 1000) && decide (its.size = ds.length) && (its.toList.zip ds).all fun p => valB K n p.1 p.2
      | _ => false
  | _, _, _ => false
theorem vals_zip {K : PySem.W.Frag} {n : Nat} (ih : ∀ (v : Value) (d : D), valB K n v d = true → ∃ x : V, L2.RelV x v ∧ ∀ H, Dq K H x d) : ∀ {vs : List Value} {ds : List D}, vs.length = ds.length → ((vs.zip ds).all fun p => valB K n p.1 p.2) = true →
    ∃ xs : List V, Vals xs vs ∧ ∀ H, Dqs K H xs ds
  | [], [], _, _ => ⟨[], .nil, fun _ => .nil⟩
  | v :: vs, d :: ds, hl, h => by
    simp only [List.zip_cons_cons, List.all_cons, Bool.and_eq_true] at h
    obtain ⟨x, r, q⟩ := ih v d h.1
    obtain ⟨xs, rs, qs⟩ := vals_zip ih (vs := vs) (ds := ds) (by simpa using hl) h.2
    exact ⟨x :: xs, .cons r rs, fun H => .cons (q H) (qs H)⟩
  | [], _ :: _, hl, _ => by simp at hl
  | _ :: _, [], hl, _ => by simp at hl
theorem valB_ok {K : PySem.W.Frag} : ∀ (n : Nat) (v : Value) (d : D), valB K n v d = true → ∃ x : V, L2.RelV x v ∧ ∀ H, Dq K H x d := by
  have base : ∀ (n : Nat) (v : Value) (d : D), (∀ ds, d ≠ .tuple ds) → valB K n v d = true → ∃ x : V, L2.RelV x v ∧ ∀ H, Dq K H x d := by
    intro n v d hd h
    unfold valB at h
    split at h
    · cases (of_decide_eq_true h)
      exact ⟨.int _, ⟨_, rfl⟩, fun H => .int _⟩
    · cases (of_decide_eq_true h)
      exact ⟨.bl _, rfl, fun H => .bl _⟩
    · exact ⟨.non, rfl, fun H => .non⟩
    · cases (of_decide_eq_true h)
      exact ⟨.str _, ⟨_, rfl⟩, fun H => .str _⟩
    · exact absurd rfl (hd _)
    · cases h
  intro n
  induction n with
  | zero =>
    intro v d h
    refine base 0 v d (fun ds e => ?_) h
    subst e
    unfold valB at h
    split at h <;> first | (cases h; done) | (rename_i e; cases e; done) | contradiction
  | succ n ih =>
    intro v d h
    by_cases hd : ∃ ds, d = .tuple ds
    · obtain ⟨ds, rfl⟩ := hd
      cases v with
      | ref a =>
        have h : (match K.lookup a with
          | some ⟨.type c, _, .seq its _, _⟩ => decide (c = "tuple") && decide (its.size ≤ 1000) && decide (its.size = ds.length) && (its.toList.zip ds).all fun p => valB K n p.1 p.2
          | _ => false) = true := h
        cases q : K.lookup a with
        | none => rw [q] at h; cases h
        | some o =>
          obtain ⟨oc, od, dt, osl⟩ := o
          rw [q] at h
          cases oc with
          | type c =>
            cases dt with
            | seq its m =>
              simp only [Bool.and_eq_true, decide_eq_true_eq] at h
              obtain ⟨⟨⟨h1, h2⟩, h3⟩, h4⟩ := h
              obtain ⟨xs, rs, qs⟩ := vals_zip ih (vs := its.toList) (ds := ds) (by simpa using h3) h4
              exact ⟨.ref a, rfl, fun H => .tup (.inr ⟨_, its, m, q, congrArg Value.type h1, rfl, Nat.le_trans h2 (by decide), rs⟩) (qs H)⟩
            | _ => cases h
          | _ => cases dt <;> cases h
      | _ => unfold valB at h; cases h
    · exact base (n + 1) v d (fun ds e => hd ⟨ds, e⟩) h
def conB (K : PySem.W.Frag) (p : Str × D) : Bool := match PySem.W.nsIn K mainGlobals p.1 with
  | some (some v) => valB K 8 v p.2
  | _ => false
theorem conB_ok {K : PySem.W.Frag} {h : Heap} {mg : Str → Option Value} (X : K.In h) (G : h.Ns mainGlobals mg) {p : Str × D} (c : conB K p = true) : ∃ v u, mg p.1 = some u ∧ L2.RelV v u ∧ ∀ H, Dq K H v p.2 := by
  unfold conB at c
  split at c
  · rename_i v e
    obtain ⟨x, r, q⟩ := valB_ok 8 v p.2 c
    exact ⟨x, v, PySem.W.mg_of X G e, r, q⟩
  · cases c
def gcdB (K : PySem.W.Frag) : Bool := match PySem.W.nsIn K mainGlobals "gcd" with
  | some (some (.builtin n)) => decide (n = "math.gcd")
  | _ => false
theorem gcdB_ok {K : PySem.W.Frag} {h : Heap} {mg : Str → Option Value} (X : K.In h) (G : h.Ns mainGlobals mg) (c : gcdB K = true) : mg "gcd" = some (.builtin "math.gcd") := by
  unfold gcdB at c
  split at c
  · rename_i n e
    rw [of_decide_eq_true c] at e
    exact PySem.W.mg_of X G e
  · cases c
/-! ### the part of the heap without lists, and what is told of it -/
def isLs (o : Obj) : Bool := match o.cls with
  | .type c => decide (c = "list")
  | _ => false
def noL (g : Addr → Option Obj) (a : Addr) : Option Obj := match g a with
  | some o => if isLs o then none else some o
  | none => none
/-- what the module's names reach, each step once -/
def frontG (g : Addr → Option Obj) : Nat → List Addr → List Addr
  | 0, as => as
  | n + 1, as => as ++ frontG g n (as.flatMap fun a => match g a with
    | some o => He.refsD o
    | none => [])
def frN (n : Nat) (g : Addr → Option Obj) : PySem.W.Frag := He.frG (noL g) (frontG g n [mainGlobals])
theorem noL_some {g : Addr → Option Obj} {a : Addr} {o : Obj} (h : noL g a = some o) : g a = some o ∧ isLs o = false := by
  unfold noL at h
  split at h
  · rename_i o' e
    split at h
    · cases h
    · rename_i hn
      cases h
      exact ⟨e, by simpa using hn⟩
  · cases h
theorem frN_in {n : Nat} {h : Heap} : (frN n h.get?).In h := fun a o e => (noL_some (He.frG_at _ e)).1
def NoLs (K : PySem.W.Frag) : Prop := ∀ a o, K.lookup a = some o → isLs o = false
theorem frN_no {n : Nat} {g : Addr → Option Obj} : NoLs (frN n g) := fun a o e => (noL_some (He.frG_at _ e)).2
/-- what is asked: free names, defs, constants, gcd -/
structure Asked where
  free : List Str
  fn : List He.DefD
  con : List (Str × D)
  gcd : Bool
  dfl : List ((Str × Nat) × D)
/-- a default that is an object: a tuple of plain data -/
def dflC (K : PySem.W.Frag) (p : (Str × Nat) × D) : Bool := valB K 8 (.ref (He.dflAt (p.1.1, none) p.1.2 K)) p.2
theorem dflC_ok {K : PySem.W.Frag} {p : (Str × Nat) × D} (h : dflC K p = true) (H : Hp) : Dq K H (.ref (He.dflAt (p.1.1, none) p.1.2 K)) p.2 := by
  obtain ⟨x, r, q⟩ := valB_ok 8 _ _ h
  cases x <;> first | (cases r; exact q H) | (obtain ⟨_, r⟩ := r; cases r) | (cases r)
def Asked.fa (q : Asked) : List He.Fa := q.free.map .free ++ q.fn.map (fun d => .glo d.at_.1)
abbrev AlN : Type := He.AlD × Bool
def obsN (q : Asked) (K : PySem.W.Frag) : AlN := (He.obsD q.fa q.fn K, q.con.all (conB K) && ((if q.gcd then gcdB K else true) && q.dfl.all (dflC K)))
def valN (q : Asked) : AlN := (He.valD q.fn, true)
def hookN (n : Nat) (q : Asked) : PySem.W.Hook where
  α := AlN
  obs := fun s => obsN q (frN n s.heap.get?)
  val := fun _ => valN q
  says := fun _ h => ∃ K : PySem.W.Frag, K.In h ∧ NoLs K ∧ obsN q K = valN q
  of := fun _ _ e => ⟨_, frN_in, frN_no, e⟩
  keeps := fun _ _ _ ⟨K, hK, c⟩ k => ⟨K, PySem.W.Frag.In.keeps hK k, c⟩
def obsT (n : Nat) (q : Asked) (s : PySem.W.SharedT) : AlN := obsN q (frN n (HandSHeadRun.getT s))
theorem obsT_eq (n : Nat) (q : Asked) (s : PySem.W.SharedT) : obsT n q s = (hookN n q).obs s.abs := by
  have e : HandSHeadRun.getT s = s.abs.heap.get? := funext (HandSHeadRun.getT_eq s)
  show obsN q (frN n (HandSHeadRun.getT s)) = obsN q (frN n s.abs.heap.get?)
  rw [e]
section
variable {q : Asked} {K : PySem.W.Frag} (c : obsN q K = valN q)
include c
theorem said_d : He.SaysD q.fa q.fn K := congrArg Prod.fst c
theorem said_con {p : Str × D} (h : p ∈ q.con) : conB K p = true := by
  have e : (q.con.all (conB K) && ((if q.gcd then gcdB K else true) && q.dfl.all (dflC K))) = true := congrArg Prod.snd c
  rw [Bool.and_eq_true] at e
  exact List.all_eq_true.mp e.1 p h
theorem said_dfl {p : (Str × Nat) × D} (h : p ∈ q.dfl) (H : Hp) : Dq K H (.ref (He.dflAt (p.1.1, none) p.1.2 K)) p.2 := by
  have e : (q.con.all (conB K) && ((if q.gcd then gcdB K else true) && q.dfl.all (dflC K))) = true := congrArg Prod.snd c
  rw [Bool.and_eq_true, Bool.and_eq_true] at e
  exact dflC_ok (List.all_eq_true.mp e.2.2 p h) H
theorem said_gcd (h : q.gcd = true) : gcdB K = true := by
  have e : (q.con.all (conB K) && ((if q.gcd then gcdB K else true) && q.dfl.all (dflC K))) = true := congrArg Prod.snd c
  rw [Bool.and_eq_true, if_pos h, Bool.and_eq_true] at e
  exact e.2.1
theorem said_free {h : Heap} {mg : Str → Option Value} (X : K.In h) (G : h.Ns mainGlobals mg) {x : Str} (hx : x ∈ q.free) : mg x = none := by
  have e : (He.Fa.free x).ok K = true := by
    have c1 := (He.ba (show ((q.fa.all fun f => f.ok K) && q.fn.all fun d => d.ok K) = true from congrArg (fun z : He.AlD => z.1) (said_d c))).1
    exact List.all_eq_true.mp c1 _ (List.mem_append_left _ (List.mem_map_of_mem hx))
  exact He.free_ok X G e
theorem said_fn {h : Heap} {mg : Str → Option Value} (X : K.In h) (G : h.Ns mainGlobals mg) (i : Nat) {d : He.DefD} (hd : q.fn[i]? = some d) (hn : d.at_.2 = none) :
    ∃ fd, FunD K d.name d.qual d.params d.body d.scope (d.dvs K) (d.kws K) (He.fAd K d.at_) fd ∧ mg d.at_.1 = some (.ref (He.fAd K d.at_)) := by
  obtain ⟨fd, F⟩ := (said_d c).def_ i hd
  refine ⟨fd, F, ?_⟩
  have e : (He.Fa.glo d.at_.1).ok K = true := by
    have c1 := (He.ba (show ((q.fa.all fun f => f.ok K) && q.fn.all fun d => d.ok K) = true from congrArg (fun z : He.AlD => z.1) (said_d c))).1
    exact List.all_eq_true.mp c1 _ (List.mem_append_right _ (List.mem_map.mpr ⟨d, List.mem_of_getElem? hd, rfl⟩))
  have : He.fAd K d.at_ = He.ga K d.at_.1 := by unfold He.fAd; rw [hn]
  rw [this]
  exact He.glo_ok X G e
end
/-! ### one def of the table -/
/-- a def as the proof has it: the statement, what it is compiled to -/
structure Dfn where
  st : Stmt
  c : Cc
  ps : List Str
  mt : Bool
  ir : List IS
def stName : Stmt → Str
  | .FunctionDef n .. => n
  | _ => ""
def Dfn.f (d : Dfn) : FnD := ⟨d.mt, runB d.mt d.ps.length d.c.N.length d.ir⟩
def Dfn.dd (d : Dfn) (dfl : List He.Dv) : He.DefD := ⟨(stName d.st, none), stName d.st, stName d.st, defArgs d.st, defBody d.st, defScope d.st, dfl, []⟩
section
variable {P : Program} {w : World} {K : PySem.W.Frag} {mg : Str → Option Value} {base : Heap} {k : Nat} {f : Addr} {fd : FuncData} {d : Dfn} {dfl : List He.Dv}
theorem dfn_G (F : FunD K (stName d.st) (stName d.st) (defArgs d.st) (defBody d.st) (defScope d.st) ((d.dd dfl).dvs K) [] f fd) (D0 : DefOk d.c d.ps (defScope d.st) (defBody d.st) d.ir)
    (fns : ∀ E ∈ d.c.fns, FnAt P w K mg base k E) (cst : ∀ p ∈ d.c.consts, ∃ v u, mg p.1 = some u ∧ L2.RelV v u ∧ ∀ H, Dq K H v p.2) (gcd : d.c.gcd = true → mg "gcd" = some (.builtin "math.gcd")) (bl : ∀ x ∈ d.c.bl, mg x = none) (htr : P.given.tree = none) (hse : base.NoSeer) :
    FnG P w K mg base (k + 1) f fd d.ps (spD K d.f) := by
  obtain ⟨oc, od, dV, kV, doc, pm, an, cdv, ct, osl, rfl, lk, hcd, _⟩ := F.ex
  exact fnG_body lk hcd D0 (fun _ _ => trivial) fns cst gcd bl htr hse
/-- no defaults -/
theorem at_0 {E : FnE} (F : FunD K (stName d.st) (stName d.st) (defArgs d.st) (defBody d.st) (defScope d.st) ((d.dd []).dvs K) [] f fd) (hm : mg E.name = some (.ref f)) (G : FnG P w K mg base k f fd d.ps (spD K d.f)) (hf : E.f = d.f) (hd : E.dfs = []) (hp : d.ps.length = E.ar.length)
    (hb : ∀ (kV doc pm : Value) (an : Option Addr) (cdv ct : Value) (us ws : List Value), us.length = E.np → ws.length = E.kws.length →
      bindArgs (PySem.W.fnOf (stName d.st) (stName d.st) (defArgs d.st) (defBody d.st) (defScope d.st) .none kV doc pm an cdv ct) ⟨us, E.kws.zip ws⟩ = pure (d.ps.zip (arr .none E.ar [] (us ++ ws)))) : FnAt P w K mg base k E := by
  obtain ⟨oc, od, dV, kV, doc, pm, an, cdv, ct, osl, e, lk, hcd, hD, _⟩ := F.ex
  rcases hD with ⟨_, rfl⟩ | ⟨h, _⟩
  · refine ⟨⟨f, fd, d.ps, [], [], by rw [hf]; exact G, hm, F.kp, .nil, fun H => by rw [hd]; exact .nil, hp, fun s us ws _ h1 h2 => ?_⟩⟩
    subst e
    exact .of_eq (hb kV doc pm an cdv ct us ws h1 h2)
  · exact absurd rfl h
/-- with defaults, told as data -/
theorem at_D {E : FnE} (F : FunD K (stName d.st) (stName d.st) (defArgs d.st) (defBody d.st) (defScope d.st) ((d.dd dfl).dvs K) [] f fd) (hm : mg E.name = some (.ref f)) (G : FnG P w K mg base k f fd d.ps (spD K d.f)) (hf : E.f = d.f) (hd : ∀ H, Dqs K H ((d.dd dfl).dvs K) E.dfs) (h0 : dfl ≠ []) (hp : d.ps.length = E.ar.length)
    (hb : ∀ (T : Addr) (kV doc pm : Value) (an : Option Addr) (cdv ct : Value) (us its ws : List Value), us.length = E.np → its.length = E.dfs.length → ws.length = E.kws.length →
      ∃ k, bindArgs (PySem.W.fnOf (stName d.st) (stName d.st) (defArgs d.st) (defBody d.st) (defScope d.st) (.ref T) kV doc pm an cdv ct) ⟨us, E.kws.zip ws⟩ = seqItems? (.ref T) >>= k ∧ k (some its.toArray) = pure (d.ps.zip (arr .none E.ar its (us ++ ws)))) : FnAt P w K mg base k E := by
  obtain ⟨oc, od, dV, kV, doc, pm, an, cdv, ct, osl, e, lk, hcd, hD, _⟩ := F.ex
  rcases hD with ⟨h, _⟩ | ⟨_, T, o, its, m, rfl, lT, oT, rT⟩
  · cases dfl with
    | nil => exact absurd rfl h0
    | cons a b => cases h
  · refine ⟨⟨f, fd, d.ps, _, its, by rw [hf]; exact G, hm, F.kp, rT, hd, hp, fun s us ws X h1 h2 => ?_⟩⟩
    obtain ⟨kk, e1, e2⟩ := hb T kV doc pm an cdv ct us its ws h1 (by rw [← rT.length]; exact dps_len (hd fun _ => none)) h2
    subst e
    refine BindsTo.of_looks fun M => ?_
    rw [e1]
    exact looks_items X lT oT (.of_pure e2)
end
theorem walk_NB {l : PySem.W.OpenLaw} {n k hn' : Nat} {qs : Asked} {q : Program} {loose : List Str} {XP : (Str → Option Value) → Heap → Prop} {d : DefRec} {D0 : Dfn} {x : Str}
    (hn : l.most = some n) (hn2 : n ≤ sizeLine) (hdf : d.params.defaults = []) (hr : Room (k + 40) callerA) (hx : D0.ps = [x]) (hm : D0.mt = false) (hsee : importsNone q = true)
    (F : ∀ (w : World) (mg : Str → Option Value) (h : Heap) (K : PySem.W.Frag), K.In h → h.Ns mainGlobals mg → obsN qs K = valN qs →
      ∃ (fa : Addr) (fd : FuncData), mg d.name = some (.ref fa) ∧ (∀ (s : Shared) (u : Value), BindsTo s fd ⟨[u], []⟩ [(x, u)]) ∧ ∀ base : Heap, K.In base → base.Ns mainGlobals mg → base.NoSeer → FnG l.prog w K mg base k fa fd D0.ps (spD K D0.f))
    (law : ∀ ns : List Int, ns.length ≤ n → (∀ k ∈ ns, Builtin.Int.intBits k ≤ 1048576) → D0.f.run [.list (ns.map .int)] = some (.fz (.bool true), [])) :
    PySem.W.WalkO q loose XP (hookN hn' qs).says l.row.toRowW d [] (fun f vs => PySem.call f vs) := by
  refine Att.attach_callB hn hdf fun w s₀ s₁ mg mb fa o pm cd doc a vs ns G Y ho hd hcd hmg hobj hints hlen hbits hg => ?_
  obtain ⟨K, KX, noK, sK⟩ := Y
  obtain ⟨fa', fd, hm', hb, hF⟩ := F w mg _ K KX G.T.g sK
  rw [hmg] at hm'
  cases hm'
  rw [hx] at hF
  have h6 : K.lookup a = none := by
    cases e : K.lookup a with
    | none => rfl
    | some o =>
      have e1 := noK a o e
      have e2 := KX a o e
      rw [hobj] at e2
      cases e2
      have : decide (("list" : String) = "list") = false := e1
      cases this
  refine law_run KX G.T.g G.T.b G.T.builtins G.T.nolimit (G.T.seer hsee) hg h6 hobj hints (Nat.le_trans hlen hn2) hr rfl hF hb fun H hR => ?_
  have allI : ∀ ns : List Int, Dqs K H (ns.map V.int) (ns.map PyData.int) := fun ns => by
    induction ns with
    | nil => exact .nil
    | cons i is ih => exact .cons (.int i) ih
  refine ⟨H, [.list (ns.map .int)], .fz (.bool true), [], .rfl', law ns hlen hbits, ?_⟩
  rw [show D0.f.mt = false from hm]
  refine ⟨.cons (.lst hR (allI ns)) .nil, fun v H' Hf' g q => ?_⟩
  cases (show Dq K Hf' v (.bool true) from q)
  rfl
end EvL

set_option Elab.async false
set_option linter.all false
set_option maxRecDepth 100000
namespace EvL
open PySem PySem.Spec PyProof.Rows L2
def cellsOf (sc : Scope) : List Str := (sc.names.filter fun y => y.2 == .cell).map (·.1)
theorem fns_nil {p : FnE → Prop} : ∀ E ∈ ([] : List FnE), p E := fun _ h => nomatch h
theorem fns_cons {p : FnE → Prop} {e : FnE} {es : List FnE} (h : p e) (t : ∀ E ∈ es, p E) : ∀ E ∈ e :: es, p E := fun E hE => by
  cases hE with
  | head => exact h
  | tail _ q => exact t E q
end EvL

set_option Elab.async false
set_option linter.all false
set_option maxRecDepth 100000
namespace EvL
open PySem PySem.Spec PyProof.Rows

/-! ### data alone: sizes -/
def Sz (b : Nat) (i : Int) : Prop := i.natAbs < 2 ^ b
theorem Sz.mono {a b : Nat} {i : Int} (h : Sz a i) (hb : a ≤ b) : Sz b i := Nat.lt_of_lt_of_le h (Nat.pow_le_pow_right (by decide) hb)
theorem Sz.mul {a b : Nat} {i j : Int} (h : Sz a i) (g : Sz b j) : Sz (a + b) (i * j) := by
  unfold Sz at *
  rw [Int.natAbs_mul, Nat.pow_add]
  exact Nat.mul_lt_mul_of_lt_of_lt h g
theorem Sz.add {a b : Nat} {i j : Int} (h : Sz a i) (g : Sz b j) : Sz (max a b + 1) (i + j) := by
  have h1 := h.mono (Nat.le_max_left a b)
  have g1 := g.mono (Nat.le_max_right a b)
  unfold Sz at *
  have := Int.natAbs_add_le i j
  rw [Nat.pow_succ]
  omega
theorem Sz.neg {a : Nat} {i : Int} (h : Sz a i) : Sz a (-i) := by unfold Sz at *; rwa [Int.natAbs_neg]
theorem Sz.sub {a b : Nat} {i j : Int} (h : Sz a i) (g : Sz b j) : Sz (max a b + 1) (i - j) := by
  rw [Int.sub_eq_add_neg]; exact h.add g.neg
theorem Sz.abs {a : Nat} {i : Int} (h : Sz a i) : Sz a (if i < 0 then -i else i) := by split; exact h.neg; exact h
theorem Sz.ite {a b : Nat} {i j : Int} {c : Prop} [Decidable c] (h : Sz a i) (g : Sz b j) : Sz (max a b) (if c then i else j) := by
  split
  · exact h.mono (Nat.le_max_left a b)
  · exact g.mono (Nat.le_max_right a b)
theorem Sz.fdiv {a : Nat} {i j : Int} (h : Sz a i) (hj : 0 ≤ j) : Sz a (i.fdiv j) := by
  unfold Sz at *
  rw [Int.fdiv_eq_ediv_of_nonneg _ hj]
  exact Nat.lt_of_le_of_lt (Int.natAbs_ediv_le_natAbs i j) h
theorem Sz.lit {b : Nat} {i : Int} (h : i.natAbs < 2 ^ b) : Sz b i := h
theorem Sz.of_lt {b : Nat} {i : Int} (h1 : -(2 ^ b : Int) < i) (h2 : i < (2 ^ b : Int)) : Sz b i := by
  unfold Sz
  have : ((2 ^ b : Nat) : Int) = (2 ^ b : Int) := by simp
  omega
theorem Sz.log {b : Nat} {i : Int} (h : Sz b i) : i.natAbs.log2 ≤ b := by
  unfold Sz at h
  by_cases h0 : i.natAbs = 0
  · rw [h0]; simp
  · exact Nat.le_of_lt ((Nat.log2_lt h0).mpr h)
theorem mulOk_of {a b : Nat} {i j : Int} (h : Sz a i) (g : Sz b j) (hab : a + b < 60000000) : mulOk i j = true := by
  unfold mulOk
  exact decide_eq_true (by have := h.log; have := g.log; omega)
theorem divOk_of {b : Nat} {i j : Int} (g : Sz b j) (hb : b < 90000000) (hj : j ≠ 0) : divOk i j = true := by
  exact decide_eq_true hj
/-! ### what repr may show -/
mutual
inductive Sh : Nat → Nat → D → Prop
  | non : Sh 0 4 .none
  | bl (b : Bool) : Sh 0 5 (.bool b)
  | int {b : Nat} {i : Int} : Sz b i → b < 1920 → Sh 0 600 (.int i)
  | str {x : Str} {n : Nat} : (reprText x).length ≤ n → (PyData.str x).showable = true → Sh 0 n (.str x)
  | lst {k n : Nat} {ds : List D} : Shs k n ds → Sh (k + 1) (n + 2) (.list ds)
  | tup {k n : Nat} {ds : List D} : Shs k n ds → Sh (k + 1) (n + 3) (.tuple ds)
inductive Shs : Nat → Nat → List D → Prop
  | nil : Shs 0 0 []
  | cons {k l a b : Nat} {d : D} {ds : List D} : Sh k a d → Shs l b ds → Shs (max k l) (a + b + 2) (d :: ds)
end
theorem lt_len : ∀ ts : List Str, (listText ts).length ≤ piled ts + 2
  | [] => Nat.le_of_eq rfl
  | t :: r => by
    have q1 : (listText (t :: r)).length = (textFrom 1 (("[" : Str) ++ (if (0 : Nat) > 0 then ", " else "" : String) ++ t) r).length + 1 :=
      strLen_append _ _
    have q2 : ((("[" : Str) ++ (if (0 : Nat) > 0 then ", " else "" : String) ++ t)).length = 1 + t.length :=
      (strLen_append _ _).trans (congrArg (· + t.length) (strLen_append _ _))
    have q3 := textFrom_length_pos r 1 _ (Nat.succ_pos 0) ▸ q1
    rw [q3, q2, piled_cons]
    omega
theorem tt_len (ts : List Str) : (tupleText ts).length ≤ piled ts + 3 := by
  have q3 : (((if ts.length == 1 then ",)" else ")" : String) : Str)).length ≤ 2 := by split <;> decide
  have q1 : (tupleText ts).length = 1 + (Str.join ", " ts).length + (((if ts.length == 1 then ",)" else ")" : String) : Str)).length :=
    (strLen_append _ _).trans (congrArg (· + _) (strLen_append _ _))
  have q4 : (Str.join ", " ts).length ≤ piled ts := by
    cases ts with
    | nil => exact Nat.le_refl _
    | cons t r => have := join_length_add (t :: r) (by simp); omega
  omega
mutual
theorem Sh.all : ∀ {k n : Nat} {d : D}, Sh k n d → d.showable = true ∧ d.hasDict = false ∧ d.depth ≤ k ∧ d.shown.length ≤ n
  | _, _, _, .non => ⟨rfl, rfl, Nat.le_refl _, by decide +kernel⟩
  | _, _, _, .bl b => ⟨rfl, rfl, Nat.le_refl _, by cases b <;> decide +kernel⟩
  | _, _, _, .int (b := b) (i := i) h hb => by
    refine ⟨?_, rfl, Nat.le_refl _, ?_⟩
    · simp only [PyData.showable, decide_eq_true_eq]
      exact Nat.lt_of_le_of_lt h.log hb
    · have e := int_text_length_le10 (a := i) (k := 590) (by decide) (Nat.lt_trans h (Nat.lt_of_le_of_lt (Nat.pow_le_pow_right (by decide) (Nat.le_of_lt hb)) (by decide +kernel)))
      show (Str.ofString (toString i)).length ≤ 600
      rw [PySem.ofString_length]
      omega
  | _, _, _, .str h g => ⟨rfl, rfl, Nat.le_refl _, by simpa only [PyData.shown] using h⟩
  | _, _, _, .lst q => by
    obtain ⟨a, b, c, e⟩ := q.all
    refine ⟨by simpa only [PyData.showable] using a, by simpa only [PyData.hasDict] using b, by simp only [PyData.depth]; omega, ?_⟩
    simp only [PyData.shown]
    exact Nat.le_trans (lt_len _) (by omega)
  | _, _, _, .tup q => by
    obtain ⟨a, b, c, e⟩ := q.all
    refine ⟨by simpa only [PyData.showable] using a, by simpa only [PyData.hasDict] using b, by simp only [PyData.depth]; omega, ?_⟩
    simp only [PyData.shown]
    exact Nat.le_trans (tt_len _) (by omega)
theorem Shs.all : ∀ {k n : Nat} {ds : List D}, Shs k n ds → PyData.showableAll ds = true ∧ PyData.hasDictAll ds = false ∧ PyData.depthAll ds ≤ k ∧ piled (PyData.shownAll ds) ≤ n
  | _, _, _, .nil => ⟨rfl, rfl, Nat.le_refl _, Nat.le_refl _⟩
  | _, _, _, .cons h q => by
    obtain ⟨a, b, c, e⟩ := h.all
    obtain ⟨a', b', c', e'⟩ := q.all
    refine ⟨by simp only [PyData.showableAll, a, a']; rfl, by simp only [PyData.hasDictAll, b, b']; rfl, by simp only [PyData.depthAll]; omega, ?_⟩
    simp only [PyData.shownAll]
    rw [piled_cons]
    omega
end
theorem reprOk_of {k n : Nat} {d : D} (h : Sh k n d) (hd : (isDisplay d || isAtom d) = true) (hk : k ≤ 50) (hn : n ≤ 10000000) : reprOk d = true := by
  obtain ⟨a, b, c, e⟩ := h.all
  unfold reprOk
  simp only [hd, a, b, Bool.and_eq_true, decide_eq_true_eq]
  exact ⟨⟨⟨⟨trivial, trivial⟩, rfl⟩, by omega⟩, by omega⟩
end EvL

set_option Elab.async false
set_option linter.all false
set_option maxRecDepth 100000
namespace EvL
open PySem PySem.Spec PyProof.Rows

/-! ### the evaluators' equations, for simp -/
section
variable (Γ : Ga) (i j : Nat) (a b c e : IE) (es fs : List IE) (f : FnD) (pm : List D → List D)
@[simp] theorem x_var : evX (.var i) Γ = (getV i Γ).map fun (d, Γ) => (.fz d, Γ) := by rw [evX]
@[simp] theorem x_cst (d : D) : evX (.cst d) Γ = some (.fz d, Γ) := by rw [evX]
@[simp] theorem x_tup : evX (.tup es) Γ = (evs es Γ).map fun (ds, Γ) => (.fz (.tuple ds), Γ) := by rw [evX]
@[simp] theorem x_lst : evX (.lst es) Γ = (evs es Γ).map fun (ds, Γ) => (.ow ds, Γ) := by rw [evX]
@[simp] theorem x_bin (o : BOp) : evX (.bin o a b) Γ = (evX a Γ).bind fun (x, Γ) => (evX b Γ).bind fun (y, Γ) => (binD o x.d y.d).map fun r => (r, Γ) := by rw [evX]
@[simp] theorem x_neg : evX (.neg a) Γ = (evX a Γ).bind fun (x, Γ) => match x.d with | .int i => some (.fz (.int (-i)), Γ) | _ => none := by rw [evX] <;> rfl
@[simp] theorem x_not : evX (.not a) Γ = (evX a Γ).bind fun (x, Γ) => (trD x.d).map fun c => (.fz (.bool (!c)), Γ) := by rw [evX]
@[simp] theorem x_cmp (o : COp) : evX (.cmp o a b) Γ = (evX a Γ).bind fun (x, Γ) => (evX b Γ).bind fun (y, Γ) => (cmpD o x.d y.d).map fun r => (.fz (.bool r), Γ) := by rw [evX]
@[simp] theorem x_chn (o o' : COp) : evX (.chn o o' a b c) Γ = (evX a Γ).bind fun (x, Γ) => (evX b Γ).bind fun (y, Γ) => (cmpD o x.d y.d).bind fun r => if r then (evX c Γ).bind fun (z, Γ) => (cmpD o' y.d z.d).map fun r => (.fz (.bool r), Γ) else some (.fz (.bool false), Γ) := by rw [evX]
@[simp] theorem x_and : evX (.and a b) Γ = (evX a Γ).bind fun (x, Γ) => (trD x.d).bind fun c => if c then (evX b Γ).map fun (y, Γ) => (.fz y.d, Γ) else some (.fz x.d, Γ) := by rw [evX]
@[simp] theorem x_or : evX (.or a b) Γ = (evX a Γ).bind fun (x, Γ) => (trD x.d).bind fun c => if c then some (.fz x.d, Γ) else (evX b Γ).map fun (y, Γ) => (.fz y.d, Γ) := by rw [evX]
@[simp] theorem x_ite : evX (.ite c a b) Γ = (evT c Γ).bind fun (t, Γ) => if t then (evX a Γ).map fun (y, Γ) => (.fz y.d, Γ) else (evX b Γ).map fun (y, Γ) => (.fz y.d, Γ) := by rw [evX]
@[simp] theorem x_ix : evX (.ix a b) Γ = (evX a Γ).bind fun (x, Γ) => (evX b Γ).bind fun (y, Γ) => (ixD x.d y.d).map fun r => (.fz r, Γ) := by rw [evX]
@[simp] theorem x_ixv : evX (.ixv i b) Γ = (slotD i Γ).bind fun _ => (evX b Γ).bind fun (y, Γ) => (slotD i Γ).bind fun d => (ixD d y.d).map fun r => (.fz r, Γ) := by rw [evX]
@[simp] theorem x_lenv : evX (.lenv i) Γ = (slotD i Γ).bind fun d => (biD .len [d]).map fun r => (r, Γ) := by rw [evX]
@[simp] theorem t_ixv : evT (.ixv i b) Γ = (slotD i Γ).bind fun _ => (evX b Γ).bind fun (y, Γ) => (slotD i Γ).bind fun d => (ixD d y.d).bind fun r => (trD r).map fun c => (c, Γ) := by rw [evT]
@[simp] theorem t_lenv : evT (.lenv i) Γ = (slotD i Γ).bind fun d => (biD .len [d]).bind fun r => (trD r.d).map fun c => (c, Γ) := by rw [evT]
@[simp] theorem x_slc (l h : Bool) (lo hi : IE) : evX (.slc l h a lo hi) Γ = (evX a Γ).bind fun (x, Γ) => (evX lo Γ).bind fun (u, Γ) => (optI l u.d).bind fun i => (evX hi Γ).bind fun (w, Γ) => (optI h w.d).bind fun j => (slcD x.d i j).map fun r => (r, Γ) := by rw [evX]
@[simp] theorem x_rev : evX (.rev a) Γ = (evX a Γ).bind fun (x, Γ) => (revD x.d).map fun r => (r, Γ) := by rw [evX]
@[simp] theorem x_bi (g : BF) : evX (.bi g es) Γ = (evs es Γ).bind fun (ds, Γ) => (biD g ds).map fun r => (r, Γ) := by rw [evX]
@[simp] theorem x_call : evX (.call f pm es) Γ = (evs es Γ).bind fun (ds, Γ) => if f.mt then none else (f.run (pm ds)).map fun (r, _) => (r, Γ) := by rw [evX]
@[simp] theorem x_callm : evX (.callm f i es) Γ = match Γ[i]? with
      | some (.ow _ _) => (evs es Γ).bind fun (ds, Γ) => match Γ[i]? with
        | some (.ow b c) => if f.mt then (f.run (.list c :: ds)).map fun (r, c') => (r, Γ.set i (.ow b c')) else none
        | _ => none
      | _ => none := by rw [evX] <;> rfl
@[simp] theorem x_callt : evX (.callt f e) Γ = (evX e Γ).bind fun (x, Γ) => match x with
      | .ow c => if f.mt then (f.run [.list c]).map fun (r, _) => (r, Γ) else none
      | _ => none := by rw [evX] <;> rfl
@[simp] theorem s_nil' : evs [] Γ = some ([], Γ) := by rw [evs]
@[simp] theorem s_cons' : evs (e :: es) Γ = (evX e Γ).bind fun (x, Γ) => (evs es Γ).map fun (ds, Γ) => (x.d :: ds, Γ) := by rw [evs]
@[simp] theorem rs_nil' : evRs [] Γ = some ([], Γ) := by rw [evRs]
@[simp] theorem rs_cons' : evRs (e :: es) Γ = (evX e Γ).bind fun (x, Γ) => (evRs es Γ).map fun (ds, Γ) => (x.low :: ds, Γ) := by rw [evRs]
@[simp] theorem i_nil : evIfs [] Γ = some (true, Γ) := by rw [evIfs]
@[simp] theorem i_cons : evIfs (e :: es) Γ = (evT e Γ).bind fun (c, Γ) => if c then evIfs es Γ else some (false, Γ) := by rw [evIfs]
@[simp] theorem t_and' : evT (.and a b) Γ = (evT a Γ).bind fun (c, Γ) => if c then evT b Γ else some (false, Γ) := by rw [evT]
@[simp] theorem t_or' : evT (.or a b) Γ = (evT a Γ).bind fun (c, Γ) => if c then some (true, Γ) else evT b Γ := by rw [evT]
@[simp] theorem t_not' : evT (.not a) Γ = (evT a Γ).map fun (c, Γ) => (!c, Γ) := by rw [evT]
@[simp] theorem t_cmp' (o : COp) : evT (.cmp o a b) Γ = (evX a Γ).bind fun (x, Γ) => (evX b Γ).bind fun (y, Γ) => (cmpD o x.d y.d).map fun r => (r, Γ) := by rw [evT]
@[simp] theorem t_chn' (o o' : COp) : evT (.chn o o' a b c) Γ = (evX a Γ).bind fun (x, Γ) => (evX b Γ).bind fun (y, Γ) => (cmpD o x.d y.d).bind fun r => if r then (evX c Γ).bind fun (z, Γ) => (cmpD o' y.d z.d).map fun r => (r, Γ) else some (false, Γ) := by rw [evT]
@[simp] theorem t_cst' (d : D) : evT (.cst d) Γ = (trD d).map fun c => (c, Γ) := by rw [evT]
@[simp] theorem t_var' : evT (.var i) Γ = (slotD i Γ).bind fun d => (trD d).map fun c => (c, Γ) := by rw [evT]
@[simp] theorem t_bi' (g : BF) : evT (.bi g es) Γ = (evs es Γ).bind fun (ds, Γ) => (biD g ds).bind fun r => (trD r.d).map fun c => (c, Γ) := by rw [evT]
@[simp] theorem t_call' : evT (.call f pm es) Γ = (evs es Γ).bind fun (ds, Γ) => if f.mt then none else (f.run (pm ds)).bind fun (r, _) => (trD r.d).map fun c => (c, Γ) := by rw [evT]
@[simp] theorem t_callm' : evT (.callm f i es) Γ = match Γ[i]? with
      | some (.ow _ _) => (evs es Γ).bind fun (ds, Γ) => match Γ[i]? with
        | some (.ow b c) => if f.mt then (f.run (.list c :: ds)).bind fun (r, c') => (trD r.d).map fun t => (t, Γ.set i (.ow b c')) else none
        | _ => none
      | _ => none := by rw [evT] <;> rfl
@[simp] theorem t_ix' : evT (.ix a b) Γ = (evX a Γ).bind fun (x, Γ) => (evX b Γ).bind fun (y, Γ) => (ixD x.d y.d).bind fun r => (trD r).map fun c => (c, Γ) := by rw [evT]
@[simp] theorem t_callt' : evT (.callt f e) Γ = (evX e Γ).bind fun (x, Γ) => match x with
      | .ow c => if f.mt then (f.run [.list c]).bind fun (r, _) => (trD r.d).map fun t => (t, Γ) else none
      | _ => none := by rw [evT] <;> rfl
@[simp] theorem b_nil' : evB [] Γ = some (.nx Γ) := by rw [evB]
@[simp] theorem b_cons' (s : IS) (ss : List IS) : evB (s :: ss) Γ = (evS s Γ).bind (onNext (evB ss)) := by rw [evB]
@[simp] theorem onNext_nx (k : Ga → Option Out) : onNext k (.nx Γ) = k Γ := Eq.trans (Eq.refl _) (Eq.refl _)
@[simp] theorem onNext_rt (k : Ga → Option Out) (r : RV) : onNext k (.rt r Γ) = some (.rt r Γ) := Eq.trans (Eq.refl _) (Eq.refl _)
@[simp] theorem onNext_bk (k : Ga → Option Out) : onNext k (.bk Γ) = some (.bk Γ) := Eq.trans (Eq.refl _) (Eq.refl _)
@[simp] theorem onNext_ct (k : Ga → Option Out) : onNext k (.ct Γ) = some (.ct Γ) := Eq.trans (Eq.refl _) (Eq.refl _)
@[simp] theorem onTurn_nx (k : Ga → Option Out) : onTurn k (.nx Γ) = k Γ := Eq.trans (Eq.refl _) (Eq.refl _)
@[simp] theorem onTurn_rt (k : Ga → Option Out) (r : RV) : onTurn k (.rt r Γ) = some (.rt r Γ) := Eq.trans (Eq.refl _) (Eq.refl _)
@[simp] theorem onTurn_bk (k : Ga → Option Out) : onTurn k (.bk Γ) = some (.nx Γ) := Eq.trans (Eq.refl _) (Eq.refl _)
@[simp] theorem onTurn_ct (k : Ga → Option Out) : onTurn k (.ct Γ) = k Γ := Eq.trans (Eq.refl _) (Eq.refl _)
@[simp] theorem v_set : evS (.set i e) Γ = (evX e Γ).bind fun (r, Γ) => if i < Γ.length then some (.nx (Γ.set i r.mv)) else none := by rw [evS]
@[simp] theorem v_asg (t : Tg) : evS (.asg t e) Γ = (evX e Γ).bind fun (r, Γ) => (asg t r.d Γ).map .nx := by rw [evS]
@[simp] theorem v_par (is : List Nat) : evS (.par is es) Γ = (evRs es Γ).bind fun (rs, Γ) => (putAll is rs Γ).map .nx := by rw [evS]
@[simp] theorem v_put : evS (.put i a e) Γ = (evX e Γ).bind fun (r, Γ) => if isOw i Γ then (evX a Γ).bind fun (x, Γ) => (putAt i x.d r.d Γ).map .nx else none := by rw [evS]
@[simp] theorem v_dip : evS (.dip i a j e) Γ = (evX e Γ).bind fun (r, Γ) => match r.d with
      | .tuple [x, y] => if isOw i Γ then (evX a Γ).bind fun (z, Γ) => (putAt i z.d x Γ).bind fun Γ => if j < Γ.length then some (.nx (Γ.set j (.fz y))) else none else none
      | _ => none := by rw [evS] <;> rfl
@[simp] theorem v_aug (o : BOp) : evS (.aug i o e) Γ = match Γ[i]? with
      | some (.fz d) => (evX e Γ).bind fun (r, Γ) => (augD o d r.d).map fun z => .nx (Γ.set i (.fz z))
      | _ => none := by rw [evS] <;> rfl
@[simp] theorem v_app : evS (.app i e) Γ = match Γ[i]? with
      | some (.ow _ _) => (evX e Γ).bind fun (r, Γ) => match Γ[i]? with
        | some (.ow b ds) => if ds.length < lim then some (.nx (Γ.set i (.ow b (ds ++ [r.d])))) else none
        | _ => none
      | _ => none := by rw [evS] <;> rfl
@[simp] theorem v_ife (p q : List IS) : evS (.ife c p q) Γ = (evT c Γ).bind fun (t, Γ) => if t then evB p Γ else evB q Γ := by rw [evS]
@[simp] theorem v_ret : evS (.ret e) Γ = (evX e Γ).map fun (r, Γ) => .rt r Γ := by rw [evS]
@[simp] theorem v_retn : evS .retn Γ = some (.rt (.fz .none) Γ) := by rw [evS]
@[simp] theorem v_exp : evS (.exp e) Γ = (evX e Γ).map fun (_, Γ) => .nx Γ := by rw [evS]
theorem v_fro (t : Tg) (b : List IS) : evS (.fro t i b) Γ = hideO i (evFo t i (evB b)) Γ := by rw [evS]
@[simp] theorem v_brk : evS .brk Γ = some (.bk Γ) := by rw [evS]
@[simp] theorem v_cnt : evS .cnt Γ = some (.ct Γ) := by rw [evS]
@[simp] theorem v_pss : evS .pss Γ = some (.nx Γ) := by rw [evS]
theorem v_whl (p : List IS) : evS (.whl c p) Γ = evW (evT c) (evB p) WF Γ := by rw [evS]
theorem v_fr (t : Tg) (k : IK) (p : List IS) : evS (.fr t k es p) Γ = (evs es Γ).bind fun (ds, Γ) => (itD k ds).bind fun xs => evF t (evB p) xs Γ := by rw [evS]
theorem x_lc (vs : List Nat) (t : Tg) (k : IK) : evX (.lc vs t k es fs e) Γ = (evs es Γ).bind fun (ds, Γ1) => (itD k ds).bind fun xs =>
      if xs.length ≤ lim then
        (lcLoop (fun x Γ => (asg t x (wipeG Γ vs)).bind fun Γ2 => (evIfs fs Γ2).bind fun (c, Γ3) =>
          if c then (evX e Γ3).map fun (y, Γ4) => (some y.d, Γ4) else some (none, Γ3)) xs (wipeG Γ1 vs)).map fun (ys, Γ5) => (.ow ys, backG Γ1 Γ5 vs)
      else none := by rw [evX]
@[simp] theorem rv_fz (d : D) : (RV.fz d).d = d := rfl
@[simp] theorem rv_ow (ds : List D) : (RV.ow ds).d = .list ds := rfl
@[simp] theorem rv_oo (rss : List (List D)) : (RV.oo rss).d = .list (rss.map .list) := rfl
@[simp] theorem rm_oo (rss : List (List D)) : (RV.oo rss).mv = .oo rss := rfl
@[simp] theorem rl_fz (d : D) : (RV.fz d).low = .fz d := rfl
@[simp] theorem rl_ow (ds : List D) : (RV.ow ds).low = .ow ds := rfl
@[simp] theorem ro_ow (ds : List D) : (RV.ow ds).own = some ds := rfl
@[simp] theorem x_ixo : evX (.ixo n a b) Γ = if isOo n Γ then (evX a Γ).bind fun (x, Γ) => (rowO n x.d Γ).bind fun _ => (evX b Γ).bind fun (y, Γ) => (getO n x.d y.d Γ).map fun r => (.fz r, Γ) else none := by rw [evX]
@[simp] theorem x_leno : evX (.leno n) Γ = match Γ[n]? with
      | some (.oo rss) => some (.fz (.int rss.length), Γ)
      | _ => none := by rw [evX] <;> rfl
theorem x_lco {vs : List Nat} {t : Tg} {k : IK} {its : List IE} {e : IE} : evX (.lco vs t k its e) Γ = (evs its Γ).bind fun (ds, Γ1) => (itD k ds).bind fun xs =>
      if xs.length ≤ lim then
        (lcLoopO (fun x Γ => (asg t x (wipeG Γ vs)).bind fun Γ2 => (evX e Γ2).bind fun (y, Γ4) => y.own.map fun ds => (ds, Γ4)) xs (wipeG Γ1 vs)).map fun (ys, Γ5) => (.oo ys, backG Γ1 Γ5 vs)
      else none := by rw [evX]
@[simp] theorem s_puto {ix jx : IE} : evS (.puto n ix jx e) Γ = (evX e Γ).bind fun (r, Γ) => if isOo n Γ then (evX ix Γ).bind fun (x, Γ) => (rowO n x.d Γ).bind fun _ => (evX jx Γ).bind fun (y, Γ) => (putO n x.d y.d r.d Γ).map .nx else none := by rw [evS]
@[simp] theorem s_reto : evS (.reto n) Γ = match Γ[n]? with
      | some (.oo rss) => some (.rt (.oo rss) (Γ.set n .un))
      | _ => (getV n Γ).map fun (d, Γ) => .rt (.fz d) Γ := by rw [evS] <;> rfl
@[simp] theorem rm_fz (d : D) : (RV.fz d).mv = .fz d := rfl
@[simp] theorem rm_ow (ds : List D) : (RV.ow ds).mv = .ow false ds := rfl
end
@[simp] theorem e_rt0 (r : RV) (Γ : Ga) : outM false (.rt r Γ) = some (r, []) := rfl
@[simp] theorem e_nx0 (Γ : Ga) : outM false (.nx Γ) = some (.fz .none, []) := rfl
@[simp] theorem e_rt1 (r : RV) (c : List D) (Γ : Ga) : outM true (.rt r (.ow true c :: Γ)) = some (r, c) := rfl
@[simp] theorem e_nx1 (c : List D) (Γ : Ga) : outM true (.nx (.ow true c :: Γ)) = some (.fz .none, c) := rfl
/-! ### operations on known kinds -/
section
variable (i j k : Int) (x y : Str) (xs ys : List D) (p q : Bool) (d e : D)
@[simp] theorem d_add : binD .add (.int i) (.int j) = some (.fz (.int (i + j))) := rfl
@[simp] theorem d_sub : binD .sub (.int i) (.int j) = some (.fz (.int (i - j))) := rfl
@[simp] theorem d_subB : binD .sub (.bool p) (.bool q) = some (.fz (.int ((if p then 1 else 0) - (if q then 1 else 0)))) := rfl
@[simp] theorem d_mul {i j : Int} (h : mulOk i j = true) : binD .mul (.int i) (.int j) = some (.fz (.int (i * j))) := if_pos h
@[simp] theorem d_fdiv {i j : Int} (h : divOk i j = true) : binD .fdiv (.int i) (.int j) = some (.fz (.int (i.fdiv j))) := if_pos h
@[simp] theorem d_mod {i j : Int} (h : j ≠ 0) : binD .mod (.int i) (.int j) = some (.fz (.int (i.fmod j))) := if_pos h
@[simp] theorem d_pow {i j : Int} (h : 0 ≤ j ∧ j ≤ 1000 ∧ i.natAbs < 2 ^ 64) : binD .pow (.int i) (.int j) = some (.fz (.int (i ^ j.toNat))) := if_pos h
@[simp] theorem lim_eq : lim = 1000000 := rfl
@[simp] theorem d_catL : binD .add (.list xs) (.list ys) = if xs.length + ys.length ≤ lim then some (.ow (xs ++ ys)) else none := rfl
@[simp] theorem d_catT : binD .add (.tuple xs) (.tuple ys) = if xs.length + ys.length ≤ lim then some (.fz (.tuple (xs ++ ys))) else none := rfl
@[simp] theorem d_repL : binD .mul (.list xs) (.int k) = if k ≤ 100000 ∧ -100000 ≤ k ∧ xs.length * k.toNat ≤ lim then some (.ow (List.replicate k.toNat xs).flatten) else none := rfl
@[simp] theorem d_repT : binD .mul (.tuple xs) (.int k) = if k ≤ 1000 ∧ -1000 ≤ k ∧ xs.length ≤ 1000 then some (.fz (.tuple (List.replicate k.toNat xs).flatten)) else none := rfl
@[simp] theorem c_lt : cmpD .lt (.int i) (.int j) = some (decide (i < j)) := rfl
@[simp] theorem c_le : cmpD .le (.int i) (.int j) = some (decide (i ≤ j)) := rfl
@[simp] theorem c_gt : cmpD .gt (.int i) (.int j) = some (decide (j < i)) := rfl
@[simp] theorem c_ge : cmpD .ge (.int i) (.int j) = some (decide (j ≤ i)) := rfl
@[simp] theorem c_eq : cmpD .eq d e = eqD d e := rfl
@[simp] theorem c_ne : cmpD .ne d e = (eqD d e).map fun b => !b := rfl
@[simp] theorem c_isN : cmpD .is .none .none = some true := rfl
@[simp] theorem c_isnN : cmpD .isn .none .none = some false := rfl
@[simp] theorem eq_int : eqD (.int i) (.int j) = some (decide (i = j)) := by
  show some (PyData.eqv (.int i) (.int j)) = _
  simp [PyData.eqv]
  rw [Bool.eq_iff_iff]; simp
@[simp] theorem eq_str : eqD (.str x) (.str y) = some (decide (x = y)) := rfl
@[simp] theorem eq_bool : eqD (.bool p) (.bool q) = some (decide (p = q)) := by
  show some (PyData.eqv (.bool p) (.bool q)) = _
  simp [PyData.eqv]; cases p <;> cases q <;> rfl
/-- equal data of a plain kind -/
theorem eq_shaped {d e : D} (h : SeqAt.shaped d = true) (g : SeqAt.shaped e = true) (n : (∀ x, d ≠ .str x) ∨ ∀ x, e ≠ .str x) : eqD d e = some (PyData.eqv d e) := by
  unfold eqD
  split
  · rcases n with n | n <;> exact absurd rfl (n _)
  · rw [h, g]; rfl
@[simp] theorem tr_none : trD .none = some false := rfl
@[simp] theorem tr_bool : trD (.bool p) = some p := rfl
@[simp] theorem tr_int : trD (.int i) = some (i != 0) := rfl
@[simp] theorem tr_list : trD (.list xs) = some (!xs.isEmpty) := rfl
@[simp] theorem tr_tuple : trD (.tuple xs) = some (!xs.isEmpty) := rfl
@[simp] theorem ix_list' : ixD (.list xs) (.int i) = L2.atI xs i := rfl
@[simp] theorem ix_tuple' : ixD (.tuple xs) (.int i) = L2.atI xs i := rfl
@[simp] theorem at_0' (a : D) (as : List D) : L2.atI (a :: as) 0 = some a := by
  have : (0 : Int) < (as.length : Int) + 1 := by omega
  simp [L2.atI, L2.ixN, this]
@[simp] theorem at_1' (a b : D) (as : List D) : L2.atI (a :: b :: as) 1 = some b := by
  have : (1 : Int) < (as.length : Int) + 1 + 1 := by omega
  simp [L2.atI, L2.ixN, this]
@[simp] theorem at_2' (a b c : D) (as : List D) : L2.atI (a :: b :: c :: as) 2 = some c := by
  have : (2 : Int) < (as.length : Int) + 1 + 1 + 1 := by omega
  simp [L2.atI, L2.ixN, this]
@[simp] theorem o_f : optI false d = some none := rfl
@[simp] theorem o_t : optI true (.int i) = some (some i) := rfl
@[simp] theorem sl_l (l h : Option Int) : slcD (.list xs) l h = some (.ow (cutD xs l h)) := rfl
@[simp] theorem sl_t (l h : Option Int) : slcD (.tuple xs) l h = some (.fz (.tuple (cutD xs l h))) := rfl
@[simp] theorem rev_l : revD (.list xs) = some (.ow xs.reverse) := rfl
@[simp] theorem rev_t : revD (.tuple xs) = some (.fz (.tuple xs.reverse)) := rfl
@[simp] theorem b_lenL : biD .len [.list xs] = some (.fz (.int xs.length)) := rfl
@[simp] theorem b_lenT : biD .len [.tuple xs] = some (.fz (.int xs.length)) := rfl
@[simp] theorem b_abs : biD .abs [.int i] = some (.fz (.int (if i < 0 then -i else i))) := rfl
@[simp] theorem b_int : biD .int [.int i] = some (.fz (.int i)) := rfl
@[simp] theorem b_intB : biD .int [.bool p] = some (.fz (.int (if p then 1 else 0))) := rfl
@[simp] theorem b_repr {d : D} (h : reprOk d = true) : biD .repr [d] = some (.fz (.str d.shown)) := if_pos h
@[simp] theorem b_divmod {i j : Int} (h : 0 < j ∧ j < 1073741824) : biD .divmod [.int i, .int j] = some (.fz (.tuple [.int (i / j), .int (i % j)])) := if_pos h
@[simp] theorem b_max : biD .max2 [.int i, .int j] = some (.fz (.int (if j > i then j else i))) := rfl
@[simp] theorem b_min : biD .min2 [.int i, .int j] = some (.fz (.int (if j < i then j else i))) := rfl
@[simp] theorem b_tupL : biD .tuple [.list xs] = some (.fz (.tuple xs)) := rfl
@[simp] theorem b_tupT : biD .tuple [.tuple xs] = some (.fz (.tuple xs)) := rfl
@[simp] theorem b_lstL : biD .list [.list xs] = some (.ow xs) := rfl
@[simp] theorem b_lstT : biD .list [.tuple xs] = some (.ow xs) := rfl
@[simp] theorem b_gcd : biD .gcd [.int i, .int j] = some (.fz (.int (Int.gcd i j))) := rfl
@[simp] theorem b_all : biD .all [.list xs] = (allD xs).map fun b => .fz (.bool b) := rfl
@[simp] theorem b_any : biD .any [.list xs] = (anyD xs).map fun b => .fz (.bool b) := rfl
@[simp] theorem b_sum : biD .sum [.list xs] = (sumD xs).map fun i => .fz (.int i) := rfl
@[simp] theorem b_isint : biD .isint [d] = some (.fz (.bool (isD .isint d))) := rfl
@[simp] theorem b_isbool : biD .isbool [d] = some (.fz (.bool (isD .isbool d))) := rfl
@[simp] theorem b_istuple : biD .istuple [d] = some (.fz (.bool (isD .istuple d))) := rfl
@[simp] theorem b_islist : biD .islist [d] = some (.fz (.bool (isD .islist d))) := rfl
@[simp] theorem b_isstr : biD .isstr [d] = some (.fz (.bool (isD .isstr d))) := rfl
@[simp] theorem it_seqL : itD .seq [.list xs] = some xs := rfl
@[simp] theorem it_seqT : itD .seq [.tuple xs] = some xs := rfl
@[simp] theorem it_r1 {j : Int} (h : -1000000 ≤ j ∧ j ≤ 1000000) : itD .rng1 [.int j] = some (rngD 0 j) := if_pos (by simp [smallI, h])
@[simp] theorem it_r2 {i j : Int} (h : -1000000 ≤ i ∧ i ≤ 1000000) (g : -1000000 ≤ j ∧ j ≤ 1000000) : itD .rng2 [.int i, .int j] = some (rngD i j) := if_pos (by simp [smallI, h, g])
@[simp] theorem it_enL : itD .enum [.list xs] = some (xs.mapIdx fun k x => .tuple [.int k, x]) := rfl
@[simp] theorem it_enT : itD .enum [.tuple xs] = some (xs.mapIdx fun k x => .tuple [.int k, x]) := rfl
@[simp] theorem it_zL : itD .zip [.list xs, .list ys] = some ((xs.zip ys).map fun p => .tuple [p.1, p.2]) := rfl
@[simp] theorem it_zT : itD .zip [.tuple xs, .tuple ys] = some ((xs.zip ys).map fun p => .tuple [p.1, p.2]) := rfl
@[simp] theorem it_zTL : itD .zip [.tuple xs, .list ys] = some ((xs.zip ys).map fun p => .tuple [p.1, p.2]) := rfl
@[simp] theorem it_zLT : itD .zip [.list xs, .tuple ys] = some ((xs.zip ys).map fun p => .tuple [p.1, p.2]) := rfl
@[simp] theorem it_rvL : itD .rev [.list xs] = some xs.reverse := rfl
@[simp] theorem it_rvT : itD .rev [.tuple xs] = some xs.reverse := rfl
/-! ### slots -/
variable (Γ : Ga) (v : MV) (n : Nat)
@[simp] theorem gv_fz : getV 0 (.fz d :: Γ) = some (d, .fz d :: Γ) := rfl
@[simp] theorem gv_ow : getV 0 (.ow false xs :: Γ) = some (.list xs, .fz (.list xs) :: Γ) := rfl
@[simp] theorem gv_s : getV (n + 1) (v :: Γ) = (getV n Γ).map fun (d, Γ) => (d, v :: Γ) := by
  show (match (v :: Γ)[n + 1]? with
    | some (MV.fz d) => some (d, v :: Γ)
    | some (MV.ow false ds) => some (PyData.list ds, (v :: Γ).set (n + 1) (.fz (.list ds)))
    | some (MV.oo rss) => some (PyData.list (rss.map .list), (v :: Γ).set (n + 1) (.fz (.list (rss.map .list))))
    | _ => none) = Option.map _ (match Γ[n]? with
    | some (MV.fz d) => some (d, Γ)
    | some (MV.ow false ds) => some (PyData.list ds, Γ.set n (.fz (.list ds)))
    | some (MV.oo rss) => some (PyData.list (rss.map .list), Γ.set n (.fz (.list (rss.map .list))))
    | _ => none)
  rw [List.getElem?_cons_succ]
  cases h : Γ[n]? with
  | none => rfl
  | some m =>
    cases m with
    | un => rfl
    | fz d => rfl
    | oo rss => rfl
    | hid ds => rfl
    | ow b ds => cases b <;> rfl
@[simp] theorem gv_oo (rss : List (List D)) : getV 0 (.oo rss :: Γ) = some (.list (rss.map .list), .fz (.list (rss.map .list)) :: Γ) := rfl
@[simp] theorem ioo_0 (rss : List (List D)) : isOo 0 (.oo rss :: Γ) = true := rfl
@[simp] theorem ioo_s : isOo (n + 1) (v :: Γ) = isOo n Γ := by simp [isOo]
@[simp] theorem rowo_0 (rss : List (List D)) (k : Int) : rowO 0 (.int k) (.oo rss :: Γ) = L2.atI rss k := rfl
@[simp] theorem rowo_s (a : D) : rowO (n + 1) a (v :: Γ) = rowO n a Γ := by unfold rowO; rw [List.getElem?_cons_succ]
@[simp] theorem go_0 (rss : List (List D)) (k j : Int) : getO 0 (.int k) (.int j) (.oo rss :: Γ) = (L2.atI rss k).bind fun rs => L2.atI rs j := rfl
@[simp] theorem go_s (a b : D) : getO (n + 1) a b (v :: Γ) = getO n a b Γ := by unfold getO; rw [List.getElem?_cons_succ]
@[simp] theorem po_0 (rss : List (List D)) (k l : Int) : putO 0 (.int k) (.int l) d (.oo rss :: Γ) = (L2.ixN rss.length k).bind fun m => (rss[m]?).bind fun rs => (L2.ixN rs.length l).map fun j => .oo (rss.set m (rs.set j d)) :: Γ := by simp [putO]
@[simp] theorem po_s (a b : D) : putO (n + 1) a b d (v :: Γ) = (putO n a b d Γ).map fun Γ => v :: Γ := by
  show (match (v :: Γ)[n + 1]?, a, b with
    | some (.oo rss), .int k, .int l => (L2.ixN rss.length k).bind fun m => (rss[m]?).bind fun rs => (L2.ixN rs.length l).map fun j => (v :: Γ).set (n + 1) (.oo (rss.set m (rs.set j d)))
    | _, _, _ => none) = Option.map _ (match Γ[n]?, a, b with
    | some (.oo rss), .int k, .int l => (L2.ixN rss.length k).bind fun m => (rss[m]?).bind fun rs => (L2.ixN rs.length l).map fun j => Γ.set n (.oo (rss.set m (rs.set j d)))
    | _, _, _ => none)
  rw [List.getElem?_cons_succ]
  cases h : Γ[n]? with
  | none => rfl
  | some m =>
    cases m with
    | oo rss =>
      cases a with
      | int k =>
        cases b with
        | int l =>
          simp only
          cases L2.ixN rss.length k with
          | none => rfl
          | some m =>
            simp only [Option.bind_some]
            cases rss[m]? with
            | none => rfl
            | some rs => simp only [Option.bind_some, Option.map_map]; rfl
        | _ => rfl
      | _ => rfl
    | _ => rfl
@[simp] theorem sd_fz : slotD 0 (.fz d :: Γ) = some d := rfl
@[simp] theorem sd_ow (b : Bool) : slotD 0 (.ow b xs :: Γ) = some (.list xs) := rfl
@[simp] theorem sd_s : slotD (n + 1) (v :: Γ) = slotD n Γ := by simp [slotD]
@[simp] theorem io_ow (b : Bool) : isOw 0 (.ow b xs :: Γ) = true := rfl
@[simp] theorem io_s : isOw (n + 1) (v :: Γ) = isOw n Γ := by simp [isOw]
@[simp] theorem pt_ow (b : Bool) (k : Int) : putAt 0 (.int k) d (.ow b xs :: Γ) = (L2.ixN xs.length k).map fun j => .ow b (xs.set j d) :: Γ := by simp [putAt]
@[simp] theorem pt_s (k : D) : putAt (n + 1) k d (v :: Γ) = (putAt n k d Γ).map fun Γ => v :: Γ := by
  show (match (v :: Γ)[n + 1]?, k with
    | some (MV.ow b ds), .int k => (L2.ixN ds.length k).map fun j => (v :: Γ).set (n + 1) (.ow b (ds.set j d))
    | _, _ => none) = Option.map _ (match Γ[n]?, k with
    | some (MV.ow b ds), .int k => (L2.ixN ds.length k).map fun j => Γ.set n (.ow b (ds.set j d))
    | _, _ => none)
  rw [List.getElem?_cons_succ]
  cases h : Γ[n]? with
  | none => rfl
  | some m =>
    cases m with
    | ow b ds =>
      cases k with
      | int k => simp only [Option.map_map]; rfl
      | _ => rfl
    | _ => rfl
@[simp] theorem as_nm (h : n < Γ.length) : asg (.nm n) d Γ = some (Γ.set n (.fz d)) := by unfold asg; rw [if_pos h]
@[simp] theorem as_tp (ts : List Tg) : asg (.tp ts) (.tuple xs) Γ = asgs ts xs Γ := by rw [asg]
@[simp] theorem as_tl (ts : List Tg) : asg (.tp ts) (.list xs) Γ = asgs ts xs Γ := by rw [asg]
@[simp] theorem ass_nil : asgs [] [] Γ = some Γ := by rw [asgs]
@[simp] theorem ass_cons (t : Tg) (ts : List Tg) : asgs (t :: ts) (d :: xs) Γ = (asg t d Γ).bind fun Γ => asgs ts xs Γ := by rw [asgs]
@[simp] theorem pa_nil' : putAll [] [] Γ = some Γ := rfl
@[simp] theorem pa_cons' (r : RV) (rs : List RV) (is : List Nat) (h : n < Γ.length) : putAll (n :: is) (r :: rs) Γ = putAll is rs (Γ.set n r.mv) := by rw [putAll, if_pos h]
@[simp] theorem a_f : argM false xs = some (xs.map .fz) := rfl
@[simp] theorem a_t : argM true (.list xs :: ys) = some (.ow true xs :: ys.map .fz) := rfl
end
/-! ### a def run -/
theorem run0 {np n : Nat} {b : List IS} {ds : List D} (h : ds.length = np) : runB false np n b ds = (evB b (ds.map .fz ++ List.replicate (n - np) .un)).bind (outM false) := by unfold runB; rw [if_pos h]; rfl
theorem run1 {np n : Nat} {b : List IS} {c : List D} {ds : List D} (h : ds.length + 1 = np) : runB true np n b (.list c :: ds) = (evB b ((.ow true c :: ds.map .fz) ++ List.replicate (n - np) .un)).bind (outM true) := by unfold runB; rw [if_pos (by simpa using h)]; rfl
/-! ### fuel -/
theorem evW_up {c : Ga → Option (Bool × Ga)} {b : Ga → Option Out} {o : Out} : ∀ {n m : Nat} {Γ : Ga}, evW c b n Γ = some o → n ≤ m → evW c b m Γ = some o
  | 0, _, _, h, _ => by cases h
  | n + 1, 0, _, _, hm => absurd hm (by omega)
  | n + 1, m + 1, Γ, h, hm => by
    unfold evW at h ⊢
    obtain ⟨⟨t, Γ1⟩, e1, e2⟩ := bindS h
    rw [e1]
    simp only [Option.bind_some] at e2 ⊢
    cases t with
    | false => exact e2
    | true =>
      simp only [if_true] at e2 ⊢
      obtain ⟨o1, e3, e4⟩ := bindS e2
      rw [e3]
      simp only [Option.bind_some]
      cases o1 with
      | nx Γ2 => exact evW_up e4 (by omega)
      | ct Γ2 => exact evW_up e4 (by omega)
      | bk Γ2 => exact e4
      | rt r Γ2 => exact e4
end EvL

set_option Elab.async false
set_option linter.all false
set_option maxRecDepth 100000
namespace EvL
open PySem PySem.Spec PyProof.Rows
/-! ### the laws' own draws, first family -/
namespace F1
def dipI : List IS := [(.ife (.cmp .gt (.ixv 0 (.cst (.int (0)))) (.cst (.int (0)))) [(.dip 0 (.cst (.int (0))) 2 (.bi .divmod [(.ixv 0 (.cst (.int (0)))), (.var 1)])), (.ret (.var 2))] []), (.put 0 (.cst (.int (2))) (.bin .add (.ixv 0 (.cst (.int (2)))) (.cst (.int (1))))), (.set 3 (.bin .mod (.bi .int [(.bin .add (.bin .mul (.ixv 0 (.cst (.int (1)))) (.cst (.int (48271)))) (.bin .mul (.ixv 0 (.cst (.int (2)))) (.cst (.int (69621)))))]) (.cst (.int (2147483629))))), (.put 0 (.cst (.int (1))) (.bin .mod (.bi .int [(.bin .add (.bin .mul (.var 3) (.bin .add (.bin .fdiv (.var 3) (.cst (.int (4099)))) (.bin .mul (.cst (.int (3))) (.ixv 0 (.cst (.int (2))))))) (.cst (.int (16807))))]) (.cst (.int (2147483629))))), (.ret (.bin .mod (.bi .int [(.bin .fdiv (.ixv 0 (.cst (.int (1)))) (.cst (.int (257))))]) (.var 1)))]
def dip : FnD := ⟨true, runB true 2 4 dipI⟩
def oneOfI : List IS := [(.ret (.ixv 1 (.callm F1.dip 0 [(.lenv 1)])))]
def oneOf : FnD := ⟨true, runB true 2 2 oneOfI⟩
def gcdI : List IS := [(.par [0, 1] [(.bi .abs [(.var 0)]), (.bi .abs [(.var 1)])]), (.whl (.cmp .gt (.var 1) (.cst (.int (0)))) [(.par [0, 1] [(.var 1), (.bin .mod (.bi .int [(.var 0)]) (.var 1))])]), (.ret (.var 0))]
def gcd : FnD := ⟨false, runB false 2 2 gcdI⟩
def pailI : List IS := [(.set 2 (.ite (.cmp .lt (.var 1) (.lenv 0)) (.bi .int [(.ixv 0 (.var 1))]) (.bin .add (.bin .mul (.cst (.int (977))) (.var 1)) (.cst (.int (41)))))), (.set 3 (.bin .add (.cst (.int (51043))) (.bin .mul (.cst (.int (8009))) (.var 1)))), (.fr (.nm 4) .seq [(.slc false true (.var 0) (.cst .none) (.cst (.int (9))))] [(.set 3 (.bin .mod (.bi .int [(.bin .add (.bin .add (.bin .mul (.var 3) (.cst (.int (69069)))) (.bin .mul (.bin .mod (.bi .int [(.var 4)]) (.cst (.int (998244353)))) (.cst (.int (31))))) (.cst (.int (7))))]) (.cst (.int (2147483629)))))]), (.set 5 (.or (.cmp .lt (.var 2) (.cst (.int (0)))) (.cmp .ge (.var 2) (.bin .pow (.cst (.int (10))) (.cst (.int (15))))))), (.ret (.lst [(.ite (.var 5) (.bi .abs [(.var 2)]) (.cst (.int (0)))), (.bin .mod (.bi .int [(.bin .add (.bin .add (.bin .mul (.var 3) (.cst (.int (89)))) (.bin .mul (.bin .mod (.bi .int [(.var 2)]) (.cst (.int (998244353)))) (.cst (.int (20011))))) (.cst (.int (5))))]) (.cst (.int (2147483629)))), (.cst (.int (0)))]))]
def pail : FnD := ⟨false, runB false 2 6 pailI⟩
@[simp] theorem mt_dip : dip.mt = true := rfl
@[simp] theorem mt_oneOf : oneOf.mt = true := rfl
@[simp] theorem mt_gcd : gcd.mt = false := rfl
@[simp] theorem mt_pail : pail.mt = false := rfl
def Pail (c : Int) (l : List D) : Prop := ∃ p0 p1 p2 : Int, l = [.int p0, .int p1, .int p2] ∧ 0 ≤ p1 ∧ p1 < 2147483629 ∧ 0 ≤ p2 ∧ p2 ≤ c
theorem Pail.up {c d : Int} {l : List D} (h : Pail c l) (hd : c ≤ d) : Pail d l := by
  obtain ⟨p0, p1, p2, e, a, b, c, d⟩ := h
  exact ⟨p0, p1, p2, e, a, b, c, by omega⟩
@[simp] theorem ixN3_0 : L2.ixN 3 0 = some 0 := rfl
@[simp] theorem ixN3_1 : L2.ixN 3 1 = some 1 := rfl
@[simp] theorem ixN3_2 : L2.ixN 3 2 = some 2 := rfl
theorem gcd_step {a b : Int} (ha : 0 ≤ a) (hb : 0 ≤ b) : Int.gcd a b = Int.gcd b (a % b) := by
  obtain ⟨m, rfl⟩ := Int.eq_ofNat_of_zero_le ha
  obtain ⟨n, rfl⟩ := Int.eq_ofNat_of_zero_le hb
  rw [← Int.natCast_emod]
  show Nat.gcd m n = Nat.gcd n (m % n)
  rw [Nat.gcd_comm m n, Nat.gcd_rec n m, Nat.gcd_comm]
theorem evW_succ {c : Ga → Option (Bool × Ga)} {b : Ga → Option Out} {n : Nat} {Γ : Ga} : evW c b (n + 1) Γ = (c Γ).bind fun (t, Γ) => if t then (b Γ).bind (onTurn (evW c b n)) else some (.nx Γ) := rfl
theorem gcd_loop {n : Nat} : ∀ {a b : Int}, 0 ≤ a → 0 ≤ b → b < 2 ^ n → evW (evT (.cmp .gt (.var 1) (.cst (.int (0))))) (evB [(.par [0, 1] [(.var 1), (.bin .mod (.bi .int [(.var 0)]) (.var 1))])]) (2 * n + 1) [.fz (.int a), .fz (.int b)] =
    some (.nx [.fz (.int (Int.gcd a b)), .fz (.int 0)]) := by
  induction n with
  | zero =>
    intro a b ha hb h
    obtain rfl : b = 0 := by simp at h; omega
    have e : (a.natAbs : Int) = a := by omega
    simp [evW, e]
  | succ n ih =>
    intro a b ha hb h
    rw [show 2 * (n + 1) + 1 = (2 * n + 1) + 1 + 1 from by omega]
    by_cases h0 : b = 0
    · subst h0
      have e : (a.natAbs : Int) = a := by omega
      simp [evW, e]
    · have hb1 : 0 < b := by omega
      have f1 : a.fmod b = a % b := Int.fmod_eq_emod_of_nonneg a hb
      have r0 : 0 ≤ a % b := Int.emod_nonneg a h0
      have r1 : a % b < b := Int.emod_lt_of_pos a hb1
      have g1 : Int.gcd a b = Int.gcd b (a % b) := gcd_step ha hb
      rw [evW_succ]
      by_cases h2 : a % b = 0
      · have e : (b.natAbs : Int) = b := by omega
        have g2 : (Int.gcd a b : Int) = b := by rw [g1, h2]; simp [e]
        simp [hb1, h0, f1, h2, g2]
        rw [show 2 * n + 2 = (2 * n + 1) + 1 from rfl, evW_succ]
        simp
      · have hr1 : 0 < a % b := by omega
        have f2 : b.fmod (a % b) = b % (a % b) := Int.fmod_eq_emod_of_nonneg b r0
        have s0 : 0 ≤ b % (a % b) := Int.emod_nonneg b h2
        have s1 : b % (a % b) < a % b := Int.emod_lt_of_pos b hr1
        have s2 : b % (a % b) < 2 ^ n := by
          have := Int.mul_ediv_add_emod b (a % b)
          have q1 : 1 ≤ b / (a % b) := by
            rw [Int.le_ediv_iff_mul_le hr1]; omega
          have : (a % b) * 1 ≤ (a % b) * (b / (a % b)) := Int.mul_le_mul_of_nonneg_left q1 r0
          have e2 : (2 : Int) ^ (n + 1) = 2 ^ n * 2 := Int.pow_succ 2 n
          omega
        have g2 : Int.gcd b (a % b) = Int.gcd (a % b) (b % (a % b)) := gcd_step hb r0
        have q := ih (a := a % b) (b := b % (a % b)) r0 s0 s2
        rw [g1, g2]
        simp [hb1, h0, f1]
        rw [show 2 * n + 2 = (2 * n + 1) + 1 from rfl, evW_succ]
        simp [hr1, h2, f2]
        exact q
theorem gcd_run {n : Nat} {a b : Int} (h : Sz n b) (hn : n ≤ 100000000 := by omega) : gcd.run [.int a, .int b] = some (.fz (.int (Int.gcd a b)), []) := by
  have q := gcd_loop (n := n) (a := if a < 0 then -a else a) (b := if b < 0 then -b else b) (by split <;> omega) (by split <;> omega) (by
    have h1 : b.natAbs < 2 ^ n := h
    have h2 : ((b.natAbs : Nat) : Int) < ((2 ^ n : Nat) : Int) := Int.ofNat_lt.mpr h1
    rw [Int.natCast_pow] at h2
    have h3 : (if b < 0 then -b else b) = ((b.natAbs : Nat) : Int) := by split <;> omega
    rw [h3]
    exact h2)
  have q := evW_up (m := WF) q (by unfold WF; omega)
  have g : Int.gcd (if a < 0 then -a else a) (if b < 0 then -b else b) = Int.gcd a b := by
    split <;> split <;> simp
  rw [g] at q
  simp [gcd, runB, List.replicate, gcdI, v_whl, q]
end F1
end EvL

set_option Elab.async false
set_option linter.all false
set_option maxRecDepth 100000
namespace EvL
open PySem PySem.Spec PyProof.Rows

/-! ### reduced fractions -/
def sg (n m : Int) : Int := if 0 < m then (Int.gcd n m : Int) else -(Int.gcd n m : Int)
/-- n/m in least terms -/
def fr (n m : Int) : Int × Int := (n.fdiv (sg n m), m.fdiv (sg n m))
theorem sg_ne {n m : Int} (h : m ≠ 0) : sg n m ≠ 0 := by
  have : (Int.gcd n m : Int) ≠ 0 := by
    intro z
    have z' : Int.gcd n m = 0 := by exact_mod_cast z
    exact h (Int.gcd_eq_zero_iff.mp z').2
  unfold sg
  split <;> omega
theorem sg_dvd (n m : Int) : sg n m ∣ n ∧ sg n m ∣ m := by
  unfold sg
  split
  · exact ⟨Int.gcd_dvd_left .., Int.gcd_dvd_right ..⟩
  · exact ⟨Int.neg_dvd.mpr (Int.gcd_dvd_left ..), Int.neg_dvd.mpr (Int.gcd_dvd_right ..)⟩
theorem fr_mul (n m : Int) (h : m ≠ 0) : n = sg n m * (fr n m).1 ∧ m = sg n m * (fr n m).2 := by
  obtain ⟨⟨a, ha⟩, ⟨b, hb⟩⟩ := sg_dvd n m
  have h0 := sg_ne (n := n) h
  have e : ∀ {x c : Int}, x = sg n m * c → x = sg n m * x.fdiv (sg n m) := fun {x c} e => by
    have : x.fdiv (sg n m) = c := by
      conv => lhs; rw [e]
      exact Int.mul_fdiv_cancel_left _ h0
    rw [this]; exact e
  exact ⟨e ha, e hb⟩
theorem fr_pos {n m : Int} (h : m ≠ 0) : 0 < (fr n m).2 := by
  have e := (fr_mul n m h).2
  have h0 := sg_ne (n := n) h
  generalize (fr n m).2 = q at e
  have gp : 0 ≤ (Int.gcd n m : Int) := Int.natCast_nonneg _
  by_cases hm : 0 < m
  · have hs : 0 < sg n m := by have : sg n m = _ := if_pos hm; omega
    exact Int.pos_of_mul_pos_right (by omega) hs
  · have hs : sg n m < 0 := by have : sg n m = _ := if_neg hm; omega
    have h1 : 0 < (-sg n m) * q := by
      have : (-sg n m) * q = -(sg n m * q) := Int.neg_mul ..
      omega
    exact Int.pos_of_mul_pos_right h1 (by omega)
theorem fr_cop {n m : Int} (h : m ≠ 0) : Int.gcd (fr n m).1 (fr n m).2 = 1 := by
  obtain ⟨e1, e2⟩ := fr_mul n m h
  have h0 := sg_ne (n := n) h
  have hs : (sg n m).natAbs = Int.gcd n m := by unfold sg; split <;> simp
  have h1 : Int.gcd n m = (sg n m).natAbs * Int.gcd (fr n m).1 (fr n m).2 := by
    have := Int.gcd_mul_left (sg n m) (fr n m).1 (fr n m).2
    rw [← e1, ← e2] at this
    exact this
  rw [hs] at h1
  have h2 : 0 < Int.gcd n m := by
    rw [← hs]; omega
  have h3 : Int.gcd n m * 1 = Int.gcd n m * Int.gcd (fr n m).1 (fr n m).2 := by omega
  exact (Nat.eq_of_mul_eq_mul_left h2 h3).symm
theorem fr_cross {n m : Int} (h : m ≠ 0) : n * (fr n m).2 = (fr n m).1 * m := by
  obtain ⟨e1, e2⟩ := fr_mul n m h
  generalize (fr n m).1 = p at *
  generalize (fr n m).2 = q at *
  generalize sg n m = s at *
  subst e1; subst e2
  grind
theorem cop_dvd {q s p : Int} (h : q ∣ s * p) (g : Int.gcd q p = 1) : q ∣ s := by
  have h1 : q.natAbs ∣ s.natAbs * p.natAbs := by rw [← Int.natAbs_mul]; exact Int.natAbs_dvd_natAbs.mpr h
  exact Int.natAbs_dvd_natAbs.mp ((show Nat.Coprime q.natAbs p.natAbs from g).dvd_of_dvd_mul_right h1)
theorem cop_uniq {p q r s : Int} (hq : 0 < q) (hs : 0 < s) (h1 : Int.gcd p q = 1) (h2 : Int.gcd r s = 1) (h : p * s = r * q) : p = r ∧ q = s := by
  have d1 : q ∣ s := by
    have : q ∣ s * p := ⟨r, by rw [Int.mul_comm, h, Int.mul_comm]⟩
    exact cop_dvd this (by rw [Int.gcd_comm]; exact h1)
  have d2 : s ∣ q := by
    have : s ∣ q * r := ⟨p, by rw [Int.mul_comm, ← h, Int.mul_comm]⟩
    exact cop_dvd this (by rw [Int.gcd_comm]; exact h2)
  have e : q = s := Int.dvd_antisymm (by omega) (by omega) d1 d2
  subst e
  exact ⟨Int.eq_of_mul_eq_mul_right (by omega) h, rfl⟩
theorem fr_sz {a b : Nat} {n m : Int} (h : m ≠ 0) (h1 : Sz a n) (h2 : Sz b m) : Sz a (fr n m).1 ∧ Sz b (fr n m).2 := by
  obtain ⟨e1, e2⟩ := fr_mul n m h
  have h0 := sg_ne (n := n) h
  have key : ∀ {x c : Int} {k : Nat}, x = sg n m * c → Sz k x → Sz k c := fun {x c k} e hx => by
    unfold Sz at *
    rw [e, Int.natAbs_mul] at hx
    exact Nat.lt_of_le_of_lt (Nat.le_mul_of_pos_left _ (by omega)) hx
  exact ⟨key e1 h1, key e2 h2⟩
/-- a fraction in least terms -/
def Fr (x : Int × Int) : Prop := 0 < x.2 ∧ Int.gcd x.1 x.2 = 1
theorem Fr.fr {n m : Int} (h : m ≠ 0) : Fr (fr n m) := ⟨fr_pos h, fr_cop h⟩
def fD (x : Int × Int) : D := .tuple [.int x.1, .int x.2]
end EvL

set_option Elab.async false
set_option linter.all false
set_option maxRecDepth 100000
namespace EvL
/-! ### numbers a + b i with rational parts -/
@[ext] structure GQ where
  re : Rat
  im : Rat
  deriving DecidableEq
namespace GQ
def ofR (r : Rat) : GQ := ⟨r, 0⟩
instance : Add GQ := ⟨fun x y => ⟨x.re + y.re, x.im + y.im⟩⟩
instance : Sub GQ := ⟨fun x y => ⟨x.re - y.re, x.im - y.im⟩⟩
instance : Mul GQ := ⟨fun x y => ⟨x.re * y.re - x.im * y.im, x.re * y.im + x.im * y.re⟩⟩
instance : Neg GQ := ⟨fun x => ⟨-x.re, -x.im⟩⟩
def bent (x : GQ) : GQ := ⟨x.re, -x.im⟩
def size (x : GQ) : Rat := x.re * x.re + x.im * x.im
instance : Inv GQ := ⟨fun x => ⟨x.re / x.size, -x.im / x.size⟩⟩
instance : Div GQ := ⟨fun x y => x * y⁻¹⟩
instance : NatCast GQ := ⟨fun n => ⟨(n : Rat), 0⟩⟩
instance : IntCast GQ := ⟨fun n => ⟨(n : Rat), 0⟩⟩
instance (n : Nat) : OfNat GQ n := ⟨⟨(n : Rat), 0⟩⟩
instance : SMul Nat GQ := ⟨fun n x => (n : GQ) * x⟩
instance : SMul Int GQ := ⟨fun n x => (n : GQ) * x⟩
def npow (x : GQ) : Nat → GQ
  | 0 => 1
  | n + 1 => npow x n * x
instance : HPow GQ Nat GQ := ⟨npow⟩
def zpow (x : GQ) : Int → GQ
  | .ofNat n => npow x n
  | .negSucc n => (npow x (n + 1))⁻¹
instance : HPow GQ Int GQ := ⟨zpow⟩
@[simp] theorem add_re (x y : GQ) : (x + y).re = x.re + y.re := rfl
@[simp] theorem add_im (x y : GQ) : (x + y).im = x.im + y.im := rfl
@[simp] theorem sub_re (x y : GQ) : (x - y).re = x.re - y.re := rfl
@[simp] theorem sub_im (x y : GQ) : (x - y).im = x.im - y.im := rfl
@[simp] theorem mul_re (x y : GQ) : (x * y).re = x.re * y.re - x.im * y.im := rfl
@[simp] theorem mul_im (x y : GQ) : (x * y).im = x.re * y.im + x.im * y.re := rfl
@[simp] theorem neg_re (x : GQ) : (-x).re = -x.re := rfl
@[simp] theorem neg_im (x : GQ) : (-x).im = -x.im := rfl
@[simp] theorem inv_re (x : GQ) : (x⁻¹).re = x.re / x.size := rfl
@[simp] theorem inv_im (x : GQ) : (x⁻¹).im = -x.im / x.size := rfl
@[simp] theorem bent_re (x : GQ) : x.bent.re = x.re := rfl
@[simp] theorem bent_im (x : GQ) : x.bent.im = -x.im := rfl
@[simp] theorem ofR_re (r : Rat) : (ofR r).re = r := rfl
@[simp] theorem ofR_im (r : Rat) : (ofR r).im = 0 := rfl
@[simp] theorem ofNat_re (n : Nat) : (OfNat.ofNat n : GQ).re = (n : Rat) := rfl
@[simp] theorem ofNat_im (n : Nat) : (OfNat.ofNat n : GQ).im = 0 := rfl
@[simp] theorem zero_re : (0 : GQ).re = 0 := rfl
@[simp] theorem zero_im : (0 : GQ).im = 0 := rfl
@[simp] theorem one_re : (1 : GQ).re = 1 := rfl
@[simp] theorem one_im : (1 : GQ).im = 0 := rfl
@[simp] theorem natCast_re (n : Nat) : (n : GQ).re = (n : Rat) := rfl
@[simp] theorem natCast_im (n : Nat) : (n : GQ).im = 0 := rfl
@[simp] theorem intCast_re (n : Int) : (n : GQ).re = (n : Rat) := rfl
@[simp] theorem intCast_im (n : Int) : (n : GQ).im = 0 := rfl
theorem div_def (x y : GQ) : x / y = x * y⁻¹ := rfl
theorem sq_nonneg (a : Rat) : 0 ≤ a * a := by
  rcases (Rat.le_total (a := 0) (b := a)) with h | h
  · exact Rat.mul_nonneg h h
  · have : 0 ≤ (-a) * (-a) := Rat.mul_nonneg (by grind) (by grind)
    grind
theorem size_nonneg (x : GQ) : 0 ≤ x.size := by
  have h1 := sq_nonneg x.re
  have h2 := sq_nonneg x.im
  unfold size; grind
theorem size_eq_zero {x : GQ} : x.size = 0 ↔ x = 0 := by
  constructor
  · intro h
    have h1 := sq_nonneg x.re
    have h2 := sq_nonneg x.im
    unfold size at h
    have h3 : x.re * x.re = 0 := by grind
    have h4 : x.im * x.im = 0 := by grind
    have z : ∀ a : Rat, a * a = 0 → a = 0 := fun a h => by
      rcases Rat.mul_eq_zero.mp h with h | h <;> exact h
    exact GQ.ext (z _ h3) (z _ h4)
  · rintro rfl; simp [size]; grind
theorem size_ne {x : GQ} (h : x ≠ 0) : x.size ≠ 0 := fun z => h (size_eq_zero.mp z)
instance : Lean.Grind.CommRing GQ where
  nsmul := inferInstance
  npow := inferInstance
  zsmul := inferInstance
  ofNat := inferInstance
  natCast := inferInstance
  intCast := inferInstance
  add_zero a := by ext <;> simp <;> grind
  add_comm a b := by ext <;> simp <;> grind
  add_assoc a b c := by ext <;> simp <;> grind
  mul_assoc a b c := by ext <;> simp <;> grind
  mul_one a := by ext <;> simp <;> grind
  one_mul a := by ext <;> simp <;> grind
  right_distrib a b c := by ext <;> simp <;> grind
  mul_zero a := by ext <;> simp <;> grind
  left_distrib a b c := by ext <;> simp <;> grind
  zero_mul a := by ext <;> simp <;> grind
  pow_zero a := rfl
  pow_succ a n := rfl
  ofNat_succ n := by
    refine GQ.ext ?_ ?_
    · show ((n + 1 : Nat) : Rat) = (n : Rat) + 1
      exact Rat.natCast_add ..
    · show (0 : Rat) = 0 + 0
      grind
  ofNat_eq_natCast n := rfl
  nsmul_eq_natCast_mul n a := rfl
  neg_add_cancel a := by ext <;> simp <;> grind
  sub_eq_add_neg a b := by ext <;> simp <;> grind
  neg_zsmul i a := by
    show ((-i : Int) : GQ) * a = -((i : GQ) * a)
    ext <;> simp [Rat.intCast_neg] <;> grind
  zsmul_natCast_eq_nsmul n a := by
    show ((n : Int) : GQ) * a = (n : GQ) * a
    rfl
  intCast_ofNat n := by
    refine GQ.ext ?_ rfl
    show ((OfNat.ofNat n : Int) : Rat) = (n : Rat)
    exact Rat.intCast_natCast n
  intCast_neg i := by
    refine GQ.ext ?_ ?_
    · exact Rat.intCast_neg i
    · show (0 : Rat) = -0
      simp
  mul_comm a b := by ext <;> simp <;> grind
theorem mul_inv_cancel' {a : GQ} (h : a ≠ 0) : a * a⁻¹ = 1 := by
  have hs := size_ne h
  have e : a.size = a.re * a.re + a.im * a.im := rfl
  ext <;> simp <;> grind
theorem inv0 : (0 : GQ)⁻¹ = 0 := by
  ext <;> simp [size] <;> grind
theorem inv1 : (1 : GQ)⁻¹ = 1 := by
  ext <;> simp [size] <;> grind
instance : Lean.Grind.Field GQ where
  zpow := inferInstance
  div_eq_mul_inv a b := rfl
  zero_ne_one := fun h => by
    have := congrArg GQ.re h
    revert this; decide
  inv_zero := inv0
  mul_inv_cancel := mul_inv_cancel'
  zpow_zero a := rfl
  zpow_succ a n := rfl
  zpow_neg a n := by
    show zpow a (-n) = (zpow a n)⁻¹
    have ii : ∀ x : GQ, x⁻¹⁻¹ = x := fun x => by
      by_cases h : x = 0
      · subst h; rw [inv0, inv0]
      · have h1 := mul_inv_cancel' h
        have h0 : x⁻¹ ≠ 0 := fun z => by
          rw [z] at h1
          have := congrArg GQ.re h1
          simp at this
          grind
        have h2 := mul_inv_cancel' h0
        grind
    match n with
    | .ofNat 0 => exact inv1.symm
    | .ofNat (n + 1) => rfl
    | .negSucc n => exact (ii _).symm
instance : Lean.Grind.IsCharP GQ 0 where
  ofNat_ext_iff {x y} := by
    constructor
    · intro h
      have := congrArg GQ.re h
      have h2 : (x : Rat) = (y : Rat) := this
      have : x = y := by exact_mod_cast h2
      simp [this]
    · intro h
      have : x = y := by simpa using h
      rw [this]
end GQ
example (a b c d: GQ) (h : b ≠ 0)  (h : d ≠ 0) : a / b + c / d = (a * d + c*b)/ (b*d) := by grind
example (a b : GQ) (h : a*a = b * b) (g : a + b ≠ 0) : a = b := by grind
end EvL

set_option Elab.async false
set_option linter.all false
set_option maxRecDepth 100000
set_option maxHeartbeats 4000000
namespace EvL
open PySem PySem.Spec PyProof.Rows

/-! ### fractions and numbers as data -/
def qD (r : Rat) : D := .tuple [.int r.num, .int r.den]
def gD (z : GQ) : D := .tuple [qD z.re, qD z.im]
theorem den_pos (r : Rat) : 0 < (r.den : Int) := by have := r.den_nz; omega
theorem den_ne (r : Rat) : (r.den : Int) ≠ 0 := by have := r.den_nz; omega
theorem ic_ne {n : Int} (h : n ≠ 0) : (n : Rat) ≠ 0 := fun z => h (Rat.intCast_eq_zero_iff.mp z)
theorem num_gcd (r : Rat) : Int.gcd r.num r.den = 1 := r.reduced
theorem num_den' (r : Rat) : r = (r.num : Rat) / ((r.den : Int) : Rat) := by
  have := Rat.num_divInt_den r
  rw [Rat.divInt_eq_div] at this
  exact this.symm
theorem fr_rat {n m : Int} (h : m ≠ 0) : fr n m = (((n : Rat) / (m : Rat)).num, (((n : Rat) / (m : Rat)).den : Int)) := by
  have e := num_den' ((n : Rat) / (m : Rat))
  generalize hr : (n : Rat) / (m : Rat) = r at e ⊢
  have hm := ic_ne h
  have hd := ic_ne (den_ne r)
  have c1 := fr_cross (n := n) h
  have c2 : n * (r.den : Int) = r.num * m := by
    have : (n : Rat) * ((r.den : Int) : Rat) = (r.num : Rat) * (m : Rat) := by
      have q : (n : Rat) = r * (m : Rat) := by rw [← hr]; grind
      grind
    exact_mod_cast this
  have c3 : (fr n m).1 * (r.den : Int) = r.num * (fr n m).2 := by
    refine Int.eq_of_mul_eq_mul_right h ?_
    generalize (fr n m).1 = p at *
    generalize (fr n m).2 = q at *
    generalize (r.den : Int) = s at *
    generalize r.num = t at *
    grind
  obtain ⟨a, b⟩ := cop_uniq (fr_pos h) (den_pos r) (fr_cop h) (num_gcd r) c3
  exact Prod.ext a b
theorem fD_rat {n m : Int} (h : m ≠ 0) : fD (fr n m) = qD ((n : Rat) / (m : Rat)) := by rw [fr_rat h]; rfl
/-! sizes -/
def Qz (b : Nat) (r : Rat) : Prop := Sz b r.num ∧ Sz b r.den
theorem Qz.of {b : Nat} {n d : Int} (h : d ≠ 0) (h1 : Sz b n) (h2 : Sz b d) : Qz b ((n : Rat) / (d : Rat)) := by
  have := fr_sz h h1 h2
  rw [fr_rat h] at this
  exact this
theorem Qz.mono {a b : Nat} {r : Rat} (h : Qz a r) (hb : a ≤ b) : Qz b r := ⟨h.1.mono hb, h.2.mono hb⟩
/-- both parts over one whole number -/
def Gz (b : Nat) (z : GQ) : Prop := ∃ n m d : Int, 0 < d ∧ z.re = (n : Rat) / (d : Rat) ∧ z.im = (m : Rat) / (d : Rat) ∧ Sz b n ∧ Sz b m ∧ Sz b d
theorem Gz.mono {a b : Nat} {z : GQ} (h : Gz a z) (hb : a ≤ b) : Gz b z := by
  obtain ⟨n, m, d, h0, h1, h2, s1, s2, s3⟩ := h
  exact ⟨n, m, d, h0, h1, h2, s1.mono hb, s2.mono hb, s3.mono hb⟩
theorem Gz.re {b : Nat} {z : GQ} (h : Gz b z) : Qz b z.re := by
  obtain ⟨n, m, d, h0, h1, h2, s1, s2, s3⟩ := h
  rw [h1]; exact Qz.of (by omega) s1 s3
theorem Gz.im {b : Nat} {z : GQ} (h : Gz b z) : Qz b z.im := by
  obtain ⟨n, m, d, h0, h1, h2, s1, s2, s3⟩ := h
  rw [h2]; exact Qz.of (by omega) s2 s3
theorem ic_mul (a b : Int) : ((a * b : Int) : Rat) = (a : Rat) * (b : Rat) := Rat.intCast_mul a b
theorem ic_add (a b : Int) : ((a + b : Int) : Rat) = (a : Rat) + (b : Rat) := Rat.intCast_add a b
theorem ic_sub (a b : Int) : ((a - b : Int) : Rat) = (a : Rat) - (b : Rat) := Rat.intCast_sub a b
theorem ic_neg (a : Int) : ((-a : Int) : Rat) = -(a : Rat) := Rat.intCast_neg a
theorem Gz.add {b c : Nat} {x y : GQ} (h : Gz b x) (g : Gz c y) : Gz (b + c + 1) (x + y) := by
  obtain ⟨n, m, d, h0, h1, h2, s1, s2, s3⟩ := h
  obtain ⟨n', m', d', g0, g1, g2, t1, t2, t3⟩ := g
  have hd := ic_ne (show d ≠ 0 by omega)
  have gd := ic_ne (show d' ≠ 0 by omega)
  refine ⟨n * d' + n' * d, m * d' + m' * d, d * d', Int.mul_pos h0 g0, ?_, ?_, ((s1.mul t3).add (t1.mul s3)).mono (by omega), ((s2.mul t3).add (t2.mul s3)).mono (by omega), (s3.mul t3).mono (by omega)⟩
  · simp only [GQ.add_re, h1, g1, ic_mul, ic_add]; grind
  · simp only [GQ.add_im, h2, g2, ic_mul, ic_add]; grind
theorem Gz.neg {b : Nat} {x : GQ} (h : Gz b x) : Gz b (-x) := by
  obtain ⟨n, m, d, h0, h1, h2, s1, s2, s3⟩ := h
  refine ⟨-n, -m, d, h0, ?_, ?_, s1.neg, s2.neg, s3⟩
  · simp only [GQ.neg_re, h1, ic_neg]; grind
  · simp only [GQ.neg_im, h2, ic_neg]; grind
theorem Gz.bent {b : Nat} {x : GQ} (h : Gz b x) : Gz b x.bent := by
  obtain ⟨n, m, d, h0, h1, h2, s1, s2, s3⟩ := h
  refine ⟨n, -m, d, h0, ?_, ?_, s1, s2.neg, s3⟩
  · simp only [GQ.bent_re, h1]
  · simp only [GQ.bent_im, h2, ic_neg]; grind
theorem Gz.sub {b c : Nat} {x y : GQ} (h : Gz b x) (g : Gz c y) : Gz (b + c + 1) (x - y) := by
  have : x - y = x + -y := by grind
  rw [this]; exact h.add g.neg
theorem Gz.mul {b c : Nat} {x y : GQ} (h : Gz b x) (g : Gz c y) : Gz (b + c + 1) (x * y) := by
  obtain ⟨n, m, d, h0, h1, h2, s1, s2, s3⟩ := h
  obtain ⟨n', m', d', g0, g1, g2, t1, t2, t3⟩ := g
  have hd := ic_ne (show d ≠ 0 by omega)
  have gd := ic_ne (show d' ≠ 0 by omega)
  refine ⟨n * n' - m * m', n * m' + m * n', d * d', Int.mul_pos h0 g0, ?_, ?_, ((s1.mul t1).sub (s2.mul t2)).mono (by omega), ((s1.mul t2).add (s2.mul t1)).mono (by omega), (s3.mul t3).mono (by omega)⟩
  · simp only [GQ.mul_re, h1, g1, h2, g2, ic_mul, ic_sub]; grind
  · simp only [GQ.mul_im, h1, g1, h2, g2, ic_mul, ic_add]; grind
theorem Gz.inv {b : Nat} {x : GQ} (h : Gz b x) : Gz (2 * b + 1) x⁻¹ := by
  by_cases hx : x = 0
  · subst hx
    rw [GQ.inv0]
    exact ⟨0, 0, 1, by decide, by simp; grind, by simp; grind, Sz.lit (by simp; exact Nat.pow_pos (by decide)), Sz.lit (by simp; exact Nat.pow_pos (by decide)), by unfold Sz; simp⟩
  have hs := GQ.size_ne hx
  obtain ⟨n, m, d, h0, h1, h2, s1, s2, s3⟩ := h
  have hd := ic_ne (show d ≠ 0 by omega)
  have e : x.size = ((n * n + m * m : Int) : Rat) / ((d * d : Int) : Rat) := by
    unfold GQ.size
    rw [h1, h2, ic_mul, ic_add, ic_mul, ic_mul]; grind
  have nz : ((n * n + m * m : Int) : Rat) ≠ 0 := fun z => hs (by rw [e, z]; grind)
  have np : 0 < n * n + m * m := by
    have z : n * n + m * m ≠ 0 := fun z => nz (by rw [z]; rfl)
    have q1 : 0 ≤ n * n := by rcases Int.le_total 0 n with q | q; exact Int.mul_nonneg q q; exact Int.mul_nonneg_of_nonpos_of_nonpos q q
    have q2 : 0 ≤ m * m := by rcases Int.le_total 0 m with q | q; exact Int.mul_nonneg q q; exact Int.mul_nonneg_of_nonpos_of_nonpos q q
    omega
  refine ⟨n * d, -m * d, n * n + m * m, np, ?_, ?_, (s1.mul s3).mono (by omega), (s2.neg.mul s3).mono (by omega), ((s1.mul s1).add (s2.mul s2)).mono (by omega)⟩
  · simp only [GQ.inv_re, e, h1, ic_mul]; rw [ic_add, ic_mul, ic_mul] at nz ⊢; grind
  · simp only [GQ.inv_im, e, h2, ic_mul, ic_neg]; rw [ic_add, ic_mul, ic_mul] at nz ⊢; grind
theorem Gz.lit {b : Nat} {n m d : Int} (h : 0 < d) (h1 : Sz b n) (h2 : Sz b m) (h3 : Sz b d) : Gz b ⟨(n : Rat) / (d : Rat), (m : Rat) / (d : Rat)⟩ := ⟨n, m, d, h, rfl, rfl, h1, h2, h3⟩
theorem Gz.zero {b : Nat} (hb : 1 ≤ b) : Gz b 0 := ⟨0, 0, 1, by decide, by simp; grind, by simp; grind, Sz.mono (a := 1) (Sz.lit (by decide)) hb, Sz.mono (a := 1) (Sz.lit (by decide)) hb, Sz.mono (a := 1) (Sz.lit (by decide)) hb⟩
theorem Gz.one {b : Nat} (hb : 1 ≤ b) : Gz b 1 := ⟨1, 0, 1, by decide, by simp; grind, by simp; grind, Sz.mono (a := 1) (Sz.lit (by decide)) hb, Sz.mono (a := 1) (Sz.lit (by decide)) hb, Sz.mono (a := 1) (Sz.lit (by decide)) hb⟩
theorem Gz.q {b : Nat} {r : Rat} (h : Qz b r) : Gz (b + 1) (GQ.ofR r) :=
  ⟨r.num, 0, r.den, den_pos r, num_den' r, by simp; grind, h.1.mono (by omega), Sz.lit (by simp; exact Nat.pow_pos (by decide)), h.2.mono (by omega)⟩
theorem Qz.add {b c : Nat} {x y : Rat} (h : Qz b x) (g : Qz c y) : Qz (b + c + 1) (x + y) := by
  have := Qz.of (n := x.num * y.den + y.num * x.den) (d := x.den * y.den) (Int.mul_ne_zero (den_ne x) (den_ne y)) (((h.1.mul g.2).add (g.1.mul h.2)).mono (by omega)) ((h.2.mul g.2).mono (show b + c ≤ b + c + 1 by omega))
  have e := num_den' x
  have e' := num_den' y
  have d1 := ic_ne (den_ne x)
  have d2 := ic_ne (den_ne y)
  rw [ic_add, ic_mul, ic_mul, ic_mul] at this
  have q : x + y = ((x.num : Rat) * ((y.den : Int) : Rat) + (y.num : Rat) * ((x.den : Int) : Rat)) / (((x.den : Int) : Rat) * ((y.den : Int) : Rat)) := by
    conv => lhs; rw [e, e']
    grind
  rw [q]; exact this
theorem Qz.neg {b : Nat} {x : Rat} (h : Qz b x) : Qz b (-x) := ⟨h.1.neg, h.2⟩
theorem Qz.sub {b c : Nat} {x y : Rat} (h : Qz b x) (g : Qz c y) : Qz (b + c + 1) (x - y) := by
  have : x - y = x + -y := by grind
  rw [this]; exact h.add g.neg
theorem Qz.mul {b c : Nat} {x y : Rat} (h : Qz b x) (g : Qz c y) : Qz (b + c) (x * y) := by
  have := Qz.of (n := x.num * y.num) (d := x.den * y.den) (Int.mul_ne_zero (den_ne x) (den_ne y)) (h.1.mul g.1) (h.2.mul g.2)
  have e := num_den' x
  have e' := num_den' y
  have d1 := ic_ne (den_ne x)
  have d2 := ic_ne (den_ne y)
  rw [ic_mul, ic_mul] at this
  have q : x * y = ((x.num : Rat) * (y.num : Rat)) / (((x.den : Int) : Rat) * ((y.den : Int) : Rat)) := by
    conv => lhs; rw [e, e']
    grind
  rw [q]; exact this
theorem Gz.size {b : Nat} {x : GQ} (h : Gz b x) : Qz (2 * b + 1) x.size := by
  obtain ⟨n, m, d, h0, h1, h2, s1, s2, s3⟩ := h
  have hd := ic_ne (show d ≠ 0 by omega)
  have e : x.size = ((n * n + m * m : Int) : Rat) / ((d * d : Int) : Rat) := by
    unfold GQ.size
    rw [h1, h2, ic_mul, ic_add, ic_mul, ic_mul]; grind
  rw [e]
  exact Qz.of (by have := Int.mul_pos h0 h0; omega) (((s1.mul s1).add (s2.mul s2)).mono (by omega)) ((s3.mul s3).mono (by omega))
/-! triples -/
def tD (x : Int × Int × Int) : D := .tuple [.int x.1, .int x.2.1, .int x.2.2]
theorem ex_div {g x : Int} (h : g ∣ x) (h0 : g ≠ 0) : x = g * x.fdiv g := by
  obtain ⟨c, hc⟩ := h
  have : x.fdiv g = c := by
    conv => lhs; rw [hc]
    exact Int.mul_fdiv_cancel_left _ h0
  rw [this]; exact hc
def cutG (a b d : Int) : Int := if d < 0 then -(Int.gcd (Int.gcd a b) d : Int) else (Int.gcd (Int.gcd a b) d : Int)
def cut (a b d : Int) : Int × Int × Int := (a.fdiv (cutG a b d), b.fdiv (cutG a b d), d.fdiv (cutG a b d))
theorem cutG_ne {a b d : Int} (h : d ≠ 0) : cutG a b d ≠ 0 := by
  have : (Int.gcd (Int.gcd a b) d : Int) ≠ 0 := by
    intro z
    have z' : Int.gcd (Int.gcd a b) d = 0 := by exact_mod_cast z
    exact h (Int.gcd_eq_zero_iff.mp z').2
  unfold cutG
  split <;> omega
theorem cutG_dvd (a b d : Int) : cutG a b d ∣ a ∧ cutG a b d ∣ b ∧ cutG a b d ∣ d := by
  have h1 : (Int.gcd (Int.gcd a b) d : Int) ∣ (Int.gcd a b : Int) := Int.gcd_dvd_left ..
  have h2 : (Int.gcd (Int.gcd a b) d : Int) ∣ d := Int.gcd_dvd_right ..
  have h3 := Int.dvd_trans h1 (Int.gcd_dvd_left (a := a) (b := b))
  have h4 := Int.dvd_trans h1 (Int.gcd_dvd_right (a := a) (b := b))
  unfold cutG
  split
  · exact ⟨Int.neg_dvd.mpr h3, Int.neg_dvd.mpr h4, Int.neg_dvd.mpr h2⟩
  · exact ⟨h3, h4, h2⟩
theorem cut_mul {a b d : Int} (h : d ≠ 0) : a = cutG a b d * (cut a b d).1 ∧ b = cutG a b d * (cut a b d).2.1 ∧ d = cutG a b d * (cut a b d).2.2 := by
  obtain ⟨h1, h2, h3⟩ := cutG_dvd a b d
  have h0 := cutG_ne (a := a) (b := b) h
  exact ⟨ex_div h1 h0, ex_div h2 h0, ex_div h3 h0⟩
theorem cut_pos {a b d : Int} (h : d ≠ 0) : 0 < (cut a b d).2.2 := by
  have e := (cut_mul (a := a) (b := b) h).2.2
  have h0 := cutG_ne (a := a) (b := b) h
  generalize (cut a b d).2.2 = q at e
  have gp : 0 ≤ (Int.gcd (Int.gcd a b) d : Int) := Int.natCast_nonneg _
  by_cases hm : d < 0
  · have hs : cutG a b d < 0 := by have : cutG a b d = _ := if_pos hm; omega
    have h1 : 0 < (-cutG a b d) * q := by
      have : (-cutG a b d) * q = -(cutG a b d * q) := Int.neg_mul ..
      omega
    exact Int.pos_of_mul_pos_right h1 (by omega)
  · have hs : 0 < cutG a b d := by have : cutG a b d = _ := if_neg hm; omega
    exact Int.pos_of_mul_pos_right (by omega) hs
theorem cut_cop {a b d : Int} (h : d ≠ 0) : Int.gcd (Int.gcd (cut a b d).1 (cut a b d).2.1) (cut a b d).2.2 = 1 := by
  obtain ⟨e1, e2, e3⟩ := cut_mul (a := a) (b := b) h
  have h0 := cutG_ne (a := a) (b := b) h
  have hs : (cutG a b d).natAbs = Int.gcd (Int.gcd a b) d := by unfold cutG; split <;> simp
  have h1 : Int.gcd (Int.gcd a b) d = (cutG a b d).natAbs * Int.gcd (Int.gcd (cut a b d).1 (cut a b d).2.1) (cut a b d).2.2 := by
    generalize cutG a b d = g at *
    have q1 := Int.gcd_mul_left g (cut a b d).1 (cut a b d).2.1
    rw [← e1, ← e2] at q1
    rw [q1]
    have q2 := Int.gcd_mul_left g.natAbs (Int.gcd (cut a b d).1 (cut a b d).2.1) (cut a b d).2.2
    simp only [Int.natAbs_natCast] at q2
    rw [← q2, Int.natCast_mul]
    generalize (Int.gcd (cut a b d).1 (cut a b d).2.1 : Int) = u
    conv => lhs; rw [e3]
    rcases Int.natAbs_eq g with q | q
    · rw [← q]
    · have : g = -(g.natAbs : Int) := q
      conv => lhs; arg 2; rw [this, Int.neg_mul]
      rw [Int.gcd_neg]
  rw [hs] at h1
  have h2 : 0 < Int.gcd (Int.gcd a b) d := by rw [← hs]; omega
  exact (Nat.eq_of_mul_eq_mul_left h2 (by omega : Int.gcd (Int.gcd a b) d * 1 = _)).symm
theorem tri_dvd {a b d a' b' d' : Int} (h1 : a * d' = a' * d) (h2 : b * d' = b' * d) (g : Int.gcd (Int.gcd a b) d = 1) : d ∣ d' := by
  have k1 : d ∣ a * d' := ⟨a', by rw [h1, Int.mul_comm]⟩
  have k2 : d ∣ b * d' := ⟨b', by rw [h2, Int.mul_comm]⟩
  have k3 : d ∣ (Int.gcd a b : Int) * d' := by
    have := Int.dvd_coe_gcd k1 k2
    rw [Int.gcd_mul_right, Int.natCast_mul] at this
    rcases Int.natAbs_eq d' with q | q
    · rw [q]; exact this
    · rw [q, Int.mul_neg]; exact Int.dvd_neg.mpr this
  have k4 : d ∣ d * d' := ⟨d', rfl⟩
  have := Int.dvd_coe_gcd k3 k4
  rw [Int.gcd_mul_right, g, Nat.one_mul] at this
  exact Int.dvd_natAbs.mp this
theorem tri_uniq {a b d a' b' d' : Int} (hd : 0 < d) (hd' : 0 < d') (h1 : a * d' = a' * d) (h2 : b * d' = b' * d) (g : Int.gcd (Int.gcd a b) d = 1) (g' : Int.gcd (Int.gcd a' b') d' = 1) : (a, b, d) = (a', b', d') := by
  have q1 := tri_dvd h1 h2 g
  have q2 := tri_dvd h1.symm h2.symm g'
  have e : d = d' := Int.dvd_antisymm (by omega) (by omega) q1 q2
  subst e
  rw [Int.eq_of_mul_eq_mul_right (by omega) h1, Int.eq_of_mul_eq_mul_right (by omega) h2]
/-- a number as three whole numbers in least terms -/
def tri (z : GQ) : Int × Int × Int := cut (z.re.num * z.im.den) (z.im.num * z.re.den) (z.re.den * z.im.den)
def tN (z : GQ) : D := tD (tri z)
theorem tri_pos (z : GQ) : 0 < (tri z).2.2 := cut_pos (Int.mul_ne_zero (den_ne _) (den_ne _))
theorem tri_ne (z : GQ) : (tri z).2.2 ≠ 0 := by have := tri_pos z; omega
theorem tri_cop (z : GQ) : Int.gcd (Int.gcd (tri z).1 (tri z).2.1) (tri z).2.2 = 1 := cut_cop (Int.mul_ne_zero (den_ne _) (den_ne _))
theorem cut_val {a b d : Int} (h : d ≠ 0) : ((cut a b d).1 : Rat) / ((cut a b d).2.2 : Rat) = (a : Rat) / (d : Rat) ∧ ((cut a b d).2.1 : Rat) / ((cut a b d).2.2 : Rat) = (b : Rat) / (d : Rat) := by
  obtain ⟨e1, e2, e3⟩ := cut_mul (a := a) (b := b) h
  have h0 := ic_ne (cutG_ne (a := a) (b := b) h)
  have hp := ic_ne (show (cut a b d).2.2 ≠ 0 by have := cut_pos (a := a) (b := b) h; omega)
  generalize (cut a b d).1 = p at *
  generalize (cut a b d).2.1 = q at *
  generalize (cut a b d).2.2 = r at *
  generalize cutG a b d = g at *
  subst e1; subst e2; subst e3
  simp only [ic_mul]
  constructor <;> grind
theorem tri_re (z : GQ) : z.re = ((tri z).1 : Rat) / ((tri z).2.2 : Rat) := by
  have := (cut_val (a := z.re.num * z.im.den) (b := z.im.num * z.re.den) (Int.mul_ne_zero (den_ne z.re) (den_ne z.im))).1
  unfold tri
  rw [this, ic_mul, ic_mul]
  have e := num_den' z.re
  have d1 := ic_ne (den_ne z.re)
  have d2 := ic_ne (den_ne z.im)
  grind
theorem tri_im (z : GQ) : z.im = ((tri z).2.1 : Rat) / ((tri z).2.2 : Rat) := by
  have := (cut_val (a := z.re.num * z.im.den) (b := z.im.num * z.re.den) (Int.mul_ne_zero (den_ne z.re) (den_ne z.im))).2
  unfold tri
  rw [this, ic_mul, ic_mul]
  have e := num_den' z.im
  have d1 := ic_ne (den_ne z.re)
  have d2 := ic_ne (den_ne z.im)
  grind
theorem tri_of {a b d : Int} {z : GQ} (h : 0 < d) (g : Int.gcd (Int.gcd a b) d = 1) (h1 : z.re = (a : Rat) / (d : Rat)) (h2 : z.im = (b : Rat) / (d : Rat)) : tri z = (a, b, d) := by
  have e1 := tri_re z
  have e2 := tri_im z
  have p := tri_pos z
  have d1 := ic_ne (show d ≠ 0 by omega)
  have d2 := ic_ne (tri_ne z)
  refine tri_uniq p h ?_ ?_ (tri_cop z) g
  · have : ((tri z).1 : Rat) * (d : Rat) = (a : Rat) * ((tri z).2.2 : Rat) := by grind
    exact_mod_cast this
  · have : ((tri z).2.1 : Rat) * (d : Rat) = (b : Rat) * ((tri z).2.2 : Rat) := by grind
    exact_mod_cast this
theorem tri_cut {a b d : Int} (h : d ≠ 0) : tri ⟨(a : Rat) / (d : Rat), (b : Rat) / (d : Rat)⟩ = cut a b d := by
  obtain ⟨e1, e2⟩ := cut_val (a := a) (b := b) h
  exact tri_of (cut_pos h) (cut_cop h) e1.symm e2.symm
theorem sz_dvd {b : Nat} {g x q : Int} (e : x = g * q) (h : g ≠ 0) (s : Sz b x) : Sz b q := by
  unfold Sz at *
  rw [e, Int.natAbs_mul] at s
  exact Nat.lt_of_le_of_lt (Nat.le_mul_of_pos_left _ (by omega)) s
theorem sz_dvd' {b : Nat} {g x q : Int} (e : x = g * q) (h : x ≠ 0) (s : Sz b x) : Sz b g := by
  unfold Sz at *
  have hq : q ≠ 0 := fun z => by subst z; simp at e; exact h e
  rw [e, Int.natAbs_mul] at s
  exact Nat.lt_of_le_of_lt (Nat.le_mul_of_pos_right _ (by omega)) s
theorem cut_sz {k m : Nat} {a b d : Int} (h : d ≠ 0) (h1 : Sz k a) (h2 : Sz k b) (h3 : Sz m d) : Sz k (cut a b d).1 ∧ Sz k (cut a b d).2.1 ∧ Sz m (cut a b d).2.2 := by
  obtain ⟨e1, e2, e3⟩ := cut_mul (a := a) (b := b) h
  have h0 := cutG_ne (a := a) (b := b) h
  exact ⟨sz_dvd e1 h0 h1, sz_dvd e2 h0 h2, sz_dvd e3 h0 h3⟩
theorem Gz.tri {b : Nat} {z : GQ} (h : Gz b z) : Sz b (tri z).1 ∧ Sz b (tri z).2.1 ∧ Sz b (tri z).2.2 := by
  obtain ⟨n, m, d, h0, h1, h2, s1, s2, s3⟩ := h
  have : z = ⟨(n : Rat) / (d : Rat), (m : Rat) / (d : Rat)⟩ := GQ.ext h1 h2
  rw [this, tri_cut (by omega)]
  exact cut_sz (by omega) s1 s2 s3
theorem tG_inj {x y : GQ} (h : tN x = tN y) : x = y := by
  unfold tN EvL.tD at h
  injection h with h
  injection h with h1 h
  injection h with h2 h
  injection h with h3 h
  injection h1 with h1
  injection h2 with h2
  injection h3 with h3
  refine GQ.ext ?_ ?_
  · rw [tri_re x, tri_re y, h1, h3]
  · rw [tri_im x, tri_im y, h2, h3]
end EvL

set_option Elab.async false
set_option linter.all false
set_option maxRecDepth 100000
namespace EvL
/-! ### loops, once for all -/
theorem evF_ex {α : Type} {f : α → D} {t : Tg} {b : Ga → Option Out} (I : List α → Ga → Prop) {l : List α}
    (step : ∀ p x q Γ, l = p ++ x :: q → I p Γ → ∃ Γ1 Γ2, asg t (f x) Γ = some Γ1 ∧ (b Γ1 = some (.nx Γ2) ∨ b Γ1 = some (.ct Γ2)) ∧ I (p ++ [x]) Γ2) :
    ∀ {q p : List α} {Γ : Ga}, l = p ++ q → I p Γ → ∃ Γ', evF t b (q.map f) Γ = some (.nx Γ') ∧ I l Γ'
  | [], p, Γ, e, h => ⟨Γ, rfl, by rw [e, List.append_nil]; exact h⟩
  | x :: q, p, Γ, e, h => by
    obtain ⟨Γ1, Γ2, e1, e2, h2⟩ := step p x q Γ e h
    obtain ⟨Γ', e3, h3⟩ := evF_ex I step (q := q) (p := p ++ [x]) (by rw [e]; simp) h2
    refine ⟨Γ', ?_, h3⟩
    rw [List.map_cons, evF, e1, Option.bind_some]
    rcases e2 with e2 | e2
    · rw [e2]; exact e3
    · rw [e2]; exact e3
theorem evF_all {α : Type} {f : α → D} {t : Tg} {b : Ga → Option Out} (I : List α → Ga → Prop) {l : List α} {Γ : Ga} (h0 : I [] Γ)
    (step : ∀ p x q Γ, l = p ++ x :: q → I p Γ → ∃ Γ1 Γ2, asg t (f x) Γ = some Γ1 ∧ (b Γ1 = some (.nx Γ2) ∨ b Γ1 = some (.ct Γ2)) ∧ I (p ++ [x]) Γ2) :
    ∃ Γ', evF t b (l.map f) Γ = some (.nx Γ') ∧ I l Γ' := evF_ex I step (p := []) rfl h0
theorem evF_nat {f : Nat → D} {t : Tg} {b : Ga → Option Out} (I : Nat → Ga → Prop) {n : Nat} {Γ : Ga} (h0 : I 0 Γ)
    (step : ∀ i Γ, i < n → I i Γ → ∃ Γ1 Γ2, asg t (f i) Γ = some Γ1 ∧ (b Γ1 = some (.nx Γ2) ∨ b Γ1 = some (.ct Γ2)) ∧ I (i + 1) Γ2) :
    ∃ Γ', evF t b ((List.range n).map f) Γ = some (.nx Γ') ∧ I n Γ' := by
  obtain ⟨Γ', e, h⟩ := evF_all (f := f) (t := t) (b := b) (l := List.range n) (fun p Γ => I p.length Γ) h0 (fun p x q Γ e h => by
    have hp : p.length < n := by
      have := congrArg List.length e
      simp at this; omega
    have hx : x = p.length := by
      have h1 : (List.range n)[p.length]? = some p.length := List.getElem?_range hp
      rw [e] at h1
      simp at h1; exact h1
    subst hx
    obtain ⟨Γ1, Γ2, a, c, d⟩ := step p.length Γ hp h
    exact ⟨Γ1, Γ2, a, c, by simpa using d⟩)
  exact ⟨Γ', e, by simpa using h⟩
/-! slots wiped -/
theorem wipeG_get (Γ : Ga) (vs : List Nat) (i : Nat) : (wipeG Γ vs)[i]? = if i ∈ vs ∧ i < Γ.length then some .un else Γ[i]? := by
  induction vs with
  | nil => simp [wipeG]
  | cons v vs ih =>
    have hl : ∀ (vs : List Nat), (wipeG Γ vs).length = Γ.length := fun vs => by
      induction vs with
      | nil => rfl
      | cons v vs ih => simp [wipeG, ih]
    rw [wipeG, List.getElem?_set, ih, hl]
    by_cases h : v = i
    · subst h
      by_cases h2 : v < Γ.length
      · simp [h2]
      · simp [h2, List.getElem?_eq_none (Nat.le_of_not_lt h2)]
    · rw [if_neg h]
      have : (i ∈ v :: vs) ↔ i ∈ vs := by simp [show i ≠ v from fun z => h z.symm]
      simp only [this]
theorem wipeG_ln (Γ : Ga) (vs : List Nat) : (wipeG Γ vs).length = Γ.length := by
  induction vs with
  | nil => rfl
  | cons v vs ih => simp [wipeG, ih]
theorem back_len (Γ0 Γ : Ga) (vs : List Nat) : (backG Γ0 Γ vs).length = Γ.length := by
  induction vs with
  | nil => rfl
  | cons v vs ih => simp [backG, ih]
theorem wipeG_2 (Γ : Ga) (vs : List Nat) : wipeG (wipeG Γ vs) vs = wipeG Γ vs := by
  refine List.ext_getElem? fun i => ?_
  rw [wipeG_get, wipeG_get, wipeG_ln]
  split <;> rfl
theorem back_get (Γ0 Γ : Ga) (vs : List Nat) (i : Nat) : (backG Γ0 Γ vs)[i]? = if i ∈ vs ∧ i < Γ.length then some (match Γ0[i]? with | some (.fz d) => .fz d | _ => .un) else Γ[i]? := by
  induction vs with
  | nil => simp [backG]
  | cons v vs ih =>
    rw [backG, List.getElem?_set, ih, back_len]
    by_cases h : v = i
    · subst h
      by_cases h2 : v < Γ.length
      · first
          | (simp [h2]; done)
          | (simp [h2]
             cases Γ0[v]? with
             | none => rfl
             | some m => cases m <;> rfl)
      · simp [h2, List.getElem?_eq_none (Nat.le_of_not_lt h2)]
    · rw [if_neg h]
      have : (i ∈ v :: vs) ↔ i ∈ vs := by simp [show i ≠ v from fun z => h z.symm]
      simp only [this]
theorem back_wipe (Γ0 Γ : Ga) (vs : List Nat) : backG Γ0 (wipeG Γ vs) vs = backG Γ0 Γ vs := by
  refine List.ext_getElem? fun i => ?_
  rw [back_get, back_get, wipeG_get, wipeG_ln]
  split <;> rfl
theorem lcLoop_ex {F : D → Ga → Option (Option D × Ga)} (J : Nat → Ga → Prop) (R : D → Prop) : ∀ {xs : List D} {i : Nat} {Γ : Ga}, J i Γ →
    (∀ j x Γ, i ≤ j → xs[j - i]? = some x → J j Γ → ∃ y Γ2, F x Γ = some (some y, Γ2) ∧ R y ∧ J (j + 1) Γ2) →
    ∃ ys Γ', lcLoop F xs Γ = some (ys, Γ') ∧ ys.length = xs.length ∧ (∀ y ∈ ys, R y) ∧ J (i + xs.length) Γ'
  | [], i, Γ, h, _ => ⟨[], Γ, rfl, rfl, (fun _ h => nomatch h), h⟩
  | x :: xs, i, Γ, h, step => by
    obtain ⟨y, Γ2, e1, r1, h1⟩ := step i x Γ (Nat.le_refl _) (by simp) h
    obtain ⟨ys, Γ', e2, l2, r2, h2⟩ := lcLoop_ex J R (xs := xs) (i := i + 1) h1 (fun j x Γ hj hx => step j x Γ (by omega) (by
      rw [show j - i = (j - (i + 1)) + 1 by omega]; exact hx))
    refine ⟨y :: ys, Γ', ?_, by simp [l2], ?_, by rw [List.length_cons, show i + (xs.length + 1) = i + 1 + xs.length by omega]; exact h2⟩
    · rw [lcLoop, e1, Option.bind_some]
      simp only [e2, Option.map_some]
    · intro z hz
      rcases List.mem_cons.mp hz with rfl | hz
      · exact r1
      · exact r2 z hz
/-- a comprehension without ifs: what each element is, in order, and what the turns do to the slots -/
theorem lc_ex {vs : List Nat} {t : Tg} {k : IK} {its : List IE} {elt : IE} {Γ Γ1 : Ga} {ds xs : List D} (J : Nat → Ga → Prop) (R : D → Prop)
    (h1 : evs its Γ = some (ds, Γ1)) (h2 : itD k ds = some xs) (hl : xs.length ≤ 1000000) (h0 : J 0 (wipeG Γ1 vs))
    (step : ∀ j x Γ, xs[j]? = some x → J j (wipeG Γ vs) → ∃ Γ2 y Γ3, asg t x (wipeG Γ vs) = some Γ2 ∧ evX elt Γ2 = some (y, Γ3) ∧ R y.d ∧ J (j + 1) (wipeG Γ3 vs)) :
    ∃ ys Γ5, evX (.lc vs t k its [] elt) Γ = some (.ow ys, backG Γ1 Γ5 vs) ∧ ys.length = xs.length ∧ (∀ y ∈ ys, R y) ∧ J xs.length Γ5 := by
  obtain ⟨ys, Γ5, e, hl', hR, hJ⟩ := lcLoop_ex (F := fun x Γ => (asg t x (wipeG Γ vs)).bind fun Γ2 => (evIfs [] Γ2).bind fun (c, Γ3) =>
          if c then (evX elt Γ3).map fun (y, Γ4) => (some y.d, Γ4) else some (none, Γ3)) (fun i Γ => J i (wipeG Γ vs)) R (xs := xs) (i := 0) (Γ := wipeG Γ1 vs) (by rw [wipeG_2]; exact h0) (fun j x Γ hj hx hJ => by
    obtain ⟨Γ2, y, Γ3, a, b, c, d⟩ := step j x Γ hx hJ
    refine ⟨y.d, Γ3, ?_, c, d⟩
    simp [a, b])
  refine ⟨ys, wipeG Γ5 vs, ?_, hl', hR, by simpa using hJ⟩
  rw [x_lc, h1, Option.bind_some]
  simp only [h2, Option.bind_some, lim_eq, hl, if_true, e, Option.map_some, back_wipe]
/-- .. each element by itself, the slots stay -/
theorem lc_map {α : Type} {f g : α → D} {vs : List Nat} {t : Tg} {k : IK} {its : List IE} {elt : IE} {Γ Γ1 : Ga} {ds : List D} {l : List α}
    (h1 : evs its Γ = some (ds, Γ1)) (h2 : itD k ds = some (l.map f)) (hl : l.length ≤ 1000000)
    (step : ∀ x ∈ l, ∃ Γ2 y Γ3, asg t (f x) (wipeG Γ1 vs) = some Γ2 ∧ evX elt Γ2 = some (y, Γ3) ∧ y.d = g x ∧ wipeG Γ3 vs = wipeG Γ1 vs) :
    evX (.lc vs t k its [] elt) Γ = some (.ow (l.map g), backG Γ1 Γ1 vs) := by
  have key : ∀ (l : List α) (Γ : Ga), wipeG Γ vs = wipeG Γ1 vs → (∀ x ∈ l, ∃ Γ2 y Γ3, asg t (f x) (wipeG Γ1 vs) = some Γ2 ∧ evX elt Γ2 = some (y, Γ3) ∧ y.d = g x ∧ wipeG Γ3 vs = wipeG Γ1 vs) →
      ∃ Γ5, lcLoop (fun x Γ => (asg t x (wipeG Γ vs)).bind fun Γ2 => (evIfs [] Γ2).bind fun (c, Γ3) =>
          if c then (evX elt Γ3).map fun (y, Γ4) => (some y.d, Γ4) else some (none, Γ3)) (l.map f) Γ = some (l.map g, Γ5) ∧ wipeG Γ5 vs = wipeG Γ1 vs := by
    intro l
    induction l with
    | nil => intro Γ h _; exact ⟨Γ, rfl, h⟩
    | cons x l ih =>
      intro Γ h st
      obtain ⟨Γ2, y, Γ3, a, b, c, d⟩ := st x (List.mem_cons_self ..)
      obtain ⟨Γ5, e5, h5⟩ := ih Γ3 d fun y hy => st y (List.mem_cons_of_mem _ hy)
      refine ⟨Γ5, ?_, h5⟩
      rw [List.map_cons, lcLoop, h, a, Option.bind_some]
      simp [b] at e5 ⊢
      simp [e5, c]
  obtain ⟨Γ5, e5, h5⟩ := key l (wipeG Γ1 vs) (wipeG_2 _ _) step
  rw [x_lc, h1, Option.bind_some]
  simp only [h2, Option.bind_some, lim_eq, List.length_map, hl, if_true, e5, Option.map_some]
  rw [← back_wipe Γ1 Γ5, h5, back_wipe]
/-- .. and with an if -/
theorem lc_filter {α : Type} {f g : α → D} {c : α → Bool} {vs : List Nat} {t : Tg} {k : IK} {its : List IE} {ifs : List IE} {elt : IE} {Γ Γ1 : Ga} {ds : List D} {l : List α}
    (h1 : evs its Γ = some (ds, Γ1)) (h2 : itD k ds = some (l.map f)) (hl : l.length ≤ 1000000)
    (step : ∀ x ∈ l, ∃ Γ2 Γ3, asg t (f x) (wipeG Γ1 vs) = some Γ2 ∧ evIfs ifs Γ2 = some (c x, Γ3) ∧ (c x = false → wipeG Γ3 vs = wipeG Γ1 vs) ∧ (c x = true → ∃ y Γ4, evX elt Γ3 = some (y, Γ4) ∧ y.d = g x ∧ wipeG Γ4 vs = wipeG Γ1 vs)) :
    evX (.lc vs t k its ifs elt) Γ = some (.ow ((l.filter c).map g), backG Γ1 Γ1 vs) := by
  have key : ∀ (l : List α) (Γ : Ga), wipeG Γ vs = wipeG Γ1 vs → (∀ x ∈ l, ∃ Γ2 Γ3, asg t (f x) (wipeG Γ1 vs) = some Γ2 ∧ evIfs ifs Γ2 = some (c x, Γ3) ∧ (c x = false → wipeG Γ3 vs = wipeG Γ1 vs) ∧ (c x = true → ∃ y Γ4, evX elt Γ3 = some (y, Γ4) ∧ y.d = g x ∧ wipeG Γ4 vs = wipeG Γ1 vs)) →
      ∃ Γ5, lcLoop (fun x Γ => (asg t x (wipeG Γ vs)).bind fun Γ2 => (evIfs ifs Γ2).bind fun (c, Γ3) =>
          if c then (evX elt Γ3).map fun (y, Γ4) => (some y.d, Γ4) else some (none, Γ3)) (l.map f) Γ = some ((l.filter c).map g, Γ5) ∧ wipeG Γ5 vs = wipeG Γ1 vs := by
    intro l
    induction l with
    | nil => intro Γ h _; exact ⟨Γ, rfl, h⟩
    | cons x l ih =>
      intro Γ h st
      obtain ⟨Γ2, Γ3, a, b, c0, c1⟩ := st x (List.mem_cons_self ..)
      cases hc : c x with
      | false =>
        obtain ⟨Γ5, e5, h5⟩ := ih Γ3 (c0 hc) fun y hy => st y (List.mem_cons_of_mem _ hy)
        refine ⟨Γ5, ?_, h5⟩
        rw [hc] at b
        rw [List.map_cons, lcLoop, h, a, Option.bind_some, b, Option.bind_some]
        simp [hc] at e5 ⊢
        simp [e5]
      | true =>
        obtain ⟨y, Γ4, b2, b3, d⟩ := c1 hc
        obtain ⟨Γ5, e5, h5⟩ := ih Γ4 d fun y hy => st y (List.mem_cons_of_mem _ hy)
        refine ⟨Γ5, ?_, h5⟩
        rw [hc] at b
        rw [List.map_cons, lcLoop, h, a, Option.bind_some, b, Option.bind_some]
        simp [hc, b2] at e5 ⊢
        simp [e5, b3]
  obtain ⟨Γ5, e5, h5⟩ := key l (wipeG Γ1 vs) (wipeG_2 _ _) step
  rw [x_lc, h1, Option.bind_some]
  simp only [h2, Option.bind_some, lim_eq, List.length_map, hl, if_true, e5, Option.map_some]
  rw [← back_wipe Γ1 Γ5, h5, back_wipe]
/-! ranges -/
theorem rng_len (i j : Int) : (rngD i j).length = (j - i).toNat := by unfold rngD; simp
theorem rng0 (n : Nat) : rngD 0 n = (List.range n).map fun (k : Nat) => PySem.PyData.int k := by
  unfold rngD
  simp
theorem rng0' {j : Int} (n : Nat) (h : j = n) : rngD 0 j = (List.range n).map fun (k : Nat) => PySem.PyData.int k := by rw [h, rng0]
end EvL

set_option Elab.async false
set_option linter.all false
set_option maxRecDepth 100000
namespace EvL
/-! ### rows of numbers -/
namespace Po
section
variable {K : Type} [Lean.Grind.Field K]
def co (p : List K) (k : Nat) : K := p.getD k 0
@[simp] theorem co_nil (k : Nat) : co ([] : List K) k = 0 := rfl
@[simp] theorem co_zero (a : K) (p : List K) : co (a :: p) 0 = a := rfl
@[simp] theorem co_succ (a : K) (p : List K) (k : Nat) : co (a :: p) (k + 1) = co p k := rfl
theorem co_ge {p : List K} {k : Nat} (h : p.length ≤ k) : co p k = 0 := by
  unfold co; rw [List.getD_eq_getElem?_getD, List.getElem?_eq_none h]; rfl
theorem co_lt {p : List K} {k : Nat} (h : k < p.length) : co p k = p[k] := by
  unfold co; rw [List.getD_eq_getElem?_getD, List.getElem?_eq_getElem h]; rfl
theorem co_mapf {f : K → K} (h0 : f 0 = 0) (p : List K) (k : Nat) : co (p.map f) k = f (co p k) := by
  induction p generalizing k with
  | nil => simp [h0]
  | cons a p ih => cases k with
    | zero => rfl
    | succ k => simpa using ih k
/-! sums -/
def sum : Nat → (Nat → K) → K
  | 0, _ => 0
  | n + 1, f => sum n f + f n
@[simp] theorem sum_zero (f : Nat → K) : sum 0 f = 0 := rfl
theorem sum_succ (n : Nat) (f : Nat → K) : sum (n + 1) f = sum n f + f n := rfl
theorem sum_congr {n : Nat} {f g : Nat → K} (h : ∀ k, k < n → f k = g k) : sum n f = sum n g := by
  induction n with
  | zero => rfl
  | succ n ih => rw [sum_succ, sum_succ, ih fun k hk => h k (by omega), h n (by omega)]
theorem sum_add (n : Nat) (f g : Nat → K) : sum n (fun k => f k + g k) = sum n f + sum n g := by
  induction n with
  | zero => simp; grind
  | succ n ih => rw [sum_succ, sum_succ, sum_succ, ih]; grind
theorem sum_mul (n : Nat) (a : K) (f : Nat → K) : sum n (fun k => a * f k) = a * sum n f := by
  induction n with
  | zero => simp; grind
  | succ n ih => rw [sum_succ, sum_succ, ih]; grind
theorem sum_zeros {n : Nat} {f : Nat → K} (h : ∀ k, k < n → f k = 0) : sum n f = 0 := by
  induction n with
  | zero => rfl
  | succ n ih => rw [sum_succ, ih fun k hk => h k (by omega), h n (by omega)]; grind
theorem sum_first (n : Nat) (f : Nat → K) : sum (n + 1) f = f 0 + sum n (fun k => f (k + 1)) := by
  induction n with
  | zero => simp [sum_succ]; grind
  | succ n ih => rw [sum_succ, ih, sum_succ]; grind
theorem sum_more {n m : Nat} (h : n ≤ m) {f : Nat → K} (h0 : ∀ k, n ≤ k → k < m → f k = 0) : sum m f = sum n f := by
  induction m with
  | zero => rw [show n = 0 by omega]
  | succ m ih =>
    by_cases e : n = m + 1
    · rw [e]
    · rw [sum_succ, ih (by omega) fun k h1 h2 => h0 k h1 (by omega), h0 m (by omega) (by omega)]; grind
theorem sum_swap (n m : Nat) (f : Nat → Nat → K) : sum n (fun i => sum m (fun j => f i j)) = sum m (fun j => sum n (fun i => f i j)) := by
  induction n with
  | zero => simp; exact (sum_zeros fun _ _ => rfl).symm
  | succ n ih => rw [sum_succ, ih, ← sum_add]; rfl
/-! values -/
def ev : List K → K → K
  | [], _ => 0
  | a :: p, x => a + x * ev p x
@[simp] theorem ev_nil (x : K) : ev [] x = 0 := rfl
theorem ev_cons (a : K) (p : List K) (x : K) : ev (a :: p) x = a + x * ev p x := rfl
/-! sums and products of rows -/
def add : List K → List K → List K
  | [], q => q
  | a :: p, [] => a :: p
  | a :: p, b :: q => (a + b) :: add p q
theorem co_add : ∀ (p q : List K) (k : Nat), co (add p q) k = co p k + co q k
  | [], q, k => by rw [add]; simp; grind
  | a :: p, [], k => by rw [add]; simp; grind
  | a :: p, b :: q, 0 => rfl
  | a :: p, b :: q, k + 1 => by rw [add]; simpa using co_add p q k
def mul : List K → List K → List K
  | [], _ => []
  | a :: p, q => add (q.map (a * ·)) (0 :: mul p q)
def conv (p q : List K) (k : Nat) : K := sum (k + 1) fun j => co p j * co q (k - j)
theorem conv_nil (q : List K) (k : Nat) : conv [] q k = 0 := sum_zeros fun j _ => by simp; grind
theorem conv_cons (a : K) (p q : List K) (k : Nat) : conv (a :: p) q k = a * co q k + (match k with | 0 => 0 | k + 1 => conv p q k) := by
  unfold conv
  rw [sum_first]
  cases k with
  | zero => simp
  | succ k =>
    simp only [co_zero, co_succ, Nat.sub_zero]
    congr 1
    exact sum_congr fun j hj => by congr 2; omega
theorem co_mul : ∀ (p q : List K) (k : Nat), co (mul p q) k = conv p q k
  | [], q, k => by rw [mul, conv_nil]; rfl
  | a :: p, q, k => by
    rw [mul, co_add, conv_cons, co_mapf (by grind)]
    cases k with
    | zero => rfl
    | succ k => simp only [co_succ, co_mul p q k]
/-- the product's numbers, by the first row alone -/
theorem conv_len {p q : List K} {k n : Nat} (h : p.length ≤ n) : conv p q k = sum n fun j => if j ≤ k then co p j * co q (k - j) else 0 := by
  unfold conv
  by_cases hk : n ≤ k + 1
  · rw [sum_more hk fun j h1 h2 => by rw [co_ge (by omega)]; grind]
    exact sum_congr fun j hj => by rw [if_pos (by omega)]
  · have := sum_more (n := k + 1) (m := n) (f := fun j => if j ≤ k then co p j * co q (k - j) else 0) (by omega) fun j h1 h2 => if_neg (by omega)
    rw [this]
    exact sum_congr fun j hj => by rw [if_pos (by omega)]
end
section
variable {K : Type} [Lean.Grind.Field K] [DecidableEq K]
/-! without noughts at the end -/
def trim : List K → List K
  | [] => []
  | a :: p => match trim p with
    | [] => if a = 0 then [] else [a]
    | b :: q => a :: b :: q
theorem trim_cons_nil {a : K} {p : List K} (h : trim p = []) : trim (a :: p) = if a = 0 then [] else [a] := by rw [trim, h]
theorem trim_cons_ne {a : K} {p : List K} (h : trim p ≠ []) : trim (a :: p) = a :: trim p := by
  rw [trim]
  cases e : trim p with
  | nil => exact absurd e h
  | cons b q => rfl
theorem co_trim (p : List K) : ∀ k, co (trim p) k = co p k := by
  induction p with
  | nil => intro k; rfl
  | cons a p ih =>
    intro k
    by_cases h : trim p = []
    · rw [trim_cons_nil h]
      have z : ∀ k, co p k = 0 := fun k => by rw [← ih k, h]; rfl
      split
      · cases k with
        | zero => simp [*]
        | succ k => simp [z]
      · cases k with
        | zero => rfl
        | succ k => simp [z]
    · rw [trim_cons_ne h]
      cases k with
      | zero => rfl
      | succ k => simpa using ih k
theorem trim_nil_iff (p : List K) : trim p = [] ↔ ∀ k, co p k = 0 := by
  constructor
  · intro h k; rw [← co_trim, h]; rfl
  · intro h
    induction p with
    | nil => rfl
    | cons a p ih =>
      rw [trim_cons_nil (ih fun k => by simpa using h (k + 1)), if_pos (by simpa using h 0)]
theorem trim_congr {p q : List K} (h : ∀ k, co p k = co q k) : trim p = trim q := by
  induction p generalizing q with
  | nil => exact ((trim_nil_iff q).mpr fun k => by rw [← h k]; rfl).symm
  | cons a p ih =>
    cases q with
    | nil => exact (trim_nil_iff _).mpr fun k => by rw [h k]; rfl
    | cons b q =>
      have h0 : a = b := by simpa using h 0
      have h1 := ih (q := q) fun k => by simpa using h (k + 1)
      rw [trim, trim, h1, h0]
theorem trim_trim (p : List K) : trim (trim p) = trim p := trim_congr (co_trim p)
/-- a row: no nought at its end -/
def Row (p : List K) : Prop := trim p = p
theorem Row.trim (p : List K) : Row (trim p) := trim_trim p
theorem Row.nil : Row ([] : List K) := rfl
theorem Row.ext {p q : List K} (h : Row p) (g : Row q) (e : ∀ k, co p k = co q k) : p = q := by rw [← h, ← g]; exact trim_congr e
end
end Po
end EvL

set_option Elab.async false
set_option linter.all false
set_option maxRecDepth 100000
namespace EvL
open PySem PySem.Spec PyProof.Rows L2
namespace Pk
def E__law_gcd_2 : FnE := ⟨"_law_gcd", 2, [], F1.gcd, [.inl 0, .inl 1], []⟩
@[simp] theorem pm_E__law_gcd_2 (a0 a1 : PyData) : E__law_gcd_2.pm [a0, a1] = [a0, a1] := rfl
def ir__law_cut : List IS := [(.set 3 (.call F1.gcd Pk.E__law_gcd_2.pm [(.call F1.gcd Pk.E__law_gcd_2.pm [(.var 0), (.var 1)]), (.var 2)])), (.ife (.cmp .lt (.var 2) (.cst (.int (0)))) [(.set 3 (.bin .sub (.cst (.int (0))) (.var 3)))] []), (.ret (.tup [(.bin .fdiv (.var 0) (.var 3)), (.bin .fdiv (.var 1) (.var 3)), (.bin .fdiv (.var 2) (.var 3))]))]
def _law_cut : FnD := ⟨false, runB false 3 4 ir__law_cut⟩
@[simp] theorem mt__law_cut : _law_cut.mt = false := rfl
def E__law_cut_3 : FnE := ⟨"_law_cut", 3, [], Pk._law_cut, [.inl 0, .inl 1, .inl 2], []⟩
@[simp] theorem pm_E__law_cut_3 (a0 a1 a2 : PyData) : E__law_cut_3.pm [a0, a1, a2] = [a0, a1, a2] := rfl
def ir__law_fraction : List IS := [(.set 2 (.call F1.gcd Pk.E__law_gcd_2.pm [(.var 0), (.var 1)])), (.ife (.cmp .lt (.var 1) (.cst (.int (0)))) [(.set 2 (.bin .sub (.cst (.int (0))) (.var 2)))] []), (.ret (.tup [(.bin .fdiv (.var 0) (.var 2)), (.bin .fdiv (.var 1) (.var 2))]))]
def _law_fraction : FnD := ⟨false, runB false 2 3 ir__law_fraction⟩
@[simp] theorem mt__law_fraction : _law_fraction.mt = false := rfl
def E__law_fraction_2 : FnE := ⟨"_law_fraction", 2, [], Pk._law_fraction, [.inl 0, .inl 1], []⟩
@[simp] theorem pm_E__law_fraction_2 (a0 a1 : PyData) : E__law_fraction_2.pm [a0, a1] = [a0, a1] := rfl
def ir_is_whole : List IS := [(.ret (.and (.bi .isint [(.var 0)]) (.not (.bi .isbool [(.var 0)]))))]
def is_whole : FnD := ⟨false, runB false 1 1 ir_is_whole⟩
@[simp] theorem mt_is_whole : is_whole.mt = false := rfl
theorem run_is_whole : is_whole.run = runB false 1 1 ir_is_whole := rfl
def E_is_whole_1 : FnE := ⟨"is_whole", 1, [], Pk.is_whole, [.inl 0], []⟩
@[simp] theorem pm_E_is_whole_1 (a0 : PyData) : E_is_whole_1.pm [a0] = [a0] := rfl
def ir_is_frac : List IS := [(.ife (.or (.not (.bi .istuple [(.var 0)])) (.or (.cmp .ne (.lenv 0) (.cst (.int (2)))) (.or (.not (.call Pk.is_whole Pk.E_is_whole_1.pm [(.ixv 0 (.cst (.int (0))))])) (.not (.call Pk.is_whole Pk.E_is_whole_1.pm [(.ixv 0 (.cst (.int (1))))]))))) [(.ret (.cst (.bool false)))] []), (.ret (.and (.cmp .gt (.ixv 0 (.cst (.int (1)))) (.cst (.int (0)))) (.cmp .eq (.bi .gcd [(.ixv 0 (.cst (.int (0)))), (.ixv 0 (.cst (.int (1))))]) (.cst (.int (1))))))]
def is_frac : FnD := ⟨false, runB false 1 1 ir_is_frac⟩
@[simp] theorem mt_is_frac : is_frac.mt = false := rfl
theorem run_is_frac : is_frac.run = runB false 1 1 ir_is_frac := rfl
def E_is_frac_1 : FnE := ⟨"is_frac", 1, [], Pk.is_frac, [.inl 0], []⟩
@[simp] theorem pm_E_is_frac_1 (a0 : PyData) : E_is_frac_1.pm [a0] = [a0] := rfl
def ir_is_num : List IS := [(.ret (.and (.bi .istuple [(.var 0)]) (.and (.cmp .eq (.lenv 0) (.cst (.int (2)))) (.and (.call Pk.is_frac Pk.E_is_frac_1.pm [(.ixv 0 (.cst (.int (0))))]) (.call Pk.is_frac Pk.E_is_frac_1.pm [(.ixv 0 (.cst (.int (1))))])))))]
def is_num : FnD := ⟨false, runB false 1 1 ir_is_num⟩
@[simp] theorem mt_is_num : is_num.mt = false := rfl
theorem run_is_num : is_num.run = runB false 1 1 ir_is_num := rfl
def E_is_num_1 : FnE := ⟨"is_num", 1, [], Pk.is_num, [.inl 0], []⟩
@[simp] theorem pm_E_is_num_1 (a0 : PyData) : E_is_num_1.pm [a0] = [a0] := rfl
def ir_frac_reduced : List IS := [(.set 2 (.ite (.cmp .gt (.var 1) (.cst (.int (0)))) (.bi .gcd [(.var 0), (.var 1)]) (.neg (.bi .gcd [(.var 0), (.var 1)])))), (.ret (.tup [(.bin .fdiv (.var 0) (.var 2)), (.bin .fdiv (.var 1) (.var 2))]))]
def frac_reduced : FnD := ⟨false, runB false 2 3 ir_frac_reduced⟩
@[simp] theorem mt_frac_reduced : frac_reduced.mt = false := rfl
theorem run_frac_reduced : frac_reduced.run = runB false 2 3 ir_frac_reduced := rfl
def E_frac_reduced_2 : FnE := ⟨"frac_reduced", 2, [], Pk.frac_reduced, [.inl 0, .inl 1], []⟩
@[simp] theorem pm_E_frac_reduced_2 (a0 a1 : PyData) : E_frac_reduced_2.pm [a0, a1] = [a0, a1] := rfl
def ir_frac_sum : List IS := [(.ret (.call Pk.frac_reduced Pk.E_frac_reduced_2.pm [(.bin .add (.bin .mul (.ixv 0 (.cst (.int (0)))) (.ixv 1 (.cst (.int (1))))) (.bin .mul (.ixv 1 (.cst (.int (0)))) (.ixv 0 (.cst (.int (1)))))), (.bin .mul (.ixv 0 (.cst (.int (1)))) (.ixv 1 (.cst (.int (1)))))]))]
def frac_sum : FnD := ⟨false, runB false 2 2 ir_frac_sum⟩
@[simp] theorem mt_frac_sum : frac_sum.mt = false := rfl
theorem run_frac_sum : frac_sum.run = runB false 2 2 ir_frac_sum := rfl
def E_frac_sum_2 : FnE := ⟨"frac_sum", 2, [], Pk.frac_sum, [.inl 0, .inl 1], []⟩
@[simp] theorem pm_E_frac_sum_2 (a0 a1 : PyData) : E_frac_sum_2.pm [a0, a1] = [a0, a1] := rfl
def ir_num_sum : List IS := [(.ret (.tup [(.call Pk.frac_sum Pk.E_frac_sum_2.pm [(.ixv 0 (.cst (.int (0)))), (.ixv 1 (.cst (.int (0))))]), (.call Pk.frac_sum Pk.E_frac_sum_2.pm [(.ixv 0 (.cst (.int (1)))), (.ixv 1 (.cst (.int (1))))])]))]
def num_sum : FnD := ⟨false, runB false 2 2 ir_num_sum⟩
@[simp] theorem mt_num_sum : num_sum.mt = false := rfl
theorem run_num_sum : num_sum.run = runB false 2 2 ir_num_sum := rfl
def E_num_sum_2 : FnE := ⟨"num_sum", 2, [], Pk.num_sum, [.inl 0, .inl 1], []⟩
@[simp] theorem pm_E_num_sum_2 (a0 a1 : PyData) : E_num_sum_2.pm [a0, a1] = [a0, a1] := rfl
def ir_frac_less : List IS := [(.ret (.call Pk.frac_reduced Pk.E_frac_reduced_2.pm [(.bin .sub (.bin .mul (.ixv 0 (.cst (.int (0)))) (.ixv 1 (.cst (.int (1))))) (.bin .mul (.ixv 1 (.cst (.int (0)))) (.ixv 0 (.cst (.int (1)))))), (.bin .mul (.ixv 0 (.cst (.int (1)))) (.ixv 1 (.cst (.int (1)))))]))]
def frac_less : FnD := ⟨false, runB false 2 2 ir_frac_less⟩
@[simp] theorem mt_frac_less : frac_less.mt = false := rfl
theorem run_frac_less : frac_less.run = runB false 2 2 ir_frac_less := rfl
def E_frac_less_2 : FnE := ⟨"frac_less", 2, [], Pk.frac_less, [.inl 0, .inl 1], []⟩
@[simp] theorem pm_E_frac_less_2 (a0 a1 : PyData) : E_frac_less_2.pm [a0, a1] = [a0, a1] := rfl
def ir_num_less : List IS := [(.ret (.tup [(.call Pk.frac_less Pk.E_frac_less_2.pm [(.ixv 0 (.cst (.int (0)))), (.ixv 1 (.cst (.int (0))))]), (.call Pk.frac_less Pk.E_frac_less_2.pm [(.ixv 0 (.cst (.int (1)))), (.ixv 1 (.cst (.int (1))))])]))]
def num_less : FnD := ⟨false, runB false 2 2 ir_num_less⟩
@[simp] theorem mt_num_less : num_less.mt = false := rfl
theorem run_num_less : num_less.run = runB false 2 2 ir_num_less := rfl
def E_num_less_2 : FnE := ⟨"num_less", 2, [], Pk.num_less, [.inl 0, .inl 1], []⟩
@[simp] theorem pm_E_num_less_2 (a0 a1 : PyData) : E_num_less_2.pm [a0, a1] = [a0, a1] := rfl
def ir_num_product : List IS := [(.asg (.tp [(.tp [(.nm 2), (.nm 3)]), (.tp [(.nm 4), (.nm 5)])]) (.var 0)), (.asg (.tp [(.tp [(.nm 6), (.nm 7)]), (.tp [(.nm 8), (.nm 9)])]) (.var 1)), (.set 10 (.bin .mul (.bin .mul (.bin .mul (.var 3) (.var 5)) (.var 7)) (.var 9))), (.ret (.tup [(.call Pk.frac_reduced Pk.E_frac_reduced_2.pm [(.bin .sub (.bin .mul (.bin .mul (.bin .mul (.var 2) (.var 6)) (.var 5)) (.var 9)) (.bin .mul (.bin .mul (.bin .mul (.var 4) (.var 8)) (.var 3)) (.var 7))), (.var 10)]), (.call Pk.frac_reduced Pk.E_frac_reduced_2.pm [(.bin .add (.bin .mul (.bin .mul (.bin .mul (.var 2) (.var 8)) (.var 5)) (.var 7)) (.bin .mul (.bin .mul (.bin .mul (.var 4) (.var 6)) (.var 3)) (.var 9))), (.var 10)])]))]
def num_product : FnD := ⟨false, runB false 2 11 ir_num_product⟩
@[simp] theorem mt_num_product : num_product.mt = false := rfl
theorem run_num_product : num_product.run = runB false 2 11 ir_num_product := rfl
def E_num_product_2 : FnE := ⟨"num_product", 2, [], Pk.num_product, [.inl 0, .inl 1], []⟩
@[simp] theorem pm_E_num_product_2 (a0 a1 : PyData) : E_num_product_2.pm [a0, a1] = [a0, a1] := rfl
def ir__law_times : List IS := [(.ret (.call Pk._law_cut Pk.E__law_cut_3.pm [(.bin .sub (.bin .mul (.ixv 0 (.cst (.int (0)))) (.ixv 1 (.cst (.int (0))))) (.bin .mul (.ixv 0 (.cst (.int (1)))) (.ixv 1 (.cst (.int (1)))))), (.bin .add (.bin .mul (.ixv 0 (.cst (.int (0)))) (.ixv 1 (.cst (.int (1))))) (.bin .mul (.ixv 0 (.cst (.int (1)))) (.ixv 1 (.cst (.int (0)))))), (.bin .mul (.ixv 0 (.cst (.int (2)))) (.ixv 1 (.cst (.int (2)))))]))]
def _law_times : FnD := ⟨false, runB false 2 2 ir__law_times⟩
@[simp] theorem mt__law_times : _law_times.mt = false := rfl
def ir_check_number : List IS := [(.ife (.not (.call Pk.is_num Pk.E_is_num_1.pm [(.var 0)])) [.nev] [])]
def check_number : FnD := ⟨false, runB false 1 1 ir_check_number⟩
@[simp] theorem mt_check_number : check_number.mt = false := rfl
theorem run_check_number : check_number.run = runB false 1 1 ir_check_number := rfl
def E_check_number_1 : FnE := ⟨"check_number", 1, [], Pk.check_number, [.inl 0], []⟩
@[simp] theorem pm_E_check_number_1 (a0 : PyData) : E_check_number_1.pm [a0] = [a0] := rfl
end Pk
end EvL

set_option Elab.async false
set_option linter.all false
set_option maxRecDepth 100000
namespace EvL
open PySem PySem.Spec PyProof.Rows L2
namespace Pk
def ir__law_number : List IS := [(.set 1 (.callm F1.oneOf 0 [(.lst [(.cst (.int (2))), (.cst (.int (5))), (.cst (.int (40)))])])), (.par [2, 3] [(.bin .sub (.callm F1.dip 0 [(.bin .add (.bin .mul (.cst (.int (2))) (.var 1)) (.cst (.int (1))))]) (.var 1)), (.bin .sub (.callm F1.dip 0 [(.bin .add (.bin .mul (.cst (.int (2))) (.var 1)) (.cst (.int (1))))]) (.var 1))]), (.ret (.call Pk._law_cut Pk.E__law_cut_3.pm [(.var 2), (.ite (.cmp .eq (.callm F1.dip 0 [(.cst (.int (4)))]) (.cst (.int (0)))) (.cst (.int (0))) (.var 3)), (.bin .add (.cst (.int (1))) (.callm F1.dip 0 [(.var 1)]))]))]
def _law_number : FnD := ⟨true, runB true 1 4 ir__law_number⟩
@[simp] theorem mt__law_number : _law_number.mt = true := rfl
def ir__law_size : List IS := [(.ret (.call Pk._law_fraction Pk.E__law_fraction_2.pm [(.bin .add (.bin .mul (.ixv 0 (.cst (.int (0)))) (.ixv 0 (.cst (.int (0))))) (.bin .mul (.ixv 0 (.cst (.int (1)))) (.ixv 0 (.cst (.int (1)))))), (.bin .mul (.ixv 0 (.cst (.int (2)))) (.ixv 0 (.cst (.int (2)))))]))]
def _law_size : FnD := ⟨false, runB false 1 1 ir__law_size⟩
@[simp] theorem mt__law_size : _law_size.mt = false := rfl
def ir_frac_product : List IS := [(.ret (.call Pk.frac_reduced Pk.E_frac_reduced_2.pm [(.bin .mul (.ixv 0 (.cst (.int (0)))) (.ixv 1 (.cst (.int (0))))), (.bin .mul (.ixv 0 (.cst (.int (1)))) (.ixv 1 (.cst (.int (1)))))]))]
def frac_product : FnD := ⟨false, runB false 2 2 ir_frac_product⟩
@[simp] theorem mt_frac_product : frac_product.mt = false := rfl
theorem run_frac_product : frac_product.run = runB false 2 2 ir_frac_product := rfl
def E_frac_product_2 : FnE := ⟨"frac_product", 2, [], Pk.frac_product, [.inl 0, .inl 1], []⟩
@[simp] theorem pm_E_frac_product_2 (a0 a1 : PyData) : E_frac_product_2.pm [a0, a1] = [a0, a1] := rfl
def ir_num_scaled : List IS := [(.ret (.tup [(.call Pk.frac_product Pk.E_frac_product_2.pm [(.ixv 0 (.cst (.int (0)))), (.var 1)]), (.call Pk.frac_product Pk.E_frac_product_2.pm [(.ixv 0 (.cst (.int (1)))), (.var 1)])]))]
def num_scaled : FnD := ⟨false, runB false 2 2 ir_num_scaled⟩
@[simp] theorem mt_num_scaled : num_scaled.mt = false := rfl
theorem run_num_scaled : num_scaled.run = runB false 2 2 ir_num_scaled := rfl
def E_num_scaled_2 : FnE := ⟨"num_scaled", 2, [], Pk.num_scaled, [.inl 0, .inl 1], []⟩
@[simp] theorem pm_E_num_scaled_2 (a0 a1 : PyData) : E_num_scaled_2.pm [a0, a1] = [a0, a1] := rfl
def ir_frac_over : List IS := [(.ret (.call Pk.frac_reduced Pk.E_frac_reduced_2.pm [(.bin .mul (.ixv 0 (.cst (.int (0)))) (.ixv 1 (.cst (.int (1))))), (.bin .mul (.ixv 0 (.cst (.int (1)))) (.ixv 1 (.cst (.int (0)))))]))]
def frac_over : FnD := ⟨false, runB false 2 2 ir_frac_over⟩
@[simp] theorem mt_frac_over : frac_over.mt = false := rfl
theorem run_frac_over : frac_over.run = runB false 2 2 ir_frac_over := rfl
def E_frac_over_2 : FnE := ⟨"frac_over", 2, [], Pk.frac_over, [.inl 0, .inl 1], []⟩
@[simp] theorem pm_E_frac_over_2 (a0 a1 : PyData) : E_frac_over_2.pm [a0, a1] = [a0, a1] := rfl
def ir_num_mirrored : List IS := [(.ret (.tup [(.ixv 0 (.cst (.int (0)))), (.tup [(.neg (.ix (.ixv 0 (.cst (.int (1)))) (.cst (.int (0))))), (.ix (.ixv 0 (.cst (.int (1)))) (.cst (.int (1))))])]))]
def num_mirrored : FnD := ⟨false, runB false 1 1 ir_num_mirrored⟩
@[simp] theorem mt_num_mirrored : num_mirrored.mt = false := rfl
theorem run_num_mirrored : num_mirrored.run = runB false 1 1 ir_num_mirrored := rfl
def E_num_mirrored_1 : FnE := ⟨"num_mirrored", 1, [], Pk.num_mirrored, [.inl 0], []⟩
@[simp] theorem pm_E_num_mirrored_1 (a0 : PyData) : E_num_mirrored_1.pm [a0] = [a0] := rfl
def ir_num_size : List IS := [(.asg (.tp [(.tp [(.nm 1), (.nm 2)]), (.tp [(.nm 3), (.nm 4)])]) (.var 0)), (.ret (.call Pk.frac_reduced Pk.E_frac_reduced_2.pm [(.bin .add (.bin .mul (.bin .mul (.bin .mul (.var 1) (.var 1)) (.var 4)) (.var 4)) (.bin .mul (.bin .mul (.bin .mul (.var 3) (.var 3)) (.var 2)) (.var 2))), (.bin .mul (.bin .mul (.bin .mul (.var 2) (.var 2)) (.var 4)) (.var 4))]))]
def num_size : FnD := ⟨false, runB false 1 5 ir_num_size⟩
@[simp] theorem mt_num_size : num_size.mt = false := rfl
theorem run_num_size : num_size.run = runB false 1 5 ir_num_size := rfl
def E_num_size_1 : FnE := ⟨"num_size", 1, [], Pk.num_size, [.inl 0], []⟩
@[simp] theorem pm_E_num_size_1 (a0 : PyData) : E_num_size_1.pm [a0] = [a0] := rfl
def ir_num_over : List IS := [(.ret (.call Pk.num_scaled Pk.E_num_scaled_2.pm [(.call Pk.num_product Pk.E_num_product_2.pm [(.var 0), (.call Pk.num_mirrored Pk.E_num_mirrored_1.pm [(.var 1)])]), (.call Pk.frac_over Pk.E_frac_over_2.pm [(.cst (.tuple [(.int (1)), (.int (1))])), (.call Pk.num_size Pk.E_num_size_1.pm [(.var 1)])])]))]
def num_over : FnD := ⟨false, runB false 2 2 ir_num_over⟩
@[simp] theorem mt_num_over : num_over.mt = false := rfl
theorem run_num_over : num_over.run = runB false 2 2 ir_num_over := rfl
def E_num_over_2 : FnE := ⟨"num_over", 2, [], Pk.num_over, [.inl 0, .inl 1], []⟩
@[simp] theorem pm_E_num_over_2 (a0 a1 : PyData) : E_num_over_2.pm [a0, a1] = [a0, a1] := rfl
def ir_lies : List IS := [(.exp (.call Pk.check_number Pk.E_check_number_1.pm [(.var 0)])), (.asg (.tp [(.nm 1), (.nm 2)]) (.call Pk.num_size Pk.E_num_size_1.pm [(.var 0)])), (.ife (.cmp .eq (.var 1) (.var 2)) [(.ret (.cst (.str "rim")))] []), (.ret (.ite (.cmp .lt (.var 1) (.var 2)) (.cst (.str "disc")) (.cst (.str "beyond"))))]
def lies : FnD := ⟨false, runB false 1 3 ir_lies⟩
@[simp] theorem mt_lies : lies.mt = false := rfl
def ir__law_less : List IS := [(.ret (.call Pk._law_cut Pk.E__law_cut_3.pm [(.bin .sub (.bin .mul (.ixv 0 (.cst (.int (0)))) (.ixv 1 (.cst (.int (2))))) (.bin .mul (.ixv 1 (.cst (.int (0)))) (.ixv 0 (.cst (.int (2)))))), (.bin .sub (.bin .mul (.ixv 0 (.cst (.int (1)))) (.ixv 1 (.cst (.int (2))))) (.bin .mul (.ixv 1 (.cst (.int (1)))) (.ixv 0 (.cst (.int (2)))))), (.bin .mul (.ixv 0 (.cst (.int (2)))) (.ixv 1 (.cst (.int (2)))))]))]
def _law_less : FnD := ⟨false, runB false 2 2 ir__law_less⟩
@[simp] theorem mt__law_less : _law_less.mt = false := rfl
def ir_check_fraction : List IS := [(.ife (.not (.call Pk.is_frac Pk.E_is_frac_1.pm [(.var 0)])) [.nev] [])]
def check_fraction : FnD := ⟨false, runB false 1 1 ir_check_fraction⟩
@[simp] theorem mt_check_fraction : check_fraction.mt = false := rfl
theorem run_check_fraction : check_fraction.run = runB false 1 1 ir_check_fraction := rfl
def ir_size : List IS := [(.exp (.call Pk.check_number Pk.E_check_number_1.pm [(.var 0)])), (.ret (.call Pk.num_size Pk.E_num_size_1.pm [(.var 0)]))]
def size : FnD := ⟨false, runB false 1 1 ir_size⟩
@[simp] theorem mt_size : size.mt = false := rfl
def ir__law_over : List IS := [(.set 2 (.bin .mul (.ixv 0 (.cst (.int (2)))) (.bin .add (.bin .mul (.ixv 1 (.cst (.int (0)))) (.ixv 1 (.cst (.int (0))))) (.bin .mul (.ixv 1 (.cst (.int (1)))) (.ixv 1 (.cst (.int (1)))))))), (.ret (.call Pk._law_cut Pk.E__law_cut_3.pm [(.bin .mul (.bin .add (.bin .mul (.ixv 0 (.cst (.int (0)))) (.ixv 1 (.cst (.int (0))))) (.bin .mul (.ixv 0 (.cst (.int (1)))) (.ixv 1 (.cst (.int (1)))))) (.ixv 1 (.cst (.int (2))))), (.bin .mul (.bin .sub (.bin .mul (.ixv 0 (.cst (.int (1)))) (.ixv 1 (.cst (.int (0))))) (.bin .mul (.ixv 0 (.cst (.int (0)))) (.ixv 1 (.cst (.int (1)))))) (.ixv 1 (.cst (.int (2))))), (.var 2)]))]
def _law_over : FnD := ⟨false, runB false 2 3 ir__law_over⟩
@[simp] theorem mt__law_over : _law_over.mt = false := rfl
end Pk
end EvL

set_option Elab.async false
set_option linter.all false
set_option maxRecDepth 100000
namespace EvL
open PySem PySem.Spec PyProof.Rows L2
namespace Pk
end Pk
end EvL

set_option Elab.async false
set_option linter.all false
set_option maxRecDepth 100000
namespace EvL
open PySem PySem.Spec PyProof.Rows L2
namespace Pk
def ir__law_common : List IS := [(.par [0, 1] [(.bi .abs [(.var 0)]), (.bi .abs [(.var 1)])]), (.whl (.cmp .gt (.var 1) (.cst (.int (0)))) [(.par [0, 1] [(.var 1), (.bin .mod (.bi .int [(.var 0)]) (.var 1))])]), (.ret (.var 0))]
def _law_common : FnD := ⟨false, runB false 2 2 ir__law_common⟩
@[simp] theorem mt__law_common : _law_common.mt = false := rfl
def E__law_common_2 : FnE := ⟨"_law_common", 2, [], Pk._law_common, [.inl 0, .inl 1], []⟩
@[simp] theorem pm_E__law_common_2 (a0 a1 : PyData) : E__law_common_2.pm [a0, a1] = [a0, a1] := rfl
def ir__law_fraction_v2 : List IS := [(.set 2 (.call Pk._law_common Pk.E__law_common_2.pm [(.var 0), (.var 1)])), (.ret (.tup [(.bin .fdiv (.var 0) (.var 2)), (.bin .fdiv (.var 1) (.var 2))]))]
def _law_fraction_v2 : FnD := ⟨false, runB false 2 3 ir__law_fraction_v2⟩
@[simp] theorem mt__law_fraction_v2 : _law_fraction_v2.mt = false := rfl
theorem run__law_fraction_v2 : _law_fraction_v2.run = runB false 2 3 ir__law_fraction_v2 := rfl
def E__law_fraction_v2_2 : FnE := ⟨"_law_fraction", 2, [], Pk._law_fraction_v2, [.inl 0, .inl 1], []⟩
@[simp] theorem pm_E__law_fraction_v2_2 (a0 a1 : PyData) : E__law_fraction_v2_2.pm [a0, a1] = [a0, a1] := rfl
def ir__law_number_v2 : List IS := [(.ret (.tup [(.call Pk._law_fraction_v2 Pk.E__law_fraction_v2_2.pm [(.ixv 0 (.cst (.int (0)))), (.ixv 0 (.cst (.int (2))))]), (.call Pk._law_fraction_v2 Pk.E__law_fraction_v2_2.pm [(.ixv 0 (.cst (.int (1)))), (.ixv 0 (.cst (.int (2))))])]))]
def _law_number_v2 : FnD := ⟨false, runB false 1 1 ir__law_number_v2⟩
@[simp] theorem mt__law_number_v2 : _law_number_v2.mt = false := rfl
theorem run__law_number_v2 : _law_number_v2.run = runB false 1 1 ir__law_number_v2 := rfl
def E__law_number_v2_1 : FnE := ⟨"_law_number", 1, [], Pk._law_number_v2, [.inl 0], []⟩
@[simp] theorem pm_E__law_number_v2_1 (a0 : PyData) : E__law_number_v2_1.pm [a0] = [a0] := rfl
def ir__law_cut_v2 : List IS := [(.set 3 (.call Pk._law_common Pk.E__law_common_2.pm [(.call Pk._law_common Pk.E__law_common_2.pm [(.var 0), (.var 1)]), (.var 2)])), (.ret (.tup [(.bin .fdiv (.var 0) (.var 3)), (.bin .fdiv (.var 1) (.var 3)), (.bin .fdiv (.var 2) (.var 3))]))]
def _law_cut_v2 : FnD := ⟨false, runB false 3 4 ir__law_cut_v2⟩
@[simp] theorem mt__law_cut_v2 : _law_cut_v2.mt = false := rfl
theorem run__law_cut_v2 : _law_cut_v2.run = runB false 3 4 ir__law_cut_v2 := rfl
def E__law_cut_v2_3 : FnE := ⟨"_law_cut", 3, [], Pk._law_cut_v2, [.inl 0, .inl 1, .inl 2], []⟩
@[simp] theorem pm_E__law_cut_v2_3 (a0 a1 a2 : PyData) : E__law_cut_v2_3.pm [a0, a1, a2] = [a0, a1, a2] := rfl
def ir__law_less_v2 : List IS := [(.ret (.call Pk._law_cut_v2 Pk.E__law_cut_v2_3.pm [(.bin .sub (.bin .mul (.ixv 0 (.cst (.int (0)))) (.ixv 1 (.cst (.int (2))))) (.bin .mul (.ixv 1 (.cst (.int (0)))) (.ixv 0 (.cst (.int (2)))))), (.bin .sub (.bin .mul (.ixv 0 (.cst (.int (1)))) (.ixv 1 (.cst (.int (2))))) (.bin .mul (.ixv 1 (.cst (.int (1)))) (.ixv 0 (.cst (.int (2)))))), (.bin .mul (.ixv 0 (.cst (.int (2)))) (.ixv 1 (.cst (.int (2)))))]))]
def _law_less_v2 : FnD := ⟨false, runB false 2 2 ir__law_less_v2⟩
@[simp] theorem mt__law_less_v2 : _law_less_v2.mt = false := rfl
theorem run__law_less_v2 : _law_less_v2.run = runB false 2 2 ir__law_less_v2 := rfl
def E__law_less_v2_2 : FnE := ⟨"_law_less", 2, [], Pk._law_less_v2, [.inl 0, .inl 1], []⟩
@[simp] theorem pm_E__law_less_v2_2 (a0 a1 : PyData) : E__law_less_v2_2.pm [a0, a1] = [a0, a1] := rfl
def ir__law_times_v2 : List IS := [(.ret (.call Pk._law_cut_v2 Pk.E__law_cut_v2_3.pm [(.bin .sub (.bin .mul (.ixv 0 (.cst (.int (0)))) (.ixv 1 (.cst (.int (0))))) (.bin .mul (.ixv 0 (.cst (.int (1)))) (.ixv 1 (.cst (.int (1)))))), (.bin .add (.bin .mul (.ixv 0 (.cst (.int (0)))) (.ixv 1 (.cst (.int (1))))) (.bin .mul (.ixv 0 (.cst (.int (1)))) (.ixv 1 (.cst (.int (0)))))), (.bin .mul (.ixv 0 (.cst (.int (2)))) (.ixv 1 (.cst (.int (2)))))]))]
def _law_times_v2 : FnD := ⟨false, runB false 2 2 ir__law_times_v2⟩
@[simp] theorem mt__law_times_v2 : _law_times_v2.mt = false := rfl
theorem run__law_times_v2 : _law_times_v2.run = runB false 2 2 ir__law_times_v2 := rfl
def E__law_times_v2_2 : FnE := ⟨"_law_times", 2, [], Pk._law_times_v2, [.inl 0, .inl 1], []⟩
@[simp] theorem pm_E__law_times_v2_2 (a0 a1 : PyData) : E__law_times_v2_2.pm [a0, a1] = [a0, a1] := rfl
def ir__law_over_v2 : List IS := [(.set 2 (.bin .add (.bin .mul (.ixv 1 (.cst (.int (0)))) (.ixv 1 (.cst (.int (0))))) (.bin .mul (.ixv 1 (.cst (.int (1)))) (.ixv 1 (.cst (.int (1))))))), (.ret (.call Pk._law_cut_v2 Pk.E__law_cut_v2_3.pm [(.bin .mul (.bin .add (.bin .mul (.ixv 0 (.cst (.int (0)))) (.ixv 1 (.cst (.int (0))))) (.bin .mul (.ixv 0 (.cst (.int (1)))) (.ixv 1 (.cst (.int (1)))))) (.ixv 1 (.cst (.int (2))))), (.bin .mul (.bin .sub (.bin .mul (.ixv 0 (.cst (.int (1)))) (.ixv 1 (.cst (.int (0))))) (.bin .mul (.ixv 0 (.cst (.int (0)))) (.ixv 1 (.cst (.int (1)))))) (.ixv 1 (.cst (.int (2))))), (.bin .mul (.ixv 0 (.cst (.int (2)))) (.var 2))]))]
def _law_over_v2 : FnD := ⟨false, runB false 2 3 ir__law_over_v2⟩
@[simp] theorem mt__law_over_v2 : _law_over_v2.mt = false := rfl
theorem run__law_over_v2 : _law_over_v2.run = runB false 2 3 ir__law_over_v2 := rfl
def E__law_over_v2_2 : FnE := ⟨"_law_over", 2, [], Pk._law_over_v2, [.inl 0, .inl 1], []⟩
@[simp] theorem pm_E__law_over_v2_2 (a0 a1 : PyData) : E__law_over_v2_2.pm [a0, a1] = [a0, a1] := rfl
def ir__law_mirror : List IS := [(.ret (.tup [(.ixv 0 (.cst (.int (0)))), (.neg (.ixv 0 (.cst (.int (1))))), (.ixv 0 (.cst (.int (2))))]))]
def _law_mirror : FnD := ⟨false, runB false 1 1 ir__law_mirror⟩
@[simp] theorem mt__law_mirror : _law_mirror.mt = false := rfl
theorem run__law_mirror : _law_mirror.run = runB false 1 1 ir__law_mirror := rfl
def E__law_mirror_1 : FnE := ⟨"_law_mirror", 1, [], Pk._law_mirror, [.inl 0], []⟩
@[simp] theorem pm_E__law_mirror_1 (a0 : PyData) : E__law_mirror_1.pm [a0] = [a0] := rfl
def ir__law_real : List IS := [(.ret (.tup [(.ixv 0 (.cst (.int (0)))), (.cst (.int (0))), (.ixv 0 (.cst (.int (1))))]))]
def _law_real : FnD := ⟨false, runB false 1 1 ir__law_real⟩
@[simp] theorem mt__law_real : _law_real.mt = false := rfl
def E__law_real_1 : FnE := ⟨"_law_real", 1, [], Pk._law_real, [.inl 0], []⟩
@[simp] theorem pm_E__law_real_1 (a0 : PyData) : E__law_real_1.pm [a0] = [a0] := rfl
def ir__law_line : List IS := [(.ret (.bi .tuple [(.lc [1] (.nm 1) .seq [(.var 0)] [] (.call Pk._law_number_v2 Pk.E__law_number_v2_1.pm [(.var 1)]))]))]
def _law_line : FnD := ⟨false, runB false 1 2 ir__law_line⟩
@[simp] theorem mt__law_line : _law_line.mt = false := rfl
theorem run__law_line : _law_line.run = runB false 1 2 ir__law_line := rfl
def E__law_line_1 : FnE := ⟨"_law_line", 1, [], Pk._law_line, [.inl 0], []⟩
@[simp] theorem pm_E__law_line_1 (a0 : PyData) : E__law_line_1.pm [a0] = [a0] := rfl
def ir__law_draw : List IS := [(.ife (.cmp .gt (.ixv 0 (.cst (.int (0)))) (.cst (.int (0)))) [(.dip 0 (.cst (.int (0))) 2 (.bi .divmod [(.ixv 0 (.cst (.int (0)))), (.var 1)])), (.ret (.var 2))] []), (.put 0 (.cst (.int (2))) (.bin .add (.ixv 0 (.cst (.int (2)))) (.cst (.int (1))))), (.put 0 (.cst (.int (1))) (.bin .mod (.bi .int [(.bin .add (.bin .add (.bin .mul (.ixv 0 (.cst (.int (1)))) (.cst (.int (48271)))) (.bin .mul (.cst (.int (37))) (.ixv 0 (.cst (.int (2)))))) (.cst (.int (11))))]) (.cst (.int (2147483629))))), (.ret (.bin .mod (.bi .int [(.bin .fdiv (.bin .mul (.ixv 0 (.cst (.int (1)))) (.bin .add (.bin .add (.bin .fdiv (.ixv 0 (.cst (.int (1)))) (.cst (.int (65537)))) (.bin .mul (.cst (.int (2))) (.ixv 0 (.cst (.int (2)))))) (.cst (.int (1))))) (.cst (.int (509))))]) (.var 1)))]
def _law_draw : FnD := ⟨true, runB true 2 3 ir__law_draw⟩
@[simp] theorem mt__law_draw : _law_draw.mt = true := rfl
def E__law_draw_2 : FnE := ⟨"_law_draw", 2, [], Pk._law_draw, [.inl 0, .inl 1], []⟩
def ir__law_pick : List IS := [(.ret (.ixv 1 (.callm Pk._law_draw 0 [(.lenv 1)])))]
def _law_pick : FnD := ⟨true, runB true 2 2 ir__law_pick⟩
@[simp] theorem mt__law_pick : _law_pick.mt = true := rfl
def E__law_pick_2 : FnE := ⟨"_law_pick", 2, [], Pk._law_pick, [.inl 0, .inl 1], []⟩
def ir_is_bound : List IS := [(.ret (.and (.call Pk.is_frac Pk.E_is_frac_1.pm [(.var 0)]) (.cmp .gt (.ixv 0 (.cst (.int (0)))) (.cst (.int (0))))))]
def is_bound : FnD := ⟨false, runB false 1 1 ir_is_bound⟩
@[simp] theorem mt_is_bound : is_bound.mt = false := rfl
theorem run_is_bound : is_bound.run = runB false 1 1 ir_is_bound := rfl
def E_is_bound_1 : FnE := ⟨"is_bound", 1, [], Pk.is_bound, [.inl 0], []⟩
@[simp] theorem pm_E_is_bound_1 (a0 : PyData) : E_is_bound_1.pm [a0] = [a0] := rfl
def ir_check_bound : List IS := [(.ife (.not (.call Pk.is_bound Pk.E_is_bound_1.pm [(.var 0)])) [.nev] [])]
def check_bound : FnD := ⟨false, runB false 1 1 ir_check_bound⟩
@[simp] theorem mt_check_bound : check_bound.mt = false := rfl
theorem run_check_bound : check_bound.run = runB false 1 1 ir_check_bound := rfl
def E_check_bound_1 : FnE := ⟨"check_bound", 1, [], Pk.check_bound, [.inl 0], []⟩
@[simp] theorem pm_E_check_bound_1 (a0 : PyData) : E_check_bound_1.pm [a0] = [a0] := rfl
def ir_is_turning_pair : List IS := [(.ife (.or (.not (.bi .istuple [(.var 0)])) (.or (.cmp .ne (.lenv 0) (.cst (.int (2)))) (.or (.not (.call Pk.is_num Pk.E_is_num_1.pm [(.ixv 0 (.cst (.int (0))))])) (.not (.call Pk.is_num Pk.E_is_num_1.pm [(.ixv 0 (.cst (.int (1))))]))))) [(.ret (.cst (.bool false)))] []), (.ret (.cmp .eq (.call Pk.num_size Pk.E_num_size_1.pm [(.ixv 0 (.cst (.int (0))))]) (.cst (.tuple [(.int (1)), (.int (1))]))))]
def is_turning_pair : FnD := ⟨false, runB false 1 1 ir_is_turning_pair⟩
@[simp] theorem mt_is_turning_pair : is_turning_pair.mt = false := rfl
def E_is_turning_pair_1 : FnE := ⟨"is_turning_pair", 1, [], Pk.is_turning_pair, [.inl 0], []⟩
@[simp] theorem pm_E_is_turning_pair_1 (a0 : PyData) : E_is_turning_pair_1.pm [a0] = [a0] := rfl
def ir_frac_compare : List IS := [(.set 2 (.bin .sub (.bin .mul (.ixv 0 (.cst (.int (0)))) (.ixv 1 (.cst (.int (1))))) (.bin .mul (.ixv 1 (.cst (.int (0)))) (.ixv 0 (.cst (.int (1))))))), (.ret (.bin .sub (.cmp .gt (.var 2) (.cst (.int (0)))) (.cmp .lt (.var 2) (.cst (.int (0))))))]
def frac_compare : FnD := ⟨false, runB false 2 3 ir_frac_compare⟩
@[simp] theorem mt_frac_compare : frac_compare.mt = false := rfl
def E_frac_compare_2 : FnE := ⟨"frac_compare", 2, [], Pk.frac_compare, [.inl 0, .inl 1], []⟩
@[simp] theorem pm_E_frac_compare_2 (a0 a1 : PyData) : E_frac_compare_2.pm [a0, a1] = [a0, a1] := rfl
def ir_is_below : List IS := [(.ret (.cmp .lt (.call Pk.frac_compare Pk.E_frac_compare_2.pm [(.call Pk.num_size Pk.E_num_size_1.pm [(.var 0)]), (.var 1)]) (.cst (.int (0)))))]
def is_below : FnD := ⟨false, runB false 2 2 ir_is_below⟩
@[simp] theorem mt_is_below : is_below.mt = false := rfl
def E_is_below_2 : FnE := ⟨"is_below", 2, [], Pk.is_below, [.inl 0, .inl 1], []⟩
@[simp] theorem pm_E_is_below_2 (a0 a1 : PyData) : E_is_below_2.pm [a0, a1] = [a0, a1] := rfl
def ir_is_turn_by : List IS := [(.ret (.and (.call Pk.is_turning_pair Pk.E_is_turning_pair_1.pm [(.var 0)]) (.call Pk.is_below Pk.E_is_below_2.pm [(.ixv 0 (.cst (.int (1)))), (.var 1)])))]
def is_turn_by : FnD := ⟨false, runB false 2 2 ir_is_turn_by⟩
@[simp] theorem mt_is_turn_by : is_turn_by.mt = false := rfl
def E_is_turn_by_2 : FnE := ⟨"is_turn_by", 2, [], Pk.is_turn_by, [.inl 0, .inl 1], []⟩
@[simp] theorem pm_E_is_turn_by_2 (a0 a1 : PyData) : E_is_turn_by_2.pm [a0, a1] = [a0, a1] := rfl
def ir_check_turn : List IS := [(.ife (.not (.call Pk.is_turn_by Pk.E_is_turn_by_2.pm [(.var 0), (.var 1)])) [.nev] [])]
def check_turn : FnD := ⟨false, runB false 2 2 ir_check_turn⟩
@[simp] theorem mt_check_turn : check_turn.mt = false := rfl
def E_check_turn_2 : FnE := ⟨"check_turn", 2, [], Pk.check_turn, [.inl 0, .inl 1], []⟩
@[simp] theorem pm_E_check_turn_2 (a0 a1 : PyData) : E_check_turn_2.pm [a0, a1] = [a0, a1] := rfl
def ir_lower_part : List IS := [(.ret (.call Pk.num_scaled Pk.E_num_scaled_2.pm [(.call Pk.num_mirrored Pk.E_num_mirrored_1.pm [(.ixv 0 (.cst (.int (1))))]), (.call Pk.frac_over Pk.E_frac_over_2.pm [(.cst (.tuple [(.int (1)), (.int (1))])), (.var 1)])]))]
def lower_part : FnD := ⟨false, runB false 2 2 ir_lower_part⟩
@[simp] theorem mt_lower_part : lower_part.mt = false := rfl
def E_lower_part_2 : FnE := ⟨"lower_part", 2, [], Pk.lower_part, [.inl 0, .inl 1], []⟩
@[simp] theorem pm_E_lower_part_2 (a0 a1 : PyData) : E_lower_part_2.pm [a0, a1] = [a0, a1] := rfl
def ir_behind_by : List IS := [(.set 3 (.call Pk.num_sum Pk.E_num_sum_2.pm [(.ixv 0 (.cst (.int (0)))), (.call Pk.num_product Pk.E_num_product_2.pm [(.ixv 1 (.cst (.int (1)))), (.call Pk.lower_part Pk.E_lower_part_2.pm [(.var 0), (.var 2)])])])), (.set 4 (.call Pk.num_over Pk.E_num_over_2.pm [(.call Pk.num_product Pk.E_num_product_2.pm [(.ixv 1 (.cst (.int (0)))), (.var 3)]), (.call Pk.num_product Pk.E_num_product_2.pm [(.ixv 0 (.cst (.int (0)))), (.call Pk.num_mirrored Pk.E_num_mirrored_1.pm [(.var 3)])])])), (.ret (.tup [(.var 4), (.call Pk.num_over Pk.E_num_over_2.pm [(.call Pk.num_sum Pk.E_num_sum_2.pm [(.call Pk.num_product Pk.E_num_product_2.pm [(.ixv 0 (.cst (.int (0)))), (.ixv 0 (.cst (.int (1))))]), (.ixv 1 (.cst (.int (1))))]), (.var 3)])]))]
def behind_by : FnD := ⟨false, runB false 3 5 ir_behind_by⟩
@[simp] theorem mt_behind_by : behind_by.mt = false := rfl
def E_behind_by_3 : FnE := ⟨"behind_by", 3, [], Pk.behind_by, [.inl 0, .inl 1, .inl 2], []⟩
@[simp] theorem pm_E_behind_by_3 (a0 a1 a2 : PyData) : E_behind_by_3.pm [a0, a1, a2] = [a0, a1, a2] := rfl
def ir_behind : List IS := [(.exp (.call Pk.check_bound Pk.E_check_bound_1.pm [(.var 2)])), (.exp (.call Pk.check_turn Pk.E_check_turn_2.pm [(.var 0), (.var 2)])), (.exp (.call Pk.check_turn Pk.E_check_turn_2.pm [(.var 1), (.var 2)])), (.ret (.call Pk.behind_by Pk.E_behind_by_3.pm [(.var 0), (.var 1), (.var 2)]))]
def behind : FnD := ⟨false, runB false 3 3 ir_behind⟩
@[simp] theorem mt_behind : behind.mt = false := rfl
def ir__law_read : List IS := [(.ret (.call Pk._law_cut_v2 Pk.E__law_cut_v2_3.pm [(.bin .mul (.ix (.ixv 0 (.cst (.int (0)))) (.cst (.int (0)))) (.ix (.ixv 0 (.cst (.int (1)))) (.cst (.int (1))))), (.bin .mul (.ix (.ixv 0 (.cst (.int (1)))) (.cst (.int (0)))) (.ix (.ixv 0 (.cst (.int (0)))) (.cst (.int (1))))), (.bin .mul (.ix (.ixv 0 (.cst (.int (0)))) (.cst (.int (1)))) (.ix (.ixv 0 (.cst (.int (1)))) (.cst (.int (1)))))]))]
def _law_read : FnD := ⟨false, runB false 1 1 ir__law_read⟩
@[simp] theorem mt__law_read : _law_read.mt = false := rfl
theorem run__law_read : _law_read.run = runB false 1 1 ir__law_read := rfl
def E__law_read_1 : FnE := ⟨"_law_read", 1, [], Pk._law_read, [.inl 0], []⟩
@[simp] theorem pm_E__law_read_1 (a0 : PyData) : E__law_read_1.pm [a0] = [a0] := rfl
def ir__law_is_nought : List IS := [(.ret (.and (.cmp .eq (.ixv 0 (.cst (.int (0)))) (.cst (.int (0)))) (.cmp .eq (.ixv 0 (.cst (.int (1)))) (.cst (.int (0))))))]
def _law_is_nought : FnD := ⟨false, runB false 1 1 ir__law_is_nought⟩
@[simp] theorem mt__law_is_nought : _law_is_nought.mt = false := rfl
theorem run__law_is_nought : _law_is_nought.run = runB false 1 1 ir__law_is_nought := rfl
def E__law_is_nought_1 : FnE := ⟨"_law_is_nought", 1, [], Pk._law_is_nought, [.inl 0], []⟩
@[simp] theorem pm_E__law_is_nought_1 (a0 : PyData) : E__law_is_nought_1.pm [a0] = [a0] := rfl
def ir__law_leads : List IS := [(.set 4 (.call Pk._law_less_v2 Pk.E__law_less_v2_2.pm [(.tup [(.cst (.int (1))), (.cst (.int (0))), (.cst (.int (1)))]), (.call Pk._law_over_v2 Pk.E__law_over_v2_2.pm [(.call Pk._law_times_v2 Pk.E__law_times_v2_2.pm [(.call Pk._law_mirror Pk.E__law_mirror_1.pm [(.var 1)]), (.var 3)]), (.call Pk._law_real Pk.E__law_real_1.pm [(.var 2)])])])), (.ret (.ite (.call Pk._law_is_nought Pk.E__law_is_nought_1.pm [(.var 4)]) (.cst .none) (.call Pk._law_over_v2 Pk.E__law_over_v2_2.pm [(.call Pk._law_times_v2 Pk.E__law_times_v2_2.pm [(.var 0), (.call Pk._law_less_v2 Pk.E__law_less_v2_2.pm [(.var 3), (.var 1)])]), (.var 4)])))]
def _law_leads : FnD := ⟨false, runB false 4 5 ir__law_leads⟩
@[simp] theorem mt__law_leads : _law_leads.mt = false := rfl
def E__law_leads_4 : FnE := ⟨"_law_leads", 4, [], Pk._law_leads, [.inl 0, .inl 1, .inl 2, .inl 3], []⟩
@[simp] theorem pm_E__law_leads_4 (a0 a1 a2 a3 : PyData) : E__law_leads_4.pm [a0, a1, a2, a3] = [a0, a1, a2, a3] := rfl
def ir__law_is_fraction : List IS := [(.ife (.or (.not (.bi .istuple [(.var 0)])) (.cmp .ne (.lenv 0) (.cst (.int (2))))) [(.ret (.cst (.bool false)))] []), (.ife (.cmp .ne (.lc [1] (.nm 1) .seq [(.var 0)] [(.or (.not (.bi .isint [(.var 1)])) (.bi .isbool [(.var 1)]))] (.var 1)) (.lst [])) [(.ret (.cst (.bool false)))] []), (.ret (.and (.cmp .gt (.ixv 0 (.cst (.int (1)))) (.cst (.int (0)))) (.cmp .eq (.call Pk._law_common Pk.E__law_common_2.pm [(.ixv 0 (.cst (.int (0)))), (.ixv 0 (.cst (.int (1))))]) (.cst (.int (1))))))]
def _law_is_fraction : FnD := ⟨false, runB false 1 2 ir__law_is_fraction⟩
@[simp] theorem mt__law_is_fraction : _law_is_fraction.mt = false := rfl
theorem run__law_is_fraction : _law_is_fraction.run = runB false 1 2 ir__law_is_fraction := rfl
def E__law_is_fraction_1 : FnE := ⟨"_law_is_fraction", 1, [], Pk._law_is_fraction, [.inl 0], []⟩
@[simp] theorem pm_E__law_is_fraction_1 (a0 : PyData) : E__law_is_fraction_1.pm [a0] = [a0] := rfl
def ir__law_is_number : List IS := [(.ife (.or (.not (.bi .istuple [(.var 0)])) (.cmp .ne (.lenv 0) (.cst (.int (2))))) [(.ret (.cst (.bool false)))] []), (.ret (.and (.call Pk._law_is_fraction Pk.E__law_is_fraction_1.pm [(.ixv 0 (.cst (.int (0))))]) (.call Pk._law_is_fraction Pk.E__law_is_fraction_1.pm [(.ixv 0 (.cst (.int (1))))])))]
def _law_is_number : FnD := ⟨false, runB false 1 1 ir__law_is_number⟩
@[simp] theorem mt__law_is_number : _law_is_number.mt = false := rfl
theorem run__law_is_number : _law_is_number.run = runB false 1 1 ir__law_is_number := rfl
def E__law_is_number_1 : FnE := ⟨"_law_is_number", 1, [], Pk._law_is_number, [.inl 0], []⟩
@[simp] theorem pm_E__law_is_number_1 (a0 : PyData) : E__law_is_number_1.pm [a0] = [a0] := rfl
def ir__law_is_line : List IS := [(.ife (.or (.not (.bi .istuple [(.var 0)])) (.cmp .ne (.lenv 0) (.var 1))) [(.ret (.cst (.bool false)))] []), (.ret (.cmp .eq (.lc [2] (.nm 2) .seq [(.var 0)] [(.not (.call Pk._law_is_number Pk.E__law_is_number_1.pm [(.var 2)]))] (.var 2)) (.lst [])))]
def _law_is_line : FnD := ⟨false, runB false 2 3 ir__law_is_line⟩
@[simp] theorem mt__law_is_line : _law_is_line.mt = false := rfl
theorem run__law_is_line : _law_is_line.run = runB false 2 3 ir__law_is_line := rfl
def E__law_is_line_2 : FnE := ⟨"_law_is_line", 2, [], Pk._law_is_line, [.inl 0, .inl 1], []⟩
@[simp] theorem pm_E__law_is_line_2 (a0 a1 : PyData) : E__law_is_line_2.pm [a0, a1] = [a0, a1] := rfl
def ir__law_size_v2 : List IS := [(.ret (.call Pk._law_cut_v2 Pk.E__law_cut_v2_3.pm [(.bin .add (.bin .mul (.ixv 0 (.cst (.int (0)))) (.ixv 0 (.cst (.int (0))))) (.bin .mul (.ixv 0 (.cst (.int (1)))) (.ixv 0 (.cst (.int (1)))))), (.cst (.int (0))), (.bin .mul (.ixv 0 (.cst (.int (2)))) (.ixv 0 (.cst (.int (2)))))]))]
def _law_size_v2 : FnD := ⟨false, runB false 1 1 ir__law_size_v2⟩
@[simp] theorem mt__law_size_v2 : _law_size_v2.mt = false := rfl
def E__law_size_v2_1 : FnE := ⟨"_law_size", 1, [], Pk._law_size_v2, [.inl 0], []⟩
@[simp] theorem pm_E__law_size_v2_1 (a0 : PyData) : E__law_size_v2_1.pm [a0] = [a0] := rfl
def ir__law_below : List IS := [(.ret (.cmp .lt (.ix (.call Pk._law_less_v2 Pk.E__law_less_v2_2.pm [(.call Pk._law_size_v2 Pk.E__law_size_v2_1.pm [(.var 0)]), (.call Pk._law_real Pk.E__law_real_1.pm [(.var 1)])]) (.cst (.int (0)))) (.cst (.int (0)))))]
def _law_below : FnD := ⟨false, runB false 2 2 ir__law_below⟩
@[simp] theorem mt__law_below : _law_below.mt = false := rfl
def E__law_below_2 : FnE := ⟨"_law_below", 2, [], Pk._law_below, [.inl 0, .inl 1], []⟩
@[simp] theorem pm_E__law_below_2 (a0 a1 : PyData) : E__law_below_2.pm [a0, a1] = [a0, a1] := rfl
def ir__law_is_turn : List IS := [(.ife (.not (.call Pk._law_is_line Pk.E__law_is_line_2.pm [(.var 0), (.cst (.int (2)))])) [(.ret (.cst (.bool false)))] []), (.ret (.and (.cmp .eq (.call Pk._law_size_v2 Pk.E__law_size_v2_1.pm [(.call Pk._law_read Pk.E__law_read_1.pm [(.ixv 0 (.cst (.int (0))))])]) (.tup [(.cst (.int (1))), (.cst (.int (0))), (.cst (.int (1)))])) (.call Pk._law_below Pk.E__law_below_2.pm [(.call Pk._law_read Pk.E__law_read_1.pm [(.ixv 0 (.cst (.int (1))))]), (.var 1)])))]
def _law_is_turn : FnD := ⟨false, runB false 2 2 ir__law_is_turn⟩
@[simp] theorem mt__law_is_turn : _law_is_turn.mt = false := rfl
def E__law_is_turn_2 : FnE := ⟨"_law_is_turn", 2, [], Pk._law_is_turn, [.inl 0, .inl 1], []⟩
@[simp] theorem pm_E__law_is_turn_2 (a0 a1 : PyData) : E__law_is_turn_2.pm [a0, a1] = [a0, a1] := rfl
def ir_num_negative : List IS := [(.ret (.tup [(.tup [(.neg (.ix (.ixv 0 (.cst (.int (0)))) (.cst (.int (0))))), (.ix (.ixv 0 (.cst (.int (0)))) (.cst (.int (1))))]), (.tup [(.neg (.ix (.ixv 0 (.cst (.int (1)))) (.cst (.int (0))))), (.ix (.ixv 0 (.cst (.int (1)))) (.cst (.int (1))))])]))]
def num_negative : FnD := ⟨false, runB false 1 1 ir_num_negative⟩
@[simp] theorem mt_num_negative : num_negative.mt = false := rfl
def E_num_negative_1 : FnE := ⟨"num_negative", 1, [], Pk.num_negative, [.inl 0], []⟩
@[simp] theorem pm_E_num_negative_1 (a0 : PyData) : E_num_negative_1.pm [a0] = [a0] := rfl
def ir_back_by : List IS := [(.ret (.tup [(.call Pk.num_mirrored Pk.E_num_mirrored_1.pm [(.ixv 0 (.cst (.int (0))))]), (.call Pk.num_negative Pk.E_num_negative_1.pm [(.call Pk.num_product Pk.E_num_product_2.pm [(.ixv 0 (.cst (.int (0)))), (.ixv 0 (.cst (.int (1))))])])]))]
def back_by : FnD := ⟨false, runB false 1 1 ir_back_by⟩
@[simp] theorem mt_back_by : back_by.mt = false := rfl
def E_back_by_1 : FnE := ⟨"back_by", 1, [], Pk.back_by, [.inl 0], []⟩
@[simp] theorem pm_E_back_by_1 (a0 : PyData) : E_back_by_1.pm [a0] = [a0] := rfl
def ir_back : List IS := [(.ife (.not (.call Pk.is_turning_pair Pk.E_is_turning_pair_1.pm [(.var 0)])) [.nev] []), (.ret (.call Pk.back_by Pk.E_back_by_1.pm [(.var 0)]))]
def back : FnD := ⟨false, runB false 1 1 ir_back⟩
@[simp] theorem mt_back : back.mt = false := rfl
def ir_check_value : List IS := [(.ife (.not (.call Pk.is_num Pk.E_is_num_1.pm [(.var 0)])) [.nev] [])]
def check_value : FnD := ⟨false, runB false 1 1 ir_check_value⟩
@[simp] theorem mt_check_value : check_value.mt = false := rfl
def E_check_value_1 : FnE := ⟨"check_value", 1, [], Pk.check_value, [.inl 0], []⟩
@[simp] theorem pm_E_check_value_1 (a0 : PyData) : E_check_value_1.pm [a0] = [a0] := rfl
def ir_led_turning : List IS := [(.set 3 (.call Pk.num_less Pk.E_num_less_2.pm [(.cst (.tuple [(.tuple [(.int (1)), (.int (1))]), (.tuple [(.int (0)), (.int (1))])])), (.call Pk.num_product Pk.E_num_product_2.pm [(.call Pk.lower_part Pk.E_lower_part_2.pm [(.var 0), (.var 2)]), (.var 1)])])), (.ret (.ite (.cmp .eq (.var 3) (.cst (.tuple [(.tuple [(.int (0)), (.int (1))]), (.tuple [(.int (0)), (.int (1))])]))) (.cst .none) (.call Pk.num_over Pk.E_num_over_2.pm [(.call Pk.num_product Pk.E_num_product_2.pm [(.ixv 0 (.cst (.int (0)))), (.call Pk.num_less Pk.E_num_less_2.pm [(.var 1), (.ixv 0 (.cst (.int (1))))])]), (.var 3)])))]
def led_turning : FnD := ⟨false, runB false 3 4 ir_led_turning⟩
@[simp] theorem mt_led_turning : led_turning.mt = false := rfl
def E_led_turning_3 : FnE := ⟨"led_turning", 3, [], Pk.led_turning, [.inl 0, .inl 1, .inl 2], []⟩
@[simp] theorem pm_E_led_turning_3 (a0 a1 a2 : PyData) : E_led_turning_3.pm [a0, a1, a2] = [a0, a1, a2] := rfl
def ir_led : List IS := [(.exp (.call Pk.check_bound Pk.E_check_bound_1.pm [(.var 2)])), (.exp (.call Pk.check_turn Pk.E_check_turn_2.pm [(.var 0), (.var 2)])), (.exp (.call Pk.check_value Pk.E_check_value_1.pm [(.var 1)])), (.ret (.call Pk.led_turning Pk.E_led_turning_3.pm [(.var 0), (.var 1), (.var 2)]))]
def led : FnD := ⟨false, runB false 3 3 ir_led⟩
@[simp] theorem mt_led : led.mt = false := rfl
def ir__law_gauss : List IS := [(.par [1, 2] [(.ite (.cmp .eq (.callm Pk._law_draw 0 [(.cst (.int (24)))]) (.cst (.int (23)))) (.bin .pow (.cst (.int (10))) (.cst (.int (6)))) (.cst (.int (4)))), (.callm Pk._law_pick 0 [(.tup [(.cst (.int (1))), (.cst (.int (1))), (.cst (.int (1))), (.cst (.int (2))), (.cst (.int (2))), (.cst (.int (3))), (.cst (.int (5)))])])]), (.set 3 (.bin .sub (.callm Pk._law_draw 0 [(.bin .add (.bin .mul (.cst (.int (2))) (.var 1)) (.cst (.int (1))))]) (.var 1))), (.set 4 (.ite (.cmp .gt (.callm Pk._law_draw 0 [(.cst (.int (3)))]) (.cst (.int (0)))) (.bin .sub (.callm Pk._law_draw 0 [(.bin .add (.bin .mul (.cst (.int (2))) (.var 1)) (.cst (.int (1))))]) (.var 1)) (.cst (.int (0))))), (.ret (.call Pk._law_cut_v2 Pk.E__law_cut_v2_3.pm [(.var 3), (.var 4), (.var 2)]))]
def _law_gauss : FnD := ⟨true, runB true 1 5 ir__law_gauss⟩
@[simp] theorem mt__law_gauss : _law_gauss.mt = true := rfl
theorem run__law_gauss : _law_gauss.run = runB true 1 5 ir__law_gauss := rfl
def E__law_gauss_1 : FnE := ⟨"_law_gauss", 1, [], Pk._law_gauss, [.inl 0], []⟩
def ir__law_pot : List IS := [(.set 2 (.bin .add (.cst (.int (8117))) (.bin .mul (.cst (.int (6361))) (.var 1)))), (.fr (.tp [(.nm 3), (.nm 4)]) .enum [(.slc false true (.var 0) (.cst .none) (.cst (.int (63))))] [(.set 2 (.bin .mod (.bi .int [(.bin .add (.bin .add (.bin .mul (.var 2) (.cst (.int (69621)))) (.bin .mul (.bi .int [(.var 4)]) (.bin .add (.bin .mul (.cst (.int (2))) (.var 3)) (.cst (.int (5)))))) (.cst (.int (40487))))]) (.cst (.int (2147483629)))))]), (.set 5 (.ite (.cmp .lt (.var 1) (.lenv 0)) (.bi .abs [(.bi .int [(.ixv 0 (.var 1))])]) (.cst (.int (0))))), (.ret (.lst [(.ite (.cmp .ge (.var 5) (.bin .pow (.cst (.int (10))) (.cst (.int (18))))) (.var 5) (.cst (.int (0)))), (.bin .mod (.bi .int [(.bin .add (.bin .add (.bin .mul (.var 2) (.cst (.int (16807)))) (.var 5)) (.bin .mul (.cst (.int (91))) (.var 1)))]) (.cst (.int (2147483629)))), (.cst (.int (0)))]))]
def _law_pot : FnD := ⟨false, runB false 2 6 ir__law_pot⟩
@[simp] theorem mt__law_pot : _law_pot.mt = false := rfl
theorem run__law_pot : _law_pot.run = runB false 2 6 ir__law_pot := rfl
def E__law_pot_2 : FnE := ⟨"_law_pot", 2, [], Pk._law_pot, [.inl 0, .inl 1], []⟩
@[simp] theorem pm_E__law_pot_2 (a0 a1 : PyData) : E__law_pot_2.pm [a0, a1] = [a0, a1] := rfl
end Pk
end EvL

set_option Elab.async false
set_option linter.all false
set_option maxRecDepth 100000
namespace EvL
open PySem PySem.Spec PyProof.Rows L2
namespace Pk
def ir__law_fit : List IS := [(.ife (.not (.call Pk._law_is_turn Pk.E__law_is_turn_2.pm [(.var 0), (.var 2)])) [(.ret (.cst (.bool false)))] []), (.par [3, 4] [(.call Pk._law_read Pk.E__law_read_1.pm [(.ixv 0 (.cst (.int (0))))]), (.call Pk._law_read Pk.E__law_read_1.pm [(.ixv 0 (.cst (.int (1))))])]), (.ret (.and (.cmp .eq (.call Pk._law_leads Pk.E__law_leads_4.pm [(.var 3), (.var 4), (.var 2), (.ixv 1 (.cst (.int (0))))]) (.ixv 1 (.cst (.int (2))))) (.cmp .eq (.call Pk._law_leads Pk.E__law_leads_4.pm [(.var 3), (.var 4), (.var 2), (.ixv 1 (.cst (.int (1))))]) (.ixv 1 (.cst (.int (3)))))))]
def _law_fit : FnD := ⟨false, runB false 3 5 ir__law_fit⟩
@[simp] theorem mt__law_fit : _law_fit.mt = false := rfl
end Pk
end EvL

set_option Elab.async false
set_option linter.all false
set_option maxRecDepth 100000
namespace EvL
open PySem PySem.Spec PyProof.Rows L2
namespace Pk
def ir__law_laps : List IS := [(.ret (.bi .max2 [(.cst (.int (2))), (.bi .min2 [(.lenv 0), (.cst (.int (3)))])]))]
def _law_laps : FnD := ⟨false, runB false 1 1 ir__law_laps⟩
@[simp] theorem mt__law_laps : _law_laps.mt = false := rfl
theorem run__law_laps : _law_laps.run = runB false 1 1 ir__law_laps := rfl
def E__law_laps_1 : FnE := ⟨"_law_laps", 1, [], Pk._law_laps, [.inl 0], []⟩
@[simp] theorem pm_E__law_laps_1 (a0 : PyData) : E__law_laps_1.pm [a0] = [a0] := rfl
def ir__law_many : List IS := [(.ret (.callm Pk._law_pick 0 [(.tup [(.cst (.int (0))), (.cst (.int (1))), (.cst (.int (1))), (.cst (.int (2))), (.cst (.int (2))), (.cst (.int (2))), (.cst (.int (3))), (.cst (.int (3))), (.cst (.int (3))), (.cst (.int (3))), (.cst (.int (4))), (.cst (.int (4))), (.cst (.int (5)))])]))]
def _law_many : FnD := ⟨true, runB true 1 1 ir__law_many⟩
@[simp] theorem mt__law_many : _law_many.mt = true := rfl
theorem run__law_many : _law_many.run = runB true 1 1 ir__law_many := rfl
def E__law_many_1 : FnE := ⟨"_law_many", 1, [], Pk._law_many, [.inl 0], []⟩
def ir__law_plus : List IS := [(.ret (.call Pk._law_cut_v2 Pk.E__law_cut_v2_3.pm [(.bin .add (.bin .mul (.ixv 0 (.cst (.int (0)))) (.ixv 1 (.cst (.int (2))))) (.bin .mul (.ixv 1 (.cst (.int (0)))) (.ixv 0 (.cst (.int (2)))))), (.bin .add (.bin .mul (.ixv 0 (.cst (.int (1)))) (.ixv 1 (.cst (.int (2))))) (.bin .mul (.ixv 1 (.cst (.int (1)))) (.ixv 0 (.cst (.int (2)))))), (.bin .mul (.ixv 0 (.cst (.int (2)))) (.ixv 1 (.cst (.int (2)))))]))]
def _law_plus : FnD := ⟨false, runB false 2 2 ir__law_plus⟩
@[simp] theorem mt__law_plus : _law_plus.mt = false := rfl
theorem run__law_plus : _law_plus.run = runB false 2 2 ir__law_plus := rfl
def E__law_plus_2 : FnE := ⟨"_law_plus", 2, [], Pk._law_plus, [.inl 0, .inl 1], []⟩
@[simp] theorem pm_E__law_plus_2 (a0 a1 : PyData) : E__law_plus_2.pm [a0, a1] = [a0, a1] := rfl
def ir__law_made : List IS := [(.set 2 (.lco [7] (.nm 7) .rng1 [(.var 0)] (.bin .mul (.lst [(.tup [(.cst (.int (0))), (.cst (.int (0))), (.cst (.int (1)))])]) (.var 0)))), (.fr (.tp [(.nm 3), (.nm 4)]) .seq [(.var 1)] [(.fr (.nm 5) .rng1 [(.var 0)] [(.fr (.nm 6) .rng1 [(.var 0)] [(.puto 2 (.var 5) (.var 6) (.call Pk._law_plus Pk.E__law_plus_2.pm [(.ixo 2 (.var 5) (.var 6)), (.call Pk._law_times_v2 Pk.E__law_times_v2_2.pm [(.var 3), (.call Pk._law_times_v2 Pk.E__law_times_v2_2.pm [(.ixv 4 (.var 5)), (.call Pk._law_mirror Pk.E__law_mirror_1.pm [(.ixv 4 (.var 6))])])])]))])])]), (.reto 2)]
def _law_made : FnD := ⟨false, runB false 2 8 ir__law_made⟩
@[simp] theorem mt__law_made : _law_made.mt = false := rfl
theorem run__law_made : _law_made.run = runB false 2 8 ir__law_made := rfl
def E__law_made_2 : FnE := ⟨"_law_made", 2, [], Pk._law_made, [.inl 0, .inl 1], []⟩
@[simp] theorem pm_E__law_made_2 (a0 a1 : PyData) : E__law_made_2.pm [a0, a1] = [a0, a1] := rfl
def ir__law_ratio : List IS := [(.ret (.call Pk._law_cut_v2 Pk.E__law_cut_v2_3.pm [(.bin .sub (.callm Pk._law_draw 0 [(.cst (.int (15)))]) (.cst (.int (7)))), (.cst (.int (0))), (.callm Pk._law_pick 0 [(.tup [(.cst (.int (1))), (.cst (.int (1))), (.cst (.int (1))), (.cst (.int (2))), (.cst (.int (3)))])])]))]
def _law_ratio : FnD := ⟨true, runB true 1 1 ir__law_ratio⟩
@[simp] theorem mt__law_ratio : _law_ratio.mt = true := rfl
theorem run__law_ratio : _law_ratio.run = runB true 1 1 ir__law_ratio := rfl
def E__law_ratio_1 : FnE := ⟨"_law_ratio", 1, [], Pk._law_ratio, [.inl 0], []⟩
def ir__law_hermite : List IS := [(.set 2 (.lco [5] (.nm 5) .rng1 [(.var 1)] (.bin .mul (.lst [(.tup [(.cst (.int (0))), (.cst (.int (0))), (.cst (.int (1)))])]) (.var 1)))), (.fr (.nm 3) .rng1 [(.var 1)] [(.fr (.nm 4) .rng1 [(.var 3)] [(.puto 2 (.var 3) (.var 4) (.ite (.cmp .gt (.callm Pk._law_draw 0 [(.cst (.int (4)))]) (.cst (.int (0)))) (.callm Pk._law_gauss 0 []) (.tup [(.cst (.int (0))), (.cst (.int (0))), (.cst (.int (1)))]))), (.puto 2 (.var 4) (.var 3) (.call Pk._law_mirror Pk.E__law_mirror_1.pm [(.ixo 2 (.var 3) (.var 4))]))]), (.puto 2 (.var 3) (.var 3) (.callm Pk._law_ratio 0 []))]), (.reto 2)]
def _law_hermite : FnD := ⟨true, runB true 2 6 ir__law_hermite⟩
@[simp] theorem mt__law_hermite : _law_hermite.mt = true := rfl
theorem run__law_hermite : _law_hermite.run = runB true 2 6 ir__law_hermite := rfl
def E__law_hermite_2 : FnE := ⟨"_law_hermite", 2, [], Pk._law_hermite, [.inl 0, .inl 1], []⟩
def ir__law_small : List IS := [(.ife (.cmp .eq (.callm Pk._law_draw 0 [(.cst (.int (3)))]) (.cst (.int (0)))) [(.ret (.tup [(.cst (.int (0))), (.cst (.int (0))), (.cst (.int (1)))]))] []), (.ret (.call Pk._law_cut_v2 Pk.E__law_cut_v2_3.pm [(.bin .sub (.callm Pk._law_draw 0 [(.cst (.int (7)))]) (.cst (.int (3)))), (.ite (.cmp .eq (.callm Pk._law_draw 0 [(.cst (.int (2)))]) (.cst (.int (0)))) (.bin .sub (.callm Pk._law_draw 0 [(.cst (.int (7)))]) (.cst (.int (3)))) (.cst (.int (0)))), (.bin .add (.cst (.int (1))) (.callm Pk._law_draw 0 [(.cst (.int (2)))]))]))]
def _law_small : FnD := ⟨true, runB true 1 1 ir__law_small⟩
@[simp] theorem mt__law_small : _law_small.mt = true := rfl
theorem run__law_small : _law_small.run = runB true 1 1 ir__law_small := rfl
def E__law_small_1 : FnE := ⟨"_law_small", 1, [], Pk._law_small, [.inl 0], []⟩
def ir__law_positive : List IS := [(.ret (.call Pk._law_cut_v2 Pk.E__law_cut_v2_3.pm [(.bin .add (.cst (.int (1))) (.callm Pk._law_draw 0 [(.cst (.int (6)))])), (.cst (.int (0))), (.callm Pk._law_pick 0 [(.tup [(.cst (.int (1))), (.cst (.int (1))), (.cst (.int (2))), (.cst (.int (3))), (.cst (.int (7)))])])]))]
def _law_positive : FnD := ⟨true, runB true 1 1 ir__law_positive⟩
@[simp] theorem mt__law_positive : _law_positive.mt = true := rfl
theorem run__law_positive : _law_positive.run = runB true 1 1 ir__law_positive := rfl
def E__law_positive_1 : FnE := ⟨"_law_positive", 1, [], Pk._law_positive, [.inl 0], []⟩
def ir__law_drawn_table : List IS := [(.set 2 (.callm Pk._law_draw 0 [(.cst (.int (5)))])), (.ife (.cmp .eq (.var 2) (.cst (.int (0)))) [(.ret (.callm Pk._law_hermite 0 [(.var 1)]))] []), (.set 3 (.ite (.cmp .ne (.var 2) (.cst (.int (2)))) (.callm Pk._law_draw 0 [(.bin .add (.var 1) (.cst (.int (1))))]) (.var 1))), (.set 4 (.call Pk._law_made Pk.E__law_made_2.pm [(.var 1), (.lc [6] (.nm 6) .rng1 [(.var 3)] [] (.tup [(.callm Pk._law_positive 0 []), (.lc [7] (.nm 7) .rng1 [(.var 1)] [] (.callm Pk._law_small 0 []))]))])), (.ife (.and (.cmp .eq (.var 2) (.cst (.int (3)))) (.cmp .gt (.var 1) (.cst (.int (0))))) [(.set 5 (.callm Pk._law_draw 0 [(.var 1)])), (.puto 4 (.var 5) (.var 5) (.call Pk._law_less_v2 Pk.E__law_less_v2_2.pm [(.ixo 4 (.var 5) (.var 5)), (.call Pk._law_cut_v2 Pk.E__law_cut_v2_3.pm [(.cst (.int (1))), (.cst (.int (0))), (.bin .add (.cst (.int (1))) (.callm Pk._law_draw 0 [(.cst (.int (9)))]))])]))] []), (.ife (.and (.cmp .eq (.var 2) (.cst (.int (4)))) (.cmp .gt (.var 1) (.cst (.int (1))))) [(.set 5 (.callm Pk._law_draw 0 [(.bin .sub (.var 1) (.cst (.int (1))))])), (.puto 4 (.var 5) (.var 5) (.tup [(.cst (.int (0))), (.cst (.int (0))), (.cst (.int (1)))])), (.puto 4 (.var 5) (.bin .sub (.var 1) (.cst (.int (1)))) (.callm Pk._law_small 0 [])), (.puto 4 (.bin .sub (.var 1) (.cst (.int (1)))) (.var 5) (.call Pk._law_mirror Pk.E__law_mirror_1.pm [(.ixo 4 (.var 5) (.bin .sub (.var 1) (.cst (.int (1)))))]))] []), (.reto 4)]
def _law_drawn_table : FnD := ⟨true, runB true 2 8 ir__law_drawn_table⟩
@[simp] theorem mt__law_drawn_table : _law_drawn_table.mt = true := rfl
theorem run__law_drawn_table : _law_drawn_table.run = runB true 2 8 ir__law_drawn_table := rfl
def E__law_drawn_table_2 : FnE := ⟨"_law_drawn_table", 2, [], Pk._law_drawn_table, [.inl 0, .inl 1], []⟩
def ir__law_tab : List IS := [(.ret (.bi .tuple [(.lc [1] (.nm 1) .seq [(.var 0)] [] (.call Pk._law_line Pk.E__law_line_1.pm [(.var 1)]))]))]
def _law_tab : FnD := ⟨false, runB false 1 2 ir__law_tab⟩
@[simp] theorem mt__law_tab : _law_tab.mt = false := rfl
theorem run__law_tab : _law_tab.run = runB false 1 2 ir__law_tab := rfl
def E__law_tab_1 : FnE := ⟨"_law_tab", 1, [], Pk._law_tab, [.inl 0], []⟩
@[simp] theorem pm_E__law_tab_1 (a0 : PyData) : E__law_tab_1.pm [a0] = [a0] := rfl
def ir_fits_as_row : List IS := [(.ife (.or (.not (.bi .istuple [(.var 2)])) (.or (.cmp .ne (.lenv 2) (.lenv 0)) (.not (.bi .all [(.lc [3] (.nm 3) .seq [(.var 2)] [] (.call Pk.is_num Pk.E_is_num_1.pm [(.var 3)]))])))) [(.ret (.cst (.bool false)))] []), (.ret (.bi .all [(.lc [4] (.nm 4) .rng1 [(.bin .add (.var 1) (.cst (.int (1))))] [] (.cmp .eq (.ixv 2 (.var 4)) (.call Pk.num_mirrored Pk.E_num_mirrored_1.pm [(.ix (.ixv 0 (.var 4)) (.var 1))])))]))]
def fits_as_row : FnD := ⟨false, runB false 3 5 ir_fits_as_row⟩
@[simp] theorem mt_fits_as_row : fits_as_row.mt = false := rfl
theorem run_fits_as_row : fits_as_row.run = runB false 3 5 ir_fits_as_row := rfl
def E_fits_as_row_3 : FnE := ⟨"fits_as_row", 3, [], Pk.fits_as_row, [.inl 0, .inl 1, .inl 2], []⟩
@[simp] theorem pm_E_fits_as_row_3 (a0 a1 a2 : PyData) : E_fits_as_row_3.pm [a0, a1, a2] = [a0, a1, a2] := rfl
def ir_wrong_in_table : List IS := [(.ife (.or (.not (.bi .istuple [(.var 0)])) (.cmp .gt (.lenv 0) (.cst (.int (6))))) [(.ret (.lst [(.cst .none)]))] []), (.fr (.tp [(.nm 1), (.nm 2)]) .enum [(.var 0)] [(.ife (.not (.call Pk.fits_as_row Pk.E_fits_as_row_3.pm [(.var 0), (.var 1), (.var 2)])) [(.ret (.lst [(.var 1)]))] [])]), (.ret (.lst []))]
def wrong_in_table : FnD := ⟨false, runB false 1 3 ir_wrong_in_table⟩
@[simp] theorem mt_wrong_in_table : wrong_in_table.mt = false := rfl
theorem run_wrong_in_table : wrong_in_table.run = runB false 1 3 ir_wrong_in_table := rfl
def E_wrong_in_table_1 : FnE := ⟨"wrong_in_table", 1, [], Pk.wrong_in_table, [.inl 0], []⟩
@[simp] theorem pm_E_wrong_in_table_1 (a0 : PyData) : E_wrong_in_table_1.pm [a0] = [a0] := rfl
def ir_check_table : List IS := [(.fr (.nm 1) .seq [(.call Pk.wrong_in_table Pk.E_wrong_in_table_1.pm [(.var 0)])] [.nev])]
def check_table : FnD := ⟨false, runB false 1 2 ir_check_table⟩
@[simp] theorem mt_check_table : check_table.mt = false := rfl
theorem run_check_table : check_table.run = runB false 1 2 ir_check_table := rfl
def E_check_table_1 : FnE := ⟨"check_table", 1, [], Pk.check_table, [.inl 0], []⟩
@[simp] theorem pm_E_check_table_1 (a0 : PyData) : E_check_table_1.pm [a0] = [a0] := rfl
def ir_wrong_in_mix : List IS := [(.ife (.or (.not (.bi .istuple [(.var 0)])) (.cmp .ne (.lenv 0) (.var 1))) [(.ret (.lst [(.cst .none)]))] []), (.ret (.slc false true (.lc [2, 3] (.tp [(.nm 2), (.nm 3)]) .enum [(.var 0)] [(.not (.call Pk.is_num Pk.E_is_num_1.pm [(.var 3)]))] (.var 2)) (.cst .none) (.cst (.int (1)))))]
def wrong_in_mix : FnD := ⟨false, runB false 2 4 ir_wrong_in_mix⟩
@[simp] theorem mt_wrong_in_mix : wrong_in_mix.mt = false := rfl
theorem run_wrong_in_mix : wrong_in_mix.run = runB false 2 4 ir_wrong_in_mix := rfl
def E_wrong_in_mix_2 : FnE := ⟨"wrong_in_mix", 2, [], Pk.wrong_in_mix, [.inl 0, .inl 1], []⟩
@[simp] theorem pm_E_wrong_in_mix_2 (a0 a1 : PyData) : E_wrong_in_mix_2.pm [a0, a1] = [a0, a1] := rfl
def ir_check_mix : List IS := [(.fr (.nm 2) .seq [(.call Pk.wrong_in_mix Pk.E_wrong_in_mix_2.pm [(.var 0), (.lenv 1)])] [.nev])]
def check_mix : FnD := ⟨false, runB false 2 3 ir_check_mix⟩
@[simp] theorem mt_check_mix : check_mix.mt = false := rfl
theorem run_check_mix : check_mix.run = runB false 2 3 ir_check_mix := rfl
def E_check_mix_2 : FnE := ⟨"check_mix", 2, [], Pk.check_mix, [.inl 0, .inl 1], []⟩
@[simp] theorem pm_E_check_mix_2 (a0 a1 : PyData) : E_check_mix_2.pm [a0, a1] = [a0, a1] := rfl
def ir_inner_sum : List IS := [(.set 2 (.cst (.tuple [(.tuple [(.int (0)), (.int (1))]), (.tuple [(.int (0)), (.int (1))])]))), (.fr (.tp [(.nm 3), (.nm 4)]) .zip [(.var 0), (.var 1)] [(.set 2 (.call Pk.num_sum Pk.E_num_sum_2.pm [(.var 2), (.call Pk.num_product Pk.E_num_product_2.pm [(.var 3), (.var 4)])]))]), (.ret (.var 2))]
def inner_sum : FnD := ⟨false, runB false 2 5 ir_inner_sum⟩
@[simp] theorem mt_inner_sum : inner_sum.mt = false := rfl
theorem run_inner_sum : inner_sum.run = runB false 2 5 ir_inner_sum := rfl
def E_inner_sum_2 : FnE := ⟨"inner_sum", 2, [], Pk.inner_sum, [.inl 0, .inl 1], []⟩
@[simp] theorem pm_E_inner_sum_2 (a0 a1 : PyData) : E_inner_sum_2.pm [a0, a1] = [a0, a1] := rfl
def ir_mix_times : List IS := [(.ret (.bi .tuple [(.lc [2] (.nm 2) .rng1 [(.lenv 1)] [] (.call Pk.inner_sum Pk.E_inner_sum_2.pm [(.var 0), (.lc [3] (.nm 3) .seq [(.var 1)] [] (.ixv 3 (.var 2)))]))]))]
def mix_times : FnD := ⟨false, runB false 2 4 ir_mix_times⟩
@[simp] theorem mt_mix_times : mix_times.mt = false := rfl
theorem run_mix_times : mix_times.run = runB false 2 4 ir_mix_times := rfl
def E_mix_times_2 : FnE := ⟨"mix_times", 2, [], Pk.mix_times, [.inl 0, .inl 1], []⟩
@[simp] theorem pm_E_mix_times_2 (a0 a1 : PyData) : E_mix_times_2.pm [a0, a1] = [a0, a1] := rfl
def ir_mix_mirrored : List IS := [(.ret (.bi .tuple [(.lc [1] (.nm 1) .seq [(.var 0)] [] (.call Pk.num_mirrored Pk.E_num_mirrored_1.pm [(.var 1)]))]))]
def mix_mirrored : FnD := ⟨false, runB false 1 2 ir_mix_mirrored⟩
@[simp] theorem mt_mix_mirrored : mix_mirrored.mt = false := rfl
theorem run_mix_mirrored : mix_mirrored.run = runB false 1 2 ir_mix_mirrored := rfl
def E_mix_mirrored_1 : FnE := ⟨"mix_mirrored", 1, [], Pk.mix_mirrored, [.inl 0], []⟩
@[simp] theorem pm_E_mix_mirrored_1 (a0 : PyData) : E_mix_mirrored_1.pm [a0] = [a0] := rfl
def ir_out_together : List IS := [(.ret (.call Pk.inner_sum Pk.E_inner_sum_2.pm [(.call Pk.mix_times Pk.E_mix_times_2.pm [(.var 1), (.var 0)]), (.call Pk.mix_mirrored Pk.E_mix_mirrored_1.pm [(.var 2)])]))]
def out_together : FnD := ⟨false, runB false 3 3 ir_out_together⟩
@[simp] theorem mt_out_together : out_together.mt = false := rfl
theorem run_out_together : out_together.run = runB false 3 3 ir_out_together := rfl
def E_out_together_3 : FnE := ⟨"out_together", 3, [], Pk.out_together, [.inl 0, .inl 1, .inl 2], []⟩
@[simp] theorem pm_E_out_together_3 (a0 a1 a2 : PyData) : E_out_together_3.pm [a0, a1, a2] = [a0, a1, a2] := rfl
def ir_out_of : List IS := [(.ret (.ix (.call Pk.out_together Pk.E_out_together_3.pm [(.var 0), (.var 1), (.var 1)]) (.cst (.int (0)))))]
def out_of : FnD := ⟨false, runB false 2 2 ir_out_of⟩
@[simp] theorem mt_out_of : out_of.mt = false := rfl
theorem run_out_of : out_of.run = runB false 2 2 ir_out_of := rfl
def E_out_of_2 : FnE := ⟨"out_of", 2, [], Pk.out_of, [.inl 0, .inl 1], []⟩
@[simp] theorem pm_E_out_of_2 (a0 a1 : PyData) : E_out_of_2.pm [a0, a1] = [a0, a1] := rfl
def ir_comes_out : List IS := [(.exp (.call Pk.check_table Pk.E_check_table_1.pm [(.var 0)])), (.exp (.call Pk.check_mix Pk.E_check_mix_2.pm [(.var 1), (.var 0)])), (.ret (.call Pk.out_of Pk.E_out_of_2.pm [(.var 0), (.var 1)]))]
def comes_out : FnD := ⟨false, runB false 2 2 ir_comes_out⟩
@[simp] theorem mt_comes_out : comes_out.mt = false := rfl
theorem run_comes_out : comes_out.run = runB false 2 2 ir_comes_out := rfl
def E_comes_out_2 : FnE := ⟨"comes_out", 2, [], Pk.comes_out, [.inl 0, .inl 1], []⟩
@[simp] theorem pm_E_comes_out_2 (a0 a1 : PyData) : E_comes_out_2.pm [a0, a1] = [a0, a1] := rfl
def ir_come_out_together : List IS := [(.exp (.call Pk.check_table Pk.E_check_table_1.pm [(.var 0)])), (.exp (.call Pk.check_mix Pk.E_check_mix_2.pm [(.var 1), (.var 0)])), (.exp (.call Pk.check_mix Pk.E_check_mix_2.pm [(.var 2), (.var 0)])), (.ret (.call Pk.out_together Pk.E_out_together_3.pm [(.var 0), (.var 1), (.var 2)]))]
def come_out_together : FnD := ⟨false, runB false 3 3 ir_come_out_together⟩
@[simp] theorem mt_come_out_together : come_out_together.mt = false := rfl
theorem run_come_out_together : come_out_together.run = runB false 3 3 ir_come_out_together := rfl
def E_come_out_together_3 : FnE := ⟨"come_out_together", 3, [], Pk.come_out_together, [.inl 0, .inl 1, .inl 2], []⟩
@[simp] theorem pm_E_come_out_together_3 (a0 a1 a2 : PyData) : E_come_out_together_3.pm [a0, a1, a2] = [a0, a1, a2] := rfl
def ir__law_dot : List IS := [(.set 2 (.tup [(.cst (.int (0))), (.cst (.int (0))), (.cst (.int (1)))])), (.fr (.nm 3) .rng1 [(.lenv 0)] [(.set 2 (.call Pk._law_plus Pk.E__law_plus_2.pm [(.var 2), (.call Pk._law_times_v2 Pk.E__law_times_v2_2.pm [(.ixv 0 (.var 3)), (.call Pk._law_mirror Pk.E__law_mirror_1.pm [(.ixv 1 (.var 3))])])]))]), (.ret (.var 2))]
def _law_dot : FnD := ⟨false, runB false 2 4 ir__law_dot⟩
@[simp] theorem mt__law_dot : _law_dot.mt = false := rfl
theorem run__law_dot : _law_dot.run = runB false 2 4 ir__law_dot := rfl
def E__law_dot_2 : FnE := ⟨"_law_dot", 2, [], Pk._law_dot, [.inl 0, .inl 1], []⟩
@[simp] theorem pm_E__law_dot_2 (a0 a1 : PyData) : E__law_dot_2.pm [a0, a1] = [a0, a1] := rfl
def ir__law_run : List IS := [(.set 2 (.lst [])), (.fr (.nm 3) .rng1 [(.lenv 0)] [(.set 4 (.tup [(.cst (.int (0))), (.cst (.int (0))), (.cst (.int (1)))])), (.fr (.nm 5) .rng1 [(.lenv 0)] [(.set 4 (.call Pk._law_plus Pk.E__law_plus_2.pm [(.var 4), (.call Pk._law_times_v2 Pk.E__law_times_v2_2.pm [(.ixv 1 (.var 5)), (.ix (.ixv 0 (.var 5)) (.var 3))])]))]), (.app 2 (.var 4))]), (.ret (.var 2))]
def _law_run : FnD := ⟨false, runB false 2 6 ir__law_run⟩
@[simp] theorem mt__law_run : _law_run.mt = false := rfl
theorem run__law_run : _law_run.run = runB false 2 6 ir__law_run := rfl
def E__law_run_2 : FnE := ⟨"_law_run", 2, [], Pk._law_run, [.inl 0, .inl 1], []⟩
@[simp] theorem pm_E__law_run_2 (a0 a1 : PyData) : E__law_run_2.pm [a0, a1] = [a0, a1] := rfl
def ir__law_led : List IS := [(.set 2 (.lc [3] (.nm 3) .seq [(.var 1)] [] (.call Pk._law_run Pk.E__law_run_2.pm [(.var 0), (.var 3)]))), (.ret (.lc [3] (.nm 3) .seq [(.var 2)] [] (.lc [4] (.nm 4) .seq [(.var 1)] [] (.call Pk._law_dot Pk.E__law_dot_2.pm [(.var 3), (.var 4)]))))]
def _law_led : FnD := ⟨false, runB false 2 5 ir__law_led⟩
@[simp] theorem mt__law_led : _law_led.mt = false := rfl
theorem run__law_led : _law_led.run = runB false 2 5 ir__law_led := rfl
def E__law_led_2 : FnE := ⟨"_law_led", 2, [], Pk._law_led, [.inl 0, .inl 1], []⟩
@[simp] theorem pm_E__law_led_2 (a0 a1 : PyData) : E__law_led_2.pm [a0, a1] = [a0, a1] := rfl
end Pk
end EvL

set_option Elab.async false
set_option linter.all false
set_option maxRecDepth 100000
namespace EvL
open PySem PySem.Spec PyProof.Rows L2
namespace Pk
def ir_lead_square : List IS := [(.set 2 (.ix (.ixv 0 (.var 1)) (.var 1))), (.ret (.tup [(.ixv 2 (.cst (.int (0)))), (.bi .tuple [(.lc [3] (.nm 3) .seq [(.var 0)] [] (.call Pk.num_over Pk.E_num_over_2.pm [(.ixv 3 (.var 1)), (.var 2)]))])]))]
def lead_square : FnD := ⟨false, runB false 2 4 ir_lead_square⟩
@[simp] theorem mt_lead_square : lead_square.mt = false := rfl
def E_lead_square_2 : FnE := ⟨"lead_square", 2, [], Pk.lead_square, [.inl 0, .inl 1], []⟩
@[simp] theorem pm_E_lead_square_2 (a0 a1 : PyData) : E_lead_square_2.pm [a0, a1] = [a0, a1] := rfl
def ir_mix_less : List IS := [(.ret (.bi .tuple [(.lc [3, 4] (.tp [(.nm 3), (.nm 4)]) .zip [(.var 0), (.var 1)] [] (.call Pk.num_less Pk.E_num_less_2.pm [(.var 3), (.call Pk.num_product Pk.E_num_product_2.pm [(.var 2), (.var 4)])]))]))]
def mix_less : FnD := ⟨false, runB false 3 5 ir_mix_less⟩
@[simp] theorem mt_mix_less : mix_less.mt = false := rfl
theorem run_mix_less : mix_less.run = runB false 3 5 ir_mix_less := rfl
def E_mix_less_3 : FnE := ⟨"mix_less", 3, [], Pk.mix_less, [.inl 0, .inl 1, .inl 2], []⟩
@[simp] theorem pm_E_mix_less_3 (a0 a1 a2 : PyData) : E_mix_less_3.pm [a0, a1, a2] = [a0, a1, a2] := rfl
def ir_tables_minus : List IS := [(.ret (.bi .tuple [(.lc [2, 3] (.tp [(.nm 2), (.nm 3)]) .zip [(.var 0), (.var 1)] [] (.call Pk.mix_less Pk.E_mix_less_3.pm [(.var 2), (.var 3), (.cst (.tuple [(.tuple [(.int (1)), (.int (1))]), (.tuple [(.int (0)), (.int (1))])]))]))]))]
def tables_minus : FnD := ⟨false, runB false 2 4 ir_tables_minus⟩
@[simp] theorem mt_tables_minus : tables_minus.mt = false := rfl
def E_tables_minus_2 : FnE := ⟨"tables_minus", 2, [], Pk.tables_minus, [.inl 0, .inl 1], []⟩
@[simp] theorem pm_E_tables_minus_2 (a0 a1 : PyData) : E_tables_minus_2.pm [a0, a1] = [a0, a1] := rfl
def ir_first_other : List IS := [(.fr (.tp [(.nm 1), (.nm 2)]) .enum [(.var 0)] [(.ife (.cmp .ne (.var 2) (.cst (.tuple [(.tuple [(.int (0)), (.int (1))]), (.tuple [(.int (0)), (.int (1))])]))) [(.ret (.var 1))] [])]), (.ret (.cst .none))]
def first_other : FnD := ⟨false, runB false 1 3 ir_first_other⟩
@[simp] theorem mt_first_other : first_other.mt = false := rfl
theorem run_first_other : first_other.run = runB false 1 3 ir_first_other := rfl
def E_first_other_1 : FnE := ⟨"first_other", 1, [], Pk.first_other, [.inl 0], []⟩
@[simp] theorem pm_E_first_other_1 (a0 : PyData) : E_first_other_1.pm [a0] = [a0] := rfl
def ir_frac_sign : List IS := [(.ret (.bin .sub (.cmp .gt (.ixv 0 (.cst (.int (0)))) (.cst (.int (0)))) (.cmp .lt (.ixv 0 (.cst (.int (0)))) (.cst (.int (0))))))]
def frac_sign : FnD := ⟨false, runB false 1 1 ir_frac_sign⟩
@[simp] theorem mt_frac_sign : frac_sign.mt = false := rfl
def E_frac_sign_1 : FnE := ⟨"frac_sign", 1, [], Pk.frac_sign, [.inl 0], []⟩
@[simp] theorem pm_E_frac_sign_1 (a0 : PyData) : E_frac_sign_1.pm [a0] = [a0] := rfl
def ir_square_table : List IS := [(.set 1 (.call Pk.mix_mirrored Pk.E_mix_mirrored_1.pm [(.ixv 0 (.cst (.int (1))))])), (.set 2 (.lst [])), (.fr (.nm 3) .seq [(.ixv 0 (.cst (.int (1))))] [(.app 2 (.bi .tuple [(.lc [4] (.nm 4) .seq [(.var 1)] [] (.call Pk.num_scaled Pk.E_num_scaled_2.pm [(.call Pk.num_product Pk.E_num_product_2.pm [(.var 3), (.var 4)]), (.ixv 0 (.cst (.int (0))))]))]))]), (.ret (.bi .tuple [(.var 2)]))]
def square_table : FnD := ⟨false, runB false 1 5 ir_square_table⟩
@[simp] theorem mt_square_table : square_table.mt = false := rfl
def E_square_table_1 : FnE := ⟨"square_table", 1, [], Pk.square_table, [.inl 0], []⟩
@[simp] theorem pm_E_square_table_1 (a0 : PyData) : E_square_table_1.pm [a0] = [a0] := rfl
def ir_clearing : List IS := [(.par [1, 2] [(.lst []), (.var 0)]), (.fr (.nm 3) .rng1 [(.lenv 0)] [(.ife (.cmp .is (.call Pk.first_other Pk.E_first_other_1.pm [(.ixv 2 (.var 3))]) (.cst .none)) [.cnt] []), (.ife (.cmp .le (.call Pk.frac_sign Pk.E_frac_sign_1.pm [(.ix (.ix (.ixv 2 (.var 3)) (.var 3)) (.cst (.int (0))))]) (.cst (.int (0)))) [(.ret (.tup [(.bi .tuple [(.var 1)]), (.var 3), (.var 2)]))] []), (.set 4 (.call Pk.lead_square Pk.E_lead_square_2.pm [(.var 2), (.var 3)])), (.app 1 (.var 4)), (.set 2 (.call Pk.tables_minus Pk.E_tables_minus_2.pm [(.var 2), (.call Pk.square_table Pk.E_square_table_1.pm [(.var 4)])]))]), (.ret (.tup [(.bi .tuple [(.var 1)]), (.cst .none), (.var 2)]))]
def clearing : FnD := ⟨false, runB false 1 5 ir_clearing⟩
@[simp] theorem mt_clearing : clearing.mt = false := rfl
def ir_unit_mix : List IS := [(.ret (.bi .tuple [(.lc [3] (.nm 3) .rng1 [(.var 0)] [] (.ite (.cmp .eq (.var 3) (.var 1)) (.var 2) (.cst (.tuple [(.tuple [(.int (0)), (.int (1))]), (.tuple [(.int (0)), (.int (1))])]))))]))]
def unit_mix : FnD := ⟨false, runB false 3 4 ir_unit_mix⟩
@[simp] theorem mt_unit_mix : unit_mix.mt = false := rfl
theorem run_unit_mix : unit_mix.run = runB false 3 4 ir_unit_mix := rfl
def E_unit_mix_2 : FnE := ⟨"unit_mix", 2, [], Pk.unit_mix, [.inl 0, .inl 1, .inr 0], [(.tuple [(.tuple [(.int (1)), (.int (1))]), (.tuple [(.int (0)), (.int (1))])])]⟩
@[simp] theorem pm_E_unit_mix_2 (a0 a1 : PyData) : E_unit_mix_2.pm [a0, a1] = [a0, a1, (.tuple [(.tuple [(.int (1)), (.int (1))]), (.tuple [(.int (0)), (.int (1))])])] := rfl
end Pk
end EvL

set_option Elab.async false
set_option linter.all false
set_option maxRecDepth 100000
namespace EvL
open PySem PySem.Spec PyProof.Rows L2
namespace Pk
def ir__law_flat : List IS := [(.ife (.cmp .eq (.callm Pk._law_draw 0 [(.cst (.int (3)))]) (.cst (.int (0)))) [(.ret (.callm Pk._law_drawn_table 0 [(.var 1)]))] []), (.set 2 (.callm Pk._law_draw 0 [(.bin .add (.var 1) (.cst (.int (1))))])), (.ret (.call Pk._law_led Pk.E__law_led_2.pm [(.callm Pk._law_hermite 0 [(.var 2)]), (.lc [3] (.nm 3) .rng1 [(.var 1)] [] (.lc [4] (.nm 4) .rng1 [(.var 2)] [] (.callm Pk._law_small 0 [])))]))]
def _law_flat : FnD := ⟨true, runB true 2 5 ir__law_flat⟩
@[simp] theorem mt__law_flat : _law_flat.mt = true := rfl
theorem run__law_flat : _law_flat.run = runB true 2 5 ir__law_flat := rfl
def E__law_flat_2 : FnE := ⟨"_law_flat", 2, [], Pk._law_flat, [.inl 0, .inl 1], []⟩
def ir_null_by : List IS := [(.par [1, 2] [(.lst []), (.lst [])]), (.fr (.nm 3) .rng1 [(.lenv 0)] [(.par [4, 5] [(.ixv 0 (.var 3)), (.call Pk.unit_mix Pk.E_unit_mix_2.pm [(.lenv 0), (.var 3)])]), (.fro (.tp [(.nm 6), (.nm 7), (.nm 8)]) 1 [(.set 9 (.call Pk.num_over Pk.E_num_over_2.pm [(.ixv 4 (.var 6)), (.ixv 7 (.var 6))])), (.par [4, 5] [(.call Pk.mix_less Pk.E_mix_less_3.pm [(.var 4), (.var 7), (.var 9)]), (.call Pk.mix_less Pk.E_mix_less_3.pm [(.var 5), (.var 8), (.var 9)])])]), (.set 10 (.call Pk.first_other Pk.E_first_other_1.pm [(.var 4)])), (.ife (.cmp .is (.var 10) (.cst .none)) [(.app 2 (.var 5))] [(.app 1 (.tup [(.var 10), (.var 4), (.var 5)]))])]), (.ret (.bi .tuple [(.var 2)]))]
def null_by : FnD := ⟨false, runB false 1 11 ir_null_by⟩
@[simp] theorem mt_null_by : null_by.mt = false := rfl
theorem run_null_by : null_by.run = runB false 1 11 ir_null_by := rfl
def E_null_by_1 : FnE := ⟨"null_by", 1, [], Pk.null_by, [.inl 0], []⟩
@[simp] theorem pm_E_null_by_1 (a0 : PyData) : E_null_by_1.pm [a0] = [a0] := rfl
def ir_null_mixes : List IS := [(.exp (.call Pk.check_table Pk.E_check_table_1.pm [(.var 0)])), (.ret (.call Pk.null_by Pk.E_null_by_1.pm [(.var 0)]))]
def null_mixes : FnD := ⟨false, runB false 1 1 ir_null_mixes⟩
@[simp] theorem mt_null_mixes : null_mixes.mt = false := rfl
theorem run_null_mixes : null_mixes.run = runB false 1 1 ir_null_mixes := rfl
def E_null_mixes_1 : FnE := ⟨"null_mixes", 1, [], Pk.null_mixes, [.inl 0], []⟩
@[simp] theorem pm_E_null_mixes_1 (a0 : PyData) : E_null_mixes_1.pm [a0] = [a0] := rfl
def E_null_mixes_0_table : FnE := ⟨"null_mixes", 0, ["table"], Pk.null_mixes, [.inl 0], []⟩
@[simp] theorem pm_E_null_mixes_0_table (a0 : PyData) : E_null_mixes_0_table.pm [a0] = [a0] := rfl
def ir__law_bare : List IS := [(.set 2 (.lc [3] (.nm 3) .rng1 [(.lenv 0)] [(.not (.call Pk._law_is_nought Pk.E__law_is_nought_1.pm [(.ix (.ixv 0 (.var 3)) (.var 1))]))] (.var 3))), (.ret (.ite (.cmp .eq (.var 2) (.lst [])) (.cst .none) (.ixv 2 (.cst (.int (0))))))]
def _law_bare : FnD := ⟨false, runB false 2 4 ir__law_bare⟩
@[simp] theorem mt__law_bare : _law_bare.mt = false := rfl
theorem run__law_bare : _law_bare.run = runB false 2 4 ir__law_bare := rfl
def E__law_bare_2 : FnE := ⟨"_law_bare", 2, [], Pk._law_bare, [.inl 0, .inl 1], []⟩
@[simp] theorem pm_E__law_bare_2 (a0 a1 : PyData) : E__law_bare_2.pm [a0, a1] = [a0, a1] := rfl
def ir__law_rank : List IS := [(.par [1, 2] [(.bi .list [(.var 0)]), (.cst (.int (0)))]), (.fr (.nm 3) .rng1 [(.ite (.cmp .ne (.var 0) (.lst [])) (.bi .len [(.ixv 0 (.cst (.int (0))))]) (.cst (.int (0))))] [(.set 4 (.call Pk._law_bare Pk.E__law_bare_2.pm [(.var 1), (.var 3)])), (.ife (.cmp .isn (.var 4) (.cst .none)) [(.par [2, 5, 6] [(.bin .add (.var 2) (.cst (.int (1)))), (.ixv 1 (.var 4)), (.lst [])]), (.fr (.nm 7) .seq [(.bin .add (.slc false true (.var 1) (.cst .none) (.var 4)) (.slc true false (.var 1) (.bin .add (.var 4) (.cst (.int (1)))) (.cst .none)))] [(.set 8 (.call Pk._law_over_v2 Pk.E__law_over_v2_2.pm [(.ixv 7 (.var 3)), (.ixv 5 (.var 3))])), (.app 6 (.lc [9] (.nm 9) .rng1 [(.lenv 7)] [] (.call Pk._law_less_v2 Pk.E__law_less_v2_2.pm [(.ixv 7 (.var 9)), (.call Pk._law_times_v2 Pk.E__law_times_v2_2.pm [(.var 8), (.ixv 5 (.var 9))])])))]), (.set 1 (.var 6))] [])]), (.ret (.var 2))]
def _law_rank : FnD := ⟨false, runB false 1 10 ir__law_rank⟩
@[simp] theorem mt__law_rank : _law_rank.mt = false := rfl
theorem run__law_rank : _law_rank.run = runB false 1 10 ir__law_rank := rfl
def E__law_rank_1 : FnE := ⟨"_law_rank", 1, [], Pk._law_rank, [.inl 0], []⟩
@[simp] theorem pm_E__law_rank_1 (a0 : PyData) : E__law_rank_1.pm [a0] = [a0] := rfl
def ir__law_hanging : List IS := [(.ret (.lc [1] (.nm 1) .rng1 [(.lenv 0)] [(.cmp .eq (.call Pk._law_rank Pk.E__law_rank_1.pm [(.slc false true (.var 0) (.cst .none) (.bin .add (.var 1) (.cst (.int (1)))))]) (.call Pk._law_rank Pk.E__law_rank_1.pm [(.slc false true (.var 0) (.cst .none) (.var 1))]))] (.var 1)))]
def _law_hanging : FnD := ⟨false, runB false 1 2 ir__law_hanging⟩
@[simp] theorem mt__law_hanging : _law_hanging.mt = false := rfl
theorem run__law_hanging : _law_hanging.run = runB false 1 2 ir__law_hanging := rfl
def E__law_hanging_1 : FnE := ⟨"_law_hanging", 1, [], Pk._law_hanging, [.inl 0], []⟩
@[simp] theorem pm_E__law_hanging_1 (a0 : PyData) : E__law_hanging_1.pm [a0] = [a0] := rfl
def ir__law_fit_v2 : List IS := [(.par [2, 3] [(.call Pk._law_hanging Pk.E__law_hanging_1.pm [(.var 0)]), (.lst [])]), (.ife (.or (.not (.bi .istuple [(.var 1)])) (.cmp .ne (.lenv 1) (.lenv 2))) [(.ret (.cst (.bool false)))] []), (.fr (.nm 4) .seq [(.var 1)] [(.ife (.not (.call Pk._law_is_line Pk.E__law_is_line_2.pm [(.var 4), (.lenv 0)])) [(.ret (.cst (.bool false)))] []), (.app 3 (.lc [6] (.nm 6) .seq [(.var 4)] [] (.call Pk._law_read Pk.E__law_read_1.pm [(.var 6)])))]), (.fr (.nm 5) .rng1 [(.lenv 3)] [(.ife (.cmp .ne (.lc [7] (.nm 7) .seq [(.var 2)] [] (.ix (.ixv 3 (.var 5)) (.var 7))) (.lc [7] (.nm 7) .seq [(.var 2)] [] (.tup [(.bi .int [(.cmp .eq (.var 7) (.ixv 2 (.var 5)))]), (.cst (.int (0))), (.cst (.int (1)))]))) [(.ret (.cst (.bool false)))] []), (.ife (.cmp .ne (.lc [6] (.nm 6) .seq [(.call Pk._law_run Pk.E__law_run_2.pm [(.var 0), (.ixv 3 (.var 5))])] [(.not (.call Pk._law_is_nought Pk.E__law_is_nought_1.pm [(.var 6)]))] (.var 6)) (.lst [])) [(.ret (.cst (.bool false)))] [])]), (.ret (.cst (.bool true)))]
def _law_fit_v2 : FnD := ⟨false, runB false 2 8 ir__law_fit_v2⟩
@[simp] theorem mt__law_fit_v2 : _law_fit_v2.mt = false := rfl
theorem run__law_fit_v2 : _law_fit_v2.run = runB false 2 8 ir__law_fit_v2 := rfl
def E__law_fit_v2_2 : FnE := ⟨"_law_fit", 2, [], Pk._law_fit_v2, [.inl 0, .inl 1], []⟩
@[simp] theorem pm_E__law_fit_v2_2 (a0 a1 : PyData) : E__law_fit_v2_2.pm [a0, a1] = [a0, a1] := rfl
def ir_rank_of : List IS := [(.exp (.call Pk.check_table Pk.E_check_table_1.pm [(.var 0)])), (.ret (.bin .sub (.lenv 0) (.bi .len [(.call Pk.null_by Pk.E_null_by_1.pm [(.var 0)])])))]
def rank_of : FnD := ⟨false, runB false 1 1 ir_rank_of⟩
@[simp] theorem mt_rank_of : rank_of.mt = false := rfl
theorem run_rank_of : rank_of.run = runB false 1 1 ir_rank_of := rfl
def E_rank_of_1 : FnE := ⟨"rank_of", 1, [], Pk.rank_of, [.inl 0], []⟩
@[simp] theorem pm_E_rank_of_1 (a0 : PyData) : E_rank_of_1.pm [a0] = [a0] := rfl
def E_rank_of_0_table : FnE := ⟨"rank_of", 0, ["table"], Pk.rank_of, [.inl 0], []⟩
@[simp] theorem pm_E_rank_of_0_table (a0 : PyData) : E_rank_of_0_table.pm [a0] = [a0] := rfl
end Pk
end EvL

set_option Elab.async false
set_option linter.all false
set_option maxRecDepth 100000
namespace EvL
open PySem PySem.Spec PyProof.Rows L2
namespace Pk
end Pk
end EvL

set_option Elab.async false
set_option linter.all false
set_option maxRecDepth 100000
set_option maxHeartbeats 16000000
namespace K36
open PySem PySem.Spec PyProof.Rows L2 EvL
abbrev PP : Program := PySem.Challenge.pw_rimseries_k36_whole_null_mixes_and_rank
abbrev QQ : PySem.W.OpenLaw := PySem.Challenge.rw_rimseries_k36_whole_null_mixes_and_rank
def st (i : Nat) : Stmt := PP.main.body.getD i (.Pass ⟨0, 0, 0, 0⟩)
def FREE : List Str := ["max", "min", "len", "divmod", "int", "abs", "range", "tuple", "isinstance", "bool", "all", "enumerate", "zip", "list", "repr"]
def CON : List (Str × PyData) := [("MOST_ROWS", (.int (6))), ("NOUGHT", (.tuple [(.tuple [(.int (0)), (.int (1))]), (.tuple [(.int (0)), (.int (1))])])), ("ONE", (.tuple [(.tuple [(.int (1)), (.int (1))]), (.tuple [(.int (0)), (.int (1))])])), ("FRAC_ONE", (.tuple [(.int (1)), (.int (1))]))]
def n__law_laps : List Str := ["script"]
def c__law_laps : Cc := ⟨⟨n__law_laps, defScope (st 52), [], CON, true, FREE⟩, cellsOf (defScope (st 52)), [], []⟩
def d__law_laps : Dfn := ⟨st 52, c__law_laps, ["script"], false, Pk.ir__law_laps⟩
@[simp] theorem pk__law_laps : d__law_laps.f = Pk._law_laps := rfl
theorem ok__law_laps : DefOk d__law_laps.c d__law_laps.ps (defScope d__law_laps.st) (defBody d__law_laps.st) d__law_laps.ir := ⟨⟨rfl, rfl, rfl, by decide +kernel, rfl, by decide +kernel, by decide +kernel⟩, rfl, by kernel_rfl⟩
def n__law_draw : List Str := ["pot", "many", "digit"]
def c__law_draw : Cc := ⟨⟨n__law_draw, defScope (st 50), [], CON, true, FREE⟩, cellsOf (defScope (st 50)), [], []⟩
def d__law_draw : Dfn := ⟨st 50, c__law_draw, ["pot", "many"], true, Pk.ir__law_draw⟩
@[simp] theorem pk__law_draw : d__law_draw.f = Pk._law_draw := rfl
theorem ok__law_draw : DefOk d__law_draw.c d__law_draw.ps (defScope d__law_draw.st) (defBody d__law_draw.st) d__law_draw.ir := ⟨⟨rfl, rfl, rfl, by decide +kernel, rfl, by decide +kernel, by decide +kernel⟩, rfl, by kernel_rfl⟩
def n__law_pick : List Str := ["pot", "some"]
def c__law_pick : Cc := ⟨⟨n__law_pick, defScope (st 51), [Pk.E__law_draw_2], CON, true, FREE⟩, cellsOf (defScope (st 51)), [], []⟩
def d__law_pick : Dfn := ⟨st 51, c__law_pick, ["pot", "some"], true, Pk.ir__law_pick⟩
@[simp] theorem pk__law_pick : d__law_pick.f = Pk._law_pick := rfl
theorem ok__law_pick : DefOk d__law_pick.c d__law_pick.ps (defScope d__law_pick.st) (defBody d__law_pick.st) d__law_pick.ir := ⟨⟨rfl, rfl, rfl, by decide +kernel, rfl, by decide +kernel, by decide +kernel⟩, rfl, by kernel_rfl⟩
def n__law_many : List Str := ["pot"]
def c__law_many : Cc := ⟨⟨n__law_many, defScope (st 81), [Pk.E__law_pick_2], CON, true, FREE⟩, cellsOf (defScope (st 81)), [], []⟩
def d__law_many : Dfn := ⟨st 81, c__law_many, ["pot"], true, Pk.ir__law_many⟩
@[simp] theorem pk__law_many : d__law_many.f = Pk._law_many := rfl
theorem ok__law_many : DefOk d__law_many.c d__law_many.ps (defScope d__law_many.st) (defBody d__law_many.st) d__law_many.ir := ⟨⟨rfl, rfl, rfl, by decide +kernel, rfl, by decide +kernel, by decide +kernel⟩, rfl, by kernel_rfl⟩
def n__law_common : List Str := ["a", "b"]
def c__law_common : Cc := ⟨⟨n__law_common, defScope (st 53), [], CON, true, FREE⟩, cellsOf (defScope (st 53)), [], []⟩
def d__law_common : Dfn := ⟨st 53, c__law_common, ["a", "b"], false, Pk.ir__law_common⟩
@[simp] theorem pk__law_common : d__law_common.f = Pk._law_common := rfl
theorem ok__law_common : DefOk d__law_common.c d__law_common.ps (defScope d__law_common.st) (defBody d__law_common.st) d__law_common.ir := ⟨⟨rfl, rfl, rfl, by decide +kernel, rfl, by decide +kernel, by decide +kernel⟩, rfl, by kernel_rfl⟩
def n__law_cut : List Str := ["a", "b", "d", "by"]
def c__law_cut : Cc := ⟨⟨n__law_cut, defScope (st 54), [Pk.E__law_common_2], CON, true, FREE⟩, cellsOf (defScope (st 54)), [], []⟩
def d__law_cut : Dfn := ⟨st 54, c__law_cut, ["a", "b", "d"], false, Pk.ir__law_cut_v2⟩
@[simp] theorem pk__law_cut : d__law_cut.f = Pk._law_cut_v2 := rfl
theorem ok__law_cut : DefOk d__law_cut.c d__law_cut.ps (defScope d__law_cut.st) (defBody d__law_cut.st) d__law_cut.ir := ⟨⟨rfl, rfl, rfl, by decide +kernel, rfl, by decide +kernel, by decide +kernel⟩, rfl, by kernel_rfl⟩
def n__law_plus : List Str := ["x", "y"]
def c__law_plus : Cc := ⟨⟨n__law_plus, defScope (st 55), [Pk.E__law_cut_v2_3], CON, true, FREE⟩, cellsOf (defScope (st 55)), [], []⟩
def d__law_plus : Dfn := ⟨st 55, c__law_plus, ["x", "y"], false, Pk.ir__law_plus⟩
@[simp] theorem pk__law_plus : d__law_plus.f = Pk._law_plus := rfl
theorem ok__law_plus : DefOk d__law_plus.c d__law_plus.ps (defScope d__law_plus.st) (defBody d__law_plus.st) d__law_plus.ir := ⟨⟨rfl, rfl, rfl, by decide +kernel, rfl, by decide +kernel, by decide +kernel⟩, rfl, by kernel_rfl⟩
def n__law_times : List Str := ["x", "y"]
def c__law_times : Cc := ⟨⟨n__law_times, defScope (st 57), [Pk.E__law_cut_v2_3], CON, true, FREE⟩, cellsOf (defScope (st 57)), [], []⟩
def d__law_times : Dfn := ⟨st 57, c__law_times, ["x", "y"], false, Pk.ir__law_times_v2⟩
@[simp] theorem pk__law_times : d__law_times.f = Pk._law_times_v2 := rfl
theorem ok__law_times : DefOk d__law_times.c d__law_times.ps (defScope d__law_times.st) (defBody d__law_times.st) d__law_times.ir := ⟨⟨rfl, rfl, rfl, by decide +kernel, rfl, by decide +kernel, by decide +kernel⟩, rfl, by kernel_rfl⟩
def n__law_run : List Str := ["own", "c", "found", "j", "worth", "i"]
def c__law_run : Cc := ⟨⟨n__law_run, defScope (st 75), [Pk.E__law_plus_2, Pk.E__law_times_v2_2], CON, true, FREE⟩, cellsOf (defScope (st 75)), [], []⟩
def d__law_run : Dfn := ⟨st 75, c__law_run, ["own", "c"], false, Pk.ir__law_run⟩
@[simp] theorem pk__law_run : d__law_run.f = Pk._law_run := rfl
theorem ok__law_run : DefOk d__law_run.c d__law_run.ps (defScope d__law_run.st) (defBody d__law_run.st) d__law_run.ir := ⟨⟨rfl, rfl, rfl, by decide +kernel, rfl, by decide +kernel, by decide +kernel⟩, rfl, by kernel_rfl⟩
def n__law_mirror : List Str := ["x"]
def c__law_mirror : Cc := ⟨⟨n__law_mirror, defScope (st 58), [], CON, true, FREE⟩, cellsOf (defScope (st 58)), [], []⟩
def d__law_mirror : Dfn := ⟨st 58, c__law_mirror, ["x"], false, Pk.ir__law_mirror⟩
@[simp] theorem pk__law_mirror : d__law_mirror.f = Pk._law_mirror := rfl
theorem ok__law_mirror : DefOk d__law_mirror.c d__law_mirror.ps (defScope d__law_mirror.st) (defBody d__law_mirror.st) d__law_mirror.ir := ⟨⟨rfl, rfl, rfl, by decide +kernel, rfl, by decide +kernel, by decide +kernel⟩, rfl, by kernel_rfl⟩
def n__law_dot : List Str := ["one", "far", "found", "i"]
def c__law_dot : Cc := ⟨⟨n__law_dot, defScope (st 76), [Pk.E__law_plus_2, Pk.E__law_times_v2_2, Pk.E__law_mirror_1], CON, true, FREE⟩, cellsOf (defScope (st 76)), [], []⟩
def d__law_dot : Dfn := ⟨st 76, c__law_dot, ["one", "far"], false, Pk.ir__law_dot⟩
@[simp] theorem pk__law_dot : d__law_dot.f = Pk._law_dot := rfl
theorem ok__law_dot : DefOk d__law_dot.c d__law_dot.ps (defScope d__law_dot.st) (defBody d__law_dot.st) d__law_dot.ir := ⟨⟨rfl, rfl, rfl, by decide +kernel, rfl, by decide +kernel, by decide +kernel⟩, rfl, by kernel_rfl⟩
def n__law_led : List Str := ["own", "some", "runs", "c", "d"]
def c__law_led : Cc := ⟨⟨n__law_led, defScope (st 77), [Pk.E__law_run_2, Pk.E__law_dot_2], CON, true, FREE⟩, cellsOf (defScope (st 77)), [], []⟩
def d__law_led : Dfn := ⟨st 77, c__law_led, ["own", "some"], false, Pk.ir__law_led⟩
@[simp] theorem pk__law_led : d__law_led.f = Pk._law_led := rfl
theorem ok__law_led : DefOk d__law_led.c d__law_led.ps (defScope d__law_led.st) (defBody d__law_led.st) d__law_led.ir := ⟨⟨rfl, rfl, rfl, by decide +kernel, rfl, by decide +kernel, by decide +kernel⟩, rfl, by kernel_rfl⟩
def n__law_made : List Str := ["n", "some", "own", "w", "m", "i", "j", "lap"]
def c__law_made : Cc := ⟨⟨n__law_made, defScope (st 74), [Pk.E__law_plus_2, Pk.E__law_times_v2_2, Pk.E__law_mirror_1], CON, true, FREE⟩, cellsOf (defScope (st 74)), ["own"], []⟩
def d__law_made : Dfn := ⟨st 74, c__law_made, ["n", "some"], false, Pk.ir__law_made⟩
@[simp] theorem pk__law_made : d__law_made.f = Pk._law_made := rfl
theorem ok__law_made : DefOk d__law_made.c d__law_made.ps (defScope d__law_made.st) (defBody d__law_made.st) d__law_made.ir := ⟨⟨rfl, rfl, rfl, by decide +kernel, rfl, by decide +kernel, by decide +kernel⟩, rfl, by kernel_rfl⟩
def n__law_ratio : List Str := ["pot"]
def c__law_ratio : Cc := ⟨⟨n__law_ratio, defScope (st 72), [Pk.E__law_cut_v2_3, Pk.E__law_pick_2, Pk.E__law_draw_2], CON, true, FREE⟩, cellsOf (defScope (st 72)), [], []⟩
def d__law_ratio : Dfn := ⟨st 72, c__law_ratio, ["pot"], true, Pk.ir__law_ratio⟩
@[simp] theorem pk__law_ratio : d__law_ratio.f = Pk._law_ratio := rfl
theorem ok__law_ratio : DefOk d__law_ratio.c d__law_ratio.ps (defScope d__law_ratio.st) (defBody d__law_ratio.st) d__law_ratio.ir := ⟨⟨rfl, rfl, rfl, by decide +kernel, rfl, by decide +kernel, by decide +kernel⟩, rfl, by kernel_rfl⟩
def n__law_gauss : List Str := ["pot", "most", "d", "a", "b"]
def c__law_gauss : Cc := ⟨⟨n__law_gauss, defScope (st 69), [Pk.E__law_cut_v2_3, Pk.E__law_pick_2, Pk.E__law_draw_2], CON, true, FREE⟩, cellsOf (defScope (st 69)), [], []⟩
def d__law_gauss : Dfn := ⟨st 69, c__law_gauss, ["pot"], true, Pk.ir__law_gauss⟩
@[simp] theorem pk__law_gauss : d__law_gauss.f = Pk._law_gauss := rfl
theorem ok__law_gauss : DefOk d__law_gauss.c d__law_gauss.ps (defScope d__law_gauss.st) (defBody d__law_gauss.st) d__law_gauss.ir := ⟨⟨rfl, rfl, rfl, by decide +kernel, rfl, by decide +kernel, by decide +kernel⟩, rfl, by kernel_rfl⟩
def n__law_hermite : List Str := ["pot", "n", "own", "i", "j", "lap"]
def c__law_hermite : Cc := ⟨⟨n__law_hermite, defScope (st 73), [Pk.E__law_ratio_1, Pk.E__law_mirror_1, Pk.E__law_gauss_1, Pk.E__law_draw_2], CON, true, FREE⟩, cellsOf (defScope (st 73)), ["own"], []⟩
def d__law_hermite : Dfn := ⟨st 73, c__law_hermite, ["pot", "n"], true, Pk.ir__law_hermite⟩
@[simp] theorem pk__law_hermite : d__law_hermite.f = Pk._law_hermite := rfl
theorem ok__law_hermite : DefOk d__law_hermite.c d__law_hermite.ps (defScope d__law_hermite.st) (defBody d__law_hermite.st) d__law_hermite.ir := ⟨⟨rfl, rfl, rfl, by decide +kernel, rfl, by decide +kernel, by decide +kernel⟩, rfl, by kernel_rfl⟩
def n__law_less : List Str := ["x", "y"]
def c__law_less : Cc := ⟨⟨n__law_less, defScope (st 56), [Pk.E__law_cut_v2_3], CON, true, FREE⟩, cellsOf (defScope (st 56)), [], []⟩
def d__law_less : Dfn := ⟨st 56, c__law_less, ["x", "y"], false, Pk.ir__law_less_v2⟩
@[simp] theorem pk__law_less : d__law_less.f = Pk._law_less_v2 := rfl
theorem ok__law_less : DefOk d__law_less.c d__law_less.ps (defScope d__law_less.st) (defBody d__law_less.st) d__law_less.ir := ⟨⟨rfl, rfl, rfl, by decide +kernel, rfl, by decide +kernel, by decide +kernel⟩, rfl, by kernel_rfl⟩
def n__law_small : List Str := ["pot"]
def c__law_small : Cc := ⟨⟨n__law_small, defScope (st 70), [Pk.E__law_cut_v2_3, Pk.E__law_draw_2], CON, true, FREE⟩, cellsOf (defScope (st 70)), [], []⟩
def d__law_small : Dfn := ⟨st 70, c__law_small, ["pot"], true, Pk.ir__law_small⟩
@[simp] theorem pk__law_small : d__law_small.f = Pk._law_small := rfl
theorem ok__law_small : DefOk d__law_small.c d__law_small.ps (defScope d__law_small.st) (defBody d__law_small.st) d__law_small.ir := ⟨⟨rfl, rfl, rfl, by decide +kernel, rfl, by decide +kernel, by decide +kernel⟩, rfl, by kernel_rfl⟩
def n__law_positive : List Str := ["pot"]
def c__law_positive : Cc := ⟨⟨n__law_positive, defScope (st 71), [Pk.E__law_cut_v2_3, Pk.E__law_pick_2, Pk.E__law_draw_2], CON, true, FREE⟩, cellsOf (defScope (st 71)), [], []⟩
def d__law_positive : Dfn := ⟨st 71, c__law_positive, ["pot"], true, Pk.ir__law_positive⟩
@[simp] theorem pk__law_positive : d__law_positive.f = Pk._law_positive := rfl
theorem ok__law_positive : DefOk d__law_positive.c d__law_positive.ps (defScope d__law_positive.st) (defBody d__law_positive.st) d__law_positive.ir := ⟨⟨rfl, rfl, rfl, by decide +kernel, rfl, by decide +kernel, by decide +kernel⟩, rfl, by kernel_rfl⟩
def n__law_drawn_table : List Str := ["pot", "n", "way", "many", "own", "at", "lap", "i"]
def c__law_drawn_table : Cc := ⟨⟨n__law_drawn_table, defScope (st 80), [Pk.E__law_draw_2, Pk.E__law_made_2, Pk.E__law_hermite_2, Pk.E__law_less_v2_2, Pk.E__law_small_1, Pk.E__law_mirror_1, Pk.E__law_cut_v2_3, Pk.E__law_positive_1], CON, true, FREE⟩, cellsOf (defScope (st 80)), ["own"], []⟩
def d__law_drawn_table : Dfn := ⟨st 80, c__law_drawn_table, ["pot", "n"], true, Pk.ir__law_drawn_table⟩
@[simp] theorem pk__law_drawn_table : d__law_drawn_table.f = Pk._law_drawn_table := rfl
theorem ok__law_drawn_table : DefOk d__law_drawn_table.c d__law_drawn_table.ps (defScope d__law_drawn_table.st) (defBody d__law_drawn_table.st) d__law_drawn_table.ir := ⟨⟨rfl, rfl, rfl, by decide +kernel, rfl, by decide +kernel, by decide +kernel⟩, rfl, by kernel_rfl⟩
def n__law_flat : List Str := ["pot", "n", "m", "lap", "i"]
def c__law_flat : Cc := ⟨⟨n__law_flat, defScope (st 83), [Pk.E__law_draw_2, Pk.E__law_led_2, Pk.E__law_drawn_table_2, Pk.E__law_hermite_2, Pk.E__law_small_1], CON, true, FREE⟩, cellsOf (defScope (st 83)), [], []⟩
def d__law_flat : Dfn := ⟨st 83, c__law_flat, ["pot", "n"], true, Pk.ir__law_flat⟩
@[simp] theorem pk__law_flat : d__law_flat.f = Pk._law_flat := rfl
theorem ok__law_flat : DefOk d__law_flat.c d__law_flat.ps (defScope d__law_flat.st) (defBody d__law_flat.st) d__law_flat.ir := ⟨⟨rfl, rfl, rfl, by decide +kernel, rfl, by decide +kernel, by decide +kernel⟩, rfl, by kernel_rfl⟩
def n__law_fraction : List Str := ["n", "d", "by"]
def c__law_fraction : Cc := ⟨⟨n__law_fraction, defScope (st 61), [Pk.E__law_common_2], CON, true, FREE⟩, cellsOf (defScope (st 61)), [], []⟩
def d__law_fraction : Dfn := ⟨st 61, c__law_fraction, ["n", "d"], false, Pk.ir__law_fraction_v2⟩
@[simp] theorem pk__law_fraction : d__law_fraction.f = Pk._law_fraction_v2 := rfl
theorem ok__law_fraction : DefOk d__law_fraction.c d__law_fraction.ps (defScope d__law_fraction.st) (defBody d__law_fraction.st) d__law_fraction.ir := ⟨⟨rfl, rfl, rfl, by decide +kernel, rfl, by decide +kernel, by decide +kernel⟩, rfl, by kernel_rfl⟩
def n__law_number : List Str := ["x"]
def c__law_number : Cc := ⟨⟨n__law_number, defScope (st 62), [Pk.E__law_fraction_v2_2], CON, true, FREE⟩, cellsOf (defScope (st 62)), [], []⟩
def d__law_number : Dfn := ⟨st 62, c__law_number, ["x"], false, Pk.ir__law_number_v2⟩
@[simp] theorem pk__law_number : d__law_number.f = Pk._law_number_v2 := rfl
theorem ok__law_number : DefOk d__law_number.c d__law_number.ps (defScope d__law_number.st) (defBody d__law_number.st) d__law_number.ir := ⟨⟨rfl, rfl, rfl, by decide +kernel, rfl, by decide +kernel, by decide +kernel⟩, rfl, by kernel_rfl⟩
def n__law_line : List Str := ["own", "x"]
def c__law_line : Cc := ⟨⟨n__law_line, defScope (st 63), [Pk.E__law_number_v2_1], CON, true, FREE⟩, cellsOf (defScope (st 63)), [], []⟩
def d__law_line : Dfn := ⟨st 63, c__law_line, ["own"], false, Pk.ir__law_line⟩
@[simp] theorem pk__law_line : d__law_line.f = Pk._law_line := rfl
theorem ok__law_line : DefOk d__law_line.c d__law_line.ps (defScope d__law_line.st) (defBody d__law_line.st) d__law_line.ir := ⟨⟨rfl, rfl, rfl, by decide +kernel, rfl, by decide +kernel, by decide +kernel⟩, rfl, by kernel_rfl⟩
def n__law_tab : List Str := ["own", "each"]
def c__law_tab : Cc := ⟨⟨n__law_tab, defScope (st 64), [Pk.E__law_line_1], CON, true, FREE⟩, cellsOf (defScope (st 64)), [], []⟩
def d__law_tab : Dfn := ⟨st 64, c__law_tab, ["own"], false, Pk.ir__law_tab⟩
@[simp] theorem pk__law_tab : d__law_tab.f = Pk._law_tab := rfl
theorem ok__law_tab : DefOk d__law_tab.c d__law_tab.ps (defScope d__law_tab.st) (defBody d__law_tab.st) d__law_tab.ir := ⟨⟨rfl, rfl, rfl, by decide +kernel, rfl, by decide +kernel, by decide +kernel⟩, rfl, by kernel_rfl⟩
def n_num_mirrored : List Str := ["x"]
def c_num_mirrored : Cc := ⟨⟨n_num_mirrored, defScope (st 17), [], CON, true, FREE⟩, cellsOf (defScope (st 17)), [], []⟩
def d_num_mirrored : Dfn := ⟨st 17, c_num_mirrored, ["x"], false, Pk.ir_num_mirrored⟩
@[simp] theorem pk_num_mirrored : d_num_mirrored.f = Pk.num_mirrored := rfl
theorem ok_num_mirrored : DefOk d_num_mirrored.c d_num_mirrored.ps (defScope d_num_mirrored.st) (defBody d_num_mirrored.st) d_num_mirrored.ir := ⟨⟨rfl, rfl, rfl, by decide +kernel, rfl, by decide +kernel, by decide +kernel⟩, rfl, by kernel_rfl⟩
def n_is_whole : List Str := ["value"]
def c_is_whole : Cc := ⟨⟨n_is_whole, defScope (st 5), [], CON, true, FREE⟩, cellsOf (defScope (st 5)), [], []⟩
def d_is_whole : Dfn := ⟨st 5, c_is_whole, ["value"], false, Pk.ir_is_whole⟩
@[simp] theorem pk_is_whole : d_is_whole.f = Pk.is_whole := rfl
theorem ok_is_whole : DefOk d_is_whole.c d_is_whole.ps (defScope d_is_whole.st) (defBody d_is_whole.st) d_is_whole.ir := ⟨⟨rfl, rfl, rfl, by decide +kernel, rfl, by decide +kernel, by decide +kernel⟩, rfl, by kernel_rfl⟩
def n_is_frac : List Str := ["value"]
def c_is_frac : Cc := ⟨⟨n_is_frac, defScope (st 6), [Pk.E_is_whole_1], CON, true, FREE⟩, cellsOf (defScope (st 6)), [], []⟩
def d_is_frac : Dfn := ⟨st 6, c_is_frac, ["value"], false, Pk.ir_is_frac⟩
@[simp] theorem pk_is_frac : d_is_frac.f = Pk.is_frac := rfl
theorem ok_is_frac : DefOk d_is_frac.c d_is_frac.ps (defScope d_is_frac.st) (defBody d_is_frac.st) d_is_frac.ir := ⟨⟨rfl, rfl, rfl, by decide +kernel, rfl, by decide +kernel, by decide +kernel⟩, rfl, by kernel_rfl⟩
def n_is_num : List Str := ["value"]
def c_is_num : Cc := ⟨⟨n_is_num, defScope (st 7), [Pk.E_is_frac_1], CON, true, FREE⟩, cellsOf (defScope (st 7)), [], []⟩
def d_is_num : Dfn := ⟨st 7, c_is_num, ["value"], false, Pk.ir_is_num⟩
@[simp] theorem pk_is_num : d_is_num.f = Pk.is_num := rfl
theorem ok_is_num : DefOk d_is_num.c d_is_num.ps (defScope d_is_num.st) (defBody d_is_num.st) d_is_num.ir := ⟨⟨rfl, rfl, rfl, by decide +kernel, rfl, by decide +kernel, by decide +kernel⟩, rfl, by kernel_rfl⟩
def n_fits_as_row : List Str := ["value", "at", "row", "each", "by"]
def c_fits_as_row : Cc := ⟨⟨n_fits_as_row, defScope (st 22), [Pk.E_num_mirrored_1, Pk.E_is_num_1], CON, true, FREE⟩, cellsOf (defScope (st 22)), [], []⟩
def d_fits_as_row : Dfn := ⟨st 22, c_fits_as_row, ["value", "at", "row"], false, Pk.ir_fits_as_row⟩
@[simp] theorem pk_fits_as_row : d_fits_as_row.f = Pk.fits_as_row := rfl
theorem ok_fits_as_row : DefOk d_fits_as_row.c d_fits_as_row.ps (defScope d_fits_as_row.st) (defBody d_fits_as_row.st) d_fits_as_row.ir := ⟨⟨rfl, rfl, rfl, by decide +kernel, rfl, by decide +kernel, by decide +kernel⟩, rfl, by kernel_rfl⟩
def n_wrong_in_table : List Str := ["value", "at", "row"]
def c_wrong_in_table : Cc := ⟨⟨n_wrong_in_table, defScope (st 23), [Pk.E_fits_as_row_3], CON, true, FREE⟩, cellsOf (defScope (st 23)), [], []⟩
def d_wrong_in_table : Dfn := ⟨st 23, c_wrong_in_table, ["value"], false, Pk.ir_wrong_in_table⟩
@[simp] theorem pk_wrong_in_table : d_wrong_in_table.f = Pk.wrong_in_table := rfl
theorem ok_wrong_in_table : DefOk d_wrong_in_table.c d_wrong_in_table.ps (defScope d_wrong_in_table.st) (defBody d_wrong_in_table.st) d_wrong_in_table.ir := ⟨⟨rfl, rfl, rfl, by decide +kernel, rfl, by decide +kernel, by decide +kernel⟩, rfl, by kernel_rfl⟩
def n_check_table : List Str := ["value", "index"]
def c_check_table : Cc := ⟨⟨n_check_table, defScope (st 40), [Pk.E_wrong_in_table_1], CON, true, FREE⟩, cellsOf (defScope (st 40)), [], []⟩
def d_check_table : Dfn := ⟨st 40, c_check_table, ["value"], false, Pk.ir_check_table⟩
@[simp] theorem pk_check_table : d_check_table.f = Pk.check_table := rfl
theorem ok_check_table : DefOk d_check_table.c d_check_table.ps (defScope d_check_table.st) (defBody d_check_table.st) d_check_table.ir := ⟨⟨rfl, rfl, rfl, by decide +kernel, rfl, by decide +kernel, by decide +kernel⟩, rfl, by kernel_rfl⟩
def n_first_other : List Str := ["mix", "at", "each"]
def c_first_other : Cc := ⟨⟨n_first_other, defScope (st 33), [], CON, true, FREE⟩, cellsOf (defScope (st 33)), [], []⟩
def d_first_other : Dfn := ⟨st 33, c_first_other, ["mix"], false, Pk.ir_first_other⟩
@[simp] theorem pk_first_other : d_first_other.f = Pk.first_other := rfl
theorem ok_first_other : DefOk d_first_other.c d_first_other.ps (defScope d_first_other.st) (defBody d_first_other.st) d_first_other.ir := ⟨⟨rfl, rfl, rfl, by decide +kernel, rfl, by decide +kernel, by decide +kernel⟩, rfl, by kernel_rfl⟩
def n_unit_mix : List Str := ["many", "at", "number", "by"]
def c_unit_mix : Cc := ⟨⟨n_unit_mix, defScope (st 25), [], CON, true, FREE⟩, cellsOf (defScope (st 25)), [], []⟩
def d_unit_mix : Dfn := ⟨st 25, c_unit_mix, ["many", "at", "number"], false, Pk.ir_unit_mix⟩
@[simp] theorem pk_unit_mix : d_unit_mix.f = Pk.unit_mix := rfl
theorem ok_unit_mix : DefOk d_unit_mix.c d_unit_mix.ps (defScope d_unit_mix.st) (defBody d_unit_mix.st) d_unit_mix.ir := ⟨⟨rfl, rfl, rfl, by decide +kernel, rfl, by decide +kernel, by decide +kernel⟩, rfl, by kernel_rfl⟩
def n_frac_reduced : List Str := ["n", "m", "divisor"]
def c_frac_reduced : Cc := ⟨⟨n_frac_reduced, defScope (st 8), [], CON, true, FREE⟩, cellsOf (defScope (st 8)), [], []⟩
def d_frac_reduced : Dfn := ⟨st 8, c_frac_reduced, ["n", "m"], false, Pk.ir_frac_reduced⟩
@[simp] theorem pk_frac_reduced : d_frac_reduced.f = Pk.frac_reduced := rfl
theorem ok_frac_reduced : DefOk d_frac_reduced.c d_frac_reduced.ps (defScope d_frac_reduced.st) (defBody d_frac_reduced.st) d_frac_reduced.ir := ⟨⟨rfl, rfl, rfl, by decide +kernel, rfl, by decide +kernel, by decide +kernel⟩, rfl, by kernel_rfl⟩
def n_frac_product : List Str := ["x", "y"]
def c_frac_product : Cc := ⟨⟨n_frac_product, defScope (st 11), [Pk.E_frac_reduced_2], CON, true, FREE⟩, cellsOf (defScope (st 11)), [], []⟩
def d_frac_product : Dfn := ⟨st 11, c_frac_product, ["x", "y"], false, Pk.ir_frac_product⟩
@[simp] theorem pk_frac_product : d_frac_product.f = Pk.frac_product := rfl
theorem ok_frac_product : DefOk d_frac_product.c d_frac_product.ps (defScope d_frac_product.st) (defBody d_frac_product.st) d_frac_product.ir := ⟨⟨rfl, rfl, rfl, by decide +kernel, rfl, by decide +kernel, by decide +kernel⟩, rfl, by kernel_rfl⟩
def n_num_scaled : List Str := ["x", "fraction"]
def c_num_scaled : Cc := ⟨⟨n_num_scaled, defScope (st 16), [Pk.E_frac_product_2], CON, true, FREE⟩, cellsOf (defScope (st 16)), [], []⟩
def d_num_scaled : Dfn := ⟨st 16, c_num_scaled, ["x", "fraction"], false, Pk.ir_num_scaled⟩
@[simp] theorem pk_num_scaled : d_num_scaled.f = Pk.num_scaled := rfl
theorem ok_num_scaled : DefOk d_num_scaled.c d_num_scaled.ps (defScope d_num_scaled.st) (defBody d_num_scaled.st) d_num_scaled.ir := ⟨⟨rfl, rfl, rfl, by decide +kernel, rfl, by decide +kernel, by decide +kernel⟩, rfl, by kernel_rfl⟩
def n_num_product : List Str := ["x", "y", "a", "b", "c", "d", "p", "q", "r", "s", "under"]
def c_num_product : Cc := ⟨⟨n_num_product, defScope (st 15), [Pk.E_frac_reduced_2], CON, true, FREE⟩, cellsOf (defScope (st 15)), [], []⟩
def d_num_product : Dfn := ⟨st 15, c_num_product, ["x", "y"], false, Pk.ir_num_product⟩
@[simp] theorem pk_num_product : d_num_product.f = Pk.num_product := rfl
theorem ok_num_product : DefOk d_num_product.c d_num_product.ps (defScope d_num_product.st) (defBody d_num_product.st) d_num_product.ir := ⟨⟨rfl, rfl, rfl, by decide +kernel, rfl, by decide +kernel, by decide +kernel⟩, rfl, by kernel_rfl⟩
def n_frac_over : List Str := ["x", "y"]
def c_frac_over : Cc := ⟨⟨n_frac_over, defScope (st 12), [Pk.E_frac_reduced_2], CON, true, FREE⟩, cellsOf (defScope (st 12)), [], []⟩
def d_frac_over : Dfn := ⟨st 12, c_frac_over, ["x", "y"], false, Pk.ir_frac_over⟩
@[simp] theorem pk_frac_over : d_frac_over.f = Pk.frac_over := rfl
theorem ok_frac_over : DefOk d_frac_over.c d_frac_over.ps (defScope d_frac_over.st) (defBody d_frac_over.st) d_frac_over.ir := ⟨⟨rfl, rfl, rfl, by decide +kernel, rfl, by decide +kernel, by decide +kernel⟩, rfl, by kernel_rfl⟩
def n_num_size : List Str := ["x", "a", "b", "c", "d"]
def c_num_size : Cc := ⟨⟨n_num_size, defScope (st 18), [Pk.E_frac_reduced_2], CON, true, FREE⟩, cellsOf (defScope (st 18)), [], []⟩
def d_num_size : Dfn := ⟨st 18, c_num_size, ["x"], false, Pk.ir_num_size⟩
@[simp] theorem pk_num_size : d_num_size.f = Pk.num_size := rfl
theorem ok_num_size : DefOk d_num_size.c d_num_size.ps (defScope d_num_size.st) (defBody d_num_size.st) d_num_size.ir := ⟨⟨rfl, rfl, rfl, by decide +kernel, rfl, by decide +kernel, by decide +kernel⟩, rfl, by kernel_rfl⟩
def n_num_over : List Str := ["x", "y"]
def c_num_over : Cc := ⟨⟨n_num_over, defScope (st 19), [Pk.E_num_scaled_2, Pk.E_num_product_2, Pk.E_frac_over_2, Pk.E_num_mirrored_1, Pk.E_num_size_1], CON, true, FREE⟩, cellsOf (defScope (st 19)), [], []⟩
def d_num_over : Dfn := ⟨st 19, c_num_over, ["x", "y"], false, Pk.ir_num_over⟩
@[simp] theorem pk_num_over : d_num_over.f = Pk.num_over := rfl
theorem ok_num_over : DefOk d_num_over.c d_num_over.ps (defScope d_num_over.st) (defBody d_num_over.st) d_num_over.ir := ⟨⟨rfl, rfl, rfl, by decide +kernel, rfl, by decide +kernel, by decide +kernel⟩, rfl, by kernel_rfl⟩
def n_frac_less : List Str := ["x", "y"]
def c_frac_less : Cc := ⟨⟨n_frac_less, defScope (st 10), [Pk.E_frac_reduced_2], CON, true, FREE⟩, cellsOf (defScope (st 10)), [], []⟩
def d_frac_less : Dfn := ⟨st 10, c_frac_less, ["x", "y"], false, Pk.ir_frac_less⟩
@[simp] theorem pk_frac_less : d_frac_less.f = Pk.frac_less := rfl
theorem ok_frac_less : DefOk d_frac_less.c d_frac_less.ps (defScope d_frac_less.st) (defBody d_frac_less.st) d_frac_less.ir := ⟨⟨rfl, rfl, rfl, by decide +kernel, rfl, by decide +kernel, by decide +kernel⟩, rfl, by kernel_rfl⟩
def n_num_less : List Str := ["x", "y"]
def c_num_less : Cc := ⟨⟨n_num_less, defScope (st 14), [Pk.E_frac_less_2], CON, true, FREE⟩, cellsOf (defScope (st 14)), [], []⟩
def d_num_less : Dfn := ⟨st 14, c_num_less, ["x", "y"], false, Pk.ir_num_less⟩
@[simp] theorem pk_num_less : d_num_less.f = Pk.num_less := rfl
theorem ok_num_less : DefOk d_num_less.c d_num_less.ps (defScope d_num_less.st) (defBody d_num_less.st) d_num_less.ir := ⟨⟨rfl, rfl, rfl, by decide +kernel, rfl, by decide +kernel, by decide +kernel⟩, rfl, by kernel_rfl⟩
def n_mix_less : List Str := ["one", "other", "number", "each", "second"]
def c_mix_less : Cc := ⟨⟨n_mix_less, defScope (st 26), [Pk.E_num_less_2, Pk.E_num_product_2], CON, true, FREE⟩, cellsOf (defScope (st 26)), [], []⟩
def d_mix_less : Dfn := ⟨st 26, c_mix_less, ["one", "other", "number"], false, Pk.ir_mix_less⟩
@[simp] theorem pk_mix_less : d_mix_less.f = Pk.mix_less := rfl
theorem ok_mix_less : DefOk d_mix_less.c d_mix_less.ps (defScope d_mix_less.st) (defBody d_mix_less.st) d_mix_less.ir := ⟨⟨rfl, rfl, rfl, by decide +kernel, rfl, by decide +kernel, by decide +kernel⟩, rfl, by kernel_rfl⟩
def n_null_by : List Str := ["table", "leads", "found", "at", "row", "mix", "by", "lead", "other", "part", "place"]
def c_null_by : Cc := ⟨⟨n_null_by, defScope (st 34), [Pk.E_first_other_1, Pk.E_unit_mix_2, Pk.E_num_over_2, Pk.E_mix_less_3], CON, true, FREE⟩, cellsOf (defScope (st 34)), [], ["leads"]⟩
def d_null_by : Dfn := ⟨st 34, c_null_by, ["table"], false, Pk.ir_null_by⟩
@[simp] theorem pk_null_by : d_null_by.f = Pk.null_by := rfl
theorem ok_null_by : DefOk d_null_by.c d_null_by.ps (defScope d_null_by.st) (defBody d_null_by.st) d_null_by.ir := ⟨⟨rfl, rfl, rfl, by decide +kernel, rfl, by decide +kernel, by decide +kernel⟩, rfl, by kernel_rfl⟩
def n_null_mixes : List Str := ["table"]
def c_null_mixes : Cc := ⟨⟨n_null_mixes, defScope (st 44), [Pk.E_check_table_1, Pk.E_null_by_1], CON, true, FREE⟩, cellsOf (defScope (st 44)), [], []⟩
def d_null_mixes : Dfn := ⟨st 44, c_null_mixes, ["table"], false, Pk.ir_null_mixes⟩
@[simp] theorem pk_null_mixes : d_null_mixes.f = Pk.null_mixes := rfl
theorem ok_null_mixes : DefOk d_null_mixes.c d_null_mixes.ps (defScope d_null_mixes.st) (defBody d_null_mixes.st) d_null_mixes.ir := ⟨⟨rfl, rfl, rfl, by decide +kernel, rfl, by decide +kernel, by decide +kernel⟩, rfl, by kernel_rfl⟩
def n__law_is_nought : List Str := ["x"]
def c__law_is_nought : Cc := ⟨⟨n__law_is_nought, defScope (st 60), [], CON, true, FREE⟩, cellsOf (defScope (st 60)), [], []⟩
def d__law_is_nought : Dfn := ⟨st 60, c__law_is_nought, ["x"], false, Pk.ir__law_is_nought⟩
@[simp] theorem pk__law_is_nought : d__law_is_nought.f = Pk._law_is_nought := rfl
theorem ok__law_is_nought : DefOk d__law_is_nought.c d__law_is_nought.ps (defScope d__law_is_nought.st) (defBody d__law_is_nought.st) d__law_is_nought.ir := ⟨⟨rfl, rfl, rfl, by decide +kernel, rfl, by decide +kernel, by decide +kernel⟩, rfl, by kernel_rfl⟩
def n__law_bare : List Str := ["rows", "j", "at", "i"]
def c__law_bare : Cc := ⟨⟨n__law_bare, defScope (st 78), [Pk.E__law_is_nought_1], CON, true, FREE⟩, cellsOf (defScope (st 78)), [], []⟩
def d__law_bare : Dfn := ⟨st 78, c__law_bare, ["rows", "j"], false, Pk.ir__law_bare⟩
@[simp] theorem pk__law_bare : d__law_bare.f = Pk._law_bare := rfl
theorem ok__law_bare : DefOk d__law_bare.c d__law_bare.ps (defScope d__law_bare.st) (defBody d__law_bare.st) d__law_bare.ir := ⟨⟨rfl, rfl, rfl, by decide +kernel, rfl, by decide +kernel, by decide +kernel⟩, rfl, by kernel_rfl⟩
def n__law_over : List Str := ["x", "y", "far"]
def c__law_over : Cc := ⟨⟨n__law_over, defScope (st 59), [Pk.E__law_cut_v2_3], CON, true, FREE⟩, cellsOf (defScope (st 59)), [], []⟩
def d__law_over : Dfn := ⟨st 59, c__law_over, ["x", "y"], false, Pk.ir__law_over_v2⟩
@[simp] theorem pk__law_over : d__law_over.f = Pk._law_over_v2 := rfl
theorem ok__law_over : DefOk d__law_over.c d__law_over.ps (defScope d__law_over.st) (defBody d__law_over.st) d__law_over.ir := ⟨⟨rfl, rfl, rfl, by decide +kernel, rfl, by decide +kernel, by decide +kernel⟩, rfl, by kernel_rfl⟩
def n__law_rank : List Str := ["rows", "left", "found", "j", "at", "lead", "later", "each", "x", "k"]
def c__law_rank : Cc := ⟨⟨n__law_rank, defScope (st 79), [Pk.E__law_bare_2, Pk.E__law_over_v2_2, Pk.E__law_less_v2_2, Pk.E__law_times_v2_2], CON, true, FREE⟩, cellsOf (defScope (st 79)), [], []⟩
def d__law_rank : Dfn := ⟨st 79, c__law_rank, ["rows"], false, Pk.ir__law_rank⟩
@[simp] theorem pk__law_rank : d__law_rank.f = Pk._law_rank := rfl
theorem ok__law_rank : DefOk d__law_rank.c d__law_rank.ps (defScope d__law_rank.st) (defBody d__law_rank.st) d__law_rank.ir := ⟨⟨rfl, rfl, rfl, by decide +kernel, rfl, by decide +kernel, by decide +kernel⟩, rfl, by kernel_rfl⟩
def n__law_hanging : List Str := ["own", "i"]
def c__law_hanging : Cc := ⟨⟨n__law_hanging, defScope (st 82), [Pk.E__law_rank_1], CON, true, FREE⟩, cellsOf (defScope (st 82)), [], []⟩
def d__law_hanging : Dfn := ⟨st 82, c__law_hanging, ["own"], false, Pk.ir__law_hanging⟩
@[simp] theorem pk__law_hanging : d__law_hanging.f = Pk._law_hanging := rfl
theorem ok__law_hanging : DefOk d__law_hanging.c d__law_hanging.ps (defScope d__law_hanging.st) (defBody d__law_hanging.st) d__law_hanging.ir := ⟨⟨rfl, rfl, rfl, by decide +kernel, rfl, by decide +kernel, by decide +kernel⟩, rfl, by kernel_rfl⟩
def n__law_is_fraction : List Str := ["thing", "each"]
def c__law_is_fraction : Cc := ⟨⟨n__law_is_fraction, defScope (st 65), [Pk.E__law_common_2], CON, true, FREE⟩, cellsOf (defScope (st 65)), [], []⟩
def d__law_is_fraction : Dfn := ⟨st 65, c__law_is_fraction, ["thing"], false, Pk.ir__law_is_fraction⟩
@[simp] theorem pk__law_is_fraction : d__law_is_fraction.f = Pk._law_is_fraction := rfl
theorem ok__law_is_fraction : DefOk d__law_is_fraction.c d__law_is_fraction.ps (defScope d__law_is_fraction.st) (defBody d__law_is_fraction.st) d__law_is_fraction.ir := ⟨⟨rfl, rfl, rfl, by decide +kernel, rfl, by decide +kernel, by decide +kernel⟩, rfl, by kernel_rfl⟩
def n__law_is_number : List Str := ["thing"]
def c__law_is_number : Cc := ⟨⟨n__law_is_number, defScope (st 66), [Pk.E__law_is_fraction_1], CON, true, FREE⟩, cellsOf (defScope (st 66)), [], []⟩
def d__law_is_number : Dfn := ⟨st 66, c__law_is_number, ["thing"], false, Pk.ir__law_is_number⟩
@[simp] theorem pk__law_is_number : d__law_is_number.f = Pk._law_is_number := rfl
theorem ok__law_is_number : DefOk d__law_is_number.c d__law_is_number.ps (defScope d__law_is_number.st) (defBody d__law_is_number.st) d__law_is_number.ir := ⟨⟨rfl, rfl, rfl, by decide +kernel, rfl, by decide +kernel, by decide +kernel⟩, rfl, by kernel_rfl⟩
def n__law_is_line : List Str := ["thing", "many", "each"]
def c__law_is_line : Cc := ⟨⟨n__law_is_line, defScope (st 68), [Pk.E__law_is_number_1], CON, true, FREE⟩, cellsOf (defScope (st 68)), [], []⟩
def d__law_is_line : Dfn := ⟨st 68, c__law_is_line, ["thing", "many"], false, Pk.ir__law_is_line⟩
@[simp] theorem pk__law_is_line : d__law_is_line.f = Pk._law_is_line := rfl
theorem ok__law_is_line : DefOk d__law_is_line.c d__law_is_line.ps (defScope d__law_is_line.st) (defBody d__law_is_line.st) d__law_is_line.ir := ⟨⟨rfl, rfl, rfl, by decide +kernel, rfl, by decide +kernel, by decide +kernel⟩, rfl, by kernel_rfl⟩
def n__law_read : List Str := ["told"]
def c__law_read : Cc := ⟨⟨n__law_read, defScope (st 67), [Pk.E__law_cut_v2_3], CON, true, FREE⟩, cellsOf (defScope (st 67)), [], []⟩
def d__law_read : Dfn := ⟨st 67, c__law_read, ["told"], false, Pk.ir__law_read⟩
@[simp] theorem pk__law_read : d__law_read.f = Pk._law_read := rfl
theorem ok__law_read : DefOk d__law_read.c d__law_read.ps (defScope d__law_read.st) (defBody d__law_read.st) d__law_read.ir := ⟨⟨rfl, rfl, rfl, by decide +kernel, rfl, by decide +kernel, by decide +kernel⟩, rfl, by kernel_rfl⟩
def n__law_fit : List Str := ["own", "told", "hanging", "found", "each", "k", "x", "i"]
def c__law_fit : Cc := ⟨⟨n__law_fit, defScope (st 84), [Pk.E__law_hanging_1, Pk.E__law_is_line_2, Pk.E__law_read_1, Pk.E__law_run_2, Pk.E__law_is_nought_1], CON, true, FREE⟩, cellsOf (defScope (st 84)), [], []⟩
def d__law_fit : Dfn := ⟨st 84, c__law_fit, ["own", "told"], false, Pk.ir__law_fit_v2⟩
@[simp] theorem pk__law_fit : d__law_fit.f = Pk._law_fit_v2 := rfl
theorem ok__law_fit : DefOk d__law_fit.c d__law_fit.ps (defScope d__law_fit.st) (defBody d__law_fit.st) d__law_fit.ir := ⟨⟨rfl, rfl, rfl, by decide +kernel, rfl, by decide +kernel, by decide +kernel⟩, rfl, by kernel_rfl⟩
def n_wrong_in_mix : List Str := ["value", "many", "at", "each"]
def c_wrong_in_mix : Cc := ⟨⟨n_wrong_in_mix, defScope (st 24), [Pk.E_is_num_1], CON, true, FREE⟩, cellsOf (defScope (st 24)), [], []⟩
def d_wrong_in_mix : Dfn := ⟨st 24, c_wrong_in_mix, ["value", "many"], false, Pk.ir_wrong_in_mix⟩
@[simp] theorem pk_wrong_in_mix : d_wrong_in_mix.f = Pk.wrong_in_mix := rfl
theorem ok_wrong_in_mix : DefOk d_wrong_in_mix.c d_wrong_in_mix.ps (defScope d_wrong_in_mix.st) (defBody d_wrong_in_mix.st) d_wrong_in_mix.ir := ⟨⟨rfl, rfl, rfl, by decide +kernel, rfl, by decide +kernel, by decide +kernel⟩, rfl, by kernel_rfl⟩
def n_check_mix : List Str := ["value", "table", "index"]
def c_check_mix : Cc := ⟨⟨n_check_mix, defScope (st 41), [Pk.E_wrong_in_mix_2], CON, true, FREE⟩, cellsOf (defScope (st 41)), [], []⟩
def d_check_mix : Dfn := ⟨st 41, c_check_mix, ["value", "table"], false, Pk.ir_check_mix⟩
@[simp] theorem pk_check_mix : d_check_mix.f = Pk.check_mix := rfl
theorem ok_check_mix : DefOk d_check_mix.c d_check_mix.ps (defScope d_check_mix.st) (defBody d_check_mix.st) d_check_mix.ir := ⟨⟨rfl, rfl, rfl, by decide +kernel, rfl, by decide +kernel, by decide +kernel⟩, rfl, by kernel_rfl⟩
def n_frac_sum : List Str := ["x", "y"]
def c_frac_sum : Cc := ⟨⟨n_frac_sum, defScope (st 9), [Pk.E_frac_reduced_2], CON, true, FREE⟩, cellsOf (defScope (st 9)), [], []⟩
def d_frac_sum : Dfn := ⟨st 9, c_frac_sum, ["x", "y"], false, Pk.ir_frac_sum⟩
@[simp] theorem pk_frac_sum : d_frac_sum.f = Pk.frac_sum := rfl
theorem ok_frac_sum : DefOk d_frac_sum.c d_frac_sum.ps (defScope d_frac_sum.st) (defBody d_frac_sum.st) d_frac_sum.ir := ⟨⟨rfl, rfl, rfl, by decide +kernel, rfl, by decide +kernel, by decide +kernel⟩, rfl, by kernel_rfl⟩
def n_num_sum : List Str := ["x", "y"]
def c_num_sum : Cc := ⟨⟨n_num_sum, defScope (st 13), [Pk.E_frac_sum_2], CON, true, FREE⟩, cellsOf (defScope (st 13)), [], []⟩
def d_num_sum : Dfn := ⟨st 13, c_num_sum, ["x", "y"], false, Pk.ir_num_sum⟩
@[simp] theorem pk_num_sum : d_num_sum.f = Pk.num_sum := rfl
theorem ok_num_sum : DefOk d_num_sum.c d_num_sum.ps (defScope d_num_sum.st) (defBody d_num_sum.st) d_num_sum.ir := ⟨⟨rfl, rfl, rfl, by decide +kernel, rfl, by decide +kernel, by decide +kernel⟩, rfl, by kernel_rfl⟩
def n_inner_sum : List Str := ["one", "other", "found", "each", "second"]
def c_inner_sum : Cc := ⟨⟨n_inner_sum, defScope (st 28), [Pk.E_num_sum_2, Pk.E_num_product_2], CON, true, FREE⟩, cellsOf (defScope (st 28)), [], []⟩
def d_inner_sum : Dfn := ⟨st 28, c_inner_sum, ["one", "other"], false, Pk.ir_inner_sum⟩
@[simp] theorem pk_inner_sum : d_inner_sum.f = Pk.inner_sum := rfl
theorem ok_inner_sum : DefOk d_inner_sum.c d_inner_sum.ps (defScope d_inner_sum.st) (defBody d_inner_sum.st) d_inner_sum.ir := ⟨⟨rfl, rfl, rfl, by decide +kernel, rfl, by decide +kernel, by decide +kernel⟩, rfl, by kernel_rfl⟩
def n_mix_times : List Str := ["mix", "table", "at", "row"]
def c_mix_times : Cc := ⟨⟨n_mix_times, defScope (st 29), [Pk.E_inner_sum_2], CON, true, FREE⟩, cellsOf (defScope (st 29)), [], []⟩
def d_mix_times : Dfn := ⟨st 29, c_mix_times, ["mix", "table"], false, Pk.ir_mix_times⟩
@[simp] theorem pk_mix_times : d_mix_times.f = Pk.mix_times := rfl
theorem ok_mix_times : DefOk d_mix_times.c d_mix_times.ps (defScope d_mix_times.st) (defBody d_mix_times.st) d_mix_times.ir := ⟨⟨rfl, rfl, rfl, by decide +kernel, rfl, by decide +kernel, by decide +kernel⟩, rfl, by kernel_rfl⟩
def n_mix_mirrored : List Str := ["mix", "each"]
def c_mix_mirrored : Cc := ⟨⟨n_mix_mirrored, defScope (st 27), [Pk.E_num_mirrored_1], CON, true, FREE⟩, cellsOf (defScope (st 27)), [], []⟩
def d_mix_mirrored : Dfn := ⟨st 27, c_mix_mirrored, ["mix"], false, Pk.ir_mix_mirrored⟩
@[simp] theorem pk_mix_mirrored : d_mix_mirrored.f = Pk.mix_mirrored := rfl
theorem ok_mix_mirrored : DefOk d_mix_mirrored.c d_mix_mirrored.ps (defScope d_mix_mirrored.st) (defBody d_mix_mirrored.st) d_mix_mirrored.ir := ⟨⟨rfl, rfl, rfl, by decide +kernel, rfl, by decide +kernel, by decide +kernel⟩, rfl, by kernel_rfl⟩
def n_out_together : List Str := ["table", "mix", "other"]
def c_out_together : Cc := ⟨⟨n_out_together, defScope (st 30), [Pk.E_inner_sum_2, Pk.E_mix_times_2, Pk.E_mix_mirrored_1], CON, true, FREE⟩, cellsOf (defScope (st 30)), [], []⟩
def d_out_together : Dfn := ⟨st 30, c_out_together, ["table", "mix", "other"], false, Pk.ir_out_together⟩
@[simp] theorem pk_out_together : d_out_together.f = Pk.out_together := rfl
theorem ok_out_together : DefOk d_out_together.c d_out_together.ps (defScope d_out_together.st) (defBody d_out_together.st) d_out_together.ir := ⟨⟨rfl, rfl, rfl, by decide +kernel, rfl, by decide +kernel, by decide +kernel⟩, rfl, by kernel_rfl⟩
def n_out_of : List Str := ["table", "mix"]
def c_out_of : Cc := ⟨⟨n_out_of, defScope (st 31), [Pk.E_out_together_3], CON, true, FREE⟩, cellsOf (defScope (st 31)), [], []⟩
def d_out_of : Dfn := ⟨st 31, c_out_of, ["table", "mix"], false, Pk.ir_out_of⟩
@[simp] theorem pk_out_of : d_out_of.f = Pk.out_of := rfl
theorem ok_out_of : DefOk d_out_of.c d_out_of.ps (defScope d_out_of.st) (defBody d_out_of.st) d_out_of.ir := ⟨⟨rfl, rfl, rfl, by decide +kernel, rfl, by decide +kernel, by decide +kernel⟩, rfl, by kernel_rfl⟩
def n_comes_out : List Str := ["table", "mix"]
def c_comes_out : Cc := ⟨⟨n_comes_out, defScope (st 46), [Pk.E_check_table_1, Pk.E_check_mix_2, Pk.E_out_of_2], CON, true, FREE⟩, cellsOf (defScope (st 46)), [], []⟩
def d_comes_out : Dfn := ⟨st 46, c_comes_out, ["table", "mix"], false, Pk.ir_comes_out⟩
@[simp] theorem pk_comes_out : d_comes_out.f = Pk.comes_out := rfl
theorem ok_comes_out : DefOk d_comes_out.c d_comes_out.ps (defScope d_comes_out.st) (defBody d_comes_out.st) d_comes_out.ir := ⟨⟨rfl, rfl, rfl, by decide +kernel, rfl, by decide +kernel, by decide +kernel⟩, rfl, by kernel_rfl⟩
def n_rank_of : List Str := ["table"]
def c_rank_of : Cc := ⟨⟨n_rank_of, defScope (st 43), [Pk.E_check_table_1, Pk.E_null_by_1], CON, true, FREE⟩, cellsOf (defScope (st 43)), [], []⟩
def d_rank_of : Dfn := ⟨st 43, c_rank_of, ["table"], false, Pk.ir_rank_of⟩
@[simp] theorem pk_rank_of : d_rank_of.f = Pk.rank_of := rfl
theorem ok_rank_of : DefOk d_rank_of.c d_rank_of.ps (defScope d_rank_of.st) (defBody d_rank_of.st) d_rank_of.ir := ⟨⟨rfl, rfl, rfl, by decide +kernel, rfl, by decide +kernel, by decide +kernel⟩, rfl, by kernel_rfl⟩
def n_come_out_together : List Str := ["table", "mix", "other_mix"]
def c_come_out_together : Cc := ⟨⟨n_come_out_together, defScope (st 47), [Pk.E_check_table_1, Pk.E_check_mix_2, Pk.E_out_together_3], CON, true, FREE⟩, cellsOf (defScope (st 47)), [], []⟩
def d_come_out_together : Dfn := ⟨st 47, c_come_out_together, ["table", "mix", "other_mix"], false, Pk.ir_come_out_together⟩
@[simp] theorem pk_come_out_together : d_come_out_together.f = Pk.come_out_together := rfl
theorem ok_come_out_together : DefOk d_come_out_together.c d_come_out_together.ps (defScope d_come_out_together.st) (defBody d_come_out_together.st) d_come_out_together.ir := ⟨⟨rfl, rfl, rfl, by decide +kernel, rfl, by decide +kernel, by decide +kernel⟩, rfl, by kernel_rfl⟩
def n__law_right : List Str := ["pot", "n", "own", "grid", "told", "c", "d", "each", "x", "nought", "i"]
def c__law_right : Cc := ⟨⟨n__law_right, defScope (st 85), [Pk.E__law_many_1, Pk.E__law_flat_2, Pk.E__law_tab_1, Pk.E_null_mixes_1, Pk.E__law_small_1, Pk.E__law_fit_v2_2, Pk.E__law_plus_2, Pk.E_comes_out_2, Pk.E_null_mixes_0_table, Pk.E_rank_of_1, Pk.E_rank_of_0_table, Pk.E__law_times_v2_2, Pk.E__law_line_1, Pk.E_come_out_together_3, Pk.E__law_read_1], CON, true, FREE⟩, cellsOf (defScope (st 85)), [], []⟩
def ir__law_right : List IS := [(.set 1 (.callm Pk._law_many 0 [])), (.set 2 (.callm Pk._law_flat 0 [(.var 1)])), (.par [3, 4] [(.call Pk._law_tab Pk.E__law_tab_1.pm [(.var 2)]), (.call Pk.null_mixes Pk.E_null_mixes_1.pm [(.call Pk._law_tab Pk.E__law_tab_1.pm [(.var 2)])])]), (.ife (.or (.not (.call Pk._law_fit_v2 Pk.E__law_fit_v2_2.pm [(.var 2), (.var 4)])) (.cmp .ne (.bi .repr [(.call Pk.null_mixes Pk.E_null_mixes_0_table.pm [(.var 3)])]) (.bi .repr [(.var 4)]))) [(.ret (.cst (.bool false)))] []), (.ife (.cmp .ne (.bi .repr [(.lst [(.call Pk.rank_of Pk.E_rank_of_1.pm [(.var 3)]), (.call Pk.rank_of Pk.E_rank_of_0_table.pm [(.var 3)])])]) (.bi .repr [(.bin .mul (.lst [(.bin .sub (.var 1) (.lenv 4))]) (.cst (.int (2))))])) [(.ret (.cst (.bool false)))] []), (.par [5, 6] [(.bin .mul (.lst [(.tup [(.cst (.int (0))), (.cst (.int (0))), (.cst (.int (1)))])]) (.var 1)), (.lc [10] (.nm 10) .rng1 [(.var 1)] [] (.callm Pk._law_small 0 []))]), (.fr (.nm 7) .seq [(.var 4)] [(.set 8 (.callm Pk._law_small 0 [])), (.set 5 (.lc [10] (.nm 10) .rng1 [(.var 1)] [] (.call Pk._law_plus Pk.E__law_plus_2.pm [(.ixv 5 (.var 10)), (.call Pk._law_times_v2 Pk.E__law_times_v2_2.pm [(.var 8), (.call Pk._law_read Pk.E__law_read_1.pm [(.ixv 7 (.var 10))])])])))]), (.ife (.cmp .ne (.bi .repr [(.call Pk.comes_out Pk.E_comes_out_2.pm [(.var 3), (.call Pk._law_line Pk.E__law_line_1.pm [(.var 5)])])]) (.bi .repr [(.tup [(.cst (.int (0))), (.cst (.int (1)))])])) [(.ret (.cst (.bool false)))] []), (.set 9 (.tup [(.tup [(.cst (.int (0))), (.cst (.int (1)))]), (.tup [(.cst (.int (0))), (.cst (.int (1)))])])), (.ret (.cmp .eq (.bi .repr [(.lst [(.call Pk.come_out_together Pk.E_come_out_together_3.pm [(.var 3), (.call Pk._law_line Pk.E__law_line_1.pm [(.var 5)]), (.call Pk._law_line Pk.E__law_line_1.pm [(.var 6)])]), (.call Pk.come_out_together Pk.E_come_out_together_3.pm [(.var 3), (.call Pk._law_line Pk.E__law_line_1.pm [(.var 6)]), (.call Pk._law_line Pk.E__law_line_1.pm [(.var 5)])])])]) (.bi .repr [(.lst [(.var 9), (.var 9)])])))]
def d__law_right : Dfn := ⟨st 85, c__law_right, ["pot"], true, ir__law_right⟩
theorem ok__law_right : DefOk d__law_right.c d__law_right.ps (defScope d__law_right.st) (defBody d__law_right.st) d__law_right.ir := ⟨⟨rfl, rfl, rfl, by decide +kernel, rfl, by decide +kernel, by decide +kernel⟩, rfl, by kernel_rfl⟩
def E__law_right_1 : FnE := ⟨"_law_right", 1, [], d__law_right.f, [.inl 0], []⟩
def n__law_pot : List Str := ["script", "lap", "mixed", "at", "cell", "own"]
def c__law_pot : Cc := ⟨⟨n__law_pot, defScope (st 49), [], CON, true, FREE⟩, cellsOf (defScope (st 49)), [], []⟩
def d__law_pot : Dfn := ⟨st 49, c__law_pot, ["script", "lap"], false, Pk.ir__law_pot⟩
@[simp] theorem pk__law_pot : d__law_pot.f = Pk._law_pot := rfl
theorem ok__law_pot : DefOk d__law_pot.c d__law_pot.ps (defScope d__law_pot.st) (defBody d__law_pot.st) d__law_pot.ir := ⟨⟨rfl, rfl, rfl, by decide +kernel, rfl, by decide +kernel, by decide +kernel⟩, rfl, by kernel_rfl⟩
def n_law : List Str := ["script", "lap"]
def c_law : Cc := ⟨⟨n_law, defScope (st 86), [Pk.E__law_laps_1, E__law_right_1, Pk.E__law_pot_2], CON, true, FREE⟩, cellsOf (defScope (st 86)), [], []⟩
def ir_law : List IS := [(.fr (.nm 1) .rng1 [(.call Pk._law_laps Pk.E__law_laps_1.pm [(.var 0)])] [(.ife (.not (.callt d__law_right.f (.call Pk._law_pot Pk.E__law_pot_2.pm [(.var 0), (.var 1)]))) [(.ret (.cst (.bool false)))] [])]), (.ret (.cst (.bool true)))]
def d_law : Dfn := ⟨st 86, c_law, ["script"], false, ir_law⟩
theorem ok_law : DefOk d_law.c d_law.ps (defScope d_law.st) (defBody d_law.st) d_law.ir := ⟨⟨rfl, rfl, rfl, by decide +kernel, rfl, by decide +kernel, by decide +kernel⟩, rfl, by kernel_rfl⟩
def DFL : List ((Str × Nat) × PyData) := [(("unit_mix", 0), (.tuple [(.tuple [(.int (1)), (.int (1))]), (.tuple [(.int (0)), (.int (1))])]))]
def asked : Asked := ⟨FREE, [d__law_laps.dd [], d__law_draw.dd [], d__law_pick.dd [], d__law_many.dd [], d__law_common.dd [], d__law_cut.dd [], d__law_plus.dd [], d__law_times.dd [], d__law_run.dd [], d__law_mirror.dd [], d__law_dot.dd [], d__law_led.dd [], d__law_made.dd [], d__law_ratio.dd [], d__law_gauss.dd [], d__law_hermite.dd [], d__law_less.dd [], d__law_small.dd [], d__law_positive.dd [], d__law_drawn_table.dd [], d__law_flat.dd [], d__law_fraction.dd [], d__law_number.dd [], d__law_line.dd [], d__law_tab.dd [], d_num_mirrored.dd [], d_is_whole.dd [], d_is_frac.dd [], d_is_num.dd [], d_fits_as_row.dd [], d_wrong_in_table.dd [], d_check_table.dd [], d_first_other.dd [], d_unit_mix.dd [(.adr (He.dflAt ("unit_mix", none) 0))], d_frac_reduced.dd [], d_frac_product.dd [], d_num_scaled.dd [], d_num_product.dd [], d_frac_over.dd [], d_num_size.dd [], d_num_over.dd [], d_frac_less.dd [], d_num_less.dd [], d_mix_less.dd [], d_null_by.dd [], d_null_mixes.dd [], d__law_is_nought.dd [], d__law_bare.dd [], d__law_over.dd [], d__law_rank.dd [], d__law_hanging.dd [], d__law_is_fraction.dd [], d__law_is_number.dd [], d__law_is_line.dd [], d__law_read.dd [], d__law_fit.dd [], d_wrong_in_mix.dd [], d_check_mix.dd [], d_frac_sum.dd [], d_num_sum.dd [], d_inner_sum.dd [], d_mix_times.dd [], d_mix_mirrored.dd [], d_out_together.dd [], d_out_of.dd [], d_comes_out.dd [], d_rank_of.dd [], d_come_out_together.dd [], d__law_right.dd [], d__law_pot.dd [], d_law.dd []], CON, true, DFL⟩
section
variable {P : Program} {w : World} {K : PySem.W.Frag} {mg : Str → Option Value} {base : Heap}
theorem b_E__law_draw_2 (kV doc pm : Value) (an : Option Addr) (cdv ct : Value) (us ws : List Value) (h1 : us.length = Pk.E__law_draw_2.np) (h2 : ws.length = Pk.E__law_draw_2.kws.length) : bindArgs (PySem.W.fnOf (stName d__law_draw.st) (stName d__law_draw.st) (defArgs d__law_draw.st) (defBody d__law_draw.st) (defScope d__law_draw.st) .none kV doc pm an cdv ct) ⟨us, Pk.E__law_draw_2.kws.zip ws⟩ = pure (d__law_draw.ps.zip (arr .none Pk.E__law_draw_2.ar [] (us ++ ws))) :=
  match us, ws, h1, h2 with | [_, _], [], _, _ => rfl
theorem b_E__law_pick_2 (kV doc pm : Value) (an : Option Addr) (cdv ct : Value) (us ws : List Value) (h1 : us.length = Pk.E__law_pick_2.np) (h2 : ws.length = Pk.E__law_pick_2.kws.length) : bindArgs (PySem.W.fnOf (stName d__law_pick.st) (stName d__law_pick.st) (defArgs d__law_pick.st) (defBody d__law_pick.st) (defScope d__law_pick.st) .none kV doc pm an cdv ct) ⟨us, Pk.E__law_pick_2.kws.zip ws⟩ = pure (d__law_pick.ps.zip (arr .none Pk.E__law_pick_2.ar [] (us ++ ws))) :=
  match us, ws, h1, h2 with | [_, _], [], _, _ => rfl
theorem b_E__law_common_2 (kV doc pm : Value) (an : Option Addr) (cdv ct : Value) (us ws : List Value) (h1 : us.length = Pk.E__law_common_2.np) (h2 : ws.length = Pk.E__law_common_2.kws.length) : bindArgs (PySem.W.fnOf (stName d__law_common.st) (stName d__law_common.st) (defArgs d__law_common.st) (defBody d__law_common.st) (defScope d__law_common.st) .none kV doc pm an cdv ct) ⟨us, Pk.E__law_common_2.kws.zip ws⟩ = pure (d__law_common.ps.zip (arr .none Pk.E__law_common_2.ar [] (us ++ ws))) :=
  match us, ws, h1, h2 with | [_, _], [], _, _ => rfl
theorem b_E__law_cut_3 (kV doc pm : Value) (an : Option Addr) (cdv ct : Value) (us ws : List Value) (h1 : us.length = Pk.E__law_cut_v2_3.np) (h2 : ws.length = Pk.E__law_cut_v2_3.kws.length) : bindArgs (PySem.W.fnOf (stName d__law_cut.st) (stName d__law_cut.st) (defArgs d__law_cut.st) (defBody d__law_cut.st) (defScope d__law_cut.st) .none kV doc pm an cdv ct) ⟨us, Pk.E__law_cut_v2_3.kws.zip ws⟩ = pure (d__law_cut.ps.zip (arr .none Pk.E__law_cut_v2_3.ar [] (us ++ ws))) :=
  match us, ws, h1, h2 with | [_, _, _], [], _, _ => rfl
theorem b_E__law_plus_2 (kV doc pm : Value) (an : Option Addr) (cdv ct : Value) (us ws : List Value) (h1 : us.length = Pk.E__law_plus_2.np) (h2 : ws.length = Pk.E__law_plus_2.kws.length) : bindArgs (PySem.W.fnOf (stName d__law_plus.st) (stName d__law_plus.st) (defArgs d__law_plus.st) (defBody d__law_plus.st) (defScope d__law_plus.st) .none kV doc pm an cdv ct) ⟨us, Pk.E__law_plus_2.kws.zip ws⟩ = pure (d__law_plus.ps.zip (arr .none Pk.E__law_plus_2.ar [] (us ++ ws))) :=
  match us, ws, h1, h2 with | [_, _], [], _, _ => rfl
theorem b_E__law_times_2 (kV doc pm : Value) (an : Option Addr) (cdv ct : Value) (us ws : List Value) (h1 : us.length = Pk.E__law_times_v2_2.np) (h2 : ws.length = Pk.E__law_times_v2_2.kws.length) : bindArgs (PySem.W.fnOf (stName d__law_times.st) (stName d__law_times.st) (defArgs d__law_times.st) (defBody d__law_times.st) (defScope d__law_times.st) .none kV doc pm an cdv ct) ⟨us, Pk.E__law_times_v2_2.kws.zip ws⟩ = pure (d__law_times.ps.zip (arr .none Pk.E__law_times_v2_2.ar [] (us ++ ws))) :=
  match us, ws, h1, h2 with | [_, _], [], _, _ => rfl
theorem b_E__law_mirror_1 (kV doc pm : Value) (an : Option Addr) (cdv ct : Value) (us ws : List Value) (h1 : us.length = Pk.E__law_mirror_1.np) (h2 : ws.length = Pk.E__law_mirror_1.kws.length) : bindArgs (PySem.W.fnOf (stName d__law_mirror.st) (stName d__law_mirror.st) (defArgs d__law_mirror.st) (defBody d__law_mirror.st) (defScope d__law_mirror.st) .none kV doc pm an cdv ct) ⟨us, Pk.E__law_mirror_1.kws.zip ws⟩ = pure (d__law_mirror.ps.zip (arr .none Pk.E__law_mirror_1.ar [] (us ++ ws))) :=
  match us, ws, h1, h2 with | [_], [], _, _ => rfl
theorem b_E__law_run_2 (kV doc pm : Value) (an : Option Addr) (cdv ct : Value) (us ws : List Value) (h1 : us.length = Pk.E__law_run_2.np) (h2 : ws.length = Pk.E__law_run_2.kws.length) : bindArgs (PySem.W.fnOf (stName d__law_run.st) (stName d__law_run.st) (defArgs d__law_run.st) (defBody d__law_run.st) (defScope d__law_run.st) .none kV doc pm an cdv ct) ⟨us, Pk.E__law_run_2.kws.zip ws⟩ = pure (d__law_run.ps.zip (arr .none Pk.E__law_run_2.ar [] (us ++ ws))) :=
  match us, ws, h1, h2 with | [_, _], [], _, _ => rfl
theorem b_E__law_dot_2 (kV doc pm : Value) (an : Option Addr) (cdv ct : Value) (us ws : List Value) (h1 : us.length = Pk.E__law_dot_2.np) (h2 : ws.length = Pk.E__law_dot_2.kws.length) : bindArgs (PySem.W.fnOf (stName d__law_dot.st) (stName d__law_dot.st) (defArgs d__law_dot.st) (defBody d__law_dot.st) (defScope d__law_dot.st) .none kV doc pm an cdv ct) ⟨us, Pk.E__law_dot_2.kws.zip ws⟩ = pure (d__law_dot.ps.zip (arr .none Pk.E__law_dot_2.ar [] (us ++ ws))) :=
  match us, ws, h1, h2 with | [_, _], [], _, _ => rfl
theorem b_E__law_ratio_1 (kV doc pm : Value) (an : Option Addr) (cdv ct : Value) (us ws : List Value) (h1 : us.length = Pk.E__law_ratio_1.np) (h2 : ws.length = Pk.E__law_ratio_1.kws.length) : bindArgs (PySem.W.fnOf (stName d__law_ratio.st) (stName d__law_ratio.st) (defArgs d__law_ratio.st) (defBody d__law_ratio.st) (defScope d__law_ratio.st) .none kV doc pm an cdv ct) ⟨us, Pk.E__law_ratio_1.kws.zip ws⟩ = pure (d__law_ratio.ps.zip (arr .none Pk.E__law_ratio_1.ar [] (us ++ ws))) :=
  match us, ws, h1, h2 with | [_], [], _, _ => rfl
theorem b_E__law_gauss_1 (kV doc pm : Value) (an : Option Addr) (cdv ct : Value) (us ws : List Value) (h1 : us.length = Pk.E__law_gauss_1.np) (h2 : ws.length = Pk.E__law_gauss_1.kws.length) : bindArgs (PySem.W.fnOf (stName d__law_gauss.st) (stName d__law_gauss.st) (defArgs d__law_gauss.st) (defBody d__law_gauss.st) (defScope d__law_gauss.st) .none kV doc pm an cdv ct) ⟨us, Pk.E__law_gauss_1.kws.zip ws⟩ = pure (d__law_gauss.ps.zip (arr .none Pk.E__law_gauss_1.ar [] (us ++ ws))) :=
  match us, ws, h1, h2 with | [_], [], _, _ => rfl
theorem b_E__law_made_2 (kV doc pm : Value) (an : Option Addr) (cdv ct : Value) (us ws : List Value) (h1 : us.length = Pk.E__law_made_2.np) (h2 : ws.length = Pk.E__law_made_2.kws.length) : bindArgs (PySem.W.fnOf (stName d__law_made.st) (stName d__law_made.st) (defArgs d__law_made.st) (defBody d__law_made.st) (defScope d__law_made.st) .none kV doc pm an cdv ct) ⟨us, Pk.E__law_made_2.kws.zip ws⟩ = pure (d__law_made.ps.zip (arr .none Pk.E__law_made_2.ar [] (us ++ ws))) :=
  match us, ws, h1, h2 with | [_, _], [], _, _ => rfl
theorem b_E__law_hermite_2 (kV doc pm : Value) (an : Option Addr) (cdv ct : Value) (us ws : List Value) (h1 : us.length = Pk.E__law_hermite_2.np) (h2 : ws.length = Pk.E__law_hermite_2.kws.length) : bindArgs (PySem.W.fnOf (stName d__law_hermite.st) (stName d__law_hermite.st) (defArgs d__law_hermite.st) (defBody d__law_hermite.st) (defScope d__law_hermite.st) .none kV doc pm an cdv ct) ⟨us, Pk.E__law_hermite_2.kws.zip ws⟩ = pure (d__law_hermite.ps.zip (arr .none Pk.E__law_hermite_2.ar [] (us ++ ws))) :=
  match us, ws, h1, h2 with | [_, _], [], _, _ => rfl
theorem b_E__law_less_2 (kV doc pm : Value) (an : Option Addr) (cdv ct : Value) (us ws : List Value) (h1 : us.length = Pk.E__law_less_v2_2.np) (h2 : ws.length = Pk.E__law_less_v2_2.kws.length) : bindArgs (PySem.W.fnOf (stName d__law_less.st) (stName d__law_less.st) (defArgs d__law_less.st) (defBody d__law_less.st) (defScope d__law_less.st) .none kV doc pm an cdv ct) ⟨us, Pk.E__law_less_v2_2.kws.zip ws⟩ = pure (d__law_less.ps.zip (arr .none Pk.E__law_less_v2_2.ar [] (us ++ ws))) :=
  match us, ws, h1, h2 with | [_, _], [], _, _ => rfl
theorem b_E__law_small_1 (kV doc pm : Value) (an : Option Addr) (cdv ct : Value) (us ws : List Value) (h1 : us.length = Pk.E__law_small_1.np) (h2 : ws.length = Pk.E__law_small_1.kws.length) : bindArgs (PySem.W.fnOf (stName d__law_small.st) (stName d__law_small.st) (defArgs d__law_small.st) (defBody d__law_small.st) (defScope d__law_small.st) .none kV doc pm an cdv ct) ⟨us, Pk.E__law_small_1.kws.zip ws⟩ = pure (d__law_small.ps.zip (arr .none Pk.E__law_small_1.ar [] (us ++ ws))) :=
  match us, ws, h1, h2 with | [_], [], _, _ => rfl
theorem b_E__law_positive_1 (kV doc pm : Value) (an : Option Addr) (cdv ct : Value) (us ws : List Value) (h1 : us.length = Pk.E__law_positive_1.np) (h2 : ws.length = Pk.E__law_positive_1.kws.length) : bindArgs (PySem.W.fnOf (stName d__law_positive.st) (stName d__law_positive.st) (defArgs d__law_positive.st) (defBody d__law_positive.st) (defScope d__law_positive.st) .none kV doc pm an cdv ct) ⟨us, Pk.E__law_positive_1.kws.zip ws⟩ = pure (d__law_positive.ps.zip (arr .none Pk.E__law_positive_1.ar [] (us ++ ws))) :=
  match us, ws, h1, h2 with | [_], [], _, _ => rfl
theorem b_E__law_led_2 (kV doc pm : Value) (an : Option Addr) (cdv ct : Value) (us ws : List Value) (h1 : us.length = Pk.E__law_led_2.np) (h2 : ws.length = Pk.E__law_led_2.kws.length) : bindArgs (PySem.W.fnOf (stName d__law_led.st) (stName d__law_led.st) (defArgs d__law_led.st) (defBody d__law_led.st) (defScope d__law_led.st) .none kV doc pm an cdv ct) ⟨us, Pk.E__law_led_2.kws.zip ws⟩ = pure (d__law_led.ps.zip (arr .none Pk.E__law_led_2.ar [] (us ++ ws))) :=
  match us, ws, h1, h2 with | [_, _], [], _, _ => rfl
theorem b_E__law_drawn_table_2 (kV doc pm : Value) (an : Option Addr) (cdv ct : Value) (us ws : List Value) (h1 : us.length = Pk.E__law_drawn_table_2.np) (h2 : ws.length = Pk.E__law_drawn_table_2.kws.length) : bindArgs (PySem.W.fnOf (stName d__law_drawn_table.st) (stName d__law_drawn_table.st) (defArgs d__law_drawn_table.st) (defBody d__law_drawn_table.st) (defScope d__law_drawn_table.st) .none kV doc pm an cdv ct) ⟨us, Pk.E__law_drawn_table_2.kws.zip ws⟩ = pure (d__law_drawn_table.ps.zip (arr .none Pk.E__law_drawn_table_2.ar [] (us ++ ws))) :=
  match us, ws, h1, h2 with | [_, _], [], _, _ => rfl
theorem b_E__law_fraction_2 (kV doc pm : Value) (an : Option Addr) (cdv ct : Value) (us ws : List Value) (h1 : us.length = Pk.E__law_fraction_v2_2.np) (h2 : ws.length = Pk.E__law_fraction_v2_2.kws.length) : bindArgs (PySem.W.fnOf (stName d__law_fraction.st) (stName d__law_fraction.st) (defArgs d__law_fraction.st) (defBody d__law_fraction.st) (defScope d__law_fraction.st) .none kV doc pm an cdv ct) ⟨us, Pk.E__law_fraction_v2_2.kws.zip ws⟩ = pure (d__law_fraction.ps.zip (arr .none Pk.E__law_fraction_v2_2.ar [] (us ++ ws))) :=
  match us, ws, h1, h2 with | [_, _], [], _, _ => rfl
theorem b_E__law_number_1 (kV doc pm : Value) (an : Option Addr) (cdv ct : Value) (us ws : List Value) (h1 : us.length = Pk.E__law_number_v2_1.np) (h2 : ws.length = Pk.E__law_number_v2_1.kws.length) : bindArgs (PySem.W.fnOf (stName d__law_number.st) (stName d__law_number.st) (defArgs d__law_number.st) (defBody d__law_number.st) (defScope d__law_number.st) .none kV doc pm an cdv ct) ⟨us, Pk.E__law_number_v2_1.kws.zip ws⟩ = pure (d__law_number.ps.zip (arr .none Pk.E__law_number_v2_1.ar [] (us ++ ws))) :=
  match us, ws, h1, h2 with | [_], [], _, _ => rfl
theorem b_E__law_line_1 (kV doc pm : Value) (an : Option Addr) (cdv ct : Value) (us ws : List Value) (h1 : us.length = Pk.E__law_line_1.np) (h2 : ws.length = Pk.E__law_line_1.kws.length) : bindArgs (PySem.W.fnOf (stName d__law_line.st) (stName d__law_line.st) (defArgs d__law_line.st) (defBody d__law_line.st) (defScope d__law_line.st) .none kV doc pm an cdv ct) ⟨us, Pk.E__law_line_1.kws.zip ws⟩ = pure (d__law_line.ps.zip (arr .none Pk.E__law_line_1.ar [] (us ++ ws))) :=
  match us, ws, h1, h2 with | [_], [], _, _ => rfl
theorem b_E_is_whole_1 (kV doc pm : Value) (an : Option Addr) (cdv ct : Value) (us ws : List Value) (h1 : us.length = Pk.E_is_whole_1.np) (h2 : ws.length = Pk.E_is_whole_1.kws.length) : bindArgs (PySem.W.fnOf (stName d_is_whole.st) (stName d_is_whole.st) (defArgs d_is_whole.st) (defBody d_is_whole.st) (defScope d_is_whole.st) .none kV doc pm an cdv ct) ⟨us, Pk.E_is_whole_1.kws.zip ws⟩ = pure (d_is_whole.ps.zip (arr .none Pk.E_is_whole_1.ar [] (us ++ ws))) :=
  match us, ws, h1, h2 with | [_], [], _, _ => rfl
theorem b_E_is_frac_1 (kV doc pm : Value) (an : Option Addr) (cdv ct : Value) (us ws : List Value) (h1 : us.length = Pk.E_is_frac_1.np) (h2 : ws.length = Pk.E_is_frac_1.kws.length) : bindArgs (PySem.W.fnOf (stName d_is_frac.st) (stName d_is_frac.st) (defArgs d_is_frac.st) (defBody d_is_frac.st) (defScope d_is_frac.st) .none kV doc pm an cdv ct) ⟨us, Pk.E_is_frac_1.kws.zip ws⟩ = pure (d_is_frac.ps.zip (arr .none Pk.E_is_frac_1.ar [] (us ++ ws))) :=
  match us, ws, h1, h2 with | [_], [], _, _ => rfl
theorem b_E_num_mirrored_1 (kV doc pm : Value) (an : Option Addr) (cdv ct : Value) (us ws : List Value) (h1 : us.length = Pk.E_num_mirrored_1.np) (h2 : ws.length = Pk.E_num_mirrored_1.kws.length) : bindArgs (PySem.W.fnOf (stName d_num_mirrored.st) (stName d_num_mirrored.st) (defArgs d_num_mirrored.st) (defBody d_num_mirrored.st) (defScope d_num_mirrored.st) .none kV doc pm an cdv ct) ⟨us, Pk.E_num_mirrored_1.kws.zip ws⟩ = pure (d_num_mirrored.ps.zip (arr .none Pk.E_num_mirrored_1.ar [] (us ++ ws))) :=
  match us, ws, h1, h2 with | [_], [], _, _ => rfl
theorem b_E_is_num_1 (kV doc pm : Value) (an : Option Addr) (cdv ct : Value) (us ws : List Value) (h1 : us.length = Pk.E_is_num_1.np) (h2 : ws.length = Pk.E_is_num_1.kws.length) : bindArgs (PySem.W.fnOf (stName d_is_num.st) (stName d_is_num.st) (defArgs d_is_num.st) (defBody d_is_num.st) (defScope d_is_num.st) .none kV doc pm an cdv ct) ⟨us, Pk.E_is_num_1.kws.zip ws⟩ = pure (d_is_num.ps.zip (arr .none Pk.E_is_num_1.ar [] (us ++ ws))) :=
  match us, ws, h1, h2 with | [_], [], _, _ => rfl
theorem b_E_fits_as_row_3 (kV doc pm : Value) (an : Option Addr) (cdv ct : Value) (us ws : List Value) (h1 : us.length = Pk.E_fits_as_row_3.np) (h2 : ws.length = Pk.E_fits_as_row_3.kws.length) : bindArgs (PySem.W.fnOf (stName d_fits_as_row.st) (stName d_fits_as_row.st) (defArgs d_fits_as_row.st) (defBody d_fits_as_row.st) (defScope d_fits_as_row.st) .none kV doc pm an cdv ct) ⟨us, Pk.E_fits_as_row_3.kws.zip ws⟩ = pure (d_fits_as_row.ps.zip (arr .none Pk.E_fits_as_row_3.ar [] (us ++ ws))) :=
  match us, ws, h1, h2 with | [_, _, _], [], _, _ => rfl
theorem b_E_wrong_in_table_1 (kV doc pm : Value) (an : Option Addr) (cdv ct : Value) (us ws : List Value) (h1 : us.length = Pk.E_wrong_in_table_1.np) (h2 : ws.length = Pk.E_wrong_in_table_1.kws.length) : bindArgs (PySem.W.fnOf (stName d_wrong_in_table.st) (stName d_wrong_in_table.st) (defArgs d_wrong_in_table.st) (defBody d_wrong_in_table.st) (defScope d_wrong_in_table.st) .none kV doc pm an cdv ct) ⟨us, Pk.E_wrong_in_table_1.kws.zip ws⟩ = pure (d_wrong_in_table.ps.zip (arr .none Pk.E_wrong_in_table_1.ar [] (us ++ ws))) :=
  match us, ws, h1, h2 with | [_], [], _, _ => rfl
theorem b_E_frac_reduced_2 (kV doc pm : Value) (an : Option Addr) (cdv ct : Value) (us ws : List Value) (h1 : us.length = Pk.E_frac_reduced_2.np) (h2 : ws.length = Pk.E_frac_reduced_2.kws.length) : bindArgs (PySem.W.fnOf (stName d_frac_reduced.st) (stName d_frac_reduced.st) (defArgs d_frac_reduced.st) (defBody d_frac_reduced.st) (defScope d_frac_reduced.st) .none kV doc pm an cdv ct) ⟨us, Pk.E_frac_reduced_2.kws.zip ws⟩ = pure (d_frac_reduced.ps.zip (arr .none Pk.E_frac_reduced_2.ar [] (us ++ ws))) :=
  match us, ws, h1, h2 with | [_, _], [], _, _ => rfl
theorem b_E_frac_product_2 (kV doc pm : Value) (an : Option Addr) (cdv ct : Value) (us ws : List Value) (h1 : us.length = Pk.E_frac_product_2.np) (h2 : ws.length = Pk.E_frac_product_2.kws.length) : bindArgs (PySem.W.fnOf (stName d_frac_product.st) (stName d_frac_product.st) (defArgs d_frac_product.st) (defBody d_frac_product.st) (defScope d_frac_product.st) .none kV doc pm an cdv ct) ⟨us, Pk.E_frac_product_2.kws.zip ws⟩ = pure (d_frac_product.ps.zip (arr .none Pk.E_frac_product_2.ar [] (us ++ ws))) :=
  match us, ws, h1, h2 with | [_, _], [], _, _ => rfl
theorem b_E_num_scaled_2 (kV doc pm : Value) (an : Option Addr) (cdv ct : Value) (us ws : List Value) (h1 : us.length = Pk.E_num_scaled_2.np) (h2 : ws.length = Pk.E_num_scaled_2.kws.length) : bindArgs (PySem.W.fnOf (stName d_num_scaled.st) (stName d_num_scaled.st) (defArgs d_num_scaled.st) (defBody d_num_scaled.st) (defScope d_num_scaled.st) .none kV doc pm an cdv ct) ⟨us, Pk.E_num_scaled_2.kws.zip ws⟩ = pure (d_num_scaled.ps.zip (arr .none Pk.E_num_scaled_2.ar [] (us ++ ws))) :=
  match us, ws, h1, h2 with | [_, _], [], _, _ => rfl
theorem b_E_num_product_2 (kV doc pm : Value) (an : Option Addr) (cdv ct : Value) (us ws : List Value) (h1 : us.length = Pk.E_num_product_2.np) (h2 : ws.length = Pk.E_num_product_2.kws.length) : bindArgs (PySem.W.fnOf (stName d_num_product.st) (stName d_num_product.st) (defArgs d_num_product.st) (defBody d_num_product.st) (defScope d_num_product.st) .none kV doc pm an cdv ct) ⟨us, Pk.E_num_product_2.kws.zip ws⟩ = pure (d_num_product.ps.zip (arr .none Pk.E_num_product_2.ar [] (us ++ ws))) :=
  match us, ws, h1, h2 with | [_, _], [], _, _ => rfl
theorem b_E_frac_over_2 (kV doc pm : Value) (an : Option Addr) (cdv ct : Value) (us ws : List Value) (h1 : us.length = Pk.E_frac_over_2.np) (h2 : ws.length = Pk.E_frac_over_2.kws.length) : bindArgs (PySem.W.fnOf (stName d_frac_over.st) (stName d_frac_over.st) (defArgs d_frac_over.st) (defBody d_frac_over.st) (defScope d_frac_over.st) .none kV doc pm an cdv ct) ⟨us, Pk.E_frac_over_2.kws.zip ws⟩ = pure (d_frac_over.ps.zip (arr .none Pk.E_frac_over_2.ar [] (us ++ ws))) :=
  match us, ws, h1, h2 with | [_, _], [], _, _ => rfl
theorem b_E_num_size_1 (kV doc pm : Value) (an : Option Addr) (cdv ct : Value) (us ws : List Value) (h1 : us.length = Pk.E_num_size_1.np) (h2 : ws.length = Pk.E_num_size_1.kws.length) : bindArgs (PySem.W.fnOf (stName d_num_size.st) (stName d_num_size.st) (defArgs d_num_size.st) (defBody d_num_size.st) (defScope d_num_size.st) .none kV doc pm an cdv ct) ⟨us, Pk.E_num_size_1.kws.zip ws⟩ = pure (d_num_size.ps.zip (arr .none Pk.E_num_size_1.ar [] (us ++ ws))) :=
  match us, ws, h1, h2 with | [_], [], _, _ => rfl
theorem b_E_frac_less_2 (kV doc pm : Value) (an : Option Addr) (cdv ct : Value) (us ws : List Value) (h1 : us.length = Pk.E_frac_less_2.np) (h2 : ws.length = Pk.E_frac_less_2.kws.length) : bindArgs (PySem.W.fnOf (stName d_frac_less.st) (stName d_frac_less.st) (defArgs d_frac_less.st) (defBody d_frac_less.st) (defScope d_frac_less.st) .none kV doc pm an cdv ct) ⟨us, Pk.E_frac_less_2.kws.zip ws⟩ = pure (d_frac_less.ps.zip (arr .none Pk.E_frac_less_2.ar [] (us ++ ws))) :=
  match us, ws, h1, h2 with | [_, _], [], _, _ => rfl
theorem b_E_num_less_2 (kV doc pm : Value) (an : Option Addr) (cdv ct : Value) (us ws : List Value) (h1 : us.length = Pk.E_num_less_2.np) (h2 : ws.length = Pk.E_num_less_2.kws.length) : bindArgs (PySem.W.fnOf (stName d_num_less.st) (stName d_num_less.st) (defArgs d_num_less.st) (defBody d_num_less.st) (defScope d_num_less.st) .none kV doc pm an cdv ct) ⟨us, Pk.E_num_less_2.kws.zip ws⟩ = pure (d_num_less.ps.zip (arr .none Pk.E_num_less_2.ar [] (us ++ ws))) :=
  match us, ws, h1, h2 with | [_, _], [], _, _ => rfl
theorem b_E_first_other_1 (kV doc pm : Value) (an : Option Addr) (cdv ct : Value) (us ws : List Value) (h1 : us.length = Pk.E_first_other_1.np) (h2 : ws.length = Pk.E_first_other_1.kws.length) : bindArgs (PySem.W.fnOf (stName d_first_other.st) (stName d_first_other.st) (defArgs d_first_other.st) (defBody d_first_other.st) (defScope d_first_other.st) .none kV doc pm an cdv ct) ⟨us, Pk.E_first_other_1.kws.zip ws⟩ = pure (d_first_other.ps.zip (arr .none Pk.E_first_other_1.ar [] (us ++ ws))) :=
  match us, ws, h1, h2 with | [_], [], _, _ => rfl
theorem b_E_unit_mix_2 (T : Addr) (kV doc pm : Value) (an : Option Addr) (cdv ct : Value) (us its ws : List Value) (h1 : us.length = Pk.E_unit_mix_2.np) (h3 : its.length = Pk.E_unit_mix_2.dfs.length) (h2 : ws.length = Pk.E_unit_mix_2.kws.length) : ∃ k, bindArgs (PySem.W.fnOf (stName d_unit_mix.st) (stName d_unit_mix.st) (defArgs d_unit_mix.st) (defBody d_unit_mix.st) (defScope d_unit_mix.st) (.ref T) kV doc pm an cdv ct) ⟨us, Pk.E_unit_mix_2.kws.zip ws⟩ = seqItems? (.ref T) >>= k ∧ k (some its.toArray) = pure (d_unit_mix.ps.zip (arr .none Pk.E_unit_mix_2.ar its (us ++ ws))) :=
  match us, its, ws, h1, h3, h2 with | [_, _], [_], [], _, _, _ => ⟨_, rfl, rfl⟩
theorem b_E_num_over_2 (kV doc pm : Value) (an : Option Addr) (cdv ct : Value) (us ws : List Value) (h1 : us.length = Pk.E_num_over_2.np) (h2 : ws.length = Pk.E_num_over_2.kws.length) : bindArgs (PySem.W.fnOf (stName d_num_over.st) (stName d_num_over.st) (defArgs d_num_over.st) (defBody d_num_over.st) (defScope d_num_over.st) .none kV doc pm an cdv ct) ⟨us, Pk.E_num_over_2.kws.zip ws⟩ = pure (d_num_over.ps.zip (arr .none Pk.E_num_over_2.ar [] (us ++ ws))) :=
  match us, ws, h1, h2 with | [_, _], [], _, _ => rfl
theorem b_E_mix_less_3 (kV doc pm : Value) (an : Option Addr) (cdv ct : Value) (us ws : List Value) (h1 : us.length = Pk.E_mix_less_3.np) (h2 : ws.length = Pk.E_mix_less_3.kws.length) : bindArgs (PySem.W.fnOf (stName d_mix_less.st) (stName d_mix_less.st) (defArgs d_mix_less.st) (defBody d_mix_less.st) (defScope d_mix_less.st) .none kV doc pm an cdv ct) ⟨us, Pk.E_mix_less_3.kws.zip ws⟩ = pure (d_mix_less.ps.zip (arr .none Pk.E_mix_less_3.ar [] (us ++ ws))) :=
  match us, ws, h1, h2 with | [_, _, _], [], _, _ => rfl
theorem b_E_check_table_1 (kV doc pm : Value) (an : Option Addr) (cdv ct : Value) (us ws : List Value) (h1 : us.length = Pk.E_check_table_1.np) (h2 : ws.length = Pk.E_check_table_1.kws.length) : bindArgs (PySem.W.fnOf (stName d_check_table.st) (stName d_check_table.st) (defArgs d_check_table.st) (defBody d_check_table.st) (defScope d_check_table.st) .none kV doc pm an cdv ct) ⟨us, Pk.E_check_table_1.kws.zip ws⟩ = pure (d_check_table.ps.zip (arr .none Pk.E_check_table_1.ar [] (us ++ ws))) :=
  match us, ws, h1, h2 with | [_], [], _, _ => rfl
theorem b_E_null_by_1 (kV doc pm : Value) (an : Option Addr) (cdv ct : Value) (us ws : List Value) (h1 : us.length = Pk.E_null_by_1.np) (h2 : ws.length = Pk.E_null_by_1.kws.length) : bindArgs (PySem.W.fnOf (stName d_null_by.st) (stName d_null_by.st) (defArgs d_null_by.st) (defBody d_null_by.st) (defScope d_null_by.st) .none kV doc pm an cdv ct) ⟨us, Pk.E_null_by_1.kws.zip ws⟩ = pure (d_null_by.ps.zip (arr .none Pk.E_null_by_1.ar [] (us ++ ws))) :=
  match us, ws, h1, h2 with | [_], [], _, _ => rfl
theorem b_E__law_is_nought_1 (kV doc pm : Value) (an : Option Addr) (cdv ct : Value) (us ws : List Value) (h1 : us.length = Pk.E__law_is_nought_1.np) (h2 : ws.length = Pk.E__law_is_nought_1.kws.length) : bindArgs (PySem.W.fnOf (stName d__law_is_nought.st) (stName d__law_is_nought.st) (defArgs d__law_is_nought.st) (defBody d__law_is_nought.st) (defScope d__law_is_nought.st) .none kV doc pm an cdv ct) ⟨us, Pk.E__law_is_nought_1.kws.zip ws⟩ = pure (d__law_is_nought.ps.zip (arr .none Pk.E__law_is_nought_1.ar [] (us ++ ws))) :=
  match us, ws, h1, h2 with | [_], [], _, _ => rfl
theorem b_E__law_bare_2 (kV doc pm : Value) (an : Option Addr) (cdv ct : Value) (us ws : List Value) (h1 : us.length = Pk.E__law_bare_2.np) (h2 : ws.length = Pk.E__law_bare_2.kws.length) : bindArgs (PySem.W.fnOf (stName d__law_bare.st) (stName d__law_bare.st) (defArgs d__law_bare.st) (defBody d__law_bare.st) (defScope d__law_bare.st) .none kV doc pm an cdv ct) ⟨us, Pk.E__law_bare_2.kws.zip ws⟩ = pure (d__law_bare.ps.zip (arr .none Pk.E__law_bare_2.ar [] (us ++ ws))) :=
  match us, ws, h1, h2 with | [_, _], [], _, _ => rfl
theorem b_E__law_over_2 (kV doc pm : Value) (an : Option Addr) (cdv ct : Value) (us ws : List Value) (h1 : us.length = Pk.E__law_over_v2_2.np) (h2 : ws.length = Pk.E__law_over_v2_2.kws.length) : bindArgs (PySem.W.fnOf (stName d__law_over.st) (stName d__law_over.st) (defArgs d__law_over.st) (defBody d__law_over.st) (defScope d__law_over.st) .none kV doc pm an cdv ct) ⟨us, Pk.E__law_over_v2_2.kws.zip ws⟩ = pure (d__law_over.ps.zip (arr .none Pk.E__law_over_v2_2.ar [] (us ++ ws))) :=
  match us, ws, h1, h2 with | [_, _], [], _, _ => rfl
theorem b_E__law_rank_1 (kV doc pm : Value) (an : Option Addr) (cdv ct : Value) (us ws : List Value) (h1 : us.length = Pk.E__law_rank_1.np) (h2 : ws.length = Pk.E__law_rank_1.kws.length) : bindArgs (PySem.W.fnOf (stName d__law_rank.st) (stName d__law_rank.st) (defArgs d__law_rank.st) (defBody d__law_rank.st) (defScope d__law_rank.st) .none kV doc pm an cdv ct) ⟨us, Pk.E__law_rank_1.kws.zip ws⟩ = pure (d__law_rank.ps.zip (arr .none Pk.E__law_rank_1.ar [] (us ++ ws))) :=
  match us, ws, h1, h2 with | [_], [], _, _ => rfl
theorem b_E__law_is_fraction_1 (kV doc pm : Value) (an : Option Addr) (cdv ct : Value) (us ws : List Value) (h1 : us.length = Pk.E__law_is_fraction_1.np) (h2 : ws.length = Pk.E__law_is_fraction_1.kws.length) : bindArgs (PySem.W.fnOf (stName d__law_is_fraction.st) (stName d__law_is_fraction.st) (defArgs d__law_is_fraction.st) (defBody d__law_is_fraction.st) (defScope d__law_is_fraction.st) .none kV doc pm an cdv ct) ⟨us, Pk.E__law_is_fraction_1.kws.zip ws⟩ = pure (d__law_is_fraction.ps.zip (arr .none Pk.E__law_is_fraction_1.ar [] (us ++ ws))) :=
  match us, ws, h1, h2 with | [_], [], _, _ => rfl
theorem b_E__law_is_number_1 (kV doc pm : Value) (an : Option Addr) (cdv ct : Value) (us ws : List Value) (h1 : us.length = Pk.E__law_is_number_1.np) (h2 : ws.length = Pk.E__law_is_number_1.kws.length) : bindArgs (PySem.W.fnOf (stName d__law_is_number.st) (stName d__law_is_number.st) (defArgs d__law_is_number.st) (defBody d__law_is_number.st) (defScope d__law_is_number.st) .none kV doc pm an cdv ct) ⟨us, Pk.E__law_is_number_1.kws.zip ws⟩ = pure (d__law_is_number.ps.zip (arr .none Pk.E__law_is_number_1.ar [] (us ++ ws))) :=
  match us, ws, h1, h2 with | [_], [], _, _ => rfl
theorem b_E__law_hanging_1 (kV doc pm : Value) (an : Option Addr) (cdv ct : Value) (us ws : List Value) (h1 : us.length = Pk.E__law_hanging_1.np) (h2 : ws.length = Pk.E__law_hanging_1.kws.length) : bindArgs (PySem.W.fnOf (stName d__law_hanging.st) (stName d__law_hanging.st) (defArgs d__law_hanging.st) (defBody d__law_hanging.st) (defScope d__law_hanging.st) .none kV doc pm an cdv ct) ⟨us, Pk.E__law_hanging_1.kws.zip ws⟩ = pure (d__law_hanging.ps.zip (arr .none Pk.E__law_hanging_1.ar [] (us ++ ws))) :=
  match us, ws, h1, h2 with | [_], [], _, _ => rfl
theorem b_E__law_is_line_2 (kV doc pm : Value) (an : Option Addr) (cdv ct : Value) (us ws : List Value) (h1 : us.length = Pk.E__law_is_line_2.np) (h2 : ws.length = Pk.E__law_is_line_2.kws.length) : bindArgs (PySem.W.fnOf (stName d__law_is_line.st) (stName d__law_is_line.st) (defArgs d__law_is_line.st) (defBody d__law_is_line.st) (defScope d__law_is_line.st) .none kV doc pm an cdv ct) ⟨us, Pk.E__law_is_line_2.kws.zip ws⟩ = pure (d__law_is_line.ps.zip (arr .none Pk.E__law_is_line_2.ar [] (us ++ ws))) :=
  match us, ws, h1, h2 with | [_, _], [], _, _ => rfl
theorem b_E__law_read_1 (kV doc pm : Value) (an : Option Addr) (cdv ct : Value) (us ws : List Value) (h1 : us.length = Pk.E__law_read_1.np) (h2 : ws.length = Pk.E__law_read_1.kws.length) : bindArgs (PySem.W.fnOf (stName d__law_read.st) (stName d__law_read.st) (defArgs d__law_read.st) (defBody d__law_read.st) (defScope d__law_read.st) .none kV doc pm an cdv ct) ⟨us, Pk.E__law_read_1.kws.zip ws⟩ = pure (d__law_read.ps.zip (arr .none Pk.E__law_read_1.ar [] (us ++ ws))) :=
  match us, ws, h1, h2 with | [_], [], _, _ => rfl
theorem b_E_wrong_in_mix_2 (kV doc pm : Value) (an : Option Addr) (cdv ct : Value) (us ws : List Value) (h1 : us.length = Pk.E_wrong_in_mix_2.np) (h2 : ws.length = Pk.E_wrong_in_mix_2.kws.length) : bindArgs (PySem.W.fnOf (stName d_wrong_in_mix.st) (stName d_wrong_in_mix.st) (defArgs d_wrong_in_mix.st) (defBody d_wrong_in_mix.st) (defScope d_wrong_in_mix.st) .none kV doc pm an cdv ct) ⟨us, Pk.E_wrong_in_mix_2.kws.zip ws⟩ = pure (d_wrong_in_mix.ps.zip (arr .none Pk.E_wrong_in_mix_2.ar [] (us ++ ws))) :=
  match us, ws, h1, h2 with | [_, _], [], _, _ => rfl
theorem b_E_frac_sum_2 (kV doc pm : Value) (an : Option Addr) (cdv ct : Value) (us ws : List Value) (h1 : us.length = Pk.E_frac_sum_2.np) (h2 : ws.length = Pk.E_frac_sum_2.kws.length) : bindArgs (PySem.W.fnOf (stName d_frac_sum.st) (stName d_frac_sum.st) (defArgs d_frac_sum.st) (defBody d_frac_sum.st) (defScope d_frac_sum.st) .none kV doc pm an cdv ct) ⟨us, Pk.E_frac_sum_2.kws.zip ws⟩ = pure (d_frac_sum.ps.zip (arr .none Pk.E_frac_sum_2.ar [] (us ++ ws))) :=
  match us, ws, h1, h2 with | [_, _], [], _, _ => rfl
theorem b_E_num_sum_2 (kV doc pm : Value) (an : Option Addr) (cdv ct : Value) (us ws : List Value) (h1 : us.length = Pk.E_num_sum_2.np) (h2 : ws.length = Pk.E_num_sum_2.kws.length) : bindArgs (PySem.W.fnOf (stName d_num_sum.st) (stName d_num_sum.st) (defArgs d_num_sum.st) (defBody d_num_sum.st) (defScope d_num_sum.st) .none kV doc pm an cdv ct) ⟨us, Pk.E_num_sum_2.kws.zip ws⟩ = pure (d_num_sum.ps.zip (arr .none Pk.E_num_sum_2.ar [] (us ++ ws))) :=
  match us, ws, h1, h2 with | [_, _], [], _, _ => rfl
theorem b_E_inner_sum_2 (kV doc pm : Value) (an : Option Addr) (cdv ct : Value) (us ws : List Value) (h1 : us.length = Pk.E_inner_sum_2.np) (h2 : ws.length = Pk.E_inner_sum_2.kws.length) : bindArgs (PySem.W.fnOf (stName d_inner_sum.st) (stName d_inner_sum.st) (defArgs d_inner_sum.st) (defBody d_inner_sum.st) (defScope d_inner_sum.st) .none kV doc pm an cdv ct) ⟨us, Pk.E_inner_sum_2.kws.zip ws⟩ = pure (d_inner_sum.ps.zip (arr .none Pk.E_inner_sum_2.ar [] (us ++ ws))) :=
  match us, ws, h1, h2 with | [_, _], [], _, _ => rfl
theorem b_E_mix_times_2 (kV doc pm : Value) (an : Option Addr) (cdv ct : Value) (us ws : List Value) (h1 : us.length = Pk.E_mix_times_2.np) (h2 : ws.length = Pk.E_mix_times_2.kws.length) : bindArgs (PySem.W.fnOf (stName d_mix_times.st) (stName d_mix_times.st) (defArgs d_mix_times.st) (defBody d_mix_times.st) (defScope d_mix_times.st) .none kV doc pm an cdv ct) ⟨us, Pk.E_mix_times_2.kws.zip ws⟩ = pure (d_mix_times.ps.zip (arr .none Pk.E_mix_times_2.ar [] (us ++ ws))) :=
  match us, ws, h1, h2 with | [_, _], [], _, _ => rfl
theorem b_E_mix_mirrored_1 (kV doc pm : Value) (an : Option Addr) (cdv ct : Value) (us ws : List Value) (h1 : us.length = Pk.E_mix_mirrored_1.np) (h2 : ws.length = Pk.E_mix_mirrored_1.kws.length) : bindArgs (PySem.W.fnOf (stName d_mix_mirrored.st) (stName d_mix_mirrored.st) (defArgs d_mix_mirrored.st) (defBody d_mix_mirrored.st) (defScope d_mix_mirrored.st) .none kV doc pm an cdv ct) ⟨us, Pk.E_mix_mirrored_1.kws.zip ws⟩ = pure (d_mix_mirrored.ps.zip (arr .none Pk.E_mix_mirrored_1.ar [] (us ++ ws))) :=
  match us, ws, h1, h2 with | [_], [], _, _ => rfl
theorem b_E_out_together_3 (kV doc pm : Value) (an : Option Addr) (cdv ct : Value) (us ws : List Value) (h1 : us.length = Pk.E_out_together_3.np) (h2 : ws.length = Pk.E_out_together_3.kws.length) : bindArgs (PySem.W.fnOf (stName d_out_together.st) (stName d_out_together.st) (defArgs d_out_together.st) (defBody d_out_together.st) (defScope d_out_together.st) .none kV doc pm an cdv ct) ⟨us, Pk.E_out_together_3.kws.zip ws⟩ = pure (d_out_together.ps.zip (arr .none Pk.E_out_together_3.ar [] (us ++ ws))) :=
  match us, ws, h1, h2 with | [_, _, _], [], _, _ => rfl
theorem b_E_check_mix_2 (kV doc pm : Value) (an : Option Addr) (cdv ct : Value) (us ws : List Value) (h1 : us.length = Pk.E_check_mix_2.np) (h2 : ws.length = Pk.E_check_mix_2.kws.length) : bindArgs (PySem.W.fnOf (stName d_check_mix.st) (stName d_check_mix.st) (defArgs d_check_mix.st) (defBody d_check_mix.st) (defScope d_check_mix.st) .none kV doc pm an cdv ct) ⟨us, Pk.E_check_mix_2.kws.zip ws⟩ = pure (d_check_mix.ps.zip (arr .none Pk.E_check_mix_2.ar [] (us ++ ws))) :=
  match us, ws, h1, h2 with | [_, _], [], _, _ => rfl
theorem b_E_out_of_2 (kV doc pm : Value) (an : Option Addr) (cdv ct : Value) (us ws : List Value) (h1 : us.length = Pk.E_out_of_2.np) (h2 : ws.length = Pk.E_out_of_2.kws.length) : bindArgs (PySem.W.fnOf (stName d_out_of.st) (stName d_out_of.st) (defArgs d_out_of.st) (defBody d_out_of.st) (defScope d_out_of.st) .none kV doc pm an cdv ct) ⟨us, Pk.E_out_of_2.kws.zip ws⟩ = pure (d_out_of.ps.zip (arr .none Pk.E_out_of_2.ar [] (us ++ ws))) :=
  match us, ws, h1, h2 with | [_, _], [], _, _ => rfl
theorem b_E__law_many_1 (kV doc pm : Value) (an : Option Addr) (cdv ct : Value) (us ws : List Value) (h1 : us.length = Pk.E__law_many_1.np) (h2 : ws.length = Pk.E__law_many_1.kws.length) : bindArgs (PySem.W.fnOf (stName d__law_many.st) (stName d__law_many.st) (defArgs d__law_many.st) (defBody d__law_many.st) (defScope d__law_many.st) .none kV doc pm an cdv ct) ⟨us, Pk.E__law_many_1.kws.zip ws⟩ = pure (d__law_many.ps.zip (arr .none Pk.E__law_many_1.ar [] (us ++ ws))) :=
  match us, ws, h1, h2 with | [_], [], _, _ => rfl
theorem b_E__law_flat_2 (kV doc pm : Value) (an : Option Addr) (cdv ct : Value) (us ws : List Value) (h1 : us.length = Pk.E__law_flat_2.np) (h2 : ws.length = Pk.E__law_flat_2.kws.length) : bindArgs (PySem.W.fnOf (stName d__law_flat.st) (stName d__law_flat.st) (defArgs d__law_flat.st) (defBody d__law_flat.st) (defScope d__law_flat.st) .none kV doc pm an cdv ct) ⟨us, Pk.E__law_flat_2.kws.zip ws⟩ = pure (d__law_flat.ps.zip (arr .none Pk.E__law_flat_2.ar [] (us ++ ws))) :=
  match us, ws, h1, h2 with | [_, _], [], _, _ => rfl
theorem b_E__law_tab_1 (kV doc pm : Value) (an : Option Addr) (cdv ct : Value) (us ws : List Value) (h1 : us.length = Pk.E__law_tab_1.np) (h2 : ws.length = Pk.E__law_tab_1.kws.length) : bindArgs (PySem.W.fnOf (stName d__law_tab.st) (stName d__law_tab.st) (defArgs d__law_tab.st) (defBody d__law_tab.st) (defScope d__law_tab.st) .none kV doc pm an cdv ct) ⟨us, Pk.E__law_tab_1.kws.zip ws⟩ = pure (d__law_tab.ps.zip (arr .none Pk.E__law_tab_1.ar [] (us ++ ws))) :=
  match us, ws, h1, h2 with | [_], [], _, _ => rfl
theorem b_E_null_mixes_1 (kV doc pm : Value) (an : Option Addr) (cdv ct : Value) (us ws : List Value) (h1 : us.length = Pk.E_null_mixes_1.np) (h2 : ws.length = Pk.E_null_mixes_1.kws.length) : bindArgs (PySem.W.fnOf (stName d_null_mixes.st) (stName d_null_mixes.st) (defArgs d_null_mixes.st) (defBody d_null_mixes.st) (defScope d_null_mixes.st) .none kV doc pm an cdv ct) ⟨us, Pk.E_null_mixes_1.kws.zip ws⟩ = pure (d_null_mixes.ps.zip (arr .none Pk.E_null_mixes_1.ar [] (us ++ ws))) :=
  match us, ws, h1, h2 with | [_], [], _, _ => rfl
theorem b_E__law_fit_2 (kV doc pm : Value) (an : Option Addr) (cdv ct : Value) (us ws : List Value) (h1 : us.length = Pk.E__law_fit_v2_2.np) (h2 : ws.length = Pk.E__law_fit_v2_2.kws.length) : bindArgs (PySem.W.fnOf (stName d__law_fit.st) (stName d__law_fit.st) (defArgs d__law_fit.st) (defBody d__law_fit.st) (defScope d__law_fit.st) .none kV doc pm an cdv ct) ⟨us, Pk.E__law_fit_v2_2.kws.zip ws⟩ = pure (d__law_fit.ps.zip (arr .none Pk.E__law_fit_v2_2.ar [] (us ++ ws))) :=
  match us, ws, h1, h2 with | [_, _], [], _, _ => rfl
theorem b_E_comes_out_2 (kV doc pm : Value) (an : Option Addr) (cdv ct : Value) (us ws : List Value) (h1 : us.length = Pk.E_comes_out_2.np) (h2 : ws.length = Pk.E_comes_out_2.kws.length) : bindArgs (PySem.W.fnOf (stName d_comes_out.st) (stName d_comes_out.st) (defArgs d_comes_out.st) (defBody d_comes_out.st) (defScope d_comes_out.st) .none kV doc pm an cdv ct) ⟨us, Pk.E_comes_out_2.kws.zip ws⟩ = pure (d_comes_out.ps.zip (arr .none Pk.E_comes_out_2.ar [] (us ++ ws))) :=
  match us, ws, h1, h2 with | [_, _], [], _, _ => rfl
theorem b_E_null_mixes_0_table (kV doc pm : Value) (an : Option Addr) (cdv ct : Value) (us ws : List Value) (h1 : us.length = Pk.E_null_mixes_0_table.np) (h2 : ws.length = Pk.E_null_mixes_0_table.kws.length) : bindArgs (PySem.W.fnOf (stName d_null_mixes.st) (stName d_null_mixes.st) (defArgs d_null_mixes.st) (defBody d_null_mixes.st) (defScope d_null_mixes.st) .none kV doc pm an cdv ct) ⟨us, Pk.E_null_mixes_0_table.kws.zip ws⟩ = pure (d_null_mixes.ps.zip (arr .none Pk.E_null_mixes_0_table.ar [] (us ++ ws))) :=
  match us, ws, h1, h2 with | [], [_], _, _ => rfl
theorem b_E_rank_of_1 (kV doc pm : Value) (an : Option Addr) (cdv ct : Value) (us ws : List Value) (h1 : us.length = Pk.E_rank_of_1.np) (h2 : ws.length = Pk.E_rank_of_1.kws.length) : bindArgs (PySem.W.fnOf (stName d_rank_of.st) (stName d_rank_of.st) (defArgs d_rank_of.st) (defBody d_rank_of.st) (defScope d_rank_of.st) .none kV doc pm an cdv ct) ⟨us, Pk.E_rank_of_1.kws.zip ws⟩ = pure (d_rank_of.ps.zip (arr .none Pk.E_rank_of_1.ar [] (us ++ ws))) :=
  match us, ws, h1, h2 with | [_], [], _, _ => rfl
theorem b_E_rank_of_0_table (kV doc pm : Value) (an : Option Addr) (cdv ct : Value) (us ws : List Value) (h1 : us.length = Pk.E_rank_of_0_table.np) (h2 : ws.length = Pk.E_rank_of_0_table.kws.length) : bindArgs (PySem.W.fnOf (stName d_rank_of.st) (stName d_rank_of.st) (defArgs d_rank_of.st) (defBody d_rank_of.st) (defScope d_rank_of.st) .none kV doc pm an cdv ct) ⟨us, Pk.E_rank_of_0_table.kws.zip ws⟩ = pure (d_rank_of.ps.zip (arr .none Pk.E_rank_of_0_table.ar [] (us ++ ws))) :=
  match us, ws, h1, h2 with | [], [_], _, _ => rfl
theorem b_E_come_out_together_3 (kV doc pm : Value) (an : Option Addr) (cdv ct : Value) (us ws : List Value) (h1 : us.length = Pk.E_come_out_together_3.np) (h2 : ws.length = Pk.E_come_out_together_3.kws.length) : bindArgs (PySem.W.fnOf (stName d_come_out_together.st) (stName d_come_out_together.st) (defArgs d_come_out_together.st) (defBody d_come_out_together.st) (defScope d_come_out_together.st) .none kV doc pm an cdv ct) ⟨us, Pk.E_come_out_together_3.kws.zip ws⟩ = pure (d_come_out_together.ps.zip (arr .none Pk.E_come_out_together_3.ar [] (us ++ ws))) :=
  match us, ws, h1, h2 with | [_, _, _], [], _, _ => rfl
theorem b_E__law_laps_1 (kV doc pm : Value) (an : Option Addr) (cdv ct : Value) (us ws : List Value) (h1 : us.length = Pk.E__law_laps_1.np) (h2 : ws.length = Pk.E__law_laps_1.kws.length) : bindArgs (PySem.W.fnOf (stName d__law_laps.st) (stName d__law_laps.st) (defArgs d__law_laps.st) (defBody d__law_laps.st) (defScope d__law_laps.st) .none kV doc pm an cdv ct) ⟨us, Pk.E__law_laps_1.kws.zip ws⟩ = pure (d__law_laps.ps.zip (arr .none Pk.E__law_laps_1.ar [] (us ++ ws))) :=
  match us, ws, h1, h2 with | [_], [], _, _ => rfl
theorem b_E__law_right_1 (kV doc pm : Value) (an : Option Addr) (cdv ct : Value) (us ws : List Value) (h1 : us.length = E__law_right_1.np) (h2 : ws.length = E__law_right_1.kws.length) : bindArgs (PySem.W.fnOf (stName d__law_right.st) (stName d__law_right.st) (defArgs d__law_right.st) (defBody d__law_right.st) (defScope d__law_right.st) .none kV doc pm an cdv ct) ⟨us, E__law_right_1.kws.zip ws⟩ = pure (d__law_right.ps.zip (arr .none E__law_right_1.ar [] (us ++ ws))) :=
  match us, ws, h1, h2 with | [_], [], _, _ => rfl
theorem b_E__law_pot_2 (kV doc pm : Value) (an : Option Addr) (cdv ct : Value) (us ws : List Value) (h1 : us.length = Pk.E__law_pot_2.np) (h2 : ws.length = Pk.E__law_pot_2.kws.length) : bindArgs (PySem.W.fnOf (stName d__law_pot.st) (stName d__law_pot.st) (defArgs d__law_pot.st) (defBody d__law_pot.st) (defScope d__law_pot.st) .none kV doc pm an cdv ct) ⟨us, Pk.E__law_pot_2.kws.zip ws⟩ = pure (d__law_pot.ps.zip (arr .none Pk.E__law_pot_2.ar [] (us ++ ws))) :=
  match us, ws, h1, h2 with | [_, _], [], _, _ => rfl
theorem table (htr : P.given.tree = none) {h : Heap} (X : K.In h) (G : h.Ns mainGlobals mg) (c : obsN asked K = valN asked) : ∃ (fa : Addr) (fd : FuncData), mg "law" = some (.ref fa) ∧ (∀ (s : Shared) (u : Value), BindsTo s fd ⟨[u], []⟩ [("script", u)]) ∧
    ∀ base : Heap, K.In base → base.Ns mainGlobals mg → base.NoSeer → FnG P w K mg base 10 fa fd d_law.ps (spD K d_law.f) := by
  obtain ⟨fd__law_laps, F__law_laps, m__law_laps⟩ := said_fn c X G 0 (d := d__law_laps.dd []) rfl rfl
  obtain ⟨fd__law_draw, F__law_draw, m__law_draw⟩ := said_fn c X G 1 (d := d__law_draw.dd []) rfl rfl
  obtain ⟨fd__law_pick, F__law_pick, m__law_pick⟩ := said_fn c X G 2 (d := d__law_pick.dd []) rfl rfl
  obtain ⟨fd__law_many, F__law_many, m__law_many⟩ := said_fn c X G 3 (d := d__law_many.dd []) rfl rfl
  obtain ⟨fd__law_common, F__law_common, m__law_common⟩ := said_fn c X G 4 (d := d__law_common.dd []) rfl rfl
  obtain ⟨fd__law_cut, F__law_cut, m__law_cut⟩ := said_fn c X G 5 (d := d__law_cut.dd []) rfl rfl
  obtain ⟨fd__law_plus, F__law_plus, m__law_plus⟩ := said_fn c X G 6 (d := d__law_plus.dd []) rfl rfl
  obtain ⟨fd__law_times, F__law_times, m__law_times⟩ := said_fn c X G 7 (d := d__law_times.dd []) rfl rfl
  obtain ⟨fd__law_run, F__law_run, m__law_run⟩ := said_fn c X G 8 (d := d__law_run.dd []) rfl rfl
  obtain ⟨fd__law_mirror, F__law_mirror, m__law_mirror⟩ := said_fn c X G 9 (d := d__law_mirror.dd []) rfl rfl
  obtain ⟨fd__law_dot, F__law_dot, m__law_dot⟩ := said_fn c X G 10 (d := d__law_dot.dd []) rfl rfl
  obtain ⟨fd__law_led, F__law_led, m__law_led⟩ := said_fn c X G 11 (d := d__law_led.dd []) rfl rfl
  obtain ⟨fd__law_made, F__law_made, m__law_made⟩ := said_fn c X G 12 (d := d__law_made.dd []) rfl rfl
  obtain ⟨fd__law_ratio, F__law_ratio, m__law_ratio⟩ := said_fn c X G 13 (d := d__law_ratio.dd []) rfl rfl
  obtain ⟨fd__law_gauss, F__law_gauss, m__law_gauss⟩ := said_fn c X G 14 (d := d__law_gauss.dd []) rfl rfl
  obtain ⟨fd__law_hermite, F__law_hermite, m__law_hermite⟩ := said_fn c X G 15 (d := d__law_hermite.dd []) rfl rfl
  obtain ⟨fd__law_less, F__law_less, m__law_less⟩ := said_fn c X G 16 (d := d__law_less.dd []) rfl rfl
  obtain ⟨fd__law_small, F__law_small, m__law_small⟩ := said_fn c X G 17 (d := d__law_small.dd []) rfl rfl
  obtain ⟨fd__law_positive, F__law_positive, m__law_positive⟩ := said_fn c X G 18 (d := d__law_positive.dd []) rfl rfl
  obtain ⟨fd__law_drawn_table, F__law_drawn_table, m__law_drawn_table⟩ := said_fn c X G 19 (d := d__law_drawn_table.dd []) rfl rfl
  obtain ⟨fd__law_flat, F__law_flat, m__law_flat⟩ := said_fn c X G 20 (d := d__law_flat.dd []) rfl rfl
  obtain ⟨fd__law_fraction, F__law_fraction, m__law_fraction⟩ := said_fn c X G 21 (d := d__law_fraction.dd []) rfl rfl
  obtain ⟨fd__law_number, F__law_number, m__law_number⟩ := said_fn c X G 22 (d := d__law_number.dd []) rfl rfl
  obtain ⟨fd__law_line, F__law_line, m__law_line⟩ := said_fn c X G 23 (d := d__law_line.dd []) rfl rfl
  obtain ⟨fd__law_tab, F__law_tab, m__law_tab⟩ := said_fn c X G 24 (d := d__law_tab.dd []) rfl rfl
  obtain ⟨fd_num_mirrored, F_num_mirrored, m_num_mirrored⟩ := said_fn c X G 25 (d := d_num_mirrored.dd []) rfl rfl
  obtain ⟨fd_is_whole, F_is_whole, m_is_whole⟩ := said_fn c X G 26 (d := d_is_whole.dd []) rfl rfl
  obtain ⟨fd_is_frac, F_is_frac, m_is_frac⟩ := said_fn c X G 27 (d := d_is_frac.dd []) rfl rfl
  obtain ⟨fd_is_num, F_is_num, m_is_num⟩ := said_fn c X G 28 (d := d_is_num.dd []) rfl rfl
  obtain ⟨fd_fits_as_row, F_fits_as_row, m_fits_as_row⟩ := said_fn c X G 29 (d := d_fits_as_row.dd []) rfl rfl
  obtain ⟨fd_wrong_in_table, F_wrong_in_table, m_wrong_in_table⟩ := said_fn c X G 30 (d := d_wrong_in_table.dd []) rfl rfl
  obtain ⟨fd_check_table, F_check_table, m_check_table⟩ := said_fn c X G 31 (d := d_check_table.dd []) rfl rfl
  obtain ⟨fd_first_other, F_first_other, m_first_other⟩ := said_fn c X G 32 (d := d_first_other.dd []) rfl rfl
  obtain ⟨fd_unit_mix, F_unit_mix, m_unit_mix⟩ := said_fn c X G 33 (d := d_unit_mix.dd [(.adr (He.dflAt ("unit_mix", none) 0))]) rfl rfl
  obtain ⟨fd_frac_reduced, F_frac_reduced, m_frac_reduced⟩ := said_fn c X G 34 (d := d_frac_reduced.dd []) rfl rfl
  obtain ⟨fd_frac_product, F_frac_product, m_frac_product⟩ := said_fn c X G 35 (d := d_frac_product.dd []) rfl rfl
  obtain ⟨fd_num_scaled, F_num_scaled, m_num_scaled⟩ := said_fn c X G 36 (d := d_num_scaled.dd []) rfl rfl
  obtain ⟨fd_num_product, F_num_product, m_num_product⟩ := said_fn c X G 37 (d := d_num_product.dd []) rfl rfl
  obtain ⟨fd_frac_over, F_frac_over, m_frac_over⟩ := said_fn c X G 38 (d := d_frac_over.dd []) rfl rfl
  obtain ⟨fd_num_size, F_num_size, m_num_size⟩ := said_fn c X G 39 (d := d_num_size.dd []) rfl rfl
  obtain ⟨fd_num_over, F_num_over, m_num_over⟩ := said_fn c X G 40 (d := d_num_over.dd []) rfl rfl
  obtain ⟨fd_frac_less, F_frac_less, m_frac_less⟩ := said_fn c X G 41 (d := d_frac_less.dd []) rfl rfl
  obtain ⟨fd_num_less, F_num_less, m_num_less⟩ := said_fn c X G 42 (d := d_num_less.dd []) rfl rfl
  obtain ⟨fd_mix_less, F_mix_less, m_mix_less⟩ := said_fn c X G 43 (d := d_mix_less.dd []) rfl rfl
  obtain ⟨fd_null_by, F_null_by, m_null_by⟩ := said_fn c X G 44 (d := d_null_by.dd []) rfl rfl
  obtain ⟨fd_null_mixes, F_null_mixes, m_null_mixes⟩ := said_fn c X G 45 (d := d_null_mixes.dd []) rfl rfl
  obtain ⟨fd__law_is_nought, F__law_is_nought, m__law_is_nought⟩ := said_fn c X G 46 (d := d__law_is_nought.dd []) rfl rfl
  obtain ⟨fd__law_bare, F__law_bare, m__law_bare⟩ := said_fn c X G 47 (d := d__law_bare.dd []) rfl rfl
  obtain ⟨fd__law_over, F__law_over, m__law_over⟩ := said_fn c X G 48 (d := d__law_over.dd []) rfl rfl
  obtain ⟨fd__law_rank, F__law_rank, m__law_rank⟩ := said_fn c X G 49 (d := d__law_rank.dd []) rfl rfl
  obtain ⟨fd__law_hanging, F__law_hanging, m__law_hanging⟩ := said_fn c X G 50 (d := d__law_hanging.dd []) rfl rfl
  obtain ⟨fd__law_is_fraction, F__law_is_fraction, m__law_is_fraction⟩ := said_fn c X G 51 (d := d__law_is_fraction.dd []) rfl rfl
  obtain ⟨fd__law_is_number, F__law_is_number, m__law_is_number⟩ := said_fn c X G 52 (d := d__law_is_number.dd []) rfl rfl
  obtain ⟨fd__law_is_line, F__law_is_line, m__law_is_line⟩ := said_fn c X G 53 (d := d__law_is_line.dd []) rfl rfl
  obtain ⟨fd__law_read, F__law_read, m__law_read⟩ := said_fn c X G 54 (d := d__law_read.dd []) rfl rfl
  obtain ⟨fd__law_fit, F__law_fit, m__law_fit⟩ := said_fn c X G 55 (d := d__law_fit.dd []) rfl rfl
  obtain ⟨fd_wrong_in_mix, F_wrong_in_mix, m_wrong_in_mix⟩ := said_fn c X G 56 (d := d_wrong_in_mix.dd []) rfl rfl
  obtain ⟨fd_check_mix, F_check_mix, m_check_mix⟩ := said_fn c X G 57 (d := d_check_mix.dd []) rfl rfl
  obtain ⟨fd_frac_sum, F_frac_sum, m_frac_sum⟩ := said_fn c X G 58 (d := d_frac_sum.dd []) rfl rfl
  obtain ⟨fd_num_sum, F_num_sum, m_num_sum⟩ := said_fn c X G 59 (d := d_num_sum.dd []) rfl rfl
  obtain ⟨fd_inner_sum, F_inner_sum, m_inner_sum⟩ := said_fn c X G 60 (d := d_inner_sum.dd []) rfl rfl
  obtain ⟨fd_mix_times, F_mix_times, m_mix_times⟩ := said_fn c X G 61 (d := d_mix_times.dd []) rfl rfl
  obtain ⟨fd_mix_mirrored, F_mix_mirrored, m_mix_mirrored⟩ := said_fn c X G 62 (d := d_mix_mirrored.dd []) rfl rfl
  obtain ⟨fd_out_together, F_out_together, m_out_together⟩ := said_fn c X G 63 (d := d_out_together.dd []) rfl rfl
  obtain ⟨fd_out_of, F_out_of, m_out_of⟩ := said_fn c X G 64 (d := d_out_of.dd []) rfl rfl
  obtain ⟨fd_comes_out, F_comes_out, m_comes_out⟩ := said_fn c X G 65 (d := d_comes_out.dd []) rfl rfl
  obtain ⟨fd_rank_of, F_rank_of, m_rank_of⟩ := said_fn c X G 66 (d := d_rank_of.dd []) rfl rfl
  obtain ⟨fd_come_out_together, F_come_out_together, m_come_out_together⟩ := said_fn c X G 67 (d := d_come_out_together.dd []) rfl rfl
  obtain ⟨fd__law_right, F__law_right, m__law_right⟩ := said_fn c X G 68 (d := d__law_right.dd []) rfl rfl
  obtain ⟨fd__law_pot, F__law_pot, m__law_pot⟩ := said_fn c X G 69 (d := d__law_pot.dd []) rfl rfl
  obtain ⟨fd_law, F_law, m_law⟩ := said_fn c X G 70 (d := d_law.dd []) rfl rfl
  refine ⟨_, fd_law, m_law, fun s u => FunD.bindsA (ps := ["script"]) F_law (fun _ _ _ _ _ _ us hl => match us, hl with | [_], _ => rfl) s [u] rfl, fun base _ _ hse => ?_⟩
  have con : ∀ p ∈ CON, ∃ v u, mg p.1 = some u ∧ L2.RelV v u ∧ ∀ H, Dq K H v p.2 := fun p hp => conB_ok X G (said_con c hp)
  have fre : ∀ x ∈ FREE, mg x = none := fun x hx => said_free c X G hx
  have gc : asked.gcd = true → mg "gcd" = some (.builtin "math.gcd") := fun hh => gcdB_ok X G (said_gcd c hh)
  have g__law_laps : FnG P w K mg base 1 _ fd__law_laps d__law_laps.ps (spD K d__law_laps.f) := dfn_G (d := d__law_laps) (k := 0) F__law_laps ok__law_laps fns_nil con gc fre htr hse
  have a_E__law_laps_1 : FnAt P w K mg base 1 Pk.E__law_laps_1 := at_0 (d := d__law_laps) F__law_laps m__law_laps g__law_laps rfl rfl rfl b_E__law_laps_1
  have g__law_draw : FnG P w K mg base 1 _ fd__law_draw d__law_draw.ps (spD K d__law_draw.f) := dfn_G (d := d__law_draw) (k := 0) F__law_draw ok__law_draw fns_nil con gc fre htr hse
  have a_E__law_draw_2 : FnAt P w K mg base 1 Pk.E__law_draw_2 := at_0 (d := d__law_draw) F__law_draw m__law_draw g__law_draw rfl rfl rfl b_E__law_draw_2
  have g__law_pick : FnG P w K mg base 2 _ fd__law_pick d__law_pick.ps (spD K d__law_pick.f) := dfn_G (d := d__law_pick) (k := 1) F__law_pick ok__law_pick (fns_cons (a_E__law_draw_2.up (by decide)) fns_nil) con gc fre htr hse
  have a_E__law_pick_2 : FnAt P w K mg base 2 Pk.E__law_pick_2 := at_0 (d := d__law_pick) F__law_pick m__law_pick g__law_pick rfl rfl rfl b_E__law_pick_2
  have g__law_many : FnG P w K mg base 3 _ fd__law_many d__law_many.ps (spD K d__law_many.f) := dfn_G (d := d__law_many) (k := 2) F__law_many ok__law_many (fns_cons (a_E__law_pick_2.up (by decide)) fns_nil) con gc fre htr hse
  have a_E__law_many_1 : FnAt P w K mg base 3 Pk.E__law_many_1 := at_0 (d := d__law_many) F__law_many m__law_many g__law_many rfl rfl rfl b_E__law_many_1
  have g__law_common : FnG P w K mg base 1 _ fd__law_common d__law_common.ps (spD K d__law_common.f) := dfn_G (d := d__law_common) (k := 0) F__law_common ok__law_common fns_nil con gc fre htr hse
  have a_E__law_common_2 : FnAt P w K mg base 1 Pk.E__law_common_2 := at_0 (d := d__law_common) F__law_common m__law_common g__law_common rfl rfl rfl b_E__law_common_2
  have g__law_cut : FnG P w K mg base 2 _ fd__law_cut d__law_cut.ps (spD K d__law_cut.f) := dfn_G (d := d__law_cut) (k := 1) F__law_cut ok__law_cut (fns_cons (a_E__law_common_2.up (by decide)) fns_nil) con gc fre htr hse
  have a_E__law_cut_3 : FnAt P w K mg base 2 Pk.E__law_cut_v2_3 := at_0 (d := d__law_cut) F__law_cut m__law_cut g__law_cut rfl rfl rfl b_E__law_cut_3
  have g__law_plus : FnG P w K mg base 3 _ fd__law_plus d__law_plus.ps (spD K d__law_plus.f) := dfn_G (d := d__law_plus) (k := 2) F__law_plus ok__law_plus (fns_cons (a_E__law_cut_3.up (by decide)) fns_nil) con gc fre htr hse
  have a_E__law_plus_2 : FnAt P w K mg base 3 Pk.E__law_plus_2 := at_0 (d := d__law_plus) F__law_plus m__law_plus g__law_plus rfl rfl rfl b_E__law_plus_2
  have g__law_times : FnG P w K mg base 3 _ fd__law_times d__law_times.ps (spD K d__law_times.f) := dfn_G (d := d__law_times) (k := 2) F__law_times ok__law_times (fns_cons (a_E__law_cut_3.up (by decide)) fns_nil) con gc fre htr hse
  have a_E__law_times_2 : FnAt P w K mg base 3 Pk.E__law_times_v2_2 := at_0 (d := d__law_times) F__law_times m__law_times g__law_times rfl rfl rfl b_E__law_times_2
  have g__law_run : FnG P w K mg base 4 _ fd__law_run d__law_run.ps (spD K d__law_run.f) := dfn_G (d := d__law_run) (k := 3) F__law_run ok__law_run (fns_cons (a_E__law_plus_2.up (by decide)) (fns_cons (a_E__law_times_2.up (by decide)) fns_nil)) con gc fre htr hse
  have a_E__law_run_2 : FnAt P w K mg base 4 Pk.E__law_run_2 := at_0 (d := d__law_run) F__law_run m__law_run g__law_run rfl rfl rfl b_E__law_run_2
  have g__law_mirror : FnG P w K mg base 1 _ fd__law_mirror d__law_mirror.ps (spD K d__law_mirror.f) := dfn_G (d := d__law_mirror) (k := 0) F__law_mirror ok__law_mirror fns_nil con gc fre htr hse
  have a_E__law_mirror_1 : FnAt P w K mg base 1 Pk.E__law_mirror_1 := at_0 (d := d__law_mirror) F__law_mirror m__law_mirror g__law_mirror rfl rfl rfl b_E__law_mirror_1
  have g__law_dot : FnG P w K mg base 4 _ fd__law_dot d__law_dot.ps (spD K d__law_dot.f) := dfn_G (d := d__law_dot) (k := 3) F__law_dot ok__law_dot (fns_cons (a_E__law_plus_2.up (by decide)) (fns_cons (a_E__law_times_2.up (by decide)) (fns_cons (a_E__law_mirror_1.up (by decide)) fns_nil))) con gc fre htr hse
  have a_E__law_dot_2 : FnAt P w K mg base 4 Pk.E__law_dot_2 := at_0 (d := d__law_dot) F__law_dot m__law_dot g__law_dot rfl rfl rfl b_E__law_dot_2
  have g__law_led : FnG P w K mg base 5 _ fd__law_led d__law_led.ps (spD K d__law_led.f) := dfn_G (d := d__law_led) (k := 4) F__law_led ok__law_led (fns_cons (a_E__law_run_2.up (by decide)) (fns_cons (a_E__law_dot_2.up (by decide)) fns_nil)) con gc fre htr hse
  have a_E__law_led_2 : FnAt P w K mg base 5 Pk.E__law_led_2 := at_0 (d := d__law_led) F__law_led m__law_led g__law_led rfl rfl rfl b_E__law_led_2
  have g__law_made : FnG P w K mg base 4 _ fd__law_made d__law_made.ps (spD K d__law_made.f) := dfn_G (d := d__law_made) (k := 3) F__law_made ok__law_made (fns_cons (a_E__law_plus_2.up (by decide)) (fns_cons (a_E__law_times_2.up (by decide)) (fns_cons (a_E__law_mirror_1.up (by decide)) fns_nil))) con gc fre htr hse
  have a_E__law_made_2 : FnAt P w K mg base 4 Pk.E__law_made_2 := at_0 (d := d__law_made) F__law_made m__law_made g__law_made rfl rfl rfl b_E__law_made_2
  have g__law_ratio : FnG P w K mg base 3 _ fd__law_ratio d__law_ratio.ps (spD K d__law_ratio.f) := dfn_G (d := d__law_ratio) (k := 2) F__law_ratio ok__law_ratio (fns_cons (a_E__law_cut_3.up (by decide)) (fns_cons (a_E__law_pick_2.up (by decide)) (fns_cons (a_E__law_draw_2.up (by decide)) fns_nil))) con gc fre htr hse
  have a_E__law_ratio_1 : FnAt P w K mg base 3 Pk.E__law_ratio_1 := at_0 (d := d__law_ratio) F__law_ratio m__law_ratio g__law_ratio rfl rfl rfl b_E__law_ratio_1
  have g__law_gauss : FnG P w K mg base 3 _ fd__law_gauss d__law_gauss.ps (spD K d__law_gauss.f) := dfn_G (d := d__law_gauss) (k := 2) F__law_gauss ok__law_gauss (fns_cons (a_E__law_cut_3.up (by decide)) (fns_cons (a_E__law_pick_2.up (by decide)) (fns_cons (a_E__law_draw_2.up (by decide)) fns_nil))) con gc fre htr hse
  have a_E__law_gauss_1 : FnAt P w K mg base 3 Pk.E__law_gauss_1 := at_0 (d := d__law_gauss) F__law_gauss m__law_gauss g__law_gauss rfl rfl rfl b_E__law_gauss_1
  have g__law_hermite : FnG P w K mg base 4 _ fd__law_hermite d__law_hermite.ps (spD K d__law_hermite.f) := dfn_G (d := d__law_hermite) (k := 3) F__law_hermite ok__law_hermite (fns_cons (a_E__law_ratio_1.up (by decide)) (fns_cons (a_E__law_mirror_1.up (by decide)) (fns_cons (a_E__law_gauss_1.up (by decide)) (fns_cons (a_E__law_draw_2.up (by decide)) fns_nil)))) con gc fre htr hse
  have a_E__law_hermite_2 : FnAt P w K mg base 4 Pk.E__law_hermite_2 := at_0 (d := d__law_hermite) F__law_hermite m__law_hermite g__law_hermite rfl rfl rfl b_E__law_hermite_2
  have g__law_less : FnG P w K mg base 3 _ fd__law_less d__law_less.ps (spD K d__law_less.f) := dfn_G (d := d__law_less) (k := 2) F__law_less ok__law_less (fns_cons (a_E__law_cut_3.up (by decide)) fns_nil) con gc fre htr hse
  have a_E__law_less_2 : FnAt P w K mg base 3 Pk.E__law_less_v2_2 := at_0 (d := d__law_less) F__law_less m__law_less g__law_less rfl rfl rfl b_E__law_less_2
  have g__law_small : FnG P w K mg base 3 _ fd__law_small d__law_small.ps (spD K d__law_small.f) := dfn_G (d := d__law_small) (k := 2) F__law_small ok__law_small (fns_cons (a_E__law_cut_3.up (by decide)) (fns_cons (a_E__law_draw_2.up (by decide)) fns_nil)) con gc fre htr hse
  have a_E__law_small_1 : FnAt P w K mg base 3 Pk.E__law_small_1 := at_0 (d := d__law_small) F__law_small m__law_small g__law_small rfl rfl rfl b_E__law_small_1
  have g__law_positive : FnG P w K mg base 3 _ fd__law_positive d__law_positive.ps (spD K d__law_positive.f) := dfn_G (d := d__law_positive) (k := 2) F__law_positive ok__law_positive (fns_cons (a_E__law_cut_3.up (by decide)) (fns_cons (a_E__law_pick_2.up (by decide)) (fns_cons (a_E__law_draw_2.up (by decide)) fns_nil))) con gc fre htr hse
  have a_E__law_positive_1 : FnAt P w K mg base 3 Pk.E__law_positive_1 := at_0 (d := d__law_positive) F__law_positive m__law_positive g__law_positive rfl rfl rfl b_E__law_positive_1
  have g__law_drawn_table : FnG P w K mg base 5 _ fd__law_drawn_table d__law_drawn_table.ps (spD K d__law_drawn_table.f) := dfn_G (d := d__law_drawn_table) (k := 4) F__law_drawn_table ok__law_drawn_table (fns_cons (a_E__law_draw_2.up (by decide)) (fns_cons (a_E__law_made_2.up (by decide)) (fns_cons (a_E__law_hermite_2.up (by decide)) (fns_cons (a_E__law_less_2.up (by decide)) (fns_cons (a_E__law_small_1.up (by decide)) (fns_cons (a_E__law_mirror_1.up (by decide)) (fns_cons (a_E__law_cut_3.up (by decide)) (fns_cons (a_E__law_positive_1.up (by decide)) fns_nil)))))))) con gc fre htr hse
  have a_E__law_drawn_table_2 : FnAt P w K mg base 5 Pk.E__law_drawn_table_2 := at_0 (d := d__law_drawn_table) F__law_drawn_table m__law_drawn_table g__law_drawn_table rfl rfl rfl b_E__law_drawn_table_2
  have g__law_flat : FnG P w K mg base 6 _ fd__law_flat d__law_flat.ps (spD K d__law_flat.f) := dfn_G (d := d__law_flat) (k := 5) F__law_flat ok__law_flat (fns_cons (a_E__law_draw_2.up (by decide)) (fns_cons (a_E__law_led_2.up (by decide)) (fns_cons (a_E__law_drawn_table_2.up (by decide)) (fns_cons (a_E__law_hermite_2.up (by decide)) (fns_cons (a_E__law_small_1.up (by decide)) fns_nil))))) con gc fre htr hse
  have a_E__law_flat_2 : FnAt P w K mg base 6 Pk.E__law_flat_2 := at_0 (d := d__law_flat) F__law_flat m__law_flat g__law_flat rfl rfl rfl b_E__law_flat_2
  have g__law_fraction : FnG P w K mg base 2 _ fd__law_fraction d__law_fraction.ps (spD K d__law_fraction.f) := dfn_G (d := d__law_fraction) (k := 1) F__law_fraction ok__law_fraction (fns_cons (a_E__law_common_2.up (by decide)) fns_nil) con gc fre htr hse
  have a_E__law_fraction_2 : FnAt P w K mg base 2 Pk.E__law_fraction_v2_2 := at_0 (d := d__law_fraction) F__law_fraction m__law_fraction g__law_fraction rfl rfl rfl b_E__law_fraction_2
  have g__law_number : FnG P w K mg base 3 _ fd__law_number d__law_number.ps (spD K d__law_number.f) := dfn_G (d := d__law_number) (k := 2) F__law_number ok__law_number (fns_cons (a_E__law_fraction_2.up (by decide)) fns_nil) con gc fre htr hse
  have a_E__law_number_1 : FnAt P w K mg base 3 Pk.E__law_number_v2_1 := at_0 (d := d__law_number) F__law_number m__law_number g__law_number rfl rfl rfl b_E__law_number_1
  have g__law_line : FnG P w K mg base 4 _ fd__law_line d__law_line.ps (spD K d__law_line.f) := dfn_G (d := d__law_line) (k := 3) F__law_line ok__law_line (fns_cons (a_E__law_number_1.up (by decide)) fns_nil) con gc fre htr hse
  have a_E__law_line_1 : FnAt P w K mg base 4 Pk.E__law_line_1 := at_0 (d := d__law_line) F__law_line m__law_line g__law_line rfl rfl rfl b_E__law_line_1
  have g__law_tab : FnG P w K mg base 5 _ fd__law_tab d__law_tab.ps (spD K d__law_tab.f) := dfn_G (d := d__law_tab) (k := 4) F__law_tab ok__law_tab (fns_cons (a_E__law_line_1.up (by decide)) fns_nil) con gc fre htr hse
  have a_E__law_tab_1 : FnAt P w K mg base 5 Pk.E__law_tab_1 := at_0 (d := d__law_tab) F__law_tab m__law_tab g__law_tab rfl rfl rfl b_E__law_tab_1
  have g_num_mirrored : FnG P w K mg base 1 _ fd_num_mirrored d_num_mirrored.ps (spD K d_num_mirrored.f) := dfn_G (d := d_num_mirrored) (k := 0) F_num_mirrored ok_num_mirrored fns_nil con gc fre htr hse
  have a_E_num_mirrored_1 : FnAt P w K mg base 1 Pk.E_num_mirrored_1 := at_0 (d := d_num_mirrored) F_num_mirrored m_num_mirrored g_num_mirrored rfl rfl rfl b_E_num_mirrored_1
  have g_is_whole : FnG P w K mg base 1 _ fd_is_whole d_is_whole.ps (spD K d_is_whole.f) := dfn_G (d := d_is_whole) (k := 0) F_is_whole ok_is_whole fns_nil con gc fre htr hse
  have a_E_is_whole_1 : FnAt P w K mg base 1 Pk.E_is_whole_1 := at_0 (d := d_is_whole) F_is_whole m_is_whole g_is_whole rfl rfl rfl b_E_is_whole_1
  have g_is_frac : FnG P w K mg base 2 _ fd_is_frac d_is_frac.ps (spD K d_is_frac.f) := dfn_G (d := d_is_frac) (k := 1) F_is_frac ok_is_frac (fns_cons (a_E_is_whole_1.up (by decide)) fns_nil) con gc fre htr hse
  have a_E_is_frac_1 : FnAt P w K mg base 2 Pk.E_is_frac_1 := at_0 (d := d_is_frac) F_is_frac m_is_frac g_is_frac rfl rfl rfl b_E_is_frac_1
  have g_is_num : FnG P w K mg base 3 _ fd_is_num d_is_num.ps (spD K d_is_num.f) := dfn_G (d := d_is_num) (k := 2) F_is_num ok_is_num (fns_cons (a_E_is_frac_1.up (by decide)) fns_nil) con gc fre htr hse
  have a_E_is_num_1 : FnAt P w K mg base 3 Pk.E_is_num_1 := at_0 (d := d_is_num) F_is_num m_is_num g_is_num rfl rfl rfl b_E_is_num_1
  have g_fits_as_row : FnG P w K mg base 4 _ fd_fits_as_row d_fits_as_row.ps (spD K d_fits_as_row.f) := dfn_G (d := d_fits_as_row) (k := 3) F_fits_as_row ok_fits_as_row (fns_cons (a_E_num_mirrored_1.up (by decide)) (fns_cons (a_E_is_num_1.up (by decide)) fns_nil)) con gc fre htr hse
  have a_E_fits_as_row_3 : FnAt P w K mg base 4 Pk.E_fits_as_row_3 := at_0 (d := d_fits_as_row) F_fits_as_row m_fits_as_row g_fits_as_row rfl rfl rfl b_E_fits_as_row_3
  have g_wrong_in_table : FnG P w K mg base 5 _ fd_wrong_in_table d_wrong_in_table.ps (spD K d_wrong_in_table.f) := dfn_G (d := d_wrong_in_table) (k := 4) F_wrong_in_table ok_wrong_in_table (fns_cons (a_E_fits_as_row_3.up (by decide)) fns_nil) con gc fre htr hse
  have a_E_wrong_in_table_1 : FnAt P w K mg base 5 Pk.E_wrong_in_table_1 := at_0 (d := d_wrong_in_table) F_wrong_in_table m_wrong_in_table g_wrong_in_table rfl rfl rfl b_E_wrong_in_table_1
  have g_check_table : FnG P w K mg base 6 _ fd_check_table d_check_table.ps (spD K d_check_table.f) := dfn_G (d := d_check_table) (k := 5) F_check_table ok_check_table (fns_cons (a_E_wrong_in_table_1.up (by decide)) fns_nil) con gc fre htr hse
  have a_E_check_table_1 : FnAt P w K mg base 6 Pk.E_check_table_1 := at_0 (d := d_check_table) F_check_table m_check_table g_check_table rfl rfl rfl b_E_check_table_1
  have g_first_other : FnG P w K mg base 1 _ fd_first_other d_first_other.ps (spD K d_first_other.f) := dfn_G (d := d_first_other) (k := 0) F_first_other ok_first_other fns_nil con gc fre htr hse
  have a_E_first_other_1 : FnAt P w K mg base 1 Pk.E_first_other_1 := at_0 (d := d_first_other) F_first_other m_first_other g_first_other rfl rfl rfl b_E_first_other_1
  have g_unit_mix : FnG P w K mg base 1 _ fd_unit_mix d_unit_mix.ps (spD K d_unit_mix.f) := dfn_G (d := d_unit_mix) (k := 0) F_unit_mix ok_unit_mix fns_nil con gc fre htr hse
  have a_E_unit_mix_2 : FnAt P w K mg base 1 Pk.E_unit_mix_2 := at_D (d := d_unit_mix) F_unit_mix m_unit_mix g_unit_mix rfl (fun H => (.cons (said_dfl c (p := (("unit_mix", 0), (.tuple [(.tuple [(.int (1)), (.int (1))]), (.tuple [(.int (0)), (.int (1))])]))) (show _ ∈ DFL by simp [DFL]) H) .nil)) (by simp) rfl b_E_unit_mix_2
  have g_frac_reduced : FnG P w K mg base 1 _ fd_frac_reduced d_frac_reduced.ps (spD K d_frac_reduced.f) := dfn_G (d := d_frac_reduced) (k := 0) F_frac_reduced ok_frac_reduced fns_nil con gc fre htr hse
  have a_E_frac_reduced_2 : FnAt P w K mg base 1 Pk.E_frac_reduced_2 := at_0 (d := d_frac_reduced) F_frac_reduced m_frac_reduced g_frac_reduced rfl rfl rfl b_E_frac_reduced_2
  have g_frac_product : FnG P w K mg base 2 _ fd_frac_product d_frac_product.ps (spD K d_frac_product.f) := dfn_G (d := d_frac_product) (k := 1) F_frac_product ok_frac_product (fns_cons (a_E_frac_reduced_2.up (by decide)) fns_nil) con gc fre htr hse
  have a_E_frac_product_2 : FnAt P w K mg base 2 Pk.E_frac_product_2 := at_0 (d := d_frac_product) F_frac_product m_frac_product g_frac_product rfl rfl rfl b_E_frac_product_2
  have g_num_scaled : FnG P w K mg base 3 _ fd_num_scaled d_num_scaled.ps (spD K d_num_scaled.f) := dfn_G (d := d_num_scaled) (k := 2) F_num_scaled ok_num_scaled (fns_cons (a_E_frac_product_2.up (by decide)) fns_nil) con gc fre htr hse
  have a_E_num_scaled_2 : FnAt P w K mg base 3 Pk.E_num_scaled_2 := at_0 (d := d_num_scaled) F_num_scaled m_num_scaled g_num_scaled rfl rfl rfl b_E_num_scaled_2
  have g_num_product : FnG P w K mg base 2 _ fd_num_product d_num_product.ps (spD K d_num_product.f) := dfn_G (d := d_num_product) (k := 1) F_num_product ok_num_product (fns_cons (a_E_frac_reduced_2.up (by decide)) fns_nil) con gc fre htr hse
  have a_E_num_product_2 : FnAt P w K mg base 2 Pk.E_num_product_2 := at_0 (d := d_num_product) F_num_product m_num_product g_num_product rfl rfl rfl b_E_num_product_2
  have g_frac_over : FnG P w K mg base 2 _ fd_frac_over d_frac_over.ps (spD K d_frac_over.f) := dfn_G (d := d_frac_over) (k := 1) F_frac_over ok_frac_over (fns_cons (a_E_frac_reduced_2.up (by decide)) fns_nil) con gc fre htr hse
  have a_E_frac_over_2 : FnAt P w K mg base 2 Pk.E_frac_over_2 := at_0 (d := d_frac_over) F_frac_over m_frac_over g_frac_over rfl rfl rfl b_E_frac_over_2
  have g_num_size : FnG P w K mg base 2 _ fd_num_size d_num_size.ps (spD K d_num_size.f) := dfn_G (d := d_num_size) (k := 1) F_num_size ok_num_size (fns_cons (a_E_frac_reduced_2.up (by decide)) fns_nil) con gc fre htr hse
  have a_E_num_size_1 : FnAt P w K mg base 2 Pk.E_num_size_1 := at_0 (d := d_num_size) F_num_size m_num_size g_num_size rfl rfl rfl b_E_num_size_1
  have g_num_over : FnG P w K mg base 4 _ fd_num_over d_num_over.ps (spD K d_num_over.f) := dfn_G (d := d_num_over) (k := 3) F_num_over ok_num_over (fns_cons (a_E_num_scaled_2.up (by decide)) (fns_cons (a_E_num_product_2.up (by decide)) (fns_cons (a_E_frac_over_2.up (by decide)) (fns_cons (a_E_num_mirrored_1.up (by decide)) (fns_cons (a_E_num_size_1.up (by decide)) fns_nil))))) con gc fre htr hse
  have a_E_num_over_2 : FnAt P w K mg base 4 Pk.E_num_over_2 := at_0 (d := d_num_over) F_num_over m_num_over g_num_over rfl rfl rfl b_E_num_over_2
  have g_frac_less : FnG P w K mg base 2 _ fd_frac_less d_frac_less.ps (spD K d_frac_less.f) := dfn_G (d := d_frac_less) (k := 1) F_frac_less ok_frac_less (fns_cons (a_E_frac_reduced_2.up (by decide)) fns_nil) con gc fre htr hse
  have a_E_frac_less_2 : FnAt P w K mg base 2 Pk.E_frac_less_2 := at_0 (d := d_frac_less) F_frac_less m_frac_less g_frac_less rfl rfl rfl b_E_frac_less_2
  have g_num_less : FnG P w K mg base 3 _ fd_num_less d_num_less.ps (spD K d_num_less.f) := dfn_G (d := d_num_less) (k := 2) F_num_less ok_num_less (fns_cons (a_E_frac_less_2.up (by decide)) fns_nil) con gc fre htr hse
  have a_E_num_less_2 : FnAt P w K mg base 3 Pk.E_num_less_2 := at_0 (d := d_num_less) F_num_less m_num_less g_num_less rfl rfl rfl b_E_num_less_2
  have g_mix_less : FnG P w K mg base 4 _ fd_mix_less d_mix_less.ps (spD K d_mix_less.f) := dfn_G (d := d_mix_less) (k := 3) F_mix_less ok_mix_less (fns_cons (a_E_num_less_2.up (by decide)) (fns_cons (a_E_num_product_2.up (by decide)) fns_nil)) con gc fre htr hse
  have a_E_mix_less_3 : FnAt P w K mg base 4 Pk.E_mix_less_3 := at_0 (d := d_mix_less) F_mix_less m_mix_less g_mix_less rfl rfl rfl b_E_mix_less_3
  have g_null_by : FnG P w K mg base 5 _ fd_null_by d_null_by.ps (spD K d_null_by.f) := dfn_G (d := d_null_by) (k := 4) F_null_by ok_null_by (fns_cons (a_E_first_other_1.up (by decide)) (fns_cons (a_E_unit_mix_2.up (by decide)) (fns_cons (a_E_num_over_2.up (by decide)) (fns_cons (a_E_mix_less_3.up (by decide)) fns_nil)))) con gc fre htr hse
  have a_E_null_by_1 : FnAt P w K mg base 5 Pk.E_null_by_1 := at_0 (d := d_null_by) F_null_by m_null_by g_null_by rfl rfl rfl b_E_null_by_1
  have g_null_mixes : FnG P w K mg base 7 _ fd_null_mixes d_null_mixes.ps (spD K d_null_mixes.f) := dfn_G (d := d_null_mixes) (k := 6) F_null_mixes ok_null_mixes (fns_cons (a_E_check_table_1.up (by decide)) (fns_cons (a_E_null_by_1.up (by decide)) fns_nil)) con gc fre htr hse
  have a_E_null_mixes_1 : FnAt P w K mg base 7 Pk.E_null_mixes_1 := at_0 (d := d_null_mixes) F_null_mixes m_null_mixes g_null_mixes rfl rfl rfl b_E_null_mixes_1
  have a_E_null_mixes_0_table : FnAt P w K mg base 7 Pk.E_null_mixes_0_table := at_0 (d := d_null_mixes) F_null_mixes m_null_mixes g_null_mixes rfl rfl rfl b_E_null_mixes_0_table
  have g__law_is_nought : FnG P w K mg base 1 _ fd__law_is_nought d__law_is_nought.ps (spD K d__law_is_nought.f) := dfn_G (d := d__law_is_nought) (k := 0) F__law_is_nought ok__law_is_nought fns_nil con gc fre htr hse
  have a_E__law_is_nought_1 : FnAt P w K mg base 1 Pk.E__law_is_nought_1 := at_0 (d := d__law_is_nought) F__law_is_nought m__law_is_nought g__law_is_nought rfl rfl rfl b_E__law_is_nought_1
  have g__law_bare : FnG P w K mg base 2 _ fd__law_bare d__law_bare.ps (spD K d__law_bare.f) := dfn_G (d := d__law_bare) (k := 1) F__law_bare ok__law_bare (fns_cons (a_E__law_is_nought_1.up (by decide)) fns_nil) con gc fre htr hse
  have a_E__law_bare_2 : FnAt P w K mg base 2 Pk.E__law_bare_2 := at_0 (d := d__law_bare) F__law_bare m__law_bare g__law_bare rfl rfl rfl b_E__law_bare_2
  have g__law_over : FnG P w K mg base 3 _ fd__law_over d__law_over.ps (spD K d__law_over.f) := dfn_G (d := d__law_over) (k := 2) F__law_over ok__law_over (fns_cons (a_E__law_cut_3.up (by decide)) fns_nil) con gc fre htr hse
  have a_E__law_over_2 : FnAt P w K mg base 3 Pk.E__law_over_v2_2 := at_0 (d := d__law_over) F__law_over m__law_over g__law_over rfl rfl rfl b_E__law_over_2
  have g__law_rank : FnG P w K mg base 4 _ fd__law_rank d__law_rank.ps (spD K d__law_rank.f) := dfn_G (d := d__law_rank) (k := 3) F__law_rank ok__law_rank (fns_cons (a_E__law_bare_2.up (by decide)) (fns_cons (a_E__law_over_2.up (by decide)) (fns_cons (a_E__law_less_2.up (by decide)) (fns_cons (a_E__law_times_2.up (by decide)) fns_nil)))) con gc fre htr hse
  have a_E__law_rank_1 : FnAt P w K mg base 4 Pk.E__law_rank_1 := at_0 (d := d__law_rank) F__law_rank m__law_rank g__law_rank rfl rfl rfl b_E__law_rank_1
  have g__law_hanging : FnG P w K mg base 5 _ fd__law_hanging d__law_hanging.ps (spD K d__law_hanging.f) := dfn_G (d := d__law_hanging) (k := 4) F__law_hanging ok__law_hanging (fns_cons (a_E__law_rank_1.up (by decide)) fns_nil) con gc fre htr hse
  have a_E__law_hanging_1 : FnAt P w K mg base 5 Pk.E__law_hanging_1 := at_0 (d := d__law_hanging) F__law_hanging m__law_hanging g__law_hanging rfl rfl rfl b_E__law_hanging_1
  have g__law_is_fraction : FnG P w K mg base 2 _ fd__law_is_fraction d__law_is_fraction.ps (spD K d__law_is_fraction.f) := dfn_G (d := d__law_is_fraction) (k := 1) F__law_is_fraction ok__law_is_fraction (fns_cons (a_E__law_common_2.up (by decide)) fns_nil) con gc fre htr hse
  have a_E__law_is_fraction_1 : FnAt P w K mg base 2 Pk.E__law_is_fraction_1 := at_0 (d := d__law_is_fraction) F__law_is_fraction m__law_is_fraction g__law_is_fraction rfl rfl rfl b_E__law_is_fraction_1
  have g__law_is_number : FnG P w K mg base 3 _ fd__law_is_number d__law_is_number.ps (spD K d__law_is_number.f) := dfn_G (d := d__law_is_number) (k := 2) F__law_is_number ok__law_is_number (fns_cons (a_E__law_is_fraction_1.up (by decide)) fns_nil) con gc fre htr hse
  have a_E__law_is_number_1 : FnAt P w K mg base 3 Pk.E__law_is_number_1 := at_0 (d := d__law_is_number) F__law_is_number m__law_is_number g__law_is_number rfl rfl rfl b_E__law_is_number_1
  have g__law_is_line : FnG P w K mg base 4 _ fd__law_is_line d__law_is_line.ps (spD K d__law_is_line.f) := dfn_G (d := d__law_is_line) (k := 3) F__law_is_line ok__law_is_line (fns_cons (a_E__law_is_number_1.up (by decide)) fns_nil) con gc fre htr hse
  have a_E__law_is_line_2 : FnAt P w K mg base 4 Pk.E__law_is_line_2 := at_0 (d := d__law_is_line) F__law_is_line m__law_is_line g__law_is_line rfl rfl rfl b_E__law_is_line_2
  have g__law_read : FnG P w K mg base 3 _ fd__law_read d__law_read.ps (spD K d__law_read.f) := dfn_G (d := d__law_read) (k := 2) F__law_read ok__law_read (fns_cons (a_E__law_cut_3.up (by decide)) fns_nil) con gc fre htr hse
  have a_E__law_read_1 : FnAt P w K mg base 3 Pk.E__law_read_1 := at_0 (d := d__law_read) F__law_read m__law_read g__law_read rfl rfl rfl b_E__law_read_1
  have g__law_fit : FnG P w K mg base 6 _ fd__law_fit d__law_fit.ps (spD K d__law_fit.f) := dfn_G (d := d__law_fit) (k := 5) F__law_fit ok__law_fit (fns_cons (a_E__law_hanging_1.up (by decide)) (fns_cons (a_E__law_is_line_2.up (by decide)) (fns_cons (a_E__law_read_1.up (by decide)) (fns_cons (a_E__law_run_2.up (by decide)) (fns_cons (a_E__law_is_nought_1.up (by decide)) fns_nil))))) con gc fre htr hse
  have a_E__law_fit_2 : FnAt P w K mg base 6 Pk.E__law_fit_v2_2 := at_0 (d := d__law_fit) F__law_fit m__law_fit g__law_fit rfl rfl rfl b_E__law_fit_2
  have g_wrong_in_mix : FnG P w K mg base 4 _ fd_wrong_in_mix d_wrong_in_mix.ps (spD K d_wrong_in_mix.f) := dfn_G (d := d_wrong_in_mix) (k := 3) F_wrong_in_mix ok_wrong_in_mix (fns_cons (a_E_is_num_1.up (by decide)) fns_nil) con gc fre htr hse
  have a_E_wrong_in_mix_2 : FnAt P w K mg base 4 Pk.E_wrong_in_mix_2 := at_0 (d := d_wrong_in_mix) F_wrong_in_mix m_wrong_in_mix g_wrong_in_mix rfl rfl rfl b_E_wrong_in_mix_2
  have g_check_mix : FnG P w K mg base 5 _ fd_check_mix d_check_mix.ps (spD K d_check_mix.f) := dfn_G (d := d_check_mix) (k := 4) F_check_mix ok_check_mix (fns_cons (a_E_wrong_in_mix_2.up (by decide)) fns_nil) con gc fre htr hse
  have a_E_check_mix_2 : FnAt P w K mg base 5 Pk.E_check_mix_2 := at_0 (d := d_check_mix) F_check_mix m_check_mix g_check_mix rfl rfl rfl b_E_check_mix_2
  have g_frac_sum : FnG P w K mg base 2 _ fd_frac_sum d_frac_sum.ps (spD K d_frac_sum.f) := dfn_G (d := d_frac_sum) (k := 1) F_frac_sum ok_frac_sum (fns_cons (a_E_frac_reduced_2.up (by decide)) fns_nil) con gc fre htr hse
  have a_E_frac_sum_2 : FnAt P w K mg base 2 Pk.E_frac_sum_2 := at_0 (d := d_frac_sum) F_frac_sum m_frac_sum g_frac_sum rfl rfl rfl b_E_frac_sum_2
  have g_num_sum : FnG P w K mg base 3 _ fd_num_sum d_num_sum.ps (spD K d_num_sum.f) := dfn_G (d := d_num_sum) (k := 2) F_num_sum ok_num_sum (fns_cons (a_E_frac_sum_2.up (by decide)) fns_nil) con gc fre htr hse
  have a_E_num_sum_2 : FnAt P w K mg base 3 Pk.E_num_sum_2 := at_0 (d := d_num_sum) F_num_sum m_num_sum g_num_sum rfl rfl rfl b_E_num_sum_2
  have g_inner_sum : FnG P w K mg base 4 _ fd_inner_sum d_inner_sum.ps (spD K d_inner_sum.f) := dfn_G (d := d_inner_sum) (k := 3) F_inner_sum ok_inner_sum (fns_cons (a_E_num_sum_2.up (by decide)) (fns_cons (a_E_num_product_2.up (by decide)) fns_nil)) con gc fre htr hse
  have a_E_inner_sum_2 : FnAt P w K mg base 4 Pk.E_inner_sum_2 := at_0 (d := d_inner_sum) F_inner_sum m_inner_sum g_inner_sum rfl rfl rfl b_E_inner_sum_2
  have g_mix_times : FnG P w K mg base 5 _ fd_mix_times d_mix_times.ps (spD K d_mix_times.f) := dfn_G (d := d_mix_times) (k := 4) F_mix_times ok_mix_times (fns_cons (a_E_inner_sum_2.up (by decide)) fns_nil) con gc fre htr hse
  have a_E_mix_times_2 : FnAt P w K mg base 5 Pk.E_mix_times_2 := at_0 (d := d_mix_times) F_mix_times m_mix_times g_mix_times rfl rfl rfl b_E_mix_times_2
  have g_mix_mirrored : FnG P w K mg base 2 _ fd_mix_mirrored d_mix_mirrored.ps (spD K d_mix_mirrored.f) := dfn_G (d := d_mix_mirrored) (k := 1) F_mix_mirrored ok_mix_mirrored (fns_cons (a_E_num_mirrored_1.up (by decide)) fns_nil) con gc fre htr hse
  have a_E_mix_mirrored_1 : FnAt P w K mg base 2 Pk.E_mix_mirrored_1 := at_0 (d := d_mix_mirrored) F_mix_mirrored m_mix_mirrored g_mix_mirrored rfl rfl rfl b_E_mix_mirrored_1
  have g_out_together : FnG P w K mg base 6 _ fd_out_together d_out_together.ps (spD K d_out_together.f) := dfn_G (d := d_out_together) (k := 5) F_out_together ok_out_together (fns_cons (a_E_inner_sum_2.up (by decide)) (fns_cons (a_E_mix_times_2.up (by decide)) (fns_cons (a_E_mix_mirrored_1.up (by decide)) fns_nil))) con gc fre htr hse
  have a_E_out_together_3 : FnAt P w K mg base 6 Pk.E_out_together_3 := at_0 (d := d_out_together) F_out_together m_out_together g_out_together rfl rfl rfl b_E_out_together_3
  have g_out_of : FnG P w K mg base 7 _ fd_out_of d_out_of.ps (spD K d_out_of.f) := dfn_G (d := d_out_of) (k := 6) F_out_of ok_out_of (fns_cons (a_E_out_together_3.up (by decide)) fns_nil) con gc fre htr hse
  have a_E_out_of_2 : FnAt P w K mg base 7 Pk.E_out_of_2 := at_0 (d := d_out_of) F_out_of m_out_of g_out_of rfl rfl rfl b_E_out_of_2
  have g_comes_out : FnG P w K mg base 8 _ fd_comes_out d_comes_out.ps (spD K d_comes_out.f) := dfn_G (d := d_comes_out) (k := 7) F_comes_out ok_comes_out (fns_cons (a_E_check_table_1.up (by decide)) (fns_cons (a_E_check_mix_2.up (by decide)) (fns_cons (a_E_out_of_2.up (by decide)) fns_nil))) con gc fre htr hse
  have a_E_comes_out_2 : FnAt P w K mg base 8 Pk.E_comes_out_2 := at_0 (d := d_comes_out) F_comes_out m_comes_out g_comes_out rfl rfl rfl b_E_comes_out_2
  have g_rank_of : FnG P w K mg base 7 _ fd_rank_of d_rank_of.ps (spD K d_rank_of.f) := dfn_G (d := d_rank_of) (k := 6) F_rank_of ok_rank_of (fns_cons (a_E_check_table_1.up (by decide)) (fns_cons (a_E_null_by_1.up (by decide)) fns_nil)) con gc fre htr hse
  have a_E_rank_of_1 : FnAt P w K mg base 7 Pk.E_rank_of_1 := at_0 (d := d_rank_of) F_rank_of m_rank_of g_rank_of rfl rfl rfl b_E_rank_of_1
  have a_E_rank_of_0_table : FnAt P w K mg base 7 Pk.E_rank_of_0_table := at_0 (d := d_rank_of) F_rank_of m_rank_of g_rank_of rfl rfl rfl b_E_rank_of_0_table
  have g_come_out_together : FnG P w K mg base 7 _ fd_come_out_together d_come_out_together.ps (spD K d_come_out_together.f) := dfn_G (d := d_come_out_together) (k := 6) F_come_out_together ok_come_out_together (fns_cons (a_E_check_table_1.up (by decide)) (fns_cons (a_E_check_mix_2.up (by decide)) (fns_cons (a_E_out_together_3.up (by decide)) fns_nil))) con gc fre htr hse
  have a_E_come_out_together_3 : FnAt P w K mg base 7 Pk.E_come_out_together_3 := at_0 (d := d_come_out_together) F_come_out_together m_come_out_together g_come_out_together rfl rfl rfl b_E_come_out_together_3
  have g__law_right : FnG P w K mg base 9 _ fd__law_right d__law_right.ps (spD K d__law_right.f) := dfn_G (d := d__law_right) (k := 8) F__law_right ok__law_right (fns_cons (a_E__law_many_1.up (by decide)) (fns_cons (a_E__law_flat_2.up (by decide)) (fns_cons (a_E__law_tab_1.up (by decide)) (fns_cons (a_E_null_mixes_1.up (by decide)) (fns_cons (a_E__law_small_1.up (by decide)) (fns_cons (a_E__law_fit_2.up (by decide)) (fns_cons (a_E__law_plus_2.up (by decide)) (fns_cons (a_E_comes_out_2.up (by decide)) (fns_cons (a_E_null_mixes_0_table.up (by decide)) (fns_cons (a_E_rank_of_1.up (by decide)) (fns_cons (a_E_rank_of_0_table.up (by decide)) (fns_cons (a_E__law_times_2.up (by decide)) (fns_cons (a_E__law_line_1.up (by decide)) (fns_cons (a_E_come_out_together_3.up (by decide)) (fns_cons (a_E__law_read_1.up (by decide)) fns_nil))))))))))))))) con gc fre htr hse
  have a_E__law_right_1 : FnAt P w K mg base 9 E__law_right_1 := at_0 (d := d__law_right) F__law_right m__law_right g__law_right rfl rfl rfl b_E__law_right_1
  have g__law_pot : FnG P w K mg base 1 _ fd__law_pot d__law_pot.ps (spD K d__law_pot.f) := dfn_G (d := d__law_pot) (k := 0) F__law_pot ok__law_pot fns_nil con gc fre htr hse
  have a_E__law_pot_2 : FnAt P w K mg base 1 Pk.E__law_pot_2 := at_0 (d := d__law_pot) F__law_pot m__law_pot g__law_pot rfl rfl rfl b_E__law_pot_2
  have g_law : FnG P w K mg base 10 _ fd_law d_law.ps (spD K d_law.f) := dfn_G (d := d_law) (k := 9) F_law ok_law (fns_cons (a_E__law_laps_1.up (by decide)) (fns_cons (a_E__law_right_1.up (by decide)) (fns_cons (a_E__law_pot_2.up (by decide)) fns_nil))) con gc fre htr hse
  exact g_law
end
@[simp] theorem mt__law_right : d__law_right.f.mt = true := rfl
theorem run__law_right : d__law_right.f.run = runB true 1 11 ir__law_right := rfl
@[simp] theorem mt_law : d_law.f.mt = false := rfl
theorem run_law : d_law.f.run = runB false 1 2 ir_law := rfl
end K36

set_option Elab.async false
set_option linter.all false
set_option maxRecDepth 100000
set_option maxHeartbeats 0
namespace K36
open PySem PySem.Spec PyProof.Rows L2 EvL
abbrev RR : PySem.W.OpenRow := PySem.W.OpenLaw.row QQ
abbrev vw : Program := PySem.W.view RR.prog [0, 86]
def loose : List Str := (["FRAC_ONE", "NOUGHT", "ONE", "is_whole", "is_frac", "is_num", "frac_reduced", "frac_sum", "frac_less", "frac_product", "frac_over", "num_sum", "num_less", "num_product", "num_scaled", "num_mirrored", "num_size", "num_over", "MOST_ROWS", "fits_as_row", "wrong_in_table", "wrong_in_mix", "unit_mix", "mix_less", "mix_mirrored", "inner_sum", "mix_times", "out_together", "out_of", "first_other"] : List Str) ++ (["null_by", "RimError", "InvalidTable", "InvalidMix", "check_table", "check_mix", "rank_of", "null_mixes", "comes_out", "come_out_together", "_law_pot", "_law_draw", "_law_pick", "_law_laps", "_law_common", "_law_cut", "_law_plus", "_law_less", "_law_times", "_law_mirror", "_law_over", "_law_is_nought", "_law_fraction", "_law_number", "_law_line", "_law_tab", "_law_is_fraction", "_law_is_number", "_law_read", "_law_is_line"] : List Str) ++ (["_law_gauss", "_law_small", "_law_positive", "_law_ratio", "_law_hermite", "_law_made", "_law_run", "_law_dot", "_law_led", "_law_bare", "_law_rank", "_law_drawn_table", "_law_many", "_law_hanging", "_law_flat", "_law_fit", "_law_right"] : List Str)
theorem run (w : World) : HandSHeadRun.RunEqI RR vw (hookN 6 asked) (obsT 6 asked) 20000 loose w := by
  unfold HandSHeadRun.RunEqI
  kernel_rfl
end K36

set_option Elab.async false
set_option linter.all false
set_option maxRecDepth 100000
set_option maxHeartbeats 1900000
namespace EvL
open PySem PySem.Spec PyProof.Rows L2
namespace Pk
/-! ### what the shared defs compute: numbers -/
theorem alg1 {a b c d p q r s : Rat} (hb : b ≠ 0) (hd : d ≠ 0) (hq : q ≠ 0) (hs : s ≠ 0) : (a*p*d*s - c*r*b*q)/(b*d*q*s) = (a/b)*(p/q) - (c/d)*(r/s) := by grind
theorem alg2 {a b c d p q r s : Rat} (hb : b ≠ 0) (hd : d ≠ 0) (hq : q ≠ 0) (hs : s ≠ 0) : (a*r*d*q + c*p*b*s)/(b*d*q*s) = (a/b)*(r/s) + (c/d)*(p/q) := by grind
theorem alg3 {a b c d : Rat} (hb : b ≠ 0) (hd : d ≠ 0) : (a*a*d*d + c*c*b*b)/(b*b*d*d) = (a/b)*(a/b) + (c/d)*(c/d) := by grind
theorem alg4 {a b c p q r : Rat} (hc : c ≠ 0) (hr : r ≠ 0) (h : p * p + q * q ≠ 0) : ((a*p+b*q)*r)/(c*(p*p+q*q)) = (a/c) * ((p/r) / ((p/r)*(p/r) + (q/r)*(q/r))) - (b/c) * (-(q/r) / ((p/r)*(p/r) + (q/r)*(q/r))) := by
  have e : (p/r)*(p/r) + (q/r)*(q/r) = (p*p+q*q)/(r*r) := by grind
  rw [e]; grind
theorem alg5 {a b c p q r : Rat} (hc : c ≠ 0) (hr : r ≠ 0) (h : p * p + q * q ≠ 0) : ((b*p-a*q)*r)/(c*(p*p+q*q)) = (a/c) * (-(q/r) / ((p/r)*(p/r) + (q/r)*(q/r))) + (b/c) * ((p/r) / ((p/r)*(p/r) + (q/r)*(q/r))) := by
  have e : (p/r)*(p/r) + (q/r)*(q/r) = (p*p+q*q)/(r*r) := by grind
  rw [e]; grind
theorem nz {a b : Int} (h : a ≠ 0) (g : b ≠ 0) : a * b ≠ 0 := Int.mul_ne_zero h g
theorem sg_sz {b : Nat} {n m : Int} (h : m ≠ 0) (hm : Sz b m) : Sz b (sg n m) := by
  have hd := (sg_dvd n m).2
  unfold Sz at *
  have : (sg n m).natAbs ≤ m.natAbs := Nat.le_of_dvd (by omega) (Int.natAbs_dvd_natAbs.mpr hd)
  omega
theorem reduced_run {n m : Int} (h : m ≠ 0) (hm : Sz 8900000 m) : frac_reduced.run [.int n, .int m] = some (.fz (qD ((n : Rat) / (m : Rat))), []) := by
  have s1 : divOk n (sg n m) = true := divOk_of (sg_sz h hm) (by decide) (sg_ne h)
  have s2 : divOk m (sg n m) = true := divOk_of (sg_sz h hm) (by decide) (sg_ne h)
  rw [run_frac_reduced, ← fD_rat h]
  by_cases h0 : 0 < m
  · have e : sg n m = (Int.gcd n m : Int) := if_pos h0
    rw [e] at s1 s2
    simp [runB, List.replicate, ir_frac_reduced, h0, s1, s2, fD, fr, e]
  · have e : sg n m = -(Int.gcd n m : Int) := if_neg h0
    rw [e] at s1 s2
    simp [runB, List.replicate, ir_frac_reduced, h0, s1, s2, fD, fr, e]
@[simp] theorem whole_i (n : Int) : is_whole.run [.int n] = some (.fz (.bool true), []) := by
  rw [run_is_whole]; simp [runB, List.replicate, ir_is_whole, isD]
@[simp] theorem whole_b (b : Bool) : is_whole.run [.bool b] = some (.fz (.bool false), []) := by
  rw [run_is_whole]; simp [runB, List.replicate, ir_is_whole, isD]
@[simp] theorem whole_t (xs : List PyData) : is_whole.run [.tuple xs] = some (.fz (.bool false), []) := by
  rw [run_is_whole]; simp [runB, List.replicate, ir_is_whole, isD]
@[simp] theorem whole_l (xs : List PyData) : is_whole.run [.list xs] = some (.fz (.bool false), []) := by
  rw [run_is_whole]; simp [runB, List.replicate, ir_is_whole, isD]
@[simp] theorem whole_n : is_whole.run [.none] = some (.fz (.bool false), []) := by
  rw [run_is_whole]; simp [runB, List.replicate, ir_is_whole, isD]
@[simp] theorem whole_s (s : Str) : is_whole.run [.str s] = some (.fz (.bool false), []) := by
  rw [run_is_whole]; simp [runB, List.replicate, ir_is_whole, isD]
@[simp] theorem frac_ii (n m : Int) : is_frac.run [.tuple [.int n, .int m]] = some (.fz (.bool (decide (0 < m) && decide (Int.gcd n m = 1))), []) := by
  rw [run_is_frac]
  by_cases h : 0 < m <;> simp [runB, List.replicate, ir_is_frac, isD, h]
  norm_cast
@[simp] theorem frac_of (r : Rat) : is_frac.run [qD r] = some (.fz (.bool true), []) := by
  rw [show qD r = .tuple [.int r.num, .int r.den] from rfl, frac_ii]
  have h1 := den_pos r
  have h2 := num_gcd r
  have h3 : 0 < r.den := by omega
  simp [h3, h2]
@[simp] theorem ck_frac (r : Rat) : check_fraction.run [qD r] = some (.fz .none, []) := by
  rw [run_check_fraction]; simp [runB, List.replicate, ir_check_fraction]
@[simp] theorem num_of (x : GQ) : is_num.run [gD x] = some (.fz (.bool true), []) := by
  rw [run_is_num]; simp [runB, List.replicate, ir_is_num, isD, gD]
@[simp] theorem ck_num (x : GQ) : check_number.run [gD x] = some (.fz .none, []) := by
  rw [run_check_number]; simp [runB, List.replicate, ir_check_number]
@[simp] theorem frac_n : is_frac.run [.none] = some (.fz (.bool false), []) := by
  rw [run_is_frac]; simp [runB, List.replicate, ir_is_frac, isD]
@[simp] theorem frac_i (n : Int) : is_frac.run [.int n] = some (.fz (.bool false), []) := by
  rw [run_is_frac]; simp [runB, List.replicate, ir_is_frac, isD]
@[simp] theorem frac_b (n : Bool) : is_frac.run [.bool n] = some (.fz (.bool false), []) := by
  rw [run_is_frac]; simp [runB, List.replicate, ir_is_frac, isD]
@[simp] theorem frac_s (n : Str) : is_frac.run [.str n] = some (.fz (.bool false), []) := by
  rw [run_is_frac]; simp [runB, List.replicate, ir_is_frac, isD]
@[simp] theorem frac_l (n : List PyData) : is_frac.run [.list n] = some (.fz (.bool false), []) := by
  rw [run_is_frac]; simp [runB, List.replicate, ir_is_frac, isD]
@[simp] theorem frac_0 : is_frac.run [.tuple []] = some (.fz (.bool false), []) := by
  rw [run_is_frac]; simp [runB, List.replicate, ir_is_frac, isD]
@[simp] theorem frac_1 (a : PyData) : is_frac.run [.tuple [a]] = some (.fz (.bool false), []) := by
  rw [run_is_frac]; simp [runB, List.replicate, ir_is_frac, isD]
@[simp] theorem frac_tt (a b : List PyData) : is_frac.run [.tuple [.tuple a, .tuple b]] = some (.fz (.bool false), []) := by
  rw [run_is_frac]; simp [runB, List.replicate, ir_is_frac, isD]
@[simp] theorem frac_g (x : GQ) : is_frac.run [gD x] = some (.fz (.bool false), []) := frac_tt _ _
@[simp] theorem num_n : is_num.run [.none] = some (.fz (.bool false), []) := by
  rw [run_is_num]; simp [runB, List.replicate, ir_is_num, isD]
@[simp] theorem num_i (n : Int) : is_num.run [.int n] = some (.fz (.bool false), []) := by
  rw [run_is_num]; simp [runB, List.replicate, ir_is_num, isD]
@[simp] theorem num_b (n : Bool) : is_num.run [.bool n] = some (.fz (.bool false), []) := by
  rw [run_is_num]; simp [runB, List.replicate, ir_is_num, isD]
@[simp] theorem num_s (n : Str) : is_num.run [.str n] = some (.fz (.bool false), []) := by
  rw [run_is_num]; simp [runB, List.replicate, ir_is_num, isD]
@[simp] theorem num_l (n : List PyData) : is_num.run [.list n] = some (.fz (.bool false), []) := by
  rw [run_is_num]; simp [runB, List.replicate, ir_is_num, isD]
@[simp] theorem num_q (r : Rat) : is_num.run [qD r] = some (.fz (.bool false), []) := by
  rw [run_is_num]; simp [runB, List.replicate, ir_is_num, isD, qD]
@[simp] theorem num_0 : is_num.run [.tuple []] = some (.fz (.bool false), []) := by
  rw [run_is_num]; simp [runB, List.replicate, ir_is_num, isD]
@[simp] theorem num_1 (a : PyData) : is_num.run [.tuple [a]] = some (.fz (.bool false), []) := by
  rw [run_is_num]; simp [runB, List.replicate, ir_is_num, isD]
@[simp] theorem num_ii (a b : Int) : is_num.run [.tuple [.int a, .int b]] = some (.fz (.bool false), []) := by
  rw [run_is_num]; simp [runB, List.replicate, ir_is_num, isD]
@[simp] theorem num_gg (a b : GQ) : is_num.run [.tuple [gD a, gD b]] = some (.fz (.bool false), []) := by
  rw [run_is_num]; simp [runB, List.replicate, ir_is_num, isD]
/-! arithmetic -/
section
variable {x y : Rat} (hx : Qz 1900000 x) (hy : Qz 1900000 y)
include hx hy
theorem frac_sum_run : frac_sum.run [qD x, qD y] = some (.fz (qD (x + y)), []) := by
  obtain ⟨x1, x2⟩ := hx; obtain ⟨y1, y2⟩ := hy
  have q := reduced_run (n := x.num * y.den + y.num * x.den) (m := x.den * y.den) (nz (den_ne x) (den_ne y)) ((x2.mul y2).mono (by decide))
  have e : (((x.num * y.den + y.num * x.den : Int)) : Rat) / ((x.den * y.den : Int) : Rat) = x + y := by
    have e1 := num_den' x; have e2 := num_den' y; have d1 := ic_ne (den_ne x); have d2 := ic_ne (den_ne y)
    rw [ic_add, ic_mul, ic_mul, ic_mul]; grind
  rw [e] at q
  rw [run_frac_sum]
  simp (disch := first | assumption | (simp; done) | exact EvL.mulOk_of (by assumption) (by assumption) (by decide)) [runB, List.replicate, ir_frac_sum, qD] at q ⊢
  simp [q]
theorem frac_less_run : frac_less.run [qD x, qD y] = some (.fz (qD (x - y)), []) := by
  obtain ⟨x1, x2⟩ := hx; obtain ⟨y1, y2⟩ := hy
  have q := reduced_run (n := x.num * y.den - y.num * x.den) (m := x.den * y.den) (nz (den_ne x) (den_ne y)) ((x2.mul y2).mono (by decide))
  have e : (((x.num * y.den - y.num * x.den : Int)) : Rat) / ((x.den * y.den : Int) : Rat) = x - y := by
    have e1 := num_den' x; have e2 := num_den' y; have d1 := ic_ne (den_ne x); have d2 := ic_ne (den_ne y)
    rw [ic_sub, ic_mul, ic_mul, ic_mul]; grind
  rw [e] at q
  rw [run_frac_less]
  simp (disch := first | assumption | (simp; done) | exact EvL.mulOk_of (by assumption) (by assumption) (by decide)) [runB, List.replicate, ir_frac_less, qD] at q ⊢
  simp [q]
theorem frac_product_run : frac_product.run [qD x, qD y] = some (.fz (qD (x * y)), []) := by
  obtain ⟨x1, x2⟩ := hx; obtain ⟨y1, y2⟩ := hy
  have q := reduced_run (n := x.num * y.num) (m := x.den * y.den) (nz (den_ne x) (den_ne y)) ((x2.mul y2).mono (by decide))
  have e : (((x.num * y.num : Int)) : Rat) / ((x.den * y.den : Int) : Rat) = x * y := by
    have e1 := num_den' x; have e2 := num_den' y; have d1 := ic_ne (den_ne x); have d2 := ic_ne (den_ne y)
    rw [ic_mul, ic_mul]; grind
  rw [e] at q
  rw [run_frac_product]
  simp (disch := first | assumption | (simp; done) | exact EvL.mulOk_of (by assumption) (by assumption) (by decide)) [runB, List.replicate, ir_frac_product, qD] at q ⊢
  simp [q]
theorem frac_over_run (y0 : y ≠ 0) : frac_over.run [qD x, qD y] = some (.fz (qD (x / y)), []) := by
  obtain ⟨x1, x2⟩ := hx; obtain ⟨y1, y2⟩ := hy
  have n0 : y.num ≠ 0 := fun z => y0 (Rat.num_eq_zero.mp z)
  have q := reduced_run (n := x.num * y.den) (m := x.den * y.num) (nz (den_ne x) n0) ((x2.mul y1).mono (by decide))
  have e : (((x.num * y.den : Int)) : Rat) / ((x.den * y.num : Int) : Rat) = x / y := by
    have e1 := num_den' x; have e2 := num_den' y; have d1 := ic_ne (den_ne x); have d2 := ic_ne (den_ne y); have d3 := ic_ne n0
    rw [ic_mul, ic_mul]; grind
  rw [e] at q
  rw [run_frac_over]
  simp (disch := first | assumption | (simp; done) | exact EvL.mulOk_of (by assumption) (by assumption) (by decide)) [runB, List.replicate, ir_frac_over, qD] at q ⊢
  simp [q]
end
section
variable {x y : GQ} (hx : Gz 1900000 x) (hy : Gz 1900000 y)
include hx hy
theorem num_sum_run : num_sum.run [gD x, gD y] = some (.fz (gD (x + y)), []) := by
  have e1 := frac_sum_run hx.re hy.re
  have e2 := frac_sum_run hx.im hy.im
  rw [run_num_sum]
  simp [runB, List.replicate, ir_num_sum, gD, e1, e2]
theorem num_less_run : num_less.run [gD x, gD y] = some (.fz (gD (x - y)), []) := by
  have e1 := frac_less_run hx.re hy.re
  have e2 := frac_less_run hx.im hy.im
  rw [run_num_less]
  simp [runB, List.replicate, ir_num_less, gD, e1, e2]
theorem num_product_run : num_product.run [gD x, gD y] = some (.fz (gD (x * y)), []) := by
  obtain ⟨a1, a2⟩ := hx.re; obtain ⟨b1, b2⟩ := hx.im
  obtain ⟨c1, c2⟩ := hy.re; obtain ⟨d1, d2⟩ := hy.im
  have s1 := a2.mul b2; have s2 := s1.mul c2; have s3 := s2.mul d2
  have n0 := nz (nz (nz (den_ne x.re) (den_ne x.im)) (den_ne y.re)) (den_ne y.im)
  have q1 := reduced_run (n := x.re.num * y.re.num * x.im.den * y.im.den - x.im.num * y.im.num * x.re.den * y.re.den) (m := x.re.den * x.im.den * y.re.den * y.im.den) n0 (s3.mono (by decide))
  have q2 := reduced_run (n := x.re.num * y.im.num * x.im.den * y.re.den + x.im.num * y.re.num * x.re.den * y.im.den) (m := x.re.den * x.im.den * y.re.den * y.im.den) n0 (s3.mono (by decide))
  have e1 := num_den' x.re; have e2 := num_den' x.im; have e3 := num_den' y.re; have e4 := num_den' y.im
  have f1 := ic_ne (den_ne x.re); have f2 := ic_ne (den_ne x.im); have f3 := ic_ne (den_ne y.re); have f4 := ic_ne (den_ne y.im)
  have r1 : (((x.re.num * y.re.num * x.im.den * y.im.den - x.im.num * y.im.num * x.re.den * y.re.den : Int)) : Rat) / ((x.re.den * x.im.den * y.re.den * y.im.den : Int) : Rat) = x.re * y.re - x.im * y.im := by
    simp only [ic_sub, ic_mul]; rw [alg1 f1 f2 f3 f4, ← e1, ← e2, ← e3, ← e4]
  have r2 : (((x.re.num * y.im.num * x.im.den * y.re.den + x.im.num * y.re.num * x.re.den * y.im.den : Int)) : Rat) / ((x.re.den * x.im.den * y.re.den * y.im.den : Int) : Rat) = x.re * y.im + x.im * y.re := by
    simp only [ic_add, ic_mul]; rw [alg2 f1 f2 f3 f4, ← e1, ← e2, ← e3, ← e4]
  rw [r1] at q1; rw [r2] at q2
  have t1 := a1.mul c1; have t2 := t1.mul b2; have t3 := b1.mul d1; have t4 := t3.mul a2
  have t5 := a1.mul d1; have t6 := t5.mul b2; have t7 := b1.mul c1; have t8 := t7.mul a2
  rw [run_num_product]
  simp (disch := first | assumption | (simp; done) | exact EvL.mulOk_of (by assumption) (by assumption) (by decide)) [qD] at q1 q2
  simp (disch := first | assumption | (simp; done) | exact EvL.mulOk_of (by assumption) (by assumption) (by decide)) [runB, List.replicate, ir_num_product, gD, qD, q1, q2]
end
theorem num_mirrored_run (x : GQ) : num_mirrored.run [gD x] = some (.fz (gD x.bent), []) := by
  rw [run_num_mirrored]
  simp [runB, List.replicate, ir_num_mirrored, gD, qD]
theorem num_size_run {x : GQ} (hx : Gz 1900000 x) : num_size.run [gD x] = some (.fz (qD x.size), []) := by
  obtain ⟨a1, a2⟩ := hx.re; obtain ⟨b1, b2⟩ := hx.im
  have s1 := a2.mul a2; have s2 := s1.mul b2; have s3 := s2.mul b2
  have n0 := nz (nz (nz (den_ne x.re) (den_ne x.re)) (den_ne x.im)) (den_ne x.im)
  have q1 := reduced_run (n := x.re.num * x.re.num * x.im.den * x.im.den + x.im.num * x.im.num * x.re.den * x.re.den) (m := x.re.den * x.re.den * x.im.den * x.im.den) n0 (s3.mono (by decide))
  have e1 := num_den' x.re; have e2 := num_den' x.im
  have f1 := ic_ne (den_ne x.re); have f2 := ic_ne (den_ne x.im)
  have r1 : (((x.re.num * x.re.num * x.im.den * x.im.den + x.im.num * x.im.num * x.re.den * x.re.den : Int)) : Rat) / ((x.re.den * x.re.den * x.im.den * x.im.den : Int) : Rat) = x.size := by
    unfold GQ.size
    simp only [ic_add, ic_mul]; rw [alg3 f1 f2, ← e1, ← e2]
  rw [r1] at q1
  have t1 := a1.mul a1; have t2 := t1.mul b2; have t3 := b1.mul b1; have t4 := t3.mul a2
  rw [run_num_size]
  simp (disch := first | assumption | (simp; done) | exact EvL.mulOk_of (by assumption) (by assumption) (by decide)) [runB, List.replicate, ir_num_size, gD, qD] at q1 ⊢
  simp [q1]
theorem num_scaled_run {x : GQ} {r : Rat} (hx : Gz 1900000 x) (hr : Qz 1900000 r) : num_scaled.run [gD x, qD r] = some (.fz (gD (x * GQ.ofR r)), []) := by
  have e1 := frac_product_run hx.re hr
  have e2 := frac_product_run hx.im hr
  have e : x * GQ.ofR r = ⟨x.re * r, x.im * r⟩ := by ext <;> simp <;> grind
  rw [run_num_scaled, e]
  simp [runB, List.replicate, ir_num_scaled, gD, e1, e2]
theorem num_over_run {x y : GQ} (hx : Gz 500000 x) (hy : Gz 500000 y) (y0 : y ≠ 0) : num_over.run [gD x, gD y] = some (.fz (gD (x / y)), []) := by
  have e1 := num_mirrored_run y
  have hb := hy.bent
  have e2 := num_product_run (hx.mono (by decide)) (hb.mono (by decide))
  have e3 := num_size_run (hy.mono (by decide))
  have hs := hy.size
  have s0 := GQ.size_ne y0
  have e4 := frac_over_run (x := 1) (y := y.size) ⟨(Sz.lit (b := 1) (by decide)).mono (by decide), (Sz.lit (b := 1) (by decide)).mono (by decide)⟩ (hs.mono (by decide)) s0
  have sq : Qz 1100000 (1 / y.size) := by
    have n0 : y.size.num ≠ 0 := fun z => s0 (Rat.num_eq_zero.mp z)
    have := Qz.of (n := y.size.den) (d := y.size.num) n0 hs.2 hs.1
    have e : ((y.size.den : Int) : Rat) / (y.size.num : Rat) = 1 / y.size := by
      have q1 := num_den' y.size; have q2 := ic_ne (den_ne y.size); have q3 := ic_ne n0
      grind
    rw [e] at this
    exact this.mono (by decide)
  have e5 := num_scaled_run (x := x * y.bent) (r := 1 / y.size) ((hx.mul hb).mono (by decide)) (sq.mono (by decide))
  have e : x * y.bent * GQ.ofR (1 / y.size) = x / y := by
    rw [GQ.div_def]
    have h := s0
    ext
    · simp; grind
    · simp; grind
  rw [e] at e5
  have o : qD 1 = .tuple [.int 1, .int 1] := rfl
  rw [o] at e4
  rw [run_num_over]
  simp [runB, List.replicate, ir_num_over, e1, e2, e3, e4, e5]
section
variable {x y : GQ} (hx : Gz 1900000 x) (hy : Gz 1900000 y)
include hx hy
end
/-! the package's doors -/
section
variable {x y : GQ}
theorem g0D : gD 0 = .tuple [.tuple [.int 0, .int 1], .tuple [.int 0, .int 1]] := rfl
theorem g1D : gD 1 = .tuple [.tuple [.int 1, .int 1], .tuple [.int 0, .int 1]] := rfl
theorem eq_gD (x y : GQ) : eqD (gD x) (gD y) = some (decide (x = y)) := by
  unfold gD qD
  rw [eq_shaped (by simp [SeqAt.shaped, PyData.canLay0, PyData.canLayAll0, PyData.depth, PyData.depthAll]) (by simp [SeqAt.shaped, PyData.canLay0, PyData.canLayAll0, PyData.depth, PyData.depthAll]) (.inl fun x => by simp)]
  simp [PyData.eqv, PyData.eqvAll]
  rw [Bool.eq_iff_iff]
  simp
  constructor
  · rintro ⟨⟨a, b⟩, c, d⟩
    exact GQ.ext (Rat.ext a (by exact_mod_cast b)) (Rat.ext c (by exact_mod_cast d))
  · rintro rfl; exact ⟨⟨rfl, rfl⟩, rfl, rfl⟩
end
end Pk
end EvL

set_option Elab.async false
set_option linter.all false
set_option maxRecDepth 100000
set_option maxHeartbeats 1900000
namespace EvL
open PySem PySem.Spec PyProof.Rows L2
/-! ### numbers taken apart -/
@[simp] theorem ix_qD0 (r : Rat) : ixD (qD r) (.int 0) = some (.int r.num) := by simp [qD]
@[simp] theorem ix_qD1 (r : Rat) : ixD (qD r) (.int 1) = some (.int r.den) := by simp [qD]
@[simp] theorem ix_gD0 (z : GQ) : ixD (gD z) (.int 0) = some (qD z.re) := by simp [gD]
@[simp] theorem ix_gD1 (z : GQ) : ixD (gD z) (.int 1) = some (qD z.im) := by simp [gD]
@[simp] theorem ix_tN0 (z : GQ) : ixD (tN z) (.int 0) = some (.int (tri z).1) := by simp [tN, tD]
@[simp] theorem ix_tN1 (z : GQ) : ixD (tN z) (.int 1) = some (.int (tri z).2.1) := by simp [tN, tD]
@[simp] theorem ix_tN2 (z : GQ) : ixD (tN z) (.int 2) = some (.int (tri z).2.2) := by simp [tN, tD]
@[simp] theorem as_qD (t u : Tg) (r : Rat) (Γ : Ga) : asg (.tp [t, u]) (qD r) Γ = (asg t (.int r.num) Γ).bind fun Γ => asg u (.int r.den) Γ := by
  simp [qD]
@[simp] theorem as_gD (t u : Tg) (z : GQ) (Γ : Ga) : asg (.tp [t, u]) (gD z) Γ = (asg t (qD z.re) Γ).bind fun Γ => asg u (qD z.im) Γ := by
  simp [gD]
theorem sh_qD {b : Nat} {r : Rat} (h : Qz b r) (hb : b < 1920) : Sh 1 1207 (qD r) := .tup (.cons (.int h.1 hb) (.cons (.int h.2 hb) .nil))
theorem sh_gD {b : Nat} {z : GQ} (h : Gz b z) (hb : b < 1920) : Sh 2 2421 (gD z) := .tup (.cons (sh_qD h.re hb) (.cons (sh_qD h.im hb) .nil))
theorem tN_of {a b d : Int} (h : 0 < d) (g : Int.gcd (Int.gcd a b) d = 1) : tN ⟨(a : Rat) / (d : Rat), (b : Rat) / (d : Rat)⟩ = .tuple [.int a, .int b, .int d] := by
  unfold tN
  rw [tri_of h g rfl rfl]; rfl
theorem div1 (r : Rat) : r / 1 = r := by grind
theorem tN_int (a b : Int) : tN ⟨(a : Rat), (b : Rat)⟩ = .tuple [.int a, .int b, .int 1] := by
  have := tN_of (a := a) (b := b) (d := 1) (by decide) (by simp)
  rw [show ((1 : Int) : Rat) = 1 from rfl, div1, div1] at this
  exact this
theorem tN_0 : tN 0 = .tuple [.int 0, .int 0, .int 1] := tN_int 0 0
theorem tN_1 : tN 1 = .tuple [.int 1, .int 0, .int 1] := tN_int 1 0
theorem eq_tN (x y : GQ) : eqD (tN x) (tN y) = some (decide (x = y)) := by
  have inj : tri x = tri y ↔ x = y := ⟨fun h => tG_inj (by unfold tN; rw [h]), fun h => by rw [h]⟩
  unfold tN tD
  rw [eq_shaped (by simp [SeqAt.shaped, PyData.canLay0, PyData.canLayAll0, PyData.depth, PyData.depthAll]) (by simp [SeqAt.shaped, PyData.canLay0, PyData.canLayAll0, PyData.depth, PyData.depthAll]) (.inl fun x => by simp)]
  simp [PyData.eqv, PyData.eqvAll]
  rw [Bool.eq_iff_iff]
  simp
  rw [← inj]
  constructor
  · rintro ⟨a, b, c⟩
    exact Prod.ext a (Prod.ext b c)
  · intro h; rw [h]; exact ⟨rfl, rfl, rfl⟩
theorem Qz.nd {b : Nat} {n d : Int} (h : d ≠ 0) (h1 : Sz b n) (h2 : Sz b d) : Qz b ((n : Rat) / (d : Rat)) := Qz.of h h1 h2
theorem Gz.nd {b : Nat} {n m d : Int} (h : d ≠ 0) (h1 : Sz b n) (h2 : Sz b m) (h3 : Sz b d) : Gz b ⟨(n : Rat) / (d : Rat), (m : Rat) / (d : Rat)⟩ := by
  rcases Int.lt_or_lt_of_ne h with q | q
  · refine ⟨-n, -m, -d, by omega, ?_, ?_, h1.neg, h2.neg, h3.neg⟩
    · have := ic_ne h; simp only [ic_neg]; grind
    · have := ic_ne h; simp only [ic_neg]; grind
  · exact ⟨n, m, d, q, rfl, rfl, h1, h2, h3⟩
/-! the law's end: all draws right -/
theorem all_true' (n : Nat) : allD (List.replicate n (.bool true)) = some true := by
  induction n with
  | zero => rfl
  | succ n ih => rw [List.replicate_succ, allD, ih]; rfl
theorem map_const_rep {α : Type} (n : Nat) (x : α) : (List.range n).map (fun _ => x) = List.replicate n x := by
  induction n with
  | zero => rfl
  | succ n ih => rw [List.range_succ, List.map_append, ih, List.replicate_succ']; rfl
end EvL

set_option Elab.async false
set_option linter.all false
set_option maxRecDepth 100000
set_option maxHeartbeats 1900000
namespace EvL
open PySem PySem.Spec PyProof.Rows L2
/-! ### places and parts of lists -/
theorem ixN_of {len : Nat} {k : Int} {n : Nat} (hk : k = n) (h : n < len) : L2.ixN len k = some n := by
  subst hk
  unfold L2.ixN
  rw [if_pos (by omega), if_pos (by omega)]; simp
theorem atI_of {xs : List D} {k : Int} {n : Nat} (hk : k = n) : L2.atI xs k = xs[n]? := by
  unfold L2.atI
  by_cases h : n < xs.length
  · rw [ixN_of hk h]; rfl
  · subst hk
    unfold L2.ixN
    rw [if_pos (by omega), if_neg (by omega), List.getElem?_eq_none (by omega)]; rfl
theorem cut_to {xs : List D} {k : Int} {m : Nat} (hk : k = m) : cutD xs none (some k) = xs.take m := by
  subst hk
  unfold cutD
  rw [HT.sIx_none, HT.sIx_nat]
  simp
theorem cut_from {xs : List D} {k : Int} {m : Nat} (hk : k = m) : cutD xs (some k) none = xs.drop m := by
  subst hk
  unfold cutD
  rw [HT.sIx_none, HT.sIx_nat]
  by_cases h : m ≤ xs.length
  · rw [Nat.min_eq_left h, List.take_of_length_le (by simp)]
  · rw [Nat.min_eq_right (by omega), List.drop_of_length_le (Nat.le_refl _), List.drop_of_length_le (by omega)]; simp
/-! equality of lists and tuples -/
theorem lay_all {k : Nat} : ∀ {xs : List D}, (∀ x ∈ xs, x.canLay0 = true ∧ x.depth ≤ k) → PyData.canLayAll0 xs = true ∧ PyData.depthAll xs ≤ k
  | [], _ => ⟨by simp [PyData.canLayAll0], by simp [PyData.depthAll]⟩
  | x :: xs, h => by
    obtain ⟨a, b⟩ := h x (List.mem_cons_self ..)
    obtain ⟨c, d⟩ := lay_all fun y hy => h y (List.mem_cons_of_mem _ hy)
    exact ⟨by simp [PyData.canLayAll0, a, c], by simp only [PyData.depthAll]; omega⟩
theorem shaped_t {k : Nat} {xs : List D} (h : ∀ x ∈ xs, x.canLay0 = true ∧ x.depth ≤ k) (hk : k < 60) : SeqAt.shaped (.tuple xs) = true := by
  obtain ⟨a, b⟩ := lay_all h
  have e : ∀ n, n ≤ 60 → decide (n + 1 ≤ 64) = true := fun n hn => decide_eq_true (by omega)
  simp only [SeqAt.shaped, PyData.canLay0, a, PyData.depth, Bool.true_and]
  exact e _ (by omega)
theorem shaped_l {k : Nat} {xs : List D} (h : ∀ x ∈ xs, x.canLay0 = true ∧ x.depth ≤ k) (hk : k < 60) : SeqAt.shaped (.list xs) = true := by
  obtain ⟨a, b⟩ := lay_all h
  have e : ∀ n, n ≤ 60 → decide (n + 1 ≤ 64) = true := fun n hn => decide_eq_true (by omega)
  simp only [SeqAt.shaped, PyData.canLay0, a, PyData.depth, Bool.true_and]
  exact e _ (by omega)
theorem eq_lnil {k : Nat} {xs : List D} (h : ∀ x ∈ xs, x.canLay0 = true ∧ x.depth ≤ k) (hk : k < 60) : eqD (.list xs) (.list []) = some (decide (xs = [])) := by
  rw [eq_shaped (shaped_l h hk) (by decide) (.inl fun x => by simp)]
  cases xs <;> simp [PyData.eqv, PyData.eqvAll]
theorem lay_tN (z : GQ) : (tN z).canLay0 = true ∧ (tN z).depth ≤ 1 := by
  simp [tN, tD, PyData.canLay0, PyData.canLayAll0, PyData.depth, PyData.depthAll]
/-! ### rows as data -/
def rD (p : List GQ) : D := .tuple (p.map gD)
@[simp] theorem len_rD (p : List GQ) : biD .len [rD p] = some (.fz (.int p.length)) := by simp [rD]
/-- all numbers small -/
def Rz (b : Nat) (p : List GQ) : Prop := ∀ z ∈ p, Gz b z
theorem Rz.mono {a b : Nat} {p : List GQ} (h : Rz a p) (hb : a ≤ b) : Rz b p := fun z hz => (h z hz).mono hb
theorem Rz.co {b : Nat} {p : List GQ} (h : Rz b p) (hb : 1 ≤ b) (k : Nat) : Gz b (Po.co p k) := by
  by_cases hk : k < p.length
  · rw [Po.co_lt hk]; exact h _ (List.getElem_mem hk)
  · rw [Po.co_ge (by omega)]; exact Gz.zero hb
theorem Rz.of_co {b : Nat} {p : List GQ} (h : ∀ k, k < p.length → Gz b (Po.co p k)) : Rz b p := fun z hz => by
  obtain ⟨k, hk, rfl⟩ := List.mem_iff_getElem.mp hz
  rw [← Po.co_lt hk]; exact h k hk
theorem Rz.trim {b : Nat} {p : List GQ} (h : Rz b p) (hb : 1 ≤ b) : Rz b (Po.trim p) := Rz.of_co fun k _ => by rw [Po.co_trim]; exact h.co hb k
theorem Rz.map {b : Nat} {n : Nat} {f : Nat → GQ} (h : ∀ k, k < n → Gz b (f k)) : Rz b ((List.range n).map f) := fun z hz => by
  obtain ⟨k, hk, rfl⟩ := List.mem_map.mp hz
  exact h k (List.mem_range.mp hk)
theorem Gz.sum {c : Nat} {f : Nat → GQ} : ∀ {n : Nat}, (∀ j, j < n → Gz c (f j)) → Gz (n * (c + 1) + 1) (Po.sum n f)
  | 0, _ => Gz.zero (by omega)
  | n + 1, h => by
    have q := (Gz.sum (n := n) fun j hj => h j (by omega)).add (h n (by omega))
    rw [Po.sum_succ]
    exact q.mono (by rw [Nat.succ_mul]; omega)
/-- what repr may show, without the exact bounds -/
def Shw (k n : Nat) (d : D) : Prop := ∃ k' n', k' ≤ k ∧ n' ≤ n ∧ Sh k' n' d
theorem Sh.w {k n : Nat} {d : D} (h : Sh k n d) : Shw k n d := ⟨k, n, Nat.le_refl _, Nat.le_refl _, h⟩
theorem Shw.mono {k n k2 n2 : Nat} {d : D} (h : Shw k n d) (h1 : k ≤ k2) (h2 : n ≤ n2) : Shw k2 n2 d := by
  obtain ⟨a, b, c, e, f⟩ := h
  exact ⟨a, b, by omega, by omega, f⟩
theorem shws {k n : Nat} : ∀ {ds : List D}, (∀ d ∈ ds, Shw k n d) → ∃ k' n', k' ≤ k ∧ n' ≤ ds.length * (n + 2) ∧ Shs k' n' ds
  | [], _ => ⟨0, 0, by omega, by omega, .nil⟩
  | d :: ds, h => by
    obtain ⟨k1, n1, a1, a2, a3⟩ := h d (List.mem_cons_self ..)
    obtain ⟨k2, n2, b1, b2, b3⟩ := shws fun y hy => h y (List.mem_cons_of_mem _ hy)
    exact ⟨max k1 k2, n1 + n2 + 2, by omega, by rw [List.length_cons, Nat.succ_mul]; omega, .cons a3 b3⟩
theorem Shw.tup {k n : Nat} {ds : List D} (h : ∀ d ∈ ds, Shw k n d) : Shw (k + 1) (ds.length * (n + 2) + 3) (.tuple ds) := by
  obtain ⟨a, b, c, e, f⟩ := shws h
  exact ⟨a + 1, b + 3, by omega, by omega, .tup f⟩
theorem Shw.lst {k n : Nat} {ds : List D} (h : ∀ d ∈ ds, Shw k n d) : Shw (k + 1) (ds.length * (n + 2) + 3) (.list ds) := by
  obtain ⟨a, b, c, e, f⟩ := shws h
  exact ⟨a + 1, b + 2, by omega, by omega, .lst f⟩
theorem reprOk_w {k n : Nat} {d : D} (h : Shw k n d) (hd : (isDisplay d || isAtom d) = true) (hk : k ≤ 50) (hn : n ≤ 10000000) : reprOk d = true := by
  obtain ⟨a, b, c, e, f⟩ := h
  exact reprOk_of f hd (by omega) (by omega)
theorem all_cons {P : D → Prop} {d : D} {ds : List D} (h : P d) (g : ∀ x ∈ ds, P x) : ∀ x ∈ d :: ds, P x := fun x hx => by
  rcases List.mem_cons.mp hx with rfl | hx
  · exact h
  · exact g x hx
theorem all_nil {P : D → Prop} : ∀ x ∈ ([] : List D), P x := fun x hx => nomatch hx
namespace Pk
end Pk
end EvL

set_option Elab.async false
set_option linter.all false
set_option maxRecDepth 100000
set_option maxHeartbeats 1900000
namespace EvL
open PySem PySem.Spec PyProof.Rows L2
namespace Pk
end Pk
end EvL

set_option Elab.async false
set_option linter.all false
set_option maxRecDepth 100000
set_option maxHeartbeats 1900000
namespace EvL
open PySem PySem.Spec PyProof.Rows L2
instance (p : List GQ) : Decidable (Po.Row p) := inferInstanceAs (Decidable (Po.trim p = p))
namespace Pk
section
variable {b : Nat} {p q : List GQ} (hp : Rz b p) (hq : Rz b q) (rp : Po.Row p) (rq : Po.Row q) (h1 : 1 ≤ b) (lp : p.length ≤ 1000) (lq : q.length ≤ 1000)
include hp hq rp rq h1 lp lq
end
end Pk
end EvL

set_option Elab.async false
set_option linter.all false
set_option maxRecDepth 100000
set_option maxHeartbeats 1900000
namespace EvL
open PySem PySem.Spec PyProof.Rows L2
theorem tri_zero (z : GQ) : ((tri z).1 = 0 ∧ (tri z).2.1 = 0) ↔ z = 0 := by
  have e1 := tri_re z; have e2 := tri_im z
  have n := ic_ne (tri_ne z)
  constructor
  · rintro ⟨h1, h2⟩
    refine GQ.ext ?_ ?_
    · rw [e1, h1]; simp; grind
    · rw [e2, h2]; simp; grind
  · rintro rfl
    have h1 : ((tri 0).1 : Rat) = 0 := by simp at e1; grind
    have h2 : ((tri 0).2.1 : Rat) = 0 := by simp at e2; grind
    exact ⟨by exact_mod_cast h1, by exact_mod_cast h2⟩
namespace Pk
end Pk
end EvL

set_option Elab.async false
set_option linter.all false
set_option maxRecDepth 100000
set_option maxHeartbeats 1900000
namespace EvL
open PySem PySem.Spec PyProof.Rows L2
namespace Pk
def pD (x : Int × Int) : D := .tuple [.int x.1, .int x.2]
@[simp] theorem as_pD (t u : Tg) (x : Int × Int) (Γ : Ga) : asg (.tp [t, u]) (pD x) Γ = (asg t (.int x.1) Γ).bind fun Γ => asg u (.int x.2) Γ := by
  simp [pD]
end Pk
end EvL

set_option Elab.async false
set_option linter.all false
set_option maxRecDepth 100000
set_option maxHeartbeats 1900000
namespace EvL
open PySem PySem.Spec PyProof.Rows L2
namespace Pk
end Pk
end EvL

set_option Elab.async false
set_option linter.all false
set_option maxRecDepth 100000
set_option maxHeartbeats 1900000
namespace EvL
open PySem PySem.Spec PyProof.Rows L2
theorem Rz.add {b c : Nat} {p q : List GQ} (hp : Rz b p) (hq : Rz c q) (h1 : 1 ≤ b) (h2 : 1 ≤ c) : Rz (b + c + 1) (Po.add p q) := Rz.of_co fun k _ => by
  rw [Po.co_add]; exact (hp.co h1 k).add (hq.co h2 k)
theorem Rz.neg {b : Nat} {p : List GQ} (h : Rz b p) : Rz b (p.map fun z => -z) := fun z hz => by
  obtain ⟨y, hy, rfl⟩ := List.mem_map.mp hz
  exact (h y hy).neg
theorem Rz.mul {b c : Nat} {p q : List GQ} (hp : Rz b p) (hq : Rz c q) (h1 : 1 ≤ b) (h2 : 1 ≤ c) : Rz (p.length * (b + c + 2) + 1) (Po.mul p q) := Rz.of_co fun k _ => by
  rw [Po.co_mul, Po.conv_len (Nat.le_refl p.length)]
  exact Gz.sum (c := b + c + 1) fun j hj => by
    split
    · exact (hp.co h1 j).mul (hq.co h2 _)
    · exact Gz.zero (by omega)
theorem Gz.ev {b c : Nat} {x : GQ} (hx : Gz c x) (hc : 1 ≤ c) : ∀ {p : List GQ}, Rz b p → Gz ((p.length + 1) * (b + c + 2)) (Po.ev p x)
  | [], _ => Gz.zero (by simp)
  | a :: p, h => by
    have ih := Gz.ev hx hc (p := p) fun z hz => h z (List.mem_cons_of_mem _ hz)
    have ga := h a (List.mem_cons_self ..)
    rw [Po.ev_cons]
    refine (ga.add (hx.mul ih)).mono ?_
    rw [List.length_cons, Nat.succ_mul (p.length + 1)]; omega
namespace Pk
end Pk
end EvL

set_option Elab.async false
set_option linter.all false
set_option maxRecDepth 100000
namespace EvL
namespace Po
section
variable {K : Type} [Lean.Grind.Field K]
/-! the row about a place -/
def sh (x : K) : List K → List K
  | [] => []
  | a :: p => add [a] (add ((sh x p).map (x * ·)) (0 :: sh x p))
end
end Po
namespace GQ
end GQ
end EvL

set_option Elab.async false
set_option linter.all false
set_option maxRecDepth 100000
set_option maxHeartbeats 1900000
namespace EvL
open PySem PySem.Spec PyProof.Rows L2
/-! ### rows with one number below -/
def RC (b : Nat) (p : List GQ) : Prop := ∃ d : Int, 0 < d ∧ Sz b d ∧ ∀ k, ∃ n m : Int, (Po.co p k).re = (n : Rat) / (d : Rat) ∧ (Po.co p k).im = (m : Rat) / (d : Rat) ∧ Sz b n ∧ Sz b m
theorem RC.mono {a b : Nat} {p : List GQ} (h : RC a p) (hb : a ≤ b) : RC b p := by
  obtain ⟨d, h0, h1, h2⟩ := h
  exact ⟨d, h0, h1.mono hb, fun k => by
    obtain ⟨n, m, e1, e2, s1, s2⟩ := h2 k
    exact ⟨n, m, e1, e2, s1.mono hb, s2.mono hb⟩⟩
theorem RC.gz {b : Nat} {p : List GQ} (h : RC b p) (k : Nat) : Gz b (Po.co p k) := by
  obtain ⟨d, h0, h1, h2⟩ := h
  obtain ⟨n, m, e1, e2, s1, s2⟩ := h2 k
  exact ⟨n, m, d, h0, e1, e2, s1, s2, h1⟩
theorem RC.rz {b : Nat} {p : List GQ} (h : RC b p) : Rz b p := Rz.of_co fun k _ => h.gz k
theorem sz0 (b : Nat) : Sz b (0 : Int) := Sz.lit (by simp; exact Nat.pow_pos (by decide))
theorem RC.nil {b : Nat} (hb : 1 ≤ b) : RC b [] := ⟨1, by decide, Sz.mono (a := 1) (Sz.lit (by decide)) hb, fun k => ⟨0, 0, by simp; grind, by simp; grind, sz0 b, sz0 b⟩⟩
theorem RC.trim {b : Nat} {p : List GQ} (h : RC b p) : RC b (Po.trim p) := by
  obtain ⟨d, h0, h1, h2⟩ := h
  exact ⟨d, h0, h1, fun k => by rw [Po.co_trim]; exact h2 k⟩
/-- one number below for one more number -/
theorem RC.cons {b c : Nat} {a : GQ} {p : List GQ} (ha : Gz c a) (h : RC b p) : RC (b + c) (a :: p) := by
  obtain ⟨d, h0, h1, h2⟩ := h
  obtain ⟨n, m, e, g0, g1, g2, t1, t2, t3⟩ := ha
  have hd := ic_ne (show d ≠ 0 by omega)
  have he := ic_ne (show e ≠ 0 by omega)
  refine ⟨d * e, Int.mul_pos h0 g0, h1.mul t3, fun k => ?_⟩
  cases k with
  | zero => exact ⟨n * d, m * d, by simp only [Po.co_zero, g1, ic_mul]; grind, by simp only [Po.co_zero, g2, ic_mul]; grind, (t1.mul h1).mono (by omega), (t2.mul h1).mono (by omega)⟩
  | succ k =>
    obtain ⟨n', m', e1, e2, s1, s2⟩ := h2 k
    exact ⟨n' * e, m' * e, by simp only [Po.co_succ, e1, ic_mul]; grind, by simp only [Po.co_succ, e2, ic_mul]; grind, s1.mul t3, s2.mul t3⟩
theorem RC.of {b : Nat} {p : List GQ} (h : Rz b p) : RC (p.length * b + 1) p := by
  induction p with
  | nil => exact RC.nil (by omega)
  | cons a p ih =>
    have := RC.cons (h a (List.mem_cons_self ..)) (ih fun z hz => h z (List.mem_cons_of_mem _ hz))
    exact this.mono (by rw [List.length_cons, Nat.succ_mul]; omega)
/-- numbers that are sums of two and of one times another one -/
theorem RC.lin {b c : Nat} {p q : List GQ} {x : GQ} (h : RC b p) (hx : Gz c x) (f g : Nat → Nat) (e : ∀ k, (∃ i j, Po.co q k = Po.co p i + x * Po.co p j) ∨ ∃ i, Po.co q k = Po.co p i) : RC (b + c + 2) q := by
  obtain ⟨d, h0, h1, h2⟩ := h
  obtain ⟨u, v, w, g0, g1, g2, t1, t2, t3⟩ := hx
  have hd := ic_ne (show d ≠ 0 by omega)
  have hw := ic_ne (show w ≠ 0 by omega)
  refine ⟨d * w, Int.mul_pos h0 g0, (h1.mul t3).mono (by omega), fun k => ?_⟩
  rcases e k with ⟨i, j, ek⟩ | ⟨i, ek⟩
  · obtain ⟨n, m, e1, e2, s1, s2⟩ := h2 i
    obtain ⟨n', m', e1', e2', s1', s2'⟩ := h2 j
    refine ⟨n * w + (u * n' - v * m'), m * w + (u * m' + v * n'), ?_, ?_, ((s1.mul t3).add ((t1.mul s1').sub (t2.mul s2'))).mono (by omega), ((s2.mul t3).add ((t1.mul s2').add (t2.mul s1'))).mono (by omega)⟩
    · rw [ek, GQ.add_re, GQ.mul_re, e1, e1', e2', g1, g2]; simp only [ic_mul, ic_add, ic_sub]; grind
    · rw [ek, GQ.add_im, GQ.mul_im, e2, e1', e2', g1, g2]; simp only [ic_mul, ic_add, ic_sub]; grind
  · obtain ⟨n, m, e1, e2, s1, s2⟩ := h2 i
    exact ⟨n * w, m * w, by rw [ek, e1]; simp only [ic_mul]; grind, by rw [ek, e2]; simp only [ic_mul]; grind, (s1.mul t3).mono (by omega), (s2.mul t3).mono (by omega)⟩
end EvL

set_option Elab.async false
set_option linter.all false
set_option maxRecDepth 100000
set_option maxHeartbeats 1900000
namespace EvL
open PySem PySem.Spec PyProof.Rows L2
namespace Pk
end Pk
end EvL

set_option Elab.async false
set_option linter.all false
set_option maxRecDepth 100000
set_option maxHeartbeats 1900000
namespace EvL
open PySem PySem.Spec PyProof.Rows L2
namespace Pk
end Pk
end EvL

set_option Elab.async false
set_option linter.all false
set_option maxRecDepth 100000
set_option maxHeartbeats 8000000
namespace EvL
open PySem PySem.Spec PyProof.Rows L2
theorem size_mul (x y : GQ) : (x * y).size = x.size * y.size := by
  unfold GQ.size
  simp only [GQ.mul_re, GQ.mul_im]; grind
theorem bent_add (x y : GQ) : (x + y).bent = x.bent + y.bent := by ext <;> simp; grind
theorem bent_mul (x y : GQ) : (x * y).bent = x.bent * y.bent := by ext <;> simp <;> grind
theorem bent_bent (x : GQ) : x.bent.bent = x := by ext <;> simp
theorem bent_zero : (0 : GQ).bent = 0 := by ext <;> simp
theorem bent_ne {x : GQ} (h : x ≠ 0) : x.bent ≠ 0 := fun z => h (by rw [← bent_bent x, z, bent_zero])
namespace Pk
end Pk
end EvL

set_option Elab.async false
set_option linter.all false
set_option maxRecDepth 100000
set_option maxHeartbeats 1900000
namespace EvL
open PySem PySem.Spec PyProof.Rows L2
namespace Pk
/-! ### family 2: the laws' own numbers -/
@[simp] theorem common_eq : _law_common = F1.gcd := rfl
theorem cut2_run {k m : Nat} {a b d : Int} (h : 0 < d) (h2 : Sz k b) (h3 : Sz m d) (hk : k ≤ 90000000 := by decide) (hm : m ≤ 8900000 := by decide) : _law_cut_v2.run [.int a, .int b, .int d] = some (.fz (tN ⟨(a : Rat) / (d : Rat), (b : Rat) / (d : Rat)⟩), []) := by
  have g1 := F1.gcd_run (a := a) (b := b) h2
  have g2 := F1.gcd_run (a := Int.gcd a b) (b := d) h3
  have s0 := cutG_ne (a := a) (b := b) (show d ≠ 0 by omega)
  have s1 : Sz m (cutG a b d) := sz_dvd' (cut_mul (a := a) (b := b) (show d ≠ 0 by omega)).2.2 (by omega) h3
  have v : ∀ x, divOk x (cutG a b d) = true := fun x => divOk_of s1 (by omega) s0
  unfold tN
  rw [run__law_cut_v2, tri_cut (by omega)]
  have e : cutG a b d = (Int.gcd (Int.gcd a b) d : Int) := if_neg (by omega)
  rw [e] at v
  simp [runB, List.replicate, ir__law_cut_v2, g1, g2, v, tD, cut, e]
theorem cut2_ex {k : Nat} {a b d : Int} (h : 0 < d) (h1 : Sz k a) (h2 : Sz k b) (h3 : Sz k d) (hk : k ≤ 8900000 := by decide) : ∃ z : GQ, _law_cut_v2.run [.int a, .int b, .int d] = some (.fz (tN z), []) ∧ Gz k z ∧ z.re = (a : Rat) / (d : Rat) ∧ z.im = (b : Rat) / (d : Rat) :=
  ⟨_, cut2_run h h2 h3 (by omega) hk, ⟨a, b, d, h, rfl, rfl, h1, h2, h3⟩, rfl, rfl⟩
theorem fraction2_run {n m : Int} (h : 0 < m) (hm : Sz 8900000 m) : _law_fraction_v2.run [.int n, .int m] = some (.fz (qD ((n : Rat) / (m : Rat))), []) := by
  have g := F1.gcd_run (a := n) hm
  have s1 : divOk n (sg n m) = true := divOk_of (sg_sz (by omega) hm) (by decide) (sg_ne (by omega))
  have s2 : divOk m (sg n m) = true := divOk_of (sg_sz (by omega) hm) (by decide) (sg_ne (by omega))
  rw [run__law_fraction_v2, ← fD_rat (by omega)]
  have e : sg n m = (Int.gcd n m : Int) := if_pos h
  rw [e] at s1 s2
  simp [runB, List.replicate, ir__law_fraction_v2, g, s1, s2, fD, fr, e]
section
variable {x y : GQ} (hx : Gz 1900000 x) (hy : Gz 1900000 y)
include hx hy
theorem less2_run : _law_less_v2.run [tN x, tN y] = some (.fz (tN (x - y)), []) := by
  obtain ⟨x1, x2, x3⟩ := hx.tri; obtain ⟨y1, y2, y3⟩ := hy.tri
  have n1 := tri_ne x; have n2 := tri_ne y
  have q := cut2_run (a := (tri x).1 * (tri y).2.2 - (tri y).1 * (tri x).2.2) (b := (tri x).2.1 * (tri y).2.2 - (tri y).2.1 * (tri x).2.2) (d := (tri x).2.2 * (tri y).2.2) (Int.mul_pos (tri_pos x) (tri_pos y)) ((x2.mul y3).sub (y2.mul x3)) (x3.mul y3)
  have m1 := ic_ne n1; have m2 := ic_ne n2
  have e1 := tri_re x; have e2 := tri_im x; have e3 := tri_re y; have e4 := tri_im y
  have r : (⟨(((tri x).1 * (tri y).2.2 - (tri y).1 * (tri x).2.2 : Int) : Rat) / (((tri x).2.2 * (tri y).2.2 : Int) : Rat), (((tri x).2.1 * (tri y).2.2 - (tri y).2.1 * (tri x).2.2 : Int) : Rat) / (((tri x).2.2 * (tri y).2.2 : Int) : Rat)⟩ : GQ) = x - y := by
    simp only [ic_sub, ic_mul]
    ext
    · simp; grind
    · simp; grind
  rw [r] at q
  rw [run__law_less_v2]
  simp (disch := first | assumption | (simp; done) | exact EvL.mulOk_of (by assumption) (by assumption) (by decide)) [runB, List.replicate, ir__law_less_v2, tN, tD] at q ⊢
  simp [q]
theorem times2_run : _law_times_v2.run [tN x, tN y] = some (.fz (tN (x * y)), []) := by
  obtain ⟨x1, x2, x3⟩ := hx.tri; obtain ⟨y1, y2, y3⟩ := hy.tri
  have n1 := tri_ne x; have n2 := tri_ne y
  have q := cut2_run (a := (tri x).1 * (tri y).1 - (tri x).2.1 * (tri y).2.1) (b := (tri x).1 * (tri y).2.1 + (tri x).2.1 * (tri y).1) (d := (tri x).2.2 * (tri y).2.2) (Int.mul_pos (tri_pos x) (tri_pos y)) ((x1.mul y2).add (x2.mul y1)) (x3.mul y3)
  have m1 := ic_ne n1; have m2 := ic_ne n2
  have e1 := tri_re x; have e2 := tri_im x; have e3 := tri_re y; have e4 := tri_im y
  have r : (⟨(((tri x).1 * (tri y).1 - (tri x).2.1 * (tri y).2.1 : Int) : Rat) / (((tri x).2.2 * (tri y).2.2 : Int) : Rat), (((tri x).1 * (tri y).2.1 + (tri x).2.1 * (tri y).1 : Int) : Rat) / (((tri x).2.2 * (tri y).2.2 : Int) : Rat)⟩ : GQ) = x * y := by
    simp only [ic_sub, ic_add, ic_mul]
    ext
    · simp; grind
    · simp; grind
  rw [r] at q
  rw [run__law_times_v2]
  simp (disch := first | assumption | (simp; done) | exact EvL.mulOk_of (by assumption) (by assumption) (by decide)) [runB, List.replicate, ir__law_times_v2, tN, tD] at q ⊢
  simp [q]
theorem over2_run (hk : Gz 2900000 x) (hl : Gz 2900000 y) (y0 : y ≠ 0) : _law_over_v2.run [tN x, tN y] = some (.fz (tN (x / y)), []) := by
  obtain ⟨x1, x2, x3⟩ := hk.tri; obtain ⟨y1, y2, y3⟩ := hl.tri
  have n1 := tri_ne x; have n2 := tri_ne y
  have m1 := ic_ne n1; have m2 := ic_ne n2
  have e1 := tri_re x; have e2 := tri_im x; have e3 := tri_re y; have e4 := tri_im y
  have s0 := GQ.size_ne y0
  have es : y.size = (((tri y).1 * (tri y).1 + (tri y).2.1 * (tri y).2.1 : Int) : Rat) / (((tri y).2.2 * (tri y).2.2 : Int) : Rat) := by
    unfold GQ.size
    rw [e3, e4, ic_mul, ic_add, ic_mul, ic_mul]; grind
  have t0 : (tri y).1 * (tri y).1 + (tri y).2.1 * (tri y).2.1 ≠ 0 := fun z => s0 (by rw [es, z]; grind)
  have tp : 0 < (tri y).1 * (tri y).1 + (tri y).2.1 * (tri y).2.1 := by
    have sq : ∀ i : Int, 0 ≤ i * i := fun i => by rcases Int.le_total 0 i with q | q; exact Int.mul_nonneg q q; exact Int.mul_nonneg_of_nonpos_of_nonpos q q
    have := sq (tri y).1; have := sq (tri y).2.1; omega
  have z1 := (y1.mul y1).add (y2.mul y2)
  have z2 := (x1.mul y1).add (x2.mul y2)
  have z3 := (x2.mul y1).sub (x1.mul y2)
  have h0 : ((tri y).1 : Rat) * ((tri y).1 : Rat) + ((tri y).2.1 : Rat) * ((tri y).2.1 : Rat) ≠ 0 := by
    have := ic_ne t0
    simpa only [ic_add, ic_mul] using this
  have q := cut2_run (a := ((tri x).1 * (tri y).1 + (tri x).2.1 * (tri y).2.1) * (tri y).2.2) (b := ((tri x).2.1 * (tri y).1 - (tri x).1 * (tri y).2.1) * (tri y).2.2) (d := (tri x).2.2 * ((tri y).1 * (tri y).1 + (tri y).2.1 * (tri y).2.1)) (Int.mul_pos (tri_pos x) tp) (z3.mul y3) (x3.mul z1)
  have r : (⟨((((tri x).1 * (tri y).1 + (tri x).2.1 * (tri y).2.1) * (tri y).2.2 : Int) : Rat) / (((tri x).2.2 * ((tri y).1 * (tri y).1 + (tri y).2.1 * (tri y).2.1) : Int) : Rat), ((((tri x).2.1 * (tri y).1 - (tri x).1 * (tri y).2.1) * (tri y).2.2 : Int) : Rat) / (((tri x).2.2 * ((tri y).1 * (tri y).1 + (tri y).2.1 * (tri y).2.1) : Int) : Rat)⟩ : GQ) = x / y := by
    rw [GQ.div_def]
    refine GQ.ext ?_ ?_
    · rw [GQ.mul_re, GQ.inv_re, GQ.inv_im]
      unfold GQ.size
      simp only [ic_sub, ic_add, ic_mul]
      rw [alg4 m1 m2 h0, ← e1, ← e2, ← e3, ← e4]
    · rw [GQ.mul_im, GQ.inv_re, GQ.inv_im]
      unfold GQ.size
      simp only [ic_sub, ic_add, ic_mul]
      rw [alg5 m1 m2 h0, ← e1, ← e2, ← e3, ← e4]
  rw [r] at q
  have w1 := x1.mul y1
  rw [run__law_over_v2]
  simp (disch := first | assumption | (simp; done) | exact EvL.mulOk_of (by assumption) (by assumption) (by decide)) [runB, List.replicate, ir__law_over_v2, tN, tD] at q ⊢
  simp [q]
end
theorem mirror_run (x : GQ) : _law_mirror.run [tN x] = some (.fz (tN x.bent), []) := by
  have e : tri x.bent = ((tri x).1, -(tri x).2.1, (tri x).2.2) := tri_of (tri_pos x) (by
    have := tri_cop x
    rw [Int.gcd_neg]; exact this) (tri_re x) (by
    rw [GQ.bent_im, ic_neg]
    have e1 := tri_im x
    have e2 := ic_ne (tri_ne x)
    grind)
  rw [run__law_mirror]
  simp [runB, List.replicate, ir__law_mirror, tN, tD, e]
theorem number2_run {x : GQ} (hx : Gz 8900000 x) : _law_number_v2.run [tN x] = some (.fz (gD x), []) := by
  obtain ⟨x1, x2, x3⟩ := hx.tri
  have q1 := fraction2_run (n := (tri x).1) (tri_pos x) x3
  have q2 := fraction2_run (n := (tri x).2.1) (tri_pos x) x3
  rw [← tri_re] at q1
  rw [← tri_im] at q2
  rw [run__law_number_v2]
  simp [runB, List.replicate, ir__law_number_v2, tN, tD, gD, q1, q2]
theorem nought_run (x : GQ) : _law_is_nought.run [tN x] = some (.fz (.bool (decide (x = 0))), []) := by
  have iff := tri_zero x
  have e : decide (x = 0) = (decide ((tri x).1 = 0) && decide ((tri x).2.1 = 0)) := by
    by_cases h : x = 0
    · obtain ⟨a, b⟩ := iff.mpr h
      rw [decide_eq_true h, decide_eq_true a, decide_eq_true b]; rfl
    · rw [decide_eq_false h]
      by_cases h1 : (tri x).1 = 0
      · have h2 : ¬ (tri x).2.1 = 0 := fun z => h (iff.mp ⟨h1, z⟩)
        rw [decide_eq_true h1, decide_eq_false h2]; rfl
      · rw [decide_eq_false h1]; rfl
  rw [run__law_is_nought, e]
  by_cases h1 : (tri x).1 = 0 <;> simp [runB, List.replicate, ir__law_is_nought, h1]
theorem read_run {x : GQ} (hx : Gz 1900000 x) : _law_read.run [gD x] = some (.fz (tN x), []) := by
  obtain ⟨a1, a2⟩ := hx.re; obtain ⟨b1, b2⟩ := hx.im
  have q := cut2_run (a := x.re.num * x.im.den) (b := x.im.num * x.re.den) (d := x.re.den * x.im.den) (Int.mul_pos (den_pos _) (den_pos _)) (b1.mul a2) (a2.mul b2)
  have e : (⟨((x.re.num * x.im.den : Int) : Rat) / ((x.re.den * x.im.den : Int) : Rat), ((x.im.num * x.re.den : Int) : Rat) / ((x.re.den * x.im.den : Int) : Rat)⟩ : GQ) = x := by
    have e1 := num_den' x.re; have e2 := num_den' x.im
    have f1 := ic_ne (den_ne x.re); have f2 := ic_ne (den_ne x.im)
    refine GQ.ext ?_ ?_
    · simp only [ic_mul]; grind
    · simp only [ic_mul]; grind
  rw [e] at q
  rw [run__law_read]
  simp (disch := first | assumption | (simp; done) | exact EvL.mulOk_of (by assumption) (by assumption) (by decide)) [runB, List.replicate, ir__law_read, q]
/-! draws -/
theorem draw_run {c m : Int} {l : List D} (h : F1.Pail c l) (hc : c < 1000000) (h0 : 0 < m) (h1 : m < 1073741824) : ∃ f l', _law_draw.run [.list l, .int m] = some (.fz (.int f), l') ∧ 0 ≤ f ∧ f < m ∧ F1.Pail (c + 1) l' := by
  obtain ⟨p0, p1, p2, rfl, a1, a2, b1, b2⟩ := h
  by_cases hp : 0 < p0
  · refine ⟨p0 % m, [.int (p0 / m), .int p1, .int p2], ?_, Int.emod_nonneg _ (by omega), Int.emod_lt_of_pos _ h0, _, _, _, rfl, a1, a2, b1, by omega⟩
    simp [_law_draw, runB, List.replicate, ir__law_draw, hp, h0, h1]
  · have m1 : mulOk p1 48271 = true := mulOk_of (a := 31) (b := 16) (Sz.of_lt (by omega) (by omega)) (Sz.lit (by decide)) (by decide)
    have m2 : mulOk 37 (p2 + 1) = true := mulOk_of (a := 6) (b := 31) (Sz.lit (by decide)) (Sz.of_lt (by omega) (by omega)) (by decide)
    have m3 : mulOk 2 (p2 + 1) = true := mulOk_of (a := 2) (b := 31) (Sz.lit (by decide)) (Sz.of_lt (by omega) (by omega)) (by decide)
    obtain ⟨one, hone⟩ : ∃ one : Int, one = (p1 * 48271 + 37 * (p2 + 1) + 11).fmod 2147483629 := ⟨_, rfl⟩
    have o1 : 0 ≤ one := by rw [hone]; exact Int.fmod_nonneg_of_pos _ (by decide)
    have o2 : one < 2147483629 := by rw [hone]; exact Int.fmod_lt_of_pos _ (by decide)
    have so : Sz 31 one := Sz.of_lt (by omega) (by omega)
    have d1 : divOk one 65537 = true := divOk_of (b := 20) (Sz.lit (by decide)) (by decide) (by decide)
    have sf : Sz 31 (one.fdiv 65537) := so.fdiv (by decide)
    have st : Sz 31 (2 * (p2 + 1)) := Sz.of_lt (by omega) (by omega)
    have ss := (sf.add st).add (Sz.lit (b := 1) (i := 1) (by decide))
    have m4 : mulOk one (one.fdiv 65537 + 2 * (p2 + 1) + 1) = true := mulOk_of so ss (by decide)
    have d2 : ∀ x, divOk x 509 = true := fun x => divOk_of (b := 20) (Sz.lit (by decide)) (by decide) (by decide)
    have hm : m ≠ 0 := by omega
    refine ⟨((one * (one.fdiv 65537 + 2 * (p2 + 1) + 1)).fdiv 509).fmod m, [.int p0, .int one, .int (p2 + 1)], ?_, Int.fmod_nonneg_of_pos _ h0, Int.fmod_lt_of_pos _ h0, _, _, _, rfl, o1, o2, by omega, by omega⟩
    simp [_law_draw, runB, List.replicate, ir__law_draw, hp, m1, m2, m3, ← hone, d1, m4, d2, hm]
theorem pick_run {c : Int} {l xs : List D} (h : F1.Pail c l) (hc : c < 1000000) (h0 : xs ≠ []) (h1 : xs.length < 1000000) (d : D) (hd : d = .tuple xs ∨ d = .list xs) : ∃ f l', _law_pick.run [.list l, d] = some (.fz f, l') ∧ f ∈ xs ∧ F1.Pail (c + 1) l' := by
  have hl : 0 < xs.length := List.length_pos_iff.mpr h0
  obtain ⟨f, l', e, f0, f1, hp⟩ := draw_run (m := xs.length) h hc (by omega) (by omega)
  have hf : f.toNat < xs.length := by omega
  refine ⟨xs[f.toNat], l', ?_, List.getElem_mem hf, hp⟩
  have e2 : L2.atI xs f = some xs[f.toNat] := by
    rw [atI_of (n := f.toNat) (by omega)]
    exact List.getElem?_eq_getElem hf
  rcases hd with rfl | rfl
  · simp [_law_pick, runB, List.replicate, ir__law_pick, e, e2]
  · simp [_law_pick, runB, List.replicate, ir__law_pick, e, e2]
end Pk
end EvL

set_option Elab.async false
set_option linter.all false
set_option maxRecDepth 100000
set_option maxHeartbeats 1900000
namespace EvL
open PySem PySem.Spec PyProof.Rows L2
namespace Pk
/-! ### family 2: draws -/
theorem tN1 : PyData.tuple [.int 1, .int 0, .int 1] = tN 1 := tN_1.symm
theorem tN0 : PyData.tuple [.int 0, .int 0, .int 1] = tN 0 := tN_0.symm
end Pk
end EvL

set_option Elab.async false
set_option linter.all false
set_option maxRecDepth 100000
set_option maxHeartbeats 1900000
namespace EvL
open PySem PySem.Spec PyProof.Rows L2
namespace Pk
/-- a bound as family 2 draws it -/
structure Bd (b : Rat) : Prop where
  pos : 0 < b
  sz : Qz 7 b
theorem Bd.one : Bd 1 := ⟨by decide, Sz.lit (by decide), Sz.lit (by decide)⟩
theorem Bd.ne {b : Rat} (h : Bd b) : b ≠ 0 := fun z => by have := h.pos; rw [z] at this; exact absurd this (by decide)
theorem Bd.num {b : Rat} (h : Bd b) : 1 ≤ b.num ∧ b.num < 128 ∧ 1 ≤ (b.den : Int) ∧ (b.den : Int) < 128 := by
  have h1 := h.sz.1; have h2 := h.sz.2
  unfold Sz at h1 h2
  have h3 : 0 < b.num := by
    have h5 : 0 ≤ b.num := Rat.num_nonneg.mpr (by have := h.pos; grind)
    have h6 : b.num ≠ 0 := fun z => h.ne (Rat.num_eq_zero.mp z)
    omega
  have h4 := den_pos b
  omega
theorem ratio_pos {a d : Int} (ha : 1 ≤ a) (hd : 1 ≤ d) : (0 : Rat) < (a : Rat) / (d : Rat) := by
  have dp : (0 : Rat) < (d : Rat) := by exact_mod_cast (show 0 < d by omega)
  rw [Rat.lt_div_iff dp]
  have : (0 : Rat) < (a : Rat) := by exact_mod_cast (show 0 < a by omega)
  simpa using this
end Pk
end EvL

set_option Elab.async false
set_option linter.all false
set_option maxRecDepth 100000
set_option maxHeartbeats 1900000
namespace EvL
open PySem PySem.Spec PyProof.Rows L2
namespace Pk
/-! ### the script's cells, family 2 -/
theorem sz_bits {k : Int} (h : Builtin.Int.intBits k ≤ 1048576) : Sz 1048576 k := by
  unfold Sz
  unfold Builtin.Int.intBits at h
  by_cases h0 : k = 0
  · subst h0; exact Nat.pow_pos (by decide)
  · have e : (k == 0) = false := by simpa using h0
    rw [e] at h
    have hn : k.natAbs ≠ 0 := by omega
    have h : k.natAbs.log2 + 1 ≤ 1048576 := by simpa using h
    exact (Nat.log2_lt hn).mp (by omega)
theorem pot_loop {s t : MV} {f : MV} : ∀ {xs : List (Nat × Int)} {m : Int} {a b : MV}, (∀ x ∈ xs, x.1 < 1000 ∧ Sz 1048576 x.2) → 0 ≤ m → m < 2147483629 →
    ∃ (m' : Int) (a' b' : MV), 0 ≤ m' ∧ m' < 2147483629 ∧ evF (.tp [(.nm 3), (.nm 4)]) (evB [(.set 2 (.bin .mod (.bi .int [(.bin .add (.bin .add (.bin .mul (.var 2) (.cst (.int (69621)))) (.bin .mul (.bi .int [(.var 4)]) (.bin .add (.bin .mul (.cst (.int (2))) (.var 3)) (.cst (.int (5)))))) (.cst (.int (40487))))]) (.cst (.int (2147483629)))))]) (xs.map fun x => .tuple [.int x.1, .int x.2]) [s, t, .fz (.int m), a, b, f] =
      some (.nx [s, t, .fz (.int m'), a', b', f])
  | [], m, a, b, _, h0, h1 => ⟨m, a, b, h0, h1, rfl⟩
  | x :: xs, m, a, b, hx, h0, h1 => by
    obtain ⟨k, i⟩ := x
    obtain ⟨hk, hi⟩ := hx (k, i) (List.mem_cons_self ..)
    simp only at hk hi
    have sk : Sz 12 (2 * (k : Int) + 5) := Sz.of_lt (by omega) (by omega)
    have m1 : mulOk m 69621 = true := mulOk_of (a := 31) (b := 17) (Sz.of_lt (by omega) (by omega)) (Sz.lit (by decide)) (by decide)
    have m2 : mulOk i (2 * (k : Int) + 5) = true := mulOk_of hi sk (by decide)
    have m3 : mulOk 2 (k : Int) = true := mulOk_of (a := 2) (b := 10) (Sz.lit (by decide)) (Sz.of_lt (by omega) (by omega)) (by decide)
    obtain ⟨m', a', b', a0, a1, q⟩ := pot_loop (s := s) (t := t) (f := f) (xs := xs) (m := (m * 69621 + i * (2 * (k : Int) + 5) + 40487).fmod 2147483629) (a := .fz (.int k)) (b := .fz (.int i)) (fun y hy => hx y (List.mem_cons_of_mem _ hy)) (Int.fmod_nonneg_of_pos _ (by decide)) (Int.fmod_lt_of_pos _ (by decide))
    refine ⟨m', a', b', a0, a1, ?_⟩
    rw [List.map_cons, evF]
    simp [m1, m2, m3]
    exact q
theorem pot_run {ns : List Int} {t : Nat} (h1 : t < 1000) (hl : ns.length ≤ 63) (hb : ∀ k ∈ ns, Builtin.Int.intBits k ≤ 1048576) : ∃ l, _law_pot.run [.list (ns.map .int), .int t] = some (.ow l, []) ∧ F1.Pail 0 l := by
  have m1 : mulOk 6361 (t : Int) = true := mulOk_of (a := 13) (b := 10) (Sz.lit (by decide)) (Sz.of_lt (by omega) (by omega)) (by decide)
  have m2 : mulOk 91 (t : Int) = true := mulOk_of (a := 7) (b := 10) (Sz.lit (by decide)) (Sz.of_lt (by omega) (by omega)) (by decide)
  have cut : cutD (ns.map PyData.int) none (some 63) = ns.map PyData.int := by
    rw [cut_to (k := 63) (m := 63) rfl, List.take_of_length_le (by rw [List.length_map]; exact hl)]
  obtain ⟨m', a', b', a0, a1, q⟩ := pot_loop (s := .fz (.list (ns.map .int))) (t := .fz (.int t)) (f := .un) (a := .un) (b := .un) (m := 8117 + 6361 * t) (xs := ns.mapIdx fun k x => (k, x)) (fun x hx => by
    obtain ⟨k, hk, e⟩ := List.mem_mapIdx.mp hx
    subst e
    exact ⟨by simp; omega, sz_bits (hb _ (List.getElem_mem hk))⟩) (by omega) (by omega)
  have em : (ns.mapIdx fun k x => (k, x)).map (fun x : Nat × Int => PyData.tuple [.int x.1, .int x.2]) = (ns.map PyData.int).mapIdx fun k x => .tuple [.int k, x] := by
    refine List.ext_getElem? fun i => ?_
    rw [List.getElem?_map, List.getElem?_mapIdx, List.getElem?_mapIdx, List.getElem?_map]
    cases ns[i]? <;> rfl
  rw [em] at q
  have m3 : mulOk m' 16807 = true := mulOk_of (a := 31) (b := 17) (Sz.of_lt (by omega) (by omega)) (Sz.lit (by decide)) (by decide)
  have p18 : ((10 : Int) ^ 18) = 1000000000000000000 := by decide
  have cell : ∃ c : Int, 0 ≤ c ∧ (((t : Int) < (ns.length : Int) ∧ ∃ k, L2.atI (ns.map PyData.int) t = some (.int k) ∧ (if k < 0 then -k else k) = c) ∨ (¬ (t : Int) < (ns.length : Int) ∧ c = 0)) := by
    by_cases hc : (t : Int) < (ns.length : Int)
    · have hn : t < ns.length := by omega
      refine ⟨if ns[t] < 0 then -ns[t] else ns[t], by split <;> omega, .inl ⟨hc, ns[t], ?_, rfl⟩⟩
      rw [atI_of (n := t) rfl, List.getElem?_map, List.getElem?_eq_getElem hn]; rfl
    · exact ⟨0, by decide, .inr ⟨hc, rfl⟩⟩
  obtain ⟨c, c0, hc⟩ := cell
  refine ⟨[.int (if 1000000000000000000 ≤ c then c else 0), .int ((m' * 16807 + c + 91 * t).fmod 2147483629), .int 0], ?_, _, _, _, rfl, Int.fmod_nonneg_of_pos _ (by decide), Int.fmod_lt_of_pos _ (by decide), by decide, by decide⟩
  rw [run__law_pot]
  rcases hc with ⟨hc, k, ek, ec⟩ | ⟨hc, rfl⟩
  · by_cases k2 : 1000000000000000000 ≤ c
    · simp [runB, List.replicate, ir__law_pot, hc, ek, ec, m1, m2, v_fr, cut, q, k2, m3, p18]
    · simp [runB, List.replicate, ir__law_pot, hc, ek, ec, m1, m2, v_fr, cut, q, k2, m3, p18]
  · simp [runB, List.replicate, ir__law_pot, hc, m1, m2, v_fr, cut, q, m3, p18]
end Pk
end EvL

set_option Elab.async false
set_option linter.all false
set_option maxRecDepth 100000
set_option maxHeartbeats 1900000
namespace EvL
open PySem PySem.Spec PyProof.Rows L2
/-! ### turns of a disc: u (z - c) / (1 - c' z / b) -/
def low (c : GQ) (b : Rat) : GQ := c.bent * GQ.ofR (1 / b)
def lead (u c : GQ) (b : Rat) (z : GQ) : Option GQ := if 1 - low c b * z = 0 then none else some (u * (z - c) / (1 - low c b * z))
/-- what keeps the disc -/
structure Turn (b : Rat) (u c : GQ) : Prop where
  one : u.size = 1
  lt : c.size < b
theorem ofR_ne {b : Rat} (h : b ≠ 0) : GQ.ofR b ≠ 0 := fun w => by
  have := congrArg GQ.re w; simp at this; exact h this
theorem size_bent (c : GQ) : c.bent.size = c.size := by simp [GQ.size]; grind
theorem mul_bent' (x : GQ) : x * x.bent = GQ.ofR x.size := by
  ext
  · simp [GQ.size]; grind
  · simp [GQ.size]; grind
theorem bent_ofR (a : Rat) : (GQ.ofR a).bent = GQ.ofR a := by ext <;> simp
def bwA (u c d : GQ) (b : Rat) : GQ := u + d * low c b
def bwu (u c v d : GQ) (b : Rat) : GQ := v * bwA u c d b / (u * (bwA u c d b).bent)
def bwc (u c d : GQ) (b : Rat) : GQ := (u * c + d) / bwA u c d b
/-- b |A|^2 - |u c + d|^2 = (b - |c|^2) (b - |d|^2) / b -/
theorem bw_size {u c d : GQ} {b : Rat} (hb : b ≠ 0) (hu : u.size = 1) : b * (bwA u c d b).size - (u * c + d).size = (b - c.size) * (b - d.size) / b := by
  have hu' : u.re * u.re + u.im * u.im = 1 := hu
  obtain ⟨k, hk⟩ : ∃ k : Rat, k = 1 / b := ⟨_, rfl⟩
  have hkb : k * b = 1 := by grind
  have e : (b - c.size) * (b - d.size) / b = (b - c.size) * (b - d.size) * k := by grind
  rw [e]
  unfold bwA low
  rw [← hk]
  obtain ⟨ur, ui⟩ := u; obtain ⟨cr, ci⟩ := c; obtain ⟨dr, di⟩ := d
  simp only [GQ.size, GQ.add_re, GQ.add_im, GQ.mul_re, GQ.mul_im, GQ.bent_re, GQ.bent_im, GQ.ofR_re, GQ.ofR_im] at hu' ⊢
  clear e hk
  grind
theorem bw_ne {u c d : GQ} {b : Rat} (hb : 0 < b) (hu : u.size = 1) (hc : c.size < b) (hd : d.size < b) : bwA u c d b ≠ 0 := fun z => by
  have hb0 : b ≠ 0 := by grind
  have e := bw_size (c := c) (d := d) hb0 hu
  rw [z, GQ.size_eq_zero.mpr rfl] at e
  have p : 0 < (b - c.size) * (b - d.size) := Rat.mul_pos (by grind) (by grind)
  have q : 0 < (b - c.size) * (b - d.size) / b := by rw [Rat.lt_div_iff hb]; grind
  have := GQ.size_nonneg (u * c + d)
  grind
theorem size_inv {x : GQ} (h : x ≠ 0) : (x⁻¹).size = 1 / x.size := by
  have hs := GQ.size_ne h
  have e : x.size = x.re * x.re + x.im * x.im := rfl
  have e2 : (x⁻¹).size = x.re / x.size * (x.re / x.size) + -x.im / x.size * (-x.im / x.size) := rfl
  rw [e2]
  grind
theorem size_div (x : GQ) {y : GQ} (h : y ≠ 0) : (x / y).size = x.size / y.size := by
  rw [GQ.div_def, size_mul, size_inv h]; grind
theorem Turn.behind {b : Rat} {u c v d : GQ} (hb : 0 < b) (h : Turn b u c) (g : Turn b v d) : Turn b (bwu u c v d b) (bwc u c d b) := by
  have ne := bw_ne hb h.one h.lt g.lt
  have un : u ≠ 0 := fun z => by have := h.one; rw [z, GQ.size_eq_zero.mpr rfl] at this; exact absurd this (by decide)
  have an := bent_ne ne
  have pn : u * (bwA u c d b).bent ≠ 0 := fun z => by
    have := congrArg GQ.size z
    rw [size_mul, h.one, GQ.size_eq_zero.mpr rfl] at this
    exact GQ.size_ne an (by grind)
  refine ⟨?_, ?_⟩
  · unfold bwu
    rw [size_div _ pn, size_mul, size_mul, size_bent, h.one, g.one]
    have := GQ.size_ne ne
    grind
  · unfold bwc
    rw [size_div _ ne]
    have sp : 0 < (bwA u c d b).size := by have := GQ.size_nonneg (bwA u c d b); have := GQ.size_ne ne; grind
    rw [Rat.div_lt_iff sp]
    have e := bw_size (c := c) (d := d) (show b ≠ 0 by grind) h.one
    have p : 0 < (b - c.size) * (b - d.size) := Rat.mul_pos (by have := h.lt; grind) (by have := g.lt; grind)
    have q : 0 < (b - c.size) * (b - d.size) / b := by rw [Rat.lt_div_iff hb]; grind
    grind
theorem Turn.back {b : Rat} {u c : GQ} (h : Turn b u c) : Turn b u.bent (-(u * c)) := by
  refine ⟨by rw [size_bent]; exact h.one, ?_⟩
  have e : (-(u * c)).size = (u * c).size := by simp [GQ.size]; grind
  rw [e, size_mul, h.one]
  have := h.lt
  grind
end EvL

set_option Elab.async false
set_option linter.all false
set_option maxRecDepth 100000
set_option maxHeartbeats 1900000
namespace EvL
open PySem PySem.Spec PyProof.Rows L2
namespace Pk
theorem Bd.qz {b : Rat} (h : Bd b) (n : Nat) (hn : 7 ≤ n) : Qz n b := h.sz.mono hn
theorem Bd.inv {b : Rat} (h : Bd b) : Qz 7 (1 / b) := by
  have n0 : b.num ≠ 0 := by have := h.num; omega
  have := Qz.of (n := b.den) (d := b.num) n0 h.sz.2 h.sz.1
  have e : ((b.den : Int) : Rat) / (b.num : Rat) = 1 / b := by
    have q1 := num_den' b; have q2 := ic_ne (den_ne b); have q3 := ic_ne n0
    grind
  rwa [e] at this
@[simp] theorem ck_bound_run {b : Rat} (hb : Bd b) : check_bound.run [qD b] = some (.fz .none, []) := by
  have n1 := hb.num.1
  have e : is_bound.run [qD b] = some (.fz (.bool true), []) := by
    rw [run_is_bound]
    have f := frac_of b
    have np : 0 < b.num := by omega
    simp only [qD] at f ⊢
    simp [runB, List.replicate, ir_is_bound, f, np]
  rw [run_check_bound]
  simp [runB, List.replicate, ir_check_bound, e]
theorem g1c : PyData.tuple [.tuple [.int 1, .int 1], .tuple [.int 0, .int 1]] = gD 1 := g1D.symm
theorem g0c : PyData.tuple [.tuple [.int 0, .int 1], .tuple [.int 0, .int 1]] = gD 0 := g0D.symm
end Pk
end EvL

set_option Elab.async false
set_option linter.all false
set_option maxRecDepth 100000
set_option maxHeartbeats 1900000
namespace EvL
open PySem PySem.Spec PyProof.Rows L2
namespace Pk
theorem eq_nil_nil : eqD (.list []) (.list []) = some true := by
  have := eq_lnil (k := 1) (xs := []) (fun _ h => nomatch h) (by decide)
  simpa using this
theorem lfrac_of {r : Rat} (h : Qz 100000 r) : _law_is_fraction.run [qD r] = some (.fz (.bool true), []) := by
  have g := F1.gcd_run (a := r.num) (b := r.den) h.2
  have h1 := den_pos r
  have h2 := num_gcd r
  have h3 : 0 < r.den := by omega
  have e : evX (.lc [1] (.nm 1) .seq [(.var 0)] [(.or (.not (.bi .isint [(.var 1)])) (.bi .isbool [(.var 1)]))] (.var 1)) [.fz (qD r), .un] = some (.ow [], [.fz (qD r), .un]) := by
    have := lc_filter (f := PyData.int) (g := PyData.int) (c := fun _ => false) (vs := [1]) (t := .nm 1) (k := .seq) (its := [(.var 0)]) (ifs := [(.or (.not (.bi .isint [(.var 1)])) (.bi .isbool [(.var 1)]))]) (elt := .var 1) (Γ := [.fz (qD r), .un]) (Γ1 := [.fz (qD r), .un]) (ds := [qD r]) (l := [r.num, (r.den : Int)]) (by simp) (by simp [qD]) (by simp) fun x hx =>
      ⟨[.fz (qD r), .fz (.int x)], [.fz (qD r), .fz (.int x)], by simp [wipeG], by simp [isD], fun _ => rfl, fun z => nomatch z⟩
    rw [this]
    have f : ∀ l : List Int, l.filter (fun _ => false) = [] := fun l => by simp
    rw [f]; rfl
  rw [run__law_is_fraction, run0 (np := 1) (n := 2) (ds := [qD r]) rfl]
  show (evB ir__law_is_fraction [.fz (qD r), .un]).bind (outM false) = _
  unfold ir__law_is_fraction
  rw [b_cons']; conv in evS _ _ => simp [qD, isD]
  rw [Option.bind_some, onNext_nx, b_cons', v_ife, t_cmp', show MV.fz (.tuple [.int r.num, .int r.den]) = .fz (qD r) from rfl, e]
  simp [eq_nil_nil, qD, h3, g, h2]
theorem lnum_of {z : GQ} (h : Gz 100000 z) : _law_is_number.run [gD z] = some (.fz (.bool true), []) := by
  have a := lfrac_of h.re; have b := lfrac_of h.im
  rw [run__law_is_number]
  simp [runB, List.replicate, ir__law_is_number, gD, isD, a, b]
theorem lline_of {p : List GQ} {n : Int} (h : Rz 100000 p) (hn : n = p.length) (hl : p.length ≤ 1000) : _law_is_line.run [rD p, .int n] = some (.fz (.bool true), []) := by
  have e : evX (.lc [2] (.nm 2) .seq [(.var 0)] [(.not (.call Pk._law_is_number Pk.E__law_is_number_1.pm [(.var 2)]))] (.var 2)) [.fz (rD p), .fz (.int n), .un] = some (.ow [], [.fz (rD p), .fz (.int n), .un]) := by
    have := lc_filter (f := gD) (g := gD) (c := fun _ => false) (vs := [2]) (t := .nm 2) (k := .seq) (its := [(.var 0)]) (ifs := [(.not (.call Pk._law_is_number Pk.E__law_is_number_1.pm [(.var 2)]))]) (elt := .var 2) (Γ := [.fz (rD p), .fz (.int n), .un]) (Γ1 := [.fz (rD p), .fz (.int n), .un]) (ds := [rD p]) (l := p) (by simp) (by simp [rD]) (by omega) fun x hx => by
      have q := lnum_of (h x hx)
      exact ⟨[.fz (rD p), .fz (.int n), .fz (gD x)], [.fz (rD p), .fz (.int n), .fz (gD x)], by simp [wipeG], by simp [q], fun _ => rfl, fun z => nomatch z⟩
    rw [this]
    have f : ∀ l : List GQ, l.filter (fun _ => false) = [] := fun l => by simp
    rw [f]; rfl
  subst hn
  rw [run__law_is_line, run0 (np := 2) (n := 3) (ds := [rD p, .int p.length]) rfl]
  show (evB ir__law_is_line [.fz (rD p), .fz (.int p.length), .un]).bind (outM false) = _
  unfold ir__law_is_line
  rw [b_cons']; conv in evS _ _ => simp [rD, isD]
  rw [Option.bind_some, onNext_nx, b_cons', v_ret, x_cmp]
  rw [show MV.fz (.tuple (p.map gD)) = .fz (rD p) from rfl, e]
  simp [eq_nil_nil]
theorem line_run {p : List GQ} (hp : Rz 8900000 p) (hl : p.length ≤ 1000) : _law_line.run [.list (p.map tN)] = some (.fz (rD p), []) := by
  have e := lc_map (f := tN) (g := gD) (vs := [1]) (t := .nm 1) (k := .seq) (its := [(.var 0)]) (elt := (.call Pk._law_number_v2 Pk.E__law_number_v2_1.pm [(.var 1)])) (Γ := [.fz (.list (p.map tN)), .un]) (Γ1 := [.fz (.list (p.map tN)), .un]) (ds := [.list (p.map tN)]) (l := p) (by simp) rfl (by omega) fun x hx => by
    have q := number2_run (hp x hx)
    exact ⟨[.fz (.list (p.map tN)), .fz (tN x)], .fz (gD x), [.fz (.list (p.map tN)), .fz (tN x)], by simp [wipeG], by simp [q], rfl, rfl⟩
  rw [run__law_line, run0 (np := 1) (n := 2) (ds := [.list (p.map tN)]) rfl]
  show (evB ir__law_line [.fz (.list (p.map tN)), .un]).bind (outM false) = _
  unfold ir__law_line
  rw [b_cons', v_ret, x_bi, s_cons', e]
  simp [rD]
end Pk
end EvL

set_option Elab.async false
set_option linter.all false
set_option maxRecDepth 100000
set_option maxHeartbeats 8000000
namespace EvL
open PySem PySem.Spec PyProof.Rows L2
namespace Pk
end Pk
end EvL

set_option Elab.async false
set_option linter.all false
set_option maxRecDepth 100000
set_option maxHeartbeats 8000000
namespace EvL
open PySem PySem.Spec PyProof.Rows L2
/-! ### ratios of whole complex numbers -/
def Gi (b : Nat) (z : GQ) : Prop := ∃ n m : Int, z = ⟨(n : Rat), (m : Rat)⟩ ∧ Sz b n ∧ Sz b m
theorem Gi.mono {a b : Nat} {z : GQ} (h : Gi a z) (hb : a ≤ b) : Gi b z := by
  obtain ⟨n, m, e, h1, h2⟩ := h; exact ⟨n, m, e, h1.mono hb, h2.mono hb⟩
theorem Gi.mul {a b : Nat} {x y : GQ} (h : Gi a x) (g : Gi b y) : Gi (a + b + 1) (x * y) := by
  obtain ⟨n, m, rfl, h1, h2⟩ := h; obtain ⟨n', m', rfl, g1, g2⟩ := g
  refine ⟨n * n' - m * m', n * m' + m * n', ?_, ((h1.mul g1).sub (h2.mul g2)).mono (by omega), ((h1.mul g2).add (h2.mul g1)).mono (by omega)⟩
  ext <;> simp [ic_mul, ic_sub, ic_add]
theorem Gi.add {a b : Nat} {x y : GQ} (h : Gi a x) (g : Gi b y) : Gi (max a b + 1) (x + y) := by
  obtain ⟨n, m, rfl, h1, h2⟩ := h; obtain ⟨n', m', rfl, g1, g2⟩ := g
  exact ⟨n + n', m + m', by ext <;> simp [ic_add], h1.add g1, h2.add g2⟩
theorem Gi.neg {a : Nat} {x : GQ} (h : Gi a x) : Gi a (-x) := by
  obtain ⟨n, m, rfl, h1, h2⟩ := h
  exact ⟨-n, -m, by ext <;> simp [ic_neg], h1.neg, h2.neg⟩
theorem Gi.sub {a b : Nat} {x y : GQ} (h : Gi a x) (g : Gi b y) : Gi (max a b + 1) (x - y) := by
  have : x - y = x + -y := by grind
  rw [this]; exact h.add g.neg
theorem Gi.bent {a : Nat} {x : GQ} (h : Gi a x) : Gi a x.bent := by
  obtain ⟨n, m, rfl, h1, h2⟩ := h
  exact ⟨n, -m, by ext <;> simp [ic_neg], h1, h2.neg⟩
theorem Gi.int {a : Nat} {n : Int} (h : Sz a n) : Gi a (GQ.ofR (n : Rat)) := ⟨n, 0, by ext <;> simp, h, sz0 a⟩
/-- a ratio is a number with parts over one whole number -/
theorem Gi.over {a b : Nat} {x y : GQ} (h : Gi a x) (g : Gi b y) (y0 : y ≠ 0) : Gz (max (a + b) (2 * b) + 1) (x / y) := by
  obtain ⟨n', m', e, g1, g2⟩ := g.bent
  have ys : y * y.bent = GQ.ofR y.size := mul_bent' y
  have s0 := GQ.size_ne y0
  obtain ⟨p, q, e2, p1, p2⟩ := h.mul g.bent
  obtain ⟨k, l, rfl, k1, k2⟩ := g
  have es : GQ.size ⟨(k : Rat), (l : Rat)⟩ = ((k * k + l * l : Int) : Rat) := by simp [GQ.size, ic_mul, ic_add]
  have sq : ∀ i : Int, 0 ≤ i * i := fun i => by rcases Int.le_total 0 i with q | q; exact Int.mul_nonneg q q; exact Int.mul_nonneg_of_nonpos_of_nonpos q q
  have np : 0 < k * k + l * l := by
    have z : k * k + l * l ≠ 0 := fun z => s0 (by rw [es, z]; rfl)
    have := sq k; have := sq l; omega
  have ed : x / ⟨(k : Rat), (l : Rat)⟩ = x * GQ.bent ⟨(k : Rat), (l : Rat)⟩ * GQ.ofR (1 / GQ.size ⟨(k : Rat), (l : Rat)⟩) := by
    rw [GQ.div_def]
    generalize (⟨(k : Rat), (l : Rat)⟩ : GQ) = y at *
    have : y⁻¹ = y.bent * GQ.ofR (1 / y.size) := by
      ext <;> simp <;> grind
    rw [this]; grind
  rw [ed, e2, es]
  refine ⟨p, q, k * k + l * l, np, ?_, ?_, p1.mono (by omega), p2.mono (by omega), ((k1.mul k1).add (k2.mul k2)).mono (by omega)⟩
  · simp; grind
  · simp; grind
theorem ofI_ne {d : Int} (h : 0 < d) : GQ.ofR (d : Rat) ≠ 0 := ofR_ne (ic_ne (by omega))
namespace Pk
section
variable {a b : Nat} {x y : GQ} (hx : Gz a x) (hy : Gz b y) (hab : a + b ≤ 4440000)
include hx hy hab
end
end Pk
end EvL

set_option Elab.async false
set_option linter.all false
set_option maxRecDepth 100000
set_option maxHeartbeats 1900000
namespace EvL
open PySem PySem.Spec PyProof.Rows L2
/-! ### numbers over a told whole number -/
def Cz (d : Int) (b : Nat) (z : GQ) : Prop := ∃ n m : Int, z.re = (n : Rat) / (d : Rat) ∧ z.im = (m : Rat) / (d : Rat) ∧ Sz b n ∧ Sz b m
theorem Cz.mono {d : Int} {a b : Nat} {z : GQ} (h : Cz d a z) (hb : a ≤ b) : Cz d b z := let ⟨n, m, e, f, s, t⟩ := h; ⟨n, m, e, f, s.mono hb, t.mono hb⟩
theorem Cz.gz {d : Int} {b : Nat} {z : GQ} (h : Cz d b z) (h0 : 0 < d) (hd : Sz b d) : Gz b z := let ⟨n, m, e, f, s, t⟩ := h; ⟨n, m, d, h0, e, f, s, t, hd⟩
theorem Cz.gz' {d : Int} {b c : Nat} {z : GQ} (h : Cz d b z) (h0 : 0 < d) (hb : b ≤ c) (hd : Sz c d) : Gz c z := (h.mono hb).gz h0 hd
theorem Cz.zero (d : Int) (b : Nat) : Cz d b 0 := ⟨0, 0, by simp; grind, by simp; grind, sz0 _, sz0 _⟩
theorem Cz.up {d k e : Int} {b c : Nat} {z : GQ} (h : Cz d b z) (h0 : d ≠ 0) (hk : k ≠ 0) (sk : Sz c k) (he : d * k = e) : Cz e (b + c) z := by
  obtain ⟨n, m, e1, e2, s, t⟩ := h
  have d0 := ic_ne h0
  have k0 := ic_ne hk
  refine ⟨n * k, m * k, ?_, ?_, s.mul sk, t.mul sk⟩
  · rw [e1, ← he, ic_mul, ic_mul]; grind
  · rw [e2, ← he, ic_mul, ic_mul]; grind
theorem Cz.add {d : Int} {a b : Nat} {x y : GQ} (h : Cz d a x) (g : Cz d b y) : Cz d (max a b + 1) (x + y) := by
  obtain ⟨n, m, e1, e2, s, t⟩ := h
  obtain ⟨p, q, e3, e4, u, v⟩ := g
  refine ⟨n + p, m + q, ?_, ?_, s.add u, t.add v⟩
  · rw [GQ.add_re, e1, e3, ic_add]; grind
  · rw [GQ.add_im, e2, e4, ic_add]; grind
theorem Cz.neg {d : Int} {a : Nat} {x : GQ} (h : Cz d a x) : Cz d a (-x) := by
  obtain ⟨n, m, e1, e2, s, t⟩ := h
  refine ⟨-n, -m, ?_, ?_, s.neg, t.neg⟩
  · rw [GQ.neg_re, e1, ic_neg]; grind
  · rw [GQ.neg_im, e2, ic_neg]; grind
theorem Cz.sub {d : Int} {a b : Nat} {x y : GQ} (h : Cz d a x) (g : Cz d b y) : Cz d (max a b + 1) (x - y) := by
  have := h.add g.neg
  rwa [show x + -y = x - y by grind] at this
theorem Cz.bent {d : Int} {a : Nat} {x : GQ} (h : Cz d a x) : Cz d a x.bent := by
  obtain ⟨n, m, e1, e2, s, t⟩ := h
  exact ⟨n, -m, e1, by rw [GQ.bent_im, e2, ic_neg]; grind, s, t.neg⟩
theorem Cz.mul {d e : Int} {a b : Nat} {x y : GQ} (h : Cz d a x) (g : Cz e b y) (d0 : d ≠ 0) (e0 : e ≠ 0) : Cz (d * e) (a + b + 1) (x * y) := by
  obtain ⟨n, m, e1, e2, s, t⟩ := h
  obtain ⟨p, q, e3, e4, u, v⟩ := g
  have d1 := ic_ne d0
  have d2 := ic_ne e0
  refine ⟨n * p - m * q, n * q + m * p, ?_, ?_, ((s.mul u).sub (t.mul v)).mono (by omega), ((s.mul v).add (t.mul u)).mono (by omega)⟩
  · rw [GQ.mul_re, e1, e2, e3, e4]; simp only [ic_sub, ic_mul]; grind
  · rw [GQ.mul_im, e1, e2, e3, e4]; simp only [ic_add, ic_mul]; grind
theorem Cz.sum {d : Int} {b : Nat} {f : Nat → GQ} : ∀ {n : Nat}, (∀ j, j < n → Cz d b (f j)) → Cz d (b + n) (Po.sum n f)
  | 0, _ => Cz.zero d _
  | n + 1, h => by
    rw [Po.sum_succ]
    exact ((Cz.sum (n := n) fun j hj => h j (by omega)).add (h n (by omega))).mono (by omega)
theorem Cz.of {a b d k D : Int} {n : Nat} {z : GQ} (h1 : z.re = (a : Rat) / (d : Rat)) (h2 : z.im = (b : Rat) / (d : Rat)) (hd : d ≠ 0) (hk : k ≠ 0) (he : d * k = D) (s : Sz n (a * k)) (t : Sz n (b * k)) : Cz D n z := by
  have d0 := ic_ne hd
  have k0 := ic_ne hk
  refine ⟨a * k, b * k, ?_, ?_, s, t⟩
  · rw [h1, ← he, ic_mul, ic_mul]; grind
  · rw [h2, ← he, ic_mul, ic_mul]; grind
theorem Cz.one {d : Int} {b : Nat} (h : d ≠ 0) (s : Sz b d) : Cz d b 1 := by
  have d0 := ic_ne h
  exact ⟨d, 0, by simp; grind, by simp; grind, s, sz0 _⟩
/-! ### rows and tables -/
def vN (n : Nat) (c : Nat → GQ) : List D := (List.range n).map fun i => tN (c i)
def vG (n : Nat) (c : Nat → GQ) : List D := (List.range n).map fun i => gD (c i)
def tabN (n : Nat) (T : Nat → Nat → GQ) : List (List D) := (List.range n).map fun i => vN n (T i)
def tabD (n : Nat) (T : Nat → Nat → GQ) : D := .list ((List.range n).map fun i => .list (vN n (T i)))
def tabG (n : Nat) (T : Nat → Nat → GQ) : D := .tuple ((List.range n).map fun i => .tuple (vG n (T i)))
def upd2 (T : Nat → Nat → GQ) (i j : Nat) (z : GQ) : Nat → Nat → GQ := fun p q => if p = i ∧ q = j then z else T p q
@[simp] theorem vN_len (n : Nat) (c : Nat → GQ) : (vN n c).length = n := by simp [vN]
@[simp] theorem vG_len (n : Nat) (c : Nat → GQ) : (vG n c).length = n := by simp [vG]
@[simp] theorem tabN_len (n : Nat) (T : Nat → Nat → GQ) : (tabN n T).length = n := by simp [tabN]
theorem tabN_list (n : Nat) (T : Nat → Nat → GQ) : PyData.list ((tabN n T).map .list) = tabD n T := by simp [tabN, tabD, Function.comp_def]
theorem vN_get {n i : Nat} (c : Nat → GQ) (h : i < n) : (vN n c)[i]? = some (tN (c i)) := by simp [vN, h]
theorem vG_get {n i : Nat} (c : Nat → GQ) (h : i < n) : (vG n c)[i]? = some (gD (c i)) := by simp [vG, h]
theorem tabN_get {n i : Nat} (T : Nat → Nat → GQ) (h : i < n) : (tabN n T)[i]? = some (vN n (T i)) := by simp [tabN, h]
theorem vN_congr {n : Nat} {c d : Nat → GQ} (h : ∀ i, i < n → c i = d i) : vN n c = vN n d := by
  refine List.map_congr_left fun i hi => by rw [h i (List.mem_range.mp hi)]
theorem tabN_congr {n : Nat} {S T : Nat → Nat → GQ} (h : ∀ i j, i < n → j < n → S i j = T i j) : tabN n S = tabN n T :=
  List.map_congr_left fun i hi => vN_congr fun j hj => h i j (List.mem_range.mp hi) hj
theorem range_set {α : Type} {n i : Nat} (f : Nat → α) (x : α) : ((List.range n).map f).set i x = (List.range n).map fun k => if k = i then x else f k := by
  refine List.ext_getElem? fun j => ?_
  rw [List.getElem?_set, List.getElem?_map]
  by_cases hj : i = j
  · subst hj
    by_cases hn : i < n
    · simp [hn]
    · simp [hn]
  · by_cases hn : j < n
    · have : j ≠ i := fun z => hj z.symm
      simp [hj, hn, this]
    · simp [hj, hn]
theorem vN_set {n j : Nat} (c : Nat → GQ) (z : GQ) : (vN n c).set j (tN z) = vN n fun k => if k = j then z else c k := by
  unfold vN
  rw [range_set]
  refine List.map_congr_left fun k _ => ?_
  by_cases h : k = j <;> simp [h]
theorem tabN_set {n i j : Nat} (T : Nat → Nat → GQ) (z : GQ) : (tabN n T).set i ((vN n (T i)).set j (tN z)) = tabN n (upd2 T i j z) := by
  unfold tabN
  rw [range_set, vN_set]
  refine List.map_congr_left fun k _ => ?_
  by_cases hk : k = i
  · subst hk; rw [if_pos rfl]; exact vN_congr fun q _ => by simp [upd2]
  · rw [if_neg hk]; exact vN_congr fun q _ => by simp [upd2, hk]
theorem at_n {α : Type} {xs : List α} {k : Int} {i : Nat} (hk : k = i) (h : i < xs.length) : L2.atI xs k = xs[i]? := by
  unfold L2.atI
  rw [ixN_of hk h]
  rfl
theorem row_tab {n i : Nat} {k : Int} (T : Nat → Nat → GQ) (h : i < n) (hk : k = i) : L2.atI (tabN n T) k = some (vN n (T i)) := by
  rw [at_n hk (by simpa using h), tabN_get T h]
theorem at_vN {n i : Nat} {k : Int} (c : Nat → GQ) (h : i < n) (hk : k = i) : L2.atI (vN n c) k = some (tN (c i)) := by
  rw [at_n hk (by simpa using h), vN_get c h]
theorem ix_list {xs : List D} {k : Int} {i : Nat} {d : D} (hk : k = i) (h : xs[i]? = some d) : ixD (.list xs) (.int k) = some d := by
  show L2.atI xs k = _
  rw [at_n hk (List.getElem?_eq_some_iff.mp h).1, h]
theorem ix_tup {xs : List D} {k : Int} {i : Nat} {d : D} (hk : k = i) (h : xs[i]? = some d) : ixD (.tuple xs) (.int k) = some d := by
  show L2.atI xs k = _
  rw [at_n hk (List.getElem?_eq_some_iff.mp h).1, h]
theorem tabD_ix {n i : Nat} {k : Int} (T : Nat → Nat → GQ) (h : i < n) (hk : k = i) : ixD (tabD n T) (.int k) = some (.list (vN n (T i))) := ix_list hk (by simp [h])
theorem tabG_ix {n i : Nat} {k : Int} (T : Nat → Nat → GQ) (h : i < n) (hk : k = i) : ixD (tabG n T) (.int k) = some (.tuple (vG n (T i))) := ix_tup hk (by simp [h])
theorem vN_ix {n i : Nat} {k : Int} (c : Nat → GQ) (h : i < n) (hk : k = i) : ixD (.list (vN n c)) (.int k) = some (tN (c i)) := ix_list hk (vN_get c h)
theorem vG_ix {n i : Nat} {k : Int} (c : Nat → GQ) (h : i < n) (hk : k = i) : ixD (.tuple (vG n c)) (.int k) = some (gD (c i)) := ix_tup hk (vG_get c h)
theorem lco_map {vs : List Nat} {t : Tg} {k : IK} {its : List IE} {elt : IE} {Γ Γ1 : Ga} {ds xs : List D} {g : D → List D}
    (h1 : evs its Γ = some (ds, Γ1)) (h2 : itD k ds = some xs) (hl : xs.length ≤ 1000000)
    (step : ∀ x ∈ xs, ∃ Γ2 Γ3, asg t x (wipeG Γ1 vs) = some Γ2 ∧ evX elt Γ2 = some (.ow (g x), Γ3) ∧ wipeG Γ3 vs = wipeG Γ1 vs) :
    evX (.lco vs t k its elt) Γ = some (.oo (xs.map g), backG Γ1 Γ1 vs) := by
  have key : ∀ (l : List D) (Γ : Ga), wipeG Γ vs = wipeG Γ1 vs → (∀ x ∈ l, ∃ Γ2 Γ3, asg t x (wipeG Γ1 vs) = some Γ2 ∧ evX elt Γ2 = some (.ow (g x), Γ3) ∧ wipeG Γ3 vs = wipeG Γ1 vs) →
      ∃ Γ5, lcLoopO (fun x Γ => (asg t x (wipeG Γ vs)).bind fun Γ2 => (evX elt Γ2).bind fun (y, Γ4) => y.own.map fun ds => (ds, Γ4)) l Γ = some (l.map g, Γ5) ∧ wipeG Γ5 vs = wipeG Γ1 vs := by
    intro l
    induction l with
    | nil => intro Γ h _; exact ⟨Γ, rfl, h⟩
    | cons x l ih =>
      intro Γ h st
      obtain ⟨Γ2, Γ3, a, b, d⟩ := st x (List.mem_cons_self ..)
      obtain ⟨Γ5, e5, h5⟩ := ih Γ3 d fun y hy => st y (List.mem_cons_of_mem _ hy)
      refine ⟨Γ5, ?_, h5⟩
      rw [lcLoopO, h, a, Option.bind_some, b]
      simp only [Option.bind_some, ro_ow, Option.map_some, e5, List.map_cons]
  obtain ⟨Γ5, e5, h5⟩ := key xs (wipeG Γ1 vs) (wipeG_2 _ _) step
  rw [x_lco, h1, Option.bind_some]
  simp only [h2, Option.bind_some, lim_eq, hl, if_true, e5, Option.map_some]
  rw [← back_wipe Γ1 Γ5, h5, back_wipe]
namespace Pk
theorem plus_run {x y : GQ} (hx : Gz 1900000 x) (hy : Gz 1900000 y) : _law_plus.run [tN x, tN y] = some (.fz (tN (x + y)), []) := by
  obtain ⟨x1, x2, x3⟩ := hx.tri; obtain ⟨y1, y2, y3⟩ := hy.tri
  have n1 := tri_ne x; have n2 := tri_ne y
  have q := cut2_run (a := (tri x).1 * (tri y).2.2 + (tri y).1 * (tri x).2.2) (b := (tri x).2.1 * (tri y).2.2 + (tri y).2.1 * (tri x).2.2) (d := (tri x).2.2 * (tri y).2.2) (Int.mul_pos (tri_pos x) (tri_pos y)) ((x2.mul y3).add (y2.mul x3)) (x3.mul y3)
  have m1 := ic_ne n1; have m2 := ic_ne n2
  have e1 := tri_re x; have e2 := tri_im x; have e3 := tri_re y; have e4 := tri_im y
  have r : (⟨(((tri x).1 * (tri y).2.2 + (tri y).1 * (tri x).2.2 : Int) : Rat) / (((tri x).2.2 * (tri y).2.2 : Int) : Rat), (((tri x).2.1 * (tri y).2.2 + (tri y).2.1 * (tri x).2.2 : Int) : Rat) / (((tri x).2.2 * (tri y).2.2 : Int) : Rat)⟩ : GQ) = x + y := by
    simp only [ic_add, ic_mul]
    ext
    · simp; grind
    · simp; grind
  rw [r] at q
  rw [run__law_plus]
  simp (disch := first | assumption | (simp; done) | exact EvL.mulOk_of (by assumption) (by assumption) (by decide)) [runB, List.replicate, ir__law_plus, tN, tD] at q ⊢
  simp [q]
/-! ### draws of tables -/
theorem ratio_run {c : Int} {l : List D} (h : F1.Pail c l) (hc : c + 2 < 1000000) : ∃ r l', _law_ratio.run [.list l] = some (.fz (tN (GQ.ofR r)), l') ∧ Cz 2520 15 (GQ.ofR r) ∧ F1.Pail (c + 2) l' := by
  obtain ⟨f, l1, e1, f0, f1, h1⟩ := draw_run (m := 15) h (by omega) (by decide) (by decide)
  obtain ⟨g, l2, e2, hg, h2⟩ := pick_run (xs := [.int 1, .int 1, .int 1, .int 2, .int 3]) h1 (by omega) (by simp) (by simp) _ (.inl rfl)
  obtain ⟨d, k, rfl, d0, dk, k0, k1⟩ : ∃ d k : Int, g = .int d ∧ 1 ≤ d ∧ d * k = 2520 ∧ 1 ≤ k ∧ k ≤ 2520 := by
    simp at hg
    rcases hg with rfl | rfl | rfl
    · exact ⟨1, 2520, rfl, by decide, by decide, by decide, by decide⟩
    · exact ⟨2, 1260, rfl, by decide, by decide, by decide, by decide⟩
    · exact ⟨3, 840, rfl, by decide, by decide, by decide, by decide⟩
  have d9 : d ≤ 2520 := by
    have := Int.mul_le_mul_of_nonneg_left k0 (show 0 ≤ d by omega)
    omega
  obtain ⟨z, e3, gz, zr, zi⟩ := cut2_ex (k := 15) (a := f - 7) (b := 0) (d := d) (by omega) (Sz.of_lt (by omega) (by omega)) (sz0 _) (Sz.of_lt (by omega) (by omega))
  have zz : z = GQ.ofR z.re := by ext <;> simp [zi]; grind
  refine ⟨z.re, l2, ?_, ?_, h2.up (by omega)⟩
  · rw [run__law_ratio, ← zz]
    simp [runB, List.replicate, ir__law_ratio, e1, e2, e3]
  · rw [← zz]
    refine Cz.of zr zi (by omega) (show k ≠ 0 by omega) dk ?_ ?_
    · exact ((Sz.of_lt (b := 3) (by omega) (by omega)).mul (Sz.of_lt (b := 12) (by omega) (by omega))).mono (by decide)
    · rw [Int.zero_mul]; exact sz0 _
end Pk
end EvL

set_option Elab.async false
set_option linter.all false
set_option maxRecDepth 100000
set_option maxHeartbeats 1900000
namespace EvL
open PySem PySem.Spec PyProof.Rows L2
namespace Pk
theorem gaussC_run {c : Int} {l : List D} (h : F1.Pail c l) (hc : c + 5 < 1000000) : ∃ z l', _law_gauss.run [.list l] = some (.fz (tN z), l') ∧ Cz 30 27 z ∧ F1.Pail (c + 5) l' := by
  obtain ⟨f, l1, e1, f0, f1, h1⟩ := draw_run (m := 24) h (by omega) (by decide) (by decide)
  obtain ⟨g, l2, e2, hg, h2⟩ := pick_run (xs := [.int 1, .int 1, .int 1, .int 2, .int 2, .int 3, .int 5]) h1 (by omega) (by simp) (by simp) _ (.inl rfl)
  obtain ⟨d, q, rfl, d0, d1, dq, q0, q1⟩ : ∃ d q : Int, g = .int d ∧ 1 ≤ d ∧ d ≤ 5 ∧ d * q = 30 ∧ 1 ≤ q ∧ q ≤ 30 := by
    simp at hg
    rcases hg with rfl | rfl | rfl | rfl
    · exact ⟨1, 30, rfl, by decide⟩
    · exact ⟨2, 15, rfl, by decide⟩
    · exact ⟨3, 10, rfl, by decide⟩
    · exact ⟨5, 6, rfl, by decide⟩
  have w : ∃ t : Int, 1 ≤ t ∧ t ≤ 1000000 ∧ (if f = 23 then (10 : Int) ^ 6 else 4) = t := by
    by_cases hf : f = 23
    · exact ⟨1000000, by decide, by decide, by rw [if_pos hf]; decide⟩
    · exact ⟨4, by decide, by decide, by rw [if_neg hf]⟩
  obtain ⟨t, t0, t1, ht⟩ := w
  obtain ⟨a, l3, e3, a0, a1, h3⟩ := draw_run (m := 2 * t + 1) h2 (by omega) (by omega) (by omega)
  obtain ⟨k, l4, e4, k0, k1, h4⟩ := draw_run (m := 3) h3 (by omega) (by omega) (by omega)
  have m1 : mulOk 2 t = true := mulOk_of (a := 2) (b := 21) (Sz.lit (by decide)) (Sz.of_lt (by omega) (by omega)) (by decide)
  have p6 : (10 : Int) ^ 6 = 1000000 := by decide
  have sz : ∀ x : Int, -1000000 ≤ x → x ≤ 1000000 → Sz 27 (x * q) := fun x h1 h2 => ((Sz.of_lt (b := 21) (by omega) (by omega)).mul (Sz.of_lt (b := 5) (by omega) (by omega))).mono (by decide)
  by_cases hk : 0 < k
  · obtain ⟨b, l5, e5, b0, b1, h5⟩ := draw_run (m := 2 * t + 1) h4 (by omega) (by omega) (by omega)
    obtain ⟨z, e6, gz, zr, zi⟩ := cut2_ex (k := 21) (a := a - t) (b := b - t) (d := d) (by omega) (Sz.of_lt (by omega) (by omega)) (Sz.of_lt (by omega) (by omega)) (Sz.of_lt (by omega) (by omega))
    refine ⟨z, l5, ?_, Cz.of zr zi (by omega) (show q ≠ 0 by omega) dq (sz _ (by omega) (by omega)) (sz _ (by omega) (by omega)), h5.up (by omega)⟩
    rw [run__law_gauss]
    by_cases hf : f = 23
    · rw [if_pos hf, p6] at ht; subst ht
      simp [runB, List.replicate, ir__law_gauss, e1, e2, hf] at e3 e4 e5 m1 e6 ⊢
      simp [e3, e4, e5, hk, m1, e6]
    · rw [if_neg hf] at ht; subst ht
      simp [runB, List.replicate, ir__law_gauss, e1, e2, hf] at e3 e4 e5 m1 e6 ⊢
      simp [e3, e4, e5, hk, m1, e6]
  · obtain ⟨z, e6, gz, zr, zi⟩ := cut2_ex (k := 21) (a := a - t) (b := 0) (d := d) (by omega) (Sz.of_lt (by omega) (by omega)) (Sz.of_lt (by omega) (by omega)) (Sz.of_lt (by omega) (by omega))
    refine ⟨z, l4, ?_, Cz.of zr zi (by omega) (show q ≠ 0 by omega) dq (sz _ (by omega) (by omega)) (sz _ (by omega) (by omega)), h4.up (by omega)⟩
    rw [run__law_gauss]
    by_cases hf : f = 23
    · rw [if_pos hf, p6] at ht; subst ht
      simp [runB, List.replicate, ir__law_gauss, e1, e2, hf] at e3 e4 m1 e6 ⊢
      simp [e3, e4, hk, m1, e6]
    · rw [if_neg hf] at ht; subst ht
      simp [runB, List.replicate, ir__law_gauss, e1, e2, hf] at e3 e4 m1 e6 ⊢
      simp [e3, e4, hk, m1, e6]
theorem positive_run {c : Int} {l : List D} (h : F1.Pail c l) (hc : c + 2 < 1000000) : ∃ r l', _law_positive.run [.list l] = some (.fz (tN (GQ.ofR r)), l') ∧ 0 < r ∧ Cz 42 9 (GQ.ofR r) ∧ F1.Pail (c + 2) l' := by
  obtain ⟨f, l1, e1, f0, f1, h1⟩ := draw_run (m := 6) h (by omega) (by decide) (by decide)
  obtain ⟨g, l2, e2, hg, h2⟩ := pick_run (xs := [.int 1, .int 1, .int 2, .int 3, .int 7]) h1 (by omega) (by simp) (by simp) _ (.inl rfl)
  obtain ⟨d, k, rfl, d0, d9, dk, k0, k1⟩ : ∃ d k : Int, g = .int d ∧ 1 ≤ d ∧ d ≤ 7 ∧ d * k = 42 ∧ 1 ≤ k ∧ k ≤ 42 := by
    simp at hg
    rcases hg with rfl | rfl | rfl | rfl
    · exact ⟨1, 42, rfl, by decide⟩
    · exact ⟨2, 21, rfl, by decide⟩
    · exact ⟨3, 14, rfl, by decide⟩
    · exact ⟨7, 6, rfl, by decide⟩
  obtain ⟨z, e3, gz, zr, zi⟩ := cut2_ex (k := 4) (a := 1 + f) (b := 0) (d := d) (by omega) (Sz.of_lt (by omega) (by omega)) (sz0 _) (Sz.of_lt (by omega) (by omega))
  have zz : z = GQ.ofR z.re := by ext <;> simp [zi]; grind
  refine ⟨z.re, l2, ?_, ?_, ?_, h2.up (by omega)⟩
  · rw [run__law_positive, ← zz]
    simp [runB, List.replicate, ir__law_positive, e1, e2, e3]
  · rw [zr]; exact ratio_pos (by omega) (by omega)
  · rw [← zz]
    refine Cz.of zr zi (by omega) (show k ≠ 0 by omega) dk ?_ ?_
    · exact ((Sz.of_lt (b := 3) (by omega) (by omega)).mul (Sz.of_lt (b := 6) (by omega) (by omega))).mono (by decide)
    · rw [Int.zero_mul]; exact sz0 _
theorem small_run {c : Int} {l : List D} (h : F1.Pail c l) (hc : c + 5 < 1000000) : ∃ z l', _law_small.run [.list l] = some (.fz (tN z), l') ∧ Cz 2 4 z ∧ F1.Pail (c + 5) l' := by
  obtain ⟨f, l1, e1, f0, f1, h1⟩ := draw_run (m := 3) h (by omega) (by decide) (by decide)
  by_cases hf : f = 0
  · subst hf
    exact ⟨0, l1, by rw [run__law_small]; simp [runB, List.replicate, ir__law_small, e1, tN0], Cz.zero _ _, h1.up (by omega)⟩
  · obtain ⟨a, l2, e2, a0, a1, h2⟩ := draw_run (m := 7) h1 (by omega) (by decide) (by decide)
    obtain ⟨k, l3, e3, k0, k1, h3⟩ := draw_run (m := 2) h2 (by omega) (by decide) (by decide)
    have fin : ∀ (z : GQ) (x y d : Int), z.re = (x : Rat) / ((1 + d : Int) : Rat) → z.im = (y : Rat) / ((1 + d : Int) : Rat) → -3 ≤ x → x ≤ 3 → -3 ≤ y → y ≤ 3 → 0 ≤ d → d < 2 → Cz 2 4 z := fun z x y d zr zi x0 x1 y0 y1 d0 d1 => by
      rcases (show d = 0 ∨ d = 1 by omega) with rfl | rfl
      · exact Cz.of (k := 2) zr zi (by decide) (by decide) (by decide) (Sz.of_lt (by omega) (by omega)) (Sz.of_lt (by omega) (by omega))
      · exact Cz.of (k := 1) zr zi (by decide) (by decide) (by decide) (Sz.of_lt (by omega) (by omega)) (Sz.of_lt (by omega) (by omega))
    by_cases hk : k = 0
    · subst hk
      obtain ⟨b, l4, e4, b0, b1, h4⟩ := draw_run (m := 7) h3 (by omega) (by decide) (by decide)
      obtain ⟨d, l5, e5, d0, d1, h5⟩ := draw_run (m := 2) h4 (by omega) (by decide) (by decide)
      obtain ⟨z, e6, gz, zr, zi⟩ := cut2_ex (k := 4) (a := a - 3) (b := b - 3) (d := 1 + d) (by omega) (Sz.of_lt (by omega) (by omega)) (Sz.of_lt (by omega) (by omega)) (Sz.of_lt (by omega) (by omega))
      refine ⟨z, l5, ?_, fin z _ _ d zr zi (by omega) (by omega) (by omega) (by omega) d0 d1, h5.up (by omega)⟩
      rw [run__law_small]
      simp [runB, List.replicate, ir__law_small, e1, hf, e2, e3, e4, e5, e6]
    · obtain ⟨d, l5, e5, d0, d1, h5⟩ := draw_run (m := 2) h3 (by omega) (by decide) (by decide)
      obtain ⟨z, e6, gz, zr, zi⟩ := cut2_ex (k := 4) (a := a - 3) (b := 0) (d := 1 + d) (by omega) (Sz.of_lt (by omega) (by omega)) (sz0 _) (Sz.of_lt (by omega) (by omega))
      refine ⟨z, l5, ?_, fin z _ _ d zr zi (by omega) (by omega) (by omega) (by omega) d0 d1, h5.up (by omega)⟩
      rw [run__law_small]
      simp [runB, List.replicate, ir__law_small, e1, hf, e2, e3, hk, e5, e6]
def Herm (T : Nat → Nat → GQ) : Prop := ∀ i j, T j i = (T i j).bent
def Tz (n : Nat) (d : Int) (b : Nat) (T : Nat → Nat → GQ) : Prop := ∀ i j, i < n → j < n → Cz d b (T i j)
theorem bent_bent' (z : GQ) : z.bent.bent = z := by ext <;> simp
theorem zeros_lco {Γ : Ga} {s q n : Nat} (hs : s ≠ q) (hn : n ≤ 1000) (e : Γ[q]? = some (.fz (.int n))) (hq : s < Γ.length) :
    evX (.lco [s] (.nm s) .rng1 [(.var q)] (.bin .mul (.lst [(.tup [(.cst (.int (0))), (.cst (.int (0))), (.cst (.int (1)))])]) (.var q))) Γ = some (.oo (tabN n fun _ _ => 0), backG Γ Γ [s]) := by
  have gv : ∀ Γ' : Ga, Γ'[q]? = some (.fz (.int n)) → getV q Γ' = some (.int n, Γ') := fun Γ' h => by unfold getV; rw [h]
  have := lco_map (vs := [s]) (t := .nm s) (k := .rng1) (its := [(.var q)]) (elt := .bin .mul (.lst [(.tup [(.cst (.int (0))), (.cst (.int (0))), (.cst (.int (1)))])]) (.var q)) (Γ := Γ) (Γ1 := Γ) (ds := [.int n]) (xs := rngD 0 n) (g := fun _ => vN n fun _ => 0)
    (by simp [gv Γ e]) (by exact it_r1 (by omega)) (by rw [rng_len]; omega) (fun x hx => by
      have l1 : s < (wipeG Γ [s]).length := by rw [wipeG_ln]; exact hq
      refine ⟨(wipeG Γ [s]).set s (.fz x), (wipeG Γ [s]).set s (.fz x), as_nm _ _ _ l1, ?_, ?_⟩
      · have g1 : getV q ((wipeG Γ [s]).set s (.fz x)) = some (.int n, (wipeG Γ [s]).set s (.fz x)) := gv _ (by
          rw [List.getElem?_set, if_neg hs, wipeG_get, if_neg (by simp; intro z; exact absurd z.symm hs), e])
        have r1 : binD .mul (.list [PyData.tuple [.int 0, .int 0, .int 1]]) (.int n) = some (.ow (List.replicate n (tN 0))) := by
          show (if _ then _ else _) = _
          rw [if_pos (by simp [lim_eq]; omega)]
          congr 2
          rw [tN0]
          show (List.replicate (n : Int).toNat [tN 0]).flatten = _
          rw [show (n : Int).toNat = n by simp]
          induction n with
          | zero => rfl
          | succ n ih => simp [List.replicate_succ] 
        have r2 : vN n (fun _ => (0 : GQ)) = List.replicate n (tN 0) := by
          unfold vN
          refine List.ext_getElem (by simp) fun i h1 h2 => by simp
        rw [r2]
        simp [g1, r1]
      · refine List.ext_getElem? fun i => ?_
        simp only [wipeG]
        rw [List.getElem?_set, List.getElem?_set, List.getElem?_set]
        by_cases hi : s = i
        · simp [hi]
        · simp [hi])
  rw [this]
  congr 2
  unfold tabN rngD
  rw [List.map_map]
  simp
end Pk
end EvL

set_option Elab.async false
set_option linter.all false
set_option maxRecDepth 100000
set_option maxHeartbeats 1900000
namespace EvL
open PySem PySem.Spec PyProof.Rows L2
namespace Pk
theorem herm_upd {T : Nat → Nat → GQ} (h : Herm T) (i j : Nat) (z : GQ) (hz : i = j → z.bent = z) : Herm (upd2 (upd2 T i j z) j i z.bent) := fun p q => by
  unfold upd2
  by_cases h1 : p = j ∧ q = i
  · obtain ⟨rfl, rfl⟩ := h1
    by_cases h2 : q = p
    · subst h2; simp [hz rfl]
    · simp [h2, bent_bent']
  · by_cases h2 : p = i ∧ q = j
    · obtain ⟨rfl, rfl⟩ := h2
      have h3 : ¬ (p = q ∧ q = p) := fun z => h1 ⟨z.1, z.2⟩
      simp [h3]
    · have h3 : ¬ (q = j ∧ p = i) := fun z => h2 ⟨z.2, z.1⟩
      have h4 : ¬ (q = i ∧ p = j) := fun z => h1 ⟨z.2, z.1⟩
      simp [h1, h2, h3, h4]
      exact h p q
theorem tz_upd {n : Nat} {d : Int} {b : Nat} {T : Nat → Nat → GQ} (h : Tz n d b T) (i j : Nat) {z : GQ} (hz : Cz d b z) : Tz n d b (upd2 T i j z) := fun p q hp hq => by
  unfold upd2
  split
  · exact hz
  · exact h p q hp hq
theorem upd_diag {T : Nat → Nat → GQ} (h : Herm T) (i : Nat) (r : Rat) : Herm (upd2 T i i (GQ.ofR r)) := by
  have := herm_upd h i i (GQ.ofR r) fun _ => bent_ofR r
  have e : upd2 (upd2 T i i (GQ.ofR r)) i i (GQ.ofR r).bent = upd2 T i i (GQ.ofR r) := by
    funext p q; unfold upd2; split <;> simp [bent_ofR]
  rwa [e] at this
theorem elem_run {c : Int} {l : List D} {m : Int} {Γ : Ga} (h : F1.Pail c l) (hc : c + 6 < 1000000) (h0 : 0 < m) (h1 : m < 1073741824) :
    ∃ z l', evX (.ite (.cmp .gt (.callm Pk._law_draw 0 [(.cst (.int m))]) (.cst (.int (0)))) (.callm Pk._law_gauss 0 []) (.tup [(.cst (.int (0))), (.cst (.int (0))), (.cst (.int (1)))])) (.ow true l :: Γ) = some (.fz (tN z), .ow true l' :: Γ) ∧ Cz 30 27 z ∧ F1.Pail (c + 6) l' := by
  obtain ⟨f, l1, e1, f0, f1, h2⟩ := draw_run (m := m) h (by omega) h0 h1
  by_cases hf : 0 < f
  · obtain ⟨z, l2, e2, hz, h3⟩ := gaussC_run h2 (by omega)
    exact ⟨z, l2, by simp [e1, hf, e2], hz, h3.up (by omega)⟩
  · exact ⟨0, l1, by simp [e1, hf, tN0], Cz.zero _ _, h2.up (by omega)⟩
theorem cz_2520 {z : GQ} (h : Cz 30 27 z) : Cz 2520 34 z := (h.up (k := 84) (c := 7) (by decide) (by decide) (Sz.lit (by decide)) (by decide)).mono (by decide)
theorem hermite_inner {c : Int} {l : List D} {n i : Nat} {T : Nat → Nat → GQ} {s4 s5 : MV} (h : F1.Pail c l) (hc : c + 6 * i < 1000000) (hi : i < n) (hn : n ≤ 6) (hT : Herm T) (hz : Tz n 2520 34 T) :
    ∃ T' l' s4', evF (.nm 4) (evB [(.puto 2 (.var 3) (.var 4) (.ite (.cmp .gt (.callm Pk._law_draw 0 [(.cst (.int (4)))]) (.cst (.int (0)))) (.callm Pk._law_gauss 0 []) (.tup [(.cst (.int (0))), (.cst (.int (0))), (.cst (.int (1)))]))), (.puto 2 (.var 4) (.var 3) (.call Pk._law_mirror Pk.E__law_mirror_1.pm [(.ixo 2 (.var 3) (.var 4))]))]) ((List.range i).map fun (k : Nat) => PyData.int k) [.ow true l, .fz (.int n), .oo (tabN n T), .fz (.int i), s4, s5] =
      some (.nx [.ow true l', .fz (.int n), .oo (tabN n T'), .fz (.int i), s4', s5]) ∧ Herm T' ∧ Tz n 2520 34 T' ∧ F1.Pail (c + 6 * i) l' := by
  obtain ⟨Γ', e, T', l', s4', rfl, a, b, p⟩ := evF_nat (f := fun (k : Nat) => PyData.int k) (t := .nm 4) (b := evB [(.puto 2 (.var 3) (.var 4) (.ite (.cmp .gt (.callm Pk._law_draw 0 [(.cst (.int (4)))]) (.cst (.int (0)))) (.callm Pk._law_gauss 0 []) (.tup [(.cst (.int (0))), (.cst (.int (0))), (.cst (.int (1)))]))), (.puto 2 (.var 4) (.var 3) (.call Pk._law_mirror Pk.E__law_mirror_1.pm [(.ixo 2 (.var 3) (.var 4))]))]) (n := i) (Γ := [.ow true l, .fz (.int n), .oo (tabN n T), .fz (.int i), s4, s5])
    (fun j Γ => ∃ T l s4, Γ = [.ow true l, .fz (.int n), .oo (tabN n T), .fz (.int i), s4, s5] ∧ Herm T ∧ Tz n 2520 34 T ∧ F1.Pail (c + 6 * j) l) ⟨T, l, s4, rfl, hT, hz, h.up (by omega)⟩
    (fun j Γ hj ⟨T, l, s4, hG, hT, hz, hp⟩ => by
      subst hG
      obtain ⟨z, l', e1, z1, h1⟩ := elem_run (m := 4) (Γ := [.fz (.int n), .oo (tabN n T), .fz (.int i), .fz (.int j), s5]) hp (by omega) (by decide) (by decide)
      have hjn : j < n := by omega
      have m1 := mirror_run z
      have hij : i ≠ j := by omega
      have u1 : upd2 T i j z i j = z := by simp [upd2]
      refine ⟨_, [.ow true l', .fz (.int n), .oo (tabN n (upd2 (upd2 T i j z) j i z.bent)), .fz (.int i), .fz (.int j), s5], as_nm _ _ _ (by simp), .inl ?_, _, l', _, rfl, herm_upd hT i j z (fun w => absurd w hij), tz_upd (tz_upd hz i j (cz_2520 z1)) j i (cz_2520 z1).bent, h1.up (by omega)⟩
      show evB _ [.ow true l, .fz (.int n), .oo (tabN n T), .fz (.int i), .fz (.int j), s5] = _
      rw [b_cons', s_puto, e1]
      simp [row_tab T hi rfl, ixN_of (k := (i : Int)) rfl hi, ixN_of (k := (j : Int)) rfl hjn, tabN_get T hi, tabN_set, row_tab (upd2 T i j z) hi rfl, row_tab (upd2 T i j z) hjn rfl, at_vN (upd2 T i j z i) hjn rfl, u1, m1, tabN_get (upd2 T i j z) hjn])
  exact ⟨T', l', s4', e, a, b, p⟩
theorem hermite_run {c : Int} {l : List D} {n : Nat} (h : F1.Pail c l) (hc : c + 50 * n < 1000000) (hn : n ≤ 6) :
    ∃ T l', _law_hermite.run [.list l, .int n] = some (.oo (tabN n T), l') ∧ Herm T ∧ Tz n 2520 34 T ∧ F1.Pail (c + 50 * n) l' := by
  obtain ⟨Γ', e, T', l', s3, s4, rfl, a, b, p⟩ := evF_nat (f := fun (k : Nat) => PyData.int k) (t := .nm 3) (b := evB [(.fr (.nm 4) .rng1 [(.var 3)] [(.puto 2 (.var 3) (.var 4) (.ite (.cmp .gt (.callm Pk._law_draw 0 [(.cst (.int (4)))]) (.cst (.int (0)))) (.callm Pk._law_gauss 0 []) (.tup [(.cst (.int (0))), (.cst (.int (0))), (.cst (.int (1)))]))), (.puto 2 (.var 4) (.var 3) (.call Pk._law_mirror Pk.E__law_mirror_1.pm [(.ixo 2 (.var 3) (.var 4))]))]), (.puto 2 (.var 3) (.var 3) (.callm Pk._law_ratio 0 []))]) (n := n) (Γ := [.ow true l, .fz (.int n), .oo (tabN n fun _ _ => 0), .un, .un, .un])
    (fun i Γ => ∃ T l s3 s4, Γ = [.ow true l, .fz (.int n), .oo (tabN n T), s3, s4, .un] ∧ Herm T ∧ Tz n 2520 34 T ∧ F1.Pail (c + 50 * i) l) ⟨_, l, .un, .un, rfl, fun _ _ => (by ext <;> simp <;> try grind), fun _ _ _ _ => Cz.zero _ _, h.up (by omega)⟩
    (fun i Γ hi ⟨T, l, s3, s4, hG, hT, hz, hp⟩ => by
      subst hG
      obtain ⟨T1, l1, s4', e1, hT1, hz1, h1⟩ := hermite_inner (s4 := s4) (s5 := .un) hp (by omega) hi hn hT hz
      obtain ⟨r, l2, e2, r1, h2⟩ := ratio_run h1 (by omega)
      refine ⟨_, [.ow true l2, .fz (.int n), .oo (tabN n (upd2 T1 i i (GQ.ofR r))), .fz (.int i), s4', .un], as_nm _ _ _ (by simp), .inl ?_, _, l2, _, _, rfl, upd_diag hT1 i r, tz_upd hz1 i i (r1.mono (by decide)), h2.up (by omega)⟩
      show evB _ [.ow true l, .fz (.int n), .oo (tabN n T), .fz (.int i), s4, .un] = _
      have i1 : evs [(.var 3)] [.ow true l, .fz (.int n), .oo (tabN n T), .fz (.int i), s4, .un] = some ([.int i], [.ow true l, .fz (.int n), .oo (tabN n T), .fz (.int i), s4, .un]) := by simp
      rw [b_cons', v_fr, i1, Option.bind_some]
      simp only [it_r1 (show -1000000 ≤ (i : Int) ∧ (i : Int) ≤ 1000000 by omega), Option.bind_some, rng0, e1, onNext_nx]
      simp [e2, row_tab T1 hi rfl, ixN_of (k := (i : Int)) rfl hi, tabN_get T1 hi, tabN_set])
  refine ⟨T', l', ?_, a, b, p⟩
  rw [run__law_hermite, run1 (np := 2) (n := 6) (ds := [.int n]) rfl]
  show (evB ir__law_hermite [.ow true l, .fz (.int n), .un, .un, .un, .un]).bind (outM true) = _
  have z0 := zeros_lco (Γ := [.ow true l, .fz (.int n), .un, .un, .un, .un]) (s := 5) (q := 1) (n := n) (by decide) (by omega) rfl (by simp)
  unfold ir__law_hermite
  rw [b_cons', v_set, z0]
  have i1 : evs [(.var 1)] [.ow true l, .fz (.int n), .oo (tabN n fun _ _ => 0), .un, .un, .un] = some ([.int n], [.ow true l, .fz (.int n), .oo (tabN n fun _ _ => 0), .un, .un, .un]) := by simp
  simp [backG]
  rw [v_fr, i1, Option.bind_some]
  simp only [it_r1 (show -1000000 ≤ (n : Int) ∧ (n : Int) ≤ 1000000 by omega), Option.bind_some, rng0, e, onNext_nx]
  simp
end Pk
end EvL

set_option Elab.async false
set_option linter.all false
set_option maxRecDepth 100000
set_option maxHeartbeats 1900000
namespace EvL
open PySem PySem.Spec PyProof.Rows L2
namespace Pk
abbrev Sqs := List (Rat × (Nat → GQ))
def sqD (n : Nat) (s : Rat × (Nat → GQ)) : D := .tuple [tN (GQ.ofR s.1), .list (vN n s.2)]
def term (s : Rat × (Nat → GQ)) (i j : Nat) : GQ := GQ.ofR s.1 * (s.2 i * (s.2 j).bent)
def addT (T : Nat → Nat → GQ) (s : Rat × (Nat → GQ)) (i j : Nat) : GQ := T i j + term s i j
def madeT (sq : Sqs) : Nat → Nat → GQ := sq.foldl addT fun _ _ => 0
def SqOk (n : Nat) (s : Rat × (Nat → GQ)) : Prop := Cz 42 9 (GQ.ofR s.1) ∧ ∀ i, i < n → Cz 2 4 (s.2 i)
theorem term_cz {n : Nat} {s : Rat × (Nat → GQ)} (h : SqOk n s) {i j : Nat} (hi : i < n) (hj : j < n) : Cz 168 19 (term s i j) :=
  (h.1.mul ((h.2 i hi).mul (h.2 j hj).bent (by decide) (by decide)) (by decide) (by decide)).mono (by decide)
theorem term_herm (s : Rat × (Nat → GQ)) : Herm (term s) := fun i j => by
  unfold term
  rw [bent_mul, bent_mul, bent_ofR, bent_bent']
  grind
theorem add_herm {T : Nat → Nat → GQ} (h : Herm T) (s : Rat × (Nat → GQ)) : Herm (addT T s) := fun i j => by
  unfold addT
  rw [h i j, term_herm s i j]
  ext <;> simp <;> grind
theorem vNm_ix {n i : Nat} (m : Nat → GQ) (h : i < n) : ixD (.list (vN n m)) (.int (i : Int)) = some (tN (m i)) := vN_ix m h rfl
def midT (T : Nat → Nat → GQ) (s : Rat × (Nat → GQ)) (i j : Nat) : Nat → Nat → GQ := fun p q => if p < i ∨ (p = i ∧ q < j) then addT T s p q else T p q
theorem mid_step (T : Nat → Nat → GQ) (s : Rat × (Nat → GQ)) (i j : Nat) : upd2 (midT T s i j) i j (addT T s i j) = midT T s i (j + 1) := by
  funext p q
  unfold upd2 midT
  by_cases h : p = i ∧ q = j
  · obtain ⟨rfl, rfl⟩ := h
    simp
  · rw [if_neg h]
    have : (p < i ∨ (p = i ∧ q < j + 1)) ↔ (p < i ∨ (p = i ∧ q < j)) := by omega
    simp only [this]
theorem made_inner {n i : Nat} {T : Nat → Nat → GQ} {s : Rat × (Nat → GQ)} {b : Nat} {s1 s6 s7 : MV} (hi : i < n) (hn : n ≤ 6) (hT : Tz n 168 b T) (hb : 19 ≤ b) (hb2 : b ≤ 100) (hs : SqOk n s) :
    ∃ s6', evF (.nm 6) (evB [(.puto 2 (.var 5) (.var 6) (.call Pk._law_plus Pk.E__law_plus_2.pm [(.ixo 2 (.var 5) (.var 6)), (.call Pk._law_times_v2 Pk.E__law_times_v2_2.pm [(.var 3), (.call Pk._law_times_v2 Pk.E__law_times_v2_2.pm [(.ixv 4 (.var 5)), (.call Pk._law_mirror Pk.E__law_mirror_1.pm [(.ixv 4 (.var 6))])])])]))]) ((List.range n).map fun (k : Nat) => PyData.int k) [.fz (.int n), s1, .oo (tabN n (midT T s i 0)), .fz (tN (GQ.ofR s.1)), .fz (.list (vN n s.2)), .fz (.int i), s6, s7] =
      some (.nx [.fz (.int n), s1, .oo (tabN n (midT T s i n)), .fz (tN (GQ.ofR s.1)), .fz (.list (vN n s.2)), .fz (.int i), s6', s7]) := by
  obtain ⟨Γ', e, s6', rfl⟩ := evF_nat (f := fun (k : Nat) => PyData.int k) (t := .nm 6) (b := evB [(.puto 2 (.var 5) (.var 6) (.call Pk._law_plus Pk.E__law_plus_2.pm [(.ixo 2 (.var 5) (.var 6)), (.call Pk._law_times_v2 Pk.E__law_times_v2_2.pm [(.var 3), (.call Pk._law_times_v2 Pk.E__law_times_v2_2.pm [(.ixv 4 (.var 5)), (.call Pk._law_mirror Pk.E__law_mirror_1.pm [(.ixv 4 (.var 6))])])])]))]) (n := n) (Γ := [.fz (.int n), s1, .oo (tabN n (midT T s i 0)), .fz (tN (GQ.ofR s.1)), .fz (.list (vN n s.2)), .fz (.int i), s6, s7])
    (fun j Γ => ∃ s6, Γ = [.fz (.int n), s1, .oo (tabN n (midT T s i j)), .fz (tN (GQ.ofR s.1)), .fz (.list (vN n s.2)), .fz (.int i), s6, s7]) ⟨s6, rfl⟩
    (fun j Γ hj ⟨s6, hG⟩ => by
      subst hG
      refine ⟨_, [.fz (.int n), s1, .oo (tabN n (midT T s i (j + 1))), .fz (tN (GQ.ofR s.1)), .fz (.list (vN n s.2)), .fz (.int i), .fz (.int j), s7], as_nm _ _ _ (by simp), .inl ?_, _, rfl⟩
      show evB _ [.fz (.int n), s1, .oo (tabN n (midT T s i j)), .fz (tN (GQ.ofR s.1)), .fz (.list (vN n s.2)), .fz (.int i), .fz (.int j), s7] = _
      have z0 : midT T s i j i j = T i j := by simp [midT]
      have c1 := (hs.2 i hi).gz' (c := 8) (by decide) (by decide) (Sz.lit (by decide))
      have c2 := (hs.2 j hj).bent.gz' (c := 8) (by decide) (by decide) (Sz.lit (by decide))
      have c3 := ((hs.2 i hi).mul (hs.2 j hj).bent (by decide) (by decide)).gz' (c := 12) (by decide) (by decide) (Sz.lit (by decide))
      have c4 := hs.1.gz' (c := 12) (by decide) (by decide) (Sz.lit (by decide))
      have c5 := (term_cz hs hi hj).gz' (c := 20) (by decide) (by decide) (Sz.lit (by decide))
      have c6 := (hT i j hi hj).gz' (c := 100) (by decide) hb2 ((Sz.lit (b := 8) (by decide)).mono (by decide))
      have t1 := mirror_run (s.2 j)
      have t2 := times2_run (c1.mono (show 8 ≤ 1900000 by decide)) (c2.mono (show 8 ≤ 1900000 by decide))
      have t3 := times2_run (c4.mono (show 12 ≤ 1900000 by decide)) (c3.mono (show 12 ≤ 1900000 by decide))
      have t4 := plus_run (c6.mono (show 100 ≤ 1900000 by decide)) (c5.mono (show 20 ≤ 1900000 by decide))
      have t4' : _law_plus.run [tN (T i j), tN (GQ.ofR s.1 * (s.2 i * (s.2 j).bent))] = some (.fz (tN (addT T s i j)), []) := t4
      simp [row_tab (midT T s i j) hi rfl, at_vN (midT T s i j i) hj rfl, z0, vNm_ix s.2 hi, vNm_ix s.2 hj, t1, t2, t3, t4', ixN_of (k := (i : Int)) rfl hi, ixN_of (k := (j : Int)) rfl hj, tabN_get (midT T s i j) hi, tabN_set, mid_step])
  exact ⟨s6', e⟩
theorem mid_next {n : Nat} (T : Nat → Nat → GQ) (s : Rat × (Nat → GQ)) (i : Nat) : tabN n (midT T s i n) = tabN n (midT T s (i + 1) 0) := tabN_congr fun p q hp hq => by
  unfold midT
  have : (p < i ∨ (p = i ∧ q < n)) ↔ (p < i + 1 ∨ (p = i + 1 ∧ q < 0)) := by omega
  simp only [this]
theorem made_outer {n : Nat} {T : Nat → Nat → GQ} {s : Rat × (Nat → GQ)} {b : Nat} {s1 s5 s6 s7 : MV} (hn : n ≤ 6) (hT : Tz n 168 b T) (hb : 19 ≤ b) (hb2 : b ≤ 100) (hs : SqOk n s) :
    ∃ s5' s6', evB [(.fr (.nm 5) .rng1 [(.var 0)] [(.fr (.nm 6) .rng1 [(.var 0)] [(.puto 2 (.var 5) (.var 6) (.call Pk._law_plus Pk.E__law_plus_2.pm [(.ixo 2 (.var 5) (.var 6)), (.call Pk._law_times_v2 Pk.E__law_times_v2_2.pm [(.var 3), (.call Pk._law_times_v2 Pk.E__law_times_v2_2.pm [(.ixv 4 (.var 5)), (.call Pk._law_mirror Pk.E__law_mirror_1.pm [(.ixv 4 (.var 6))])])])]))])])] [.fz (.int n), s1, .oo (tabN n T), .fz (tN (GQ.ofR s.1)), .fz (.list (vN n s.2)), s5, s6, s7] =
      some (.nx [.fz (.int n), s1, .oo (tabN n (addT T s)), .fz (tN (GQ.ofR s.1)), .fz (.list (vN n s.2)), s5', s6', s7]) := by
  obtain ⟨Γ', e, s5', s6', rfl⟩ := evF_nat (f := fun (k : Nat) => PyData.int k) (t := .nm 5) (b := evB [(.fr (.nm 6) .rng1 [(.var 0)] [(.puto 2 (.var 5) (.var 6) (.call Pk._law_plus Pk.E__law_plus_2.pm [(.ixo 2 (.var 5) (.var 6)), (.call Pk._law_times_v2 Pk.E__law_times_v2_2.pm [(.var 3), (.call Pk._law_times_v2 Pk.E__law_times_v2_2.pm [(.ixv 4 (.var 5)), (.call Pk._law_mirror Pk.E__law_mirror_1.pm [(.ixv 4 (.var 6))])])])]))])]) (n := n) (Γ := [.fz (.int n), s1, .oo (tabN n T), .fz (tN (GQ.ofR s.1)), .fz (.list (vN n s.2)), s5, s6, s7])
    (fun i Γ => ∃ s5 s6, Γ = [.fz (.int n), s1, .oo (tabN n (midT T s i 0)), .fz (tN (GQ.ofR s.1)), .fz (.list (vN n s.2)), s5, s6, s7]) ⟨s5, s6, by
      have : tabN n (midT T s 0 0) = tabN n T := tabN_congr fun p q _ _ => by simp [midT]
      rw [this]⟩
    (fun i Γ hi ⟨s5, s6, hG⟩ => by
      subst hG
      obtain ⟨s6', e1⟩ := made_inner (s1 := s1) (s6 := s6) (s7 := s7) hi hn hT hb hb2 hs
      refine ⟨_, [.fz (.int n), s1, .oo (tabN n (midT T s (i + 1) 0)), .fz (tN (GQ.ofR s.1)), .fz (.list (vN n s.2)), .fz (.int i), s6', s7], as_nm _ _ _ (by simp), .inl ?_, _, _, rfl⟩
      show evB _ [.fz (.int n), s1, .oo (tabN n (midT T s i 0)), .fz (tN (GQ.ofR s.1)), .fz (.list (vN n s.2)), .fz (.int i), s6, s7] = _
      have i1 : evs [(.var 0)] [.fz (.int n), s1, .oo (tabN n (midT T s i 0)), .fz (tN (GQ.ofR s.1)), .fz (.list (vN n s.2)), .fz (.int i), s6, s7] = some ([.int n], [.fz (.int n), s1, .oo (tabN n (midT T s i 0)), .fz (tN (GQ.ofR s.1)), .fz (.list (vN n s.2)), .fz (.int i), s6, s7]) := by simp
      rw [b_cons', v_fr, i1, Option.bind_some]
      simp only [it_r1 (show -1000000 ≤ (n : Int) ∧ (n : Int) ≤ 1000000 by omega), Option.bind_some, rng0, e1, onNext_nx, mid_next]
      simp)
  refine ⟨s5', s6', ?_⟩
  have i1 : evs [(.var 0)] [.fz (.int n), s1, .oo (tabN n T), .fz (tN (GQ.ofR s.1)), .fz (.list (vN n s.2)), s5, s6, s7] = some ([.int n], [.fz (.int n), s1, .oo (tabN n T), .fz (tN (GQ.ofR s.1)), .fz (.list (vN n s.2)), s5, s6, s7]) := by simp
  rw [b_cons', v_fr, i1, Option.bind_some]
  simp only [it_r1 (show -1000000 ≤ (n : Int) ∧ (n : Int) ≤ 1000000 by omega), Option.bind_some, rng0, e, onNext_nx]
  have : tabN n (midT T s n 0) = tabN n (addT T s) := tabN_congr fun p q hp _ => by simp [midT, hp]
  rw [this]
  simp
theorem add_tz {n : Nat} {T : Nat → Nat → GQ} {s : Rat × (Nat → GQ)} {b : Nat} (hT : Tz n 168 b T) (hb : 19 ≤ b) (hs : SqOk n s) : Tz n 168 (b + 1) (addT T s) := fun i j hi hj => ((hT i j hi hj).add (term_cz hs hi hj)).mono (by omega)
theorem made_run {n : Nat} {sq : Sqs} (hn : n ≤ 6) (hl : sq.length ≤ 60) (hs : ∀ s ∈ sq, SqOk n s) :
    _law_made.run [.int n, .list (sq.map (sqD n))] = some (.oo (tabN n (madeT sq)), []) ∧ Herm (madeT sq) ∧ Tz n 168 (19 + sq.length) (madeT sq) := by
  obtain ⟨Γ', e, s3, s4, s5, s6, rfl, hH, hZ⟩ := evF_all (f := sqD n) (t := .tp [(.nm 3), (.nm 4)]) (b := evB [(.fr (.nm 5) .rng1 [(.var 0)] [(.fr (.nm 6) .rng1 [(.var 0)] [(.puto 2 (.var 5) (.var 6) (.call Pk._law_plus Pk.E__law_plus_2.pm [(.ixo 2 (.var 5) (.var 6)), (.call Pk._law_times_v2 Pk.E__law_times_v2_2.pm [(.var 3), (.call Pk._law_times_v2 Pk.E__law_times_v2_2.pm [(.ixv 4 (.var 5)), (.call Pk._law_mirror Pk.E__law_mirror_1.pm [(.ixv 4 (.var 6))])])])]))])])]) (l := sq) (Γ := [.fz (.int n), .fz (.list (sq.map (sqD n))), .oo (tabN n fun _ _ => 0), .un, .un, .un, .un, .un])
    (fun p Γ => ∃ s3 s4 s5 s6, Γ = [.fz (.int n), .fz (.list (sq.map (sqD n))), .oo (tabN n (madeT p)), s3, s4, s5, s6, .un] ∧ Herm (madeT p) ∧ Tz n 168 (19 + p.length) (madeT p)) ⟨.un, .un, .un, .un, rfl, fun _ _ => by simp [madeT]; ext <;> simp <;> try grind, fun _ _ _ _ => Cz.zero _ _⟩
    (fun p s q Γ hp ⟨s3, s4, s5, s6, hG, hH, hZ⟩ => by
      subst hG
      have hm : s ∈ sq := by rw [hp]; simp
      have hpl : p.length ≤ 60 := by
        have := congrArg List.length hp
        simp at this; omega
      obtain ⟨s5', s6', e1⟩ := made_outer (s1 := .fz (.list (sq.map (sqD n)))) (s5 := s5) (s6 := s6) (s7 := .un) hn hZ (by omega) (by omega) (hs s hm)
      refine ⟨[.fz (.int n), .fz (.list (sq.map (sqD n))), .oo (tabN n (madeT p)), .fz (tN (GQ.ofR s.1)), .fz (.list (vN n s.2)), s5, s6, .un], _, by simp [sqD], .inl e1, .fz (tN (GQ.ofR s.1)), .fz (.list (vN n s.2)), s5', s6', ?_, ?_, ?_⟩
      · rw [show madeT (p ++ [s]) = addT (madeT p) s by simp [madeT]]
      · rw [show madeT (p ++ [s]) = addT (madeT p) s by simp [madeT]]; exact add_herm hH s
      · rw [show madeT (p ++ [s]) = addT (madeT p) s by simp [madeT]]
        have e : 19 + (p ++ [s]).length = 19 + p.length + 1 := by simp; omega
        rw [e]; exact add_tz hZ (by omega) (hs s hm))
  refine ⟨?_, hH, hZ⟩
  rw [run__law_made, run0 (np := 2) (n := 8) (ds := [.int n, .list (sq.map (sqD n))]) rfl]
  show (evB ir__law_made [.fz (.int n), .fz (.list (sq.map (sqD n))), .un, .un, .un, .un, .un, .un]).bind (outM false) = _
  have z0 := zeros_lco (Γ := [.fz (.int n), .fz (.list (sq.map (sqD n))), .un, .un, .un, .un, .un, .un]) (s := 7) (q := 0) (n := n) (by decide) (by omega) rfl (by simp)
  unfold ir__law_made
  rw [b_cons', v_set, z0]
  have i1 : evs [(.var 1)] [.fz (.int n), .fz (.list (sq.map (sqD n))), .oo (tabN n fun _ _ => 0), .un, .un, .un, .un, .un] = some ([.list (sq.map (sqD n))], [.fz (.int n), .fz (.list (sq.map (sqD n))), .oo (tabN n fun _ _ => 0), .un, .un, .un, .un, .un]) := by simp
  simp [backG]
  rw [v_fr, i1, Option.bind_some]
  simp only [show itD .seq [.list (sq.map (sqD n))] = some (sq.map (sqD n)) from rfl, Option.bind_some, e, onNext_nx]
  simp
end Pk
end EvL

set_option Elab.async false
set_option linter.all false
set_option maxRecDepth 100000
set_option maxHeartbeats 1900000
namespace EvL
open PySem PySem.Spec PyProof.Rows L2
theorem maps_of {α : Type} {f : α → D} {P : α → Prop} : ∀ {ys : List D}, (∀ y ∈ ys, ∃ x, y = f x ∧ P x) → ∃ xs : List α, ys = xs.map f ∧ xs.length = ys.length ∧ ∀ x ∈ xs, P x
  | [], _ => ⟨[], rfl, rfl, fun _ h => nomatch h⟩
  | y :: ys, h => by
    obtain ⟨x, rfl, hx⟩ := h y (List.mem_cons_self ..)
    obtain ⟨xs, rfl, hl, hp⟩ := maps_of (ys := ys) fun y hy => h y (List.mem_cons_of_mem _ hy)
    exact ⟨x :: xs, rfl, by simp, fun z hz => by
      rcases List.mem_cons.mp hz with rfl | hz
      · exact hx
      · exact hp z hz⟩
theorem vN_of {P : GQ → Prop} {ys : List D} {n : Nat} (hl : ys.length = n) (h : ∀ y ∈ ys, ∃ z, y = tN z ∧ P z) : ∃ c : Nat → GQ, ys = vN n c ∧ ∀ i, i < n → P (c i) := by
  obtain ⟨zs, rfl, hl2, hp⟩ := maps_of h
  refine ⟨fun i => zs.getD i 0, ?_, fun i hi => ?_⟩
  · have hz : zs.length = n := by simpa using hl
    refine List.ext_getElem? fun i => ?_
    unfold vN
    rw [List.getElem?_map, List.getElem?_map]
    by_cases hi : i < n
    · simp [hi, hz]
    · simp [hi, List.getElem?_eq_none (show zs.length ≤ i by omega)]
  · have hz : i < zs.length := by simp at hl; omega
    simp [hz]
    exact hp _ (List.getElem_mem hz)
/-- a comprehension that draws -/
theorem lc_draws {vs : List Nat} {t : Tg} {k : IK} {its : List IE} {elt : IE} {l0 l : List D} {rest : Ga} {ds xs : List D} {c K : Int} (R : D → Prop)
    (h1 : evs its (.ow true l0 :: rest) = some (ds, .ow true l :: rest)) (h2 : itD k ds = some xs) (hl : xs.length ≤ 1000000) (h0 : F1.Pail c l)
    (step : ∀ (j : Nat) (l : List D) x, xs[j]? = some x → F1.Pail (c + K * j) l → ∃ Γ2 y l' Γ3, asg t x (wipeG (.ow true l :: rest) vs) = some Γ2 ∧ evX elt Γ2 = some (y, Γ3) ∧ R y.d ∧ wipeG Γ3 vs = wipeG (.ow true l' :: rest) vs ∧ F1.Pail (c + K * (j + 1 : Nat)) l') :
    ∃ ys l', evX (.lc vs t k its [] elt) (.ow true l0 :: rest) = some (.ow ys, backG (.ow true l :: rest) (.ow true l' :: rest) vs) ∧ ys.length = xs.length ∧ (∀ y ∈ ys, R y) ∧ F1.Pail (c + K * xs.length) l' := by
  obtain ⟨ys, Γ5, e, hl', hR, l', hG, hp⟩ := lc_ex (vs := vs) (t := t) (k := k) (its := its) (elt := elt) (Γ := .ow true l0 :: rest) (Γ1 := .ow true l :: rest) (ds := ds) (xs := xs)
    (fun j Γ => ∃ l', Γ = wipeG (.ow true l' :: rest) vs ∧ F1.Pail (c + K * j) l') R h1 h2 hl ⟨l, rfl, by simpa using h0⟩
    (fun j x Γ hx ⟨l1, hG, hp⟩ => by
      obtain ⟨Γ2, y, l2, Γ3, a, b, r, w, p⟩ := step j l1 x hx hp
      exact ⟨Γ2, y, Γ3, by rw [hG]; exact a, b, r, l2, w, p⟩)
  exact ⟨ys, l', by rw [e, hG, back_wipe], hl', hR, hp⟩
namespace Pk
theorem rng_get {n : Nat} {x : D} {j : Nat} (h : (rngD 0 (n : Int))[j]? = some x) : j < n ∧ x = .int j := by
  rw [rng0, List.getElem?_map] at h
  obtain ⟨i, h1, h2⟩ := Option.map_eq_some_iff.mp h
  obtain ⟨h3, h4⟩ := List.getElem?_eq_some_iff.mp h1
  simp at h3 h4
  subst h4
  exact ⟨h3, h2.symm⟩
theorem many_run {c : Int} {l : List D} (h : F1.Pail c l) (hc : c < 1000000) : ∃ (n : Nat) (l' : List D), _law_many.run [.list l] = some (.fz (.int n), l') ∧ n ≤ 5 ∧ F1.Pail (c + 1) l' := by
  obtain ⟨g, l2, e2, hg, h2⟩ := pick_run (xs := [.int 0, .int 1, .int 1, .int 2, .int 2, .int 2, .int 3, .int 3, .int 3, .int 3, .int 4, .int 4, .int 5]) h hc (by simp) (by simp) _ (.inl rfl)
  have r : _law_many.run [.list l] = some (.fz g, l2) := by
    rw [run__law_many]; simp [runB, List.replicate, ir__law_many, e2]
  simp at hg
  rcases hg with rfl | rfl | rfl | rfl | rfl | rfl
  · exact ⟨0, l2, r, by decide, h2⟩
  · exact ⟨1, l2, r, by decide, h2⟩
  · exact ⟨2, l2, r, by decide, h2⟩
  · exact ⟨3, l2, r, by decide, h2⟩
  · exact ⟨4, l2, r, by decide, h2⟩
  · exact ⟨5, l2, r, by decide, h2⟩
/-- the told form of numbers, of a table -/
theorem vline_run {n b : Nat} {m : Nat → GQ} (h : ∀ i, i < n → Gz b (m i)) (hb : b ≤ 8900000) (hn : n ≤ 1000) : _law_line.run [.list (vN n m)] = some (.fz (.tuple (vG n m)), []) := by
  have := line_run (p := (List.range n).map m) (fun z hz => by
    obtain ⟨i, hi, rfl⟩ := List.mem_map.mp hz
    exact (h i (List.mem_range.mp hi)).mono hb) (by simpa using hn)
  simpa [vN, vG, rD, Function.comp_def] using this
theorem tab_run {n b : Nat} {T : Nat → Nat → GQ} (h : ∀ i j, i < n → j < n → Gz b (T i j)) (hb : b ≤ 8900000) (hn : n ≤ 1000) : _law_tab.run [tabD n T] = some (.fz (tabG n T), []) := by
  have e := lc_map (f := fun (i : Nat) => PyData.list (vN n (T i))) (g := fun i => PyData.tuple (vG n (T i))) (vs := [1]) (t := .nm 1) (k := .seq) (its := [(.var 0)]) (elt := (.call Pk._law_line Pk.E__law_line_1.pm [(.var 1)])) (Γ := [.fz (tabD n T), .un]) (Γ1 := [.fz (tabD n T), .un]) (ds := [tabD n T]) (l := List.range n) (by simp) rfl (by simp; omega) (fun i hi => by
    have r := vline_run (m := T i) (fun j hj => h i j (List.mem_range.mp hi) hj) hb hn
    exact ⟨[.fz (tabD n T), .fz (.list (vN n (T i)))], .fz (.tuple (vG n (T i))), [.fz (tabD n T), .fz (.list (vN n (T i)))], by simp [wipeG], by simp [r], rfl, by simp [wipeG]⟩)
  rw [run__law_tab]
  simp [runB, List.replicate, ir__law_tab, e]
  rfl
end Pk
end EvL

set_option Elab.async false
set_option linter.all false
set_option maxRecDepth 100000
set_option maxHeartbeats 1900000
namespace EvL
open PySem PySem.Spec PyProof.Rows L2
namespace Pk
theorem small_row {c : Int} {l : List D} {n : Nat} {s2 s3 s4 s5 s6 : MV} (h : F1.Pail c l) (hc : c + 5 * n < 1000000) (hn : n ≤ 6) :
    ∃ (m : Nat → GQ) (l' : List D), evX (.lc [7] (.nm 7) .rng1 [(.var 1)] [] (.callm Pk._law_small 0 [])) [.ow true l, .fz (.int n), s2, s3, s4, s5, s6, .un] = some (.ow (vN n m), [.ow true l', .fz (.int n), s2, s3, s4, s5, s6, .un]) ∧ (∀ i, i < n → Cz 2 4 (m i)) ∧ F1.Pail (c + 5 * n) l' := by
  obtain ⟨ys, l', e, hl, hR, hp⟩ := lc_draws (vs := [7]) (t := .nm 7) (k := .rng1) (its := [(.var 1)]) (elt := (.callm Pk._law_small 0 [])) (l0 := l) (l := l) (rest := [.fz (.int n), s2, s3, s4, s5, s6, .un]) (ds := [.int n]) (xs := rngD 0 n) (c := c) (K := 5) (fun y => ∃ z, y = tN z ∧ Cz 2 4 z)
    (by simp) (it_r1 (by omega)) (by rw [rng_len]; omega) h (fun j l x hx hp => by
      obtain ⟨hj, rfl⟩ := rng_get hx
      obtain ⟨z, l', e1, z1, h1⟩ := small_run hp (by omega)
      exact ⟨[.ow true l, .fz (.int n), s2, s3, s4, s5, s6, .fz (.int j)], _, l', _, by simp [wipeG], by simp [e1]; exact ⟨rfl, rfl⟩, ⟨z, rfl, z1⟩, by simp [wipeG], by have := h1.up (d := c + 5 * ((j + 1 : Nat) : Int)) (by omega); exact this⟩)
  rw [rng_len] at hl hp
  obtain ⟨m, rfl, hm⟩ := vN_of (n := n) (by simpa using hl) hR
  refine ⟨m, l', ?_, hm, by simpa using hp⟩
  rw [e]
  simp [backG]
theorem squares_lc {c : Int} {l : List D} {n k : Nat} {s2 s4 s5 : MV} (h : F1.Pail c l) (hc : c + 40 * k < 1000000) (hn : n ≤ 6) (hk : k ≤ 1000) :
    ∃ (sq : Sqs) (l' : List D), evX (.lc [6] (.nm 6) .rng1 [(.var 3)] [] (.tup [(.callm Pk._law_positive 0 []), (.lc [7] (.nm 7) .rng1 [(.var 1)] [] (.callm Pk._law_small 0 []))])) [.ow true l, .fz (.int n), s2, .fz (.int k), s4, s5, .un, .un] = some (.ow (sq.map (sqD n)), [.ow true l', .fz (.int n), s2, .fz (.int k), s4, s5, .un, .un]) ∧ sq.length = k ∧ (∀ s ∈ sq, SqOk n s ∧ 0 < s.1) ∧ F1.Pail (c + 40 * k) l' := by
  obtain ⟨ys, l', e, hl, hR, hp⟩ := lc_draws (vs := [6]) (t := .nm 6) (k := .rng1) (its := [(.var 3)]) (elt := (.tup [(.callm Pk._law_positive 0 []), (.lc [7] (.nm 7) .rng1 [(.var 1)] [] (.callm Pk._law_small 0 []))])) (l0 := l) (l := l) (rest := [.fz (.int n), s2, .fz (.int k), s4, s5, .un, .un]) (ds := [.int k]) (xs := rngD 0 k) (c := c) (K := 40) (fun y => ∃ s, y = sqD n s ∧ SqOk n s ∧ 0 < s.1)
    (by simp) (it_r1 (by omega)) (by rw [rng_len]; omega) h (fun j l x hx hp => by
      obtain ⟨hj, rfl⟩ := rng_get hx
      obtain ⟨r, l1, e1, r0, r1, h1⟩ := positive_run hp (by omega)
      obtain ⟨m, l2, e2, m1, h2⟩ := small_row (s2 := s2) (s3 := .fz (.int k)) (s4 := s4) (s5 := s5) (s6 := .fz (.int j)) (n := n) h1 (by omega) hn
      exact ⟨[.ow true l, .fz (.int n), s2, .fz (.int k), s4, s5, .fz (.int j), .un], .fz (sqD n (r, m)), l2, [.ow true l2, .fz (.int n), s2, .fz (.int k), s4, s5, .fz (.int j), .un], by simp [wipeG], by simp [e1, e2, sqD], ⟨(r, m), rfl, ⟨r1, m1⟩, r0⟩, by simp [wipeG], by have := h2.up (d := c + 40 * ((j + 1 : Nat) : Int)) (by omega); exact this⟩)
  rw [rng_len] at hl hp
  obtain ⟨sq, rfl, hl2, hm⟩ := maps_of hR
  refine ⟨sq, l', ?_, by simpa using hl, hm, by simpa using hp⟩
  rw [e]
  simp [backG]
theorem Tz.mono {n : Nat} {d : Int} {a b : Nat} {T : Nat → Nat → GQ} (h : Tz n d a T) (hb : a ≤ b) : Tz n d b T := fun i j hi hj => (h i j hi hj).mono hb
theorem tz_168 {n b : Nat} {T : Nat → Nat → GQ} (h : Tz n 168 b T) : Tz n 2520 (b + 4) T := fun i j hi hj => (h i j hi hj).up (k := 15) (by decide) (by decide) (Sz.lit (by decide)) (by decide)
theorem drawn_table_run {c : Int} {l : List D} {n : Nat} (h : F1.Pail c l) (hc : c + 500 < 1000000) (hn : n ≤ 6) :
    ∃ T l', _law_drawn_table.run [.list l, .int n] = some (.oo (tabN n T), l') ∧ Herm T ∧ Tz n 2520 34 T ∧ F1.Pail (c + 500) l' := by
  obtain ⟨w, l1, e1, w0, w1, h1⟩ := draw_run (m := 5) h (by omega) (by decide) (by decide)
  by_cases hw : w = 0
  · subst hw
    obtain ⟨T, l2, e2, hT, hz, h2⟩ := hermite_run (n := n) h1 (by omega) hn
    refine ⟨T, l2, ?_, hT, hz, h2.up (by omega)⟩
    rw [run__law_drawn_table]
    simp [runB, List.replicate, ir__law_drawn_table, e1, e2]
  -- how many squares
  have s2 : ∃ (k : Nat) (l2 : List D), evS (.set 3 (.ite (.cmp .ne (.var 2) (.cst (.int (2)))) (.callm Pk._law_draw 0 [(.bin .add (.var 1) (.cst (.int (1))))]) (.var 1))) [.ow true l1, .fz (.int n), .fz (.int w), .un, .un, .un, .un, .un] = some (.nx [.ow true l2, .fz (.int n), .fz (.int w), .fz (.int k), .un, .un, .un, .un]) ∧ k ≤ n ∧ F1.Pail (c + 2) l2 := by
    by_cases h2 : w = 2
    · subst h2
      exact ⟨n, l1, by simp, Nat.le_refl _, h1.up (by omega)⟩
    · obtain ⟨f, l2, e2, f0, f1, p2⟩ := draw_run (m := n + 1) h1 (by omega) (by omega) (by omega)
      refine ⟨f.toNat, l2, ?_, by omega, p2.up (by omega)⟩
      simp [h2, e2]
      omega
  obtain ⟨k, l2, e2, hk, h2⟩ := s2
  obtain ⟨sq, l3, e3, hl3, hsq, h3⟩ := squares_lc (s2 := .fz (.int w)) (s4 := .un) (s5 := .un) (n := n) (k := k) h2 (by omega) hn (by omega)
  obtain ⟨m1, m2, m3⟩ := made_run (n := n) (sq := sq) hn (by omega) fun s hs => (hsq s hs).1
  have z3 : Tz n 2520 29 (madeT sq) := (tz_168 m3).mono (by omega)
  -- something taken off
  have s4 : ∃ (T : Nat → Nat → GQ) (l4 : List D) (s5 : MV), evS (.ife (.and (.cmp .eq (.var 2) (.cst (.int (3)))) (.cmp .gt (.var 1) (.cst (.int (0))))) [(.set 5 (.callm Pk._law_draw 0 [(.var 1)])), (.puto 4 (.var 5) (.var 5) (.call Pk._law_less_v2 Pk.E__law_less_v2_2.pm [(.ixo 4 (.var 5) (.var 5)), (.call Pk._law_cut_v2 Pk.E__law_cut_v2_3.pm [(.cst (.int (1))), (.cst (.int (0))), (.bin .add (.cst (.int (1))) (.callm Pk._law_draw 0 [(.cst (.int (9)))]))])]))] []) [.ow true l3, .fz (.int n), .fz (.int w), .fz (.int k), .oo (tabN n (madeT sq)), .un, .un, .un] =
      some (.nx [.ow true l4, .fz (.int n), .fz (.int w), .fz (.int k), .oo (tabN n T), s5, .un, .un]) ∧ Herm T ∧ Tz n 2520 30 T ∧ F1.Pail (c + 302) l4 := by
    by_cases h4 : w = 3 ∧ 0 < n
    · obtain ⟨rfl, hn0⟩ := h4
      obtain ⟨a, l4, e4, a0, a1, h4⟩ := draw_run (m := n) h3 (by omega) (by omega) (by omega)
      obtain ⟨f, l5, e5, f0, f1, h5⟩ := draw_run (m := 9) h4 (by omega) (by omega) (by omega)
      obtain ⟨at_, rfl⟩ : ∃ i : Nat, a = i := ⟨a.toNat, by omega⟩
      have hat : at_ < n := by omega
      obtain ⟨z, e6, gz, zr, zi⟩ := cut2_ex (k := 4) (a := 1) (b := 0) (d := 1 + f) (by omega) (Sz.lit (by decide)) (sz0 _) (Sz.of_lt (by omega) (by omega))
      have zz : z = GQ.ofR z.re := by ext <;> simp [zi]; grind
      have zc : Cz 2520 12 z := by
        have mk : ∀ k : Int, (1 + f) * k = 2520 → 0 < k → k ≤ 2520 → Cz 2520 12 z := fun k h1 h2 h3 => Cz.of zr zi (by omega) (show k ≠ 0 by omega) h1 (by rw [Int.one_mul]; exact Sz.of_lt (by omega) (by omega)) (by rw [Int.zero_mul]; exact sz0 _)
        rcases (show f = 0 ∨ f = 1 ∨ f = 2 ∨ f = 3 ∨ f = 4 ∨ f = 5 ∨ f = 6 ∨ f = 7 ∨ f = 8 by omega) with rfl | rfl | rfl | rfl | rfl | rfl | rfl | rfl | rfl
        · exact mk 2520 (by decide) (by decide) (by decide)
        · exact mk 1260 (by decide) (by decide) (by decide)
        · exact mk 840 (by decide) (by decide) (by decide)
        · exact mk 630 (by decide) (by decide) (by decide)
        · exact mk 504 (by decide) (by decide) (by decide)
        · exact mk 420 (by decide) (by decide) (by decide)
        · exact mk 360 (by decide) (by decide) (by decide)
        · exact mk 315 (by decide) (by decide) (by decide)
        · exact mk 280 (by decide) (by decide) (by decide)
      have c1 := (z3 at_ at_ hat hat).gz' (c := 29) (by decide) (by decide) (Sz.lit (by decide))
      have t1 := less2_run (c1.mono (show 29 ≤ 1900000 by decide)) (gz.mono (show 4 ≤ 1900000 by decide))
      have hd : madeT sq at_ at_ - z = GQ.ofR ((madeT sq at_ at_).re - z.re) := by
        have := m2 at_ at_
        have hi : (madeT sq at_ at_).im = 0 := by
          have := congrArg GQ.im this
          simp at this
          grind
        ext
        · simp
        · simp [hi, zi]; grind
      refine ⟨upd2 (madeT sq) at_ at_ (GQ.ofR ((madeT sq at_ at_).re - z.re)), l5, .fz (.int at_), ?_, upd_diag m2 at_ _, ?_, h5.up (by omega)⟩
      · rw [hd] at t1
        have n0 : ¬ n = 0 := by omega
        have n0' : 0 < n := by omega
        simp [n0, n0', e4, e5, e6, row_tab (madeT sq) hat rfl, at_vN (madeT sq at_) hat rfl, t1, ixN_of (k := (at_ : Int)) rfl hat, tabN_get (madeT sq) hat, tabN_set]
      · rw [← hd]
        exact tz_upd (z3.mono (by decide)) at_ at_ (((z3 at_ at_ hat hat).sub zc).mono (by decide))
    · refine ⟨madeT sq, l3, .un, ?_, m2, z3.mono (by decide), h3.up (by omega)⟩
      by_cases hw3 : w = 3
      · have : ¬ 0 < n := fun z => h4 ⟨hw3, by omega⟩
        have : n = 0 := by omega
        simp [hw3, this]
      · simp [hw3]
  obtain ⟨T, l4, s5, e4, hT, hz, h4⟩ := s4
  have s5' : ∃ (T' : Nat → Nat → GQ) (l5 : List D) (s5' : MV), evS (.ife (.and (.cmp .eq (.var 2) (.cst (.int (4)))) (.cmp .gt (.var 1) (.cst (.int (1))))) [(.set 5 (.callm Pk._law_draw 0 [(.bin .sub (.var 1) (.cst (.int (1))))])), (.puto 4 (.var 5) (.var 5) (.tup [(.cst (.int (0))), (.cst (.int (0))), (.cst (.int (1)))])), (.puto 4 (.var 5) (.bin .sub (.var 1) (.cst (.int (1)))) (.callm Pk._law_small 0 [])), (.puto 4 (.bin .sub (.var 1) (.cst (.int (1)))) (.var 5) (.call Pk._law_mirror Pk.E__law_mirror_1.pm [(.ixo 4 (.var 5) (.bin .sub (.var 1) (.cst (.int (1)))))]))] []) [.ow true l4, .fz (.int n), .fz (.int w), .fz (.int k), .oo (tabN n T), s5, .un, .un] =
      some (.nx [.ow true l5, .fz (.int n), .fz (.int w), .fz (.int k), .oo (tabN n T'), s5', .un, .un]) ∧ Herm T' ∧ Tz n 2520 34 T' ∧ F1.Pail (c + 500) l5 := by
    by_cases h6 : w = 4 ∧ 1 < n
    · obtain ⟨rfl, hn1⟩ := h6
      obtain ⟨a, l5, e5, a0, a1, h5⟩ := draw_run (m := n - 1) h4 (by omega) (by omega) (by omega)
      obtain ⟨at_, rfl⟩ : ∃ i : Nat, a = i := ⟨a.toNat, by omega⟩
      have hat : at_ < n := by omega
      have hl1 : n - 1 < n := by omega
      have ne : at_ ≠ n - 1 := by omega
      obtain ⟨z, l6, e6, zc, h6⟩ := small_run h5 (by omega)
      have mm := mirror_run z
      have n1 : (1 : Int) < (n : Int) := by omega
      have ei : ((n : Int) - 1) = ((n - 1 : Nat) : Int) := by omega
      have zc' : Cz 2520 34 z := (zc.up (k := 1260) (c := 11) (by decide) (by decide) (Sz.lit (by decide)) (by decide)).mono (by decide)
      refine ⟨upd2 (upd2 (upd2 T at_ at_ (GQ.ofR 0)) at_ (n - 1) z) (n - 1) at_ z.bent, l6, .fz (.int at_), ?_, herm_upd (upd_diag hT at_ 0) at_ (n - 1) z (fun w => absurd w ne), ?_, h6.up (by omega)⟩
      · have u1 : upd2 (upd2 T at_ at_ (GQ.ofR 0)) at_ (n - 1) z at_ (n - 1) = z := by simp [upd2]
        have t0 : PyData.tuple [.int 0, .int 0, .int 1] = tN (GQ.ofR 0) := tN0
        rw [ei] at e5
        simp [n1, e5, ei, t0, e6, row_tab T hat rfl, ixN_of (k := (at_ : Int)) rfl hat, ixN_of (k := ((n - 1 : Nat) : Int)) rfl hl1, tabN_get T hat, tabN_set, row_tab (upd2 T at_ at_ (GQ.ofR 0)) hat rfl, tabN_get (upd2 T at_ at_ (GQ.ofR 0)) hat,
          row_tab (upd2 (upd2 T at_ at_ (GQ.ofR 0)) at_ (n - 1) z) hat rfl, at_vN (upd2 (upd2 T at_ at_ (GQ.ofR 0)) at_ (n - 1) z at_) hl1 rfl, u1, mm, row_tab (upd2 (upd2 T at_ at_ (GQ.ofR 0)) at_ (n - 1) z) hl1 rfl, tabN_get (upd2 (upd2 T at_ at_ (GQ.ofR 0)) at_ (n - 1) z) hl1]
      · exact tz_upd (tz_upd (tz_upd (hz.mono (by decide)) at_ at_ (Cz.zero _ _)) at_ (n - 1) zc') (n - 1) at_ zc'.bent
    · refine ⟨T, l4, s5, ?_, hT, hz.mono (by decide), h4.up (by omega)⟩
      by_cases hw4 : w = 4
      · have : ¬ (1 : Int) < (n : Int) := fun z => h6 ⟨hw4, by omega⟩
        simp [hw4, this]
      · simp [hw4]
  obtain ⟨T', l5, s5'', e5, hT', hz', h5⟩ := s5'
  refine ⟨T', l5, ?_, hT', hz', h5⟩
  rw [run__law_drawn_table, run1 (np := 2) (n := 8) (ds := [.int n]) rfl]
  show (evB ir__law_drawn_table [.ow true l, .fz (.int n), .un, .un, .un, .un, .un, .un]).bind (outM true) = _
  unfold ir__law_drawn_table
  rw [b_cons']; conv in evS _ _ => simp [e1]
  rw [Option.bind_some, onNext_nx, b_cons']; conv in evS _ _ => simp [hw]
  rw [Option.bind_some, onNext_nx, b_cons', e2]
  rw [Option.bind_some, onNext_nx, b_cons']; conv in evS _ _ => simp [e3, m1]
  rw [Option.bind_some, onNext_nx, b_cons', e4]
  rw [Option.bind_some, onNext_nx, b_cons', e5]
  rw [Option.bind_some, onNext_nx]
  simp
end Pk
end EvL

set_option Elab.async false
set_option linter.all false
set_option maxRecDepth 100000
set_option maxHeartbeats 1900000
namespace EvL
open PySem PySem.Spec PyProof.Rows L2
theorem zip_range {α β : Type} (n : Nat) (f : Nat → α) (g : Nat → β) : ((List.range n).map f).zip ((List.range n).map g) = (List.range n).map fun i => (f i, g i) := by
  refine List.ext_getElem (by simp) fun i h1 h2 => ?_
  simp
theorem en_range (n : Nat) (g : Nat → D) : ((List.range n).map g).mapIdx (fun k x => PyData.tuple [.int k, x]) = (List.range n).map fun (i : Nat) => PyData.tuple [.int i, g i] := by
  refine List.ext_getElem (by simp) fun i h1 h2 => ?_
  simp
theorem allD_true (n : Nat) : allD ((List.range n).map fun _ => .bool true) = some true := by rw [map_const_rep, all_true']
theorem allD_rep (n : Nat) (f : Nat → Bool) (h : ∀ i, i < n → f i = true) : allD ((List.range n).map fun i => .bool (f i)) = some true := by
  have : (List.range n).map (fun i => PyData.bool (f i)) = List.replicate n (.bool true) := by
    refine List.ext_getElem (by simp) fun i h1 h2 => ?_
    simp at h1
    simp [h i h1]
  rw [this, all_true']
namespace Pk
theorem inner_run {n : Nat} {x y : Nat → GQ} {K : Int} {B : Nat} {d e : D} (hx : ∀ i, i < n → Gz 1900000 (x i)) (hy : ∀ i, i < n → Gz 1900000 (y i)) (hxy : ∀ i, i < n → Cz K B (x i * y i)) (K0 : 0 < K) (hK : Sz 1900000 K) (hB : B + n ≤ 1900000)
    (hd : seqD d = some (vG n x)) (he : seqD e = some (vG n y)) : inner_sum.run [d, e] = some (.fz (gD (Po.sum n fun i => x i * y i)), []) := by
  have hz : itD .zip [d, e] = some ((List.range n).map fun i => PyData.tuple [gD (x i), gD (y i)]) := by
    show (seqD d).bind _ = _
    rw [hd, Option.bind_some, he, Option.map_some]
    unfold vG
    rw [zip_range, List.map_map]
    rfl
  obtain ⟨Γ', e1, s3, s4, rfl⟩ := evF_nat (f := fun i => PyData.tuple [gD (x i), gD (y i)]) (t := .tp [(.nm 3), (.nm 4)]) (b := evB [(.set 2 (.call Pk.num_sum Pk.E_num_sum_2.pm [(.var 2), (.call Pk.num_product Pk.E_num_product_2.pm [(.var 3), (.var 4)])]))]) (n := n) (Γ := [.fz d, .fz e, .fz (gD 0), .un, .un])
    (fun i Γ => ∃ s3 s4, Γ = [.fz d, .fz e, .fz (gD (Po.sum i fun i => x i * y i)), s3, s4]) ⟨.un, .un, rfl⟩
    (fun i Γ hi ⟨s3, s4, hG⟩ => by
      subst hG
      have p := num_product_run (hx i hi) (hy i hi)
      have c1 : Cz K (B + i) (Po.sum i fun i => x i * y i) := Cz.sum fun j hj => hxy j (by omega)
      have q := num_sum_run (c1.gz' (c := 1900000) K0 (by omega) hK) ((hxy i hi).gz' (c := 1900000) K0 (by omega) hK)
      refine ⟨[.fz d, .fz e, .fz (gD (Po.sum i fun i => x i * y i)), .fz (gD (x i)), .fz (gD (y i))], [.fz d, .fz e, .fz (gD (Po.sum (i + 1) fun i => x i * y i)), .fz (gD (x i)), .fz (gD (y i))], by simp, .inl ?_, _, _, rfl⟩
      rw [Po.sum_succ]
      simp [p, q])
  rw [run_inner_sum, run0 (np := 2) (n := 5) (ds := [d, e]) rfl]
  show (evB ir_inner_sum [.fz d, .fz e, .un, .un, .un]).bind (outM false) = _
  unfold ir_inner_sum
  rw [b_cons']; conv in evS _ _ => simp [g0c]
  rw [Option.bind_some, onNext_nx, b_cons', v_fr]
  have i1 : evs [(.var 0), (.var 1)] [.fz d, .fz e, .fz (gD 0), .un, .un] = some ([d, e], [.fz d, .fz e, .fz (gD 0), .un, .un]) := by simp
  rw [i1, Option.bind_some]
  simp only [hz, Option.bind_some, e1, onNext_nx]
  simp
def mulT (n : Nat) (c : Nat → GQ) (T : Nat → Nat → GQ) (j : Nat) : GQ := Po.sum n fun i => c i * T i j
def outT (n : Nat) (T : Nat → Nat → GQ) (c d : Nat → GQ) : GQ := Po.sum n fun j => mulT n c T j * (d j).bent
/-- sizes of a table and of mixes -/
structure Mz (n : Nat) (T : Nat → Nat → GQ) : Prop where
  tz : Tz n 2520 34 T
  n6 : n ≤ 6
def Cv (n : Nat) (c : Nat → GQ) : Prop := ∀ i, i < n → Cz 30 27 (c i)
theorem Mz.gz {n : Nat} {T : Nat → Nat → GQ} (h : Mz n T) {i j : Nat} (hi : i < n) (hj : j < n) : Gz 40 (T i j) := (h.tz i j hi hj).gz' (by decide) (by decide) (Sz.lit (by decide))
theorem Cv.gz {n : Nat} {c : Nat → GQ} (h : Cv n c) {i : Nat} (hi : i < n) : Gz 30 (c i) := (h i hi).gz' (by decide) (by decide) (Sz.lit (by decide))
theorem mul_cz {n : Nat} {T : Nat → Nat → GQ} {c : Nat → GQ} (h : Mz n T) (g : Cv n c) {j : Nat} (hj : j < n) : Cz 75600 68 (mulT n c T j) := by
  have := Cz.sum (n := n) (b := 62) (d := 75600) (f := fun i => c i * T i j) fun i hi => ((g i hi).mul (h.tz i j hi hj) (by decide) (by decide)).mono (by decide)
  exact this.mono (by have := h.n6; omega)
theorem mix_mirrored_run {n : Nat} (m : Nat → GQ) (hn : n ≤ 1000) : mix_mirrored.run [.tuple (vG n m)] = some (.fz (.tuple (vG n fun i => (m i).bent)), []) := by
  have := lc_map (f := fun (i : Nat) => gD (m i)) (g := fun i => gD (m i).bent) (vs := [1]) (t := .nm 1) (k := .seq) (its := [(.var 0)]) (elt := (.call Pk.num_mirrored Pk.E_num_mirrored_1.pm [(.var 1)])) (Γ := [.fz (.tuple (vG n m)), .un]) (Γ1 := [.fz (.tuple (vG n m)), .un]) (ds := [.tuple (vG n m)]) (l := List.range n) (by simp) rfl (by simp; omega) (fun i hi => by
    have r := num_mirrored_run (m i)
    exact ⟨[.fz (.tuple (vG n m)), .fz (gD (m i))], .fz (gD (m i).bent), [.fz (.tuple (vG n m)), .fz (gD (m i))], by simp [wipeG], by simp [r], rfl, by simp [wipeG]⟩)
  simp [backG] at this
  rw [run_mix_mirrored]
  simp [runB, List.replicate, ir_mix_mirrored, this]
  rfl
/-! ### what is a table -/
theorem fits_run {n i : Nat} {T : Nat → Nat → GQ} (hH : Herm T) (hi : i < n) (hn : n ≤ 1000) : fits_as_row.run [tabG n T, .int i, .tuple (vG n (T i))] = some (.fz (.bool true), []) := by
  have e1 := lc_map (f := fun (j : Nat) => gD (T i j)) (g := fun _ => PyData.bool true) (vs := [3]) (t := .nm 3) (k := .seq) (its := [(.var 2)]) (elt := (.call Pk.is_num Pk.E_is_num_1.pm [(.var 3)])) (Γ := [.fz (tabG n T), .fz (.int i), .fz (.tuple (vG n (T i))), .un, .un]) (Γ1 := [.fz (tabG n T), .fz (.int i), .fz (.tuple (vG n (T i))), .un, .un]) (ds := [.tuple (vG n (T i))]) (l := List.range n) (by simp) rfl (by simp; omega) (fun j hj =>
    ⟨[.fz (tabG n T), .fz (.int i), .fz (.tuple (vG n (T i))), .fz (gD (T i j)), .un], .fz (.bool true), [.fz (tabG n T), .fz (.int i), .fz (.tuple (vG n (T i))), .fz (gD (T i j)), .un], by simp [wipeG], by simp, rfl, by simp [wipeG]⟩)
  have e2 := lc_map (f := fun (j : Nat) => PyData.int j) (g := fun _ => PyData.bool true) (vs := [4]) (t := .nm 4) (k := .rng1) (its := [(.bin .add (.var 1) (.cst (.int (1))))]) (elt := (.cmp .eq (.ixv 2 (.var 4)) (.call Pk.num_mirrored Pk.E_num_mirrored_1.pm [(.ix (.ixv 0 (.var 4)) (.var 1))]))) (Γ := [.fz (tabG n T), .fz (.int i), .fz (.tuple (vG n (T i))), .un, .un]) (Γ1 := [.fz (tabG n T), .fz (.int i), .fz (.tuple (vG n (T i))), .un, .un]) (ds := [.int (i + 1)]) (l := List.range (i + 1)) (by simp) (by rw [it_r1 (by omega), rng0' (i + 1) (by omega)]) (by simp; omega) (fun j hj => by
    have hj : j < n := by have := List.mem_range.mp hj; omega
    have m := num_mirrored_run (T j i)
    have q := eq_gD (T i j) (T j i).bent
    rw [← hH j i, decide_eq_true rfl] at q
    rw [← hH j i] at m
    exact ⟨[.fz (tabG n T), .fz (.int i), .fz (.tuple (vG n (T i))), .un, .fz (.int j)], .fz (.bool true), [.fz (tabG n T), .fz (.int i), .fz (.tuple (vG n (T i))), .un, .fz (.int j)], by simp [wipeG], by simp [vG_ix (T i) hj rfl, tabG_ix T hj rfl, vG_ix (T j) hi rfl, m, q], rfl, by simp [wipeG]⟩)
  have a1 := allD_rep n (fun _ => true) (fun _ _ => rfl)
  have a2 := allD_rep (i + 1) (fun _ => true) (fun _ _ => rfl)
  simp [backG] at e1 e2
  have len : biD .len [tabG n T] = some (.fz (.int n)) := by simp [tabG]
  rw [run_fits_as_row, run0 (np := 3) (n := 5) (ds := [tabG n T, .int i, .tuple (vG n (T i))]) rfl]
  show (evB ir_fits_as_row [.fz (tabG n T), .fz (.int i), .fz (.tuple (vG n (T i))), .un, .un]).bind (outM false) = _
  unfold ir_fits_as_row
  rw [b_cons']; conv in evS _ _ => simp [isD, len, e1, allD_true]
  rw [Option.bind_some, onNext_nx]
  simp [e2, allD_true]
theorem wrong_in_table_run {n : Nat} {T : Nat → Nat → GQ} (hH : Herm T) (hn : n ≤ 6) : wrong_in_table.run [tabG n T] = some (.ow [], []) := by
  obtain ⟨Γ', e1, s1, s2, rfl⟩ := evF_nat (f := fun (i : Nat) => PyData.tuple [.int i, .tuple (vG n (T i))]) (t := .tp [(.nm 1), (.nm 2)]) (b := evB [(.ife (.not (.call Pk.fits_as_row Pk.E_fits_as_row_3.pm [(.var 0), (.var 1), (.var 2)])) [(.ret (.lst [(.var 1)]))] [])]) (n := n) (Γ := [.fz (tabG n T), .un, .un])
    (fun i Γ => ∃ s1 s2, Γ = [.fz (tabG n T), s1, s2]) ⟨.un, .un, rfl⟩
    (fun i Γ hi ⟨s1, s2, hG⟩ => by
      subst hG
      have r := fits_run hH hi (by omega)
      exact ⟨[.fz (tabG n T), .fz (.int i), .fz (.tuple (vG n (T i)))], [.fz (tabG n T), .fz (.int i), .fz (.tuple (vG n (T i)))], by simp, .inl (by simp [r]), _, _, rfl⟩)
  have len : biD .len [tabG n T] = some (.fz (.int n)) := by simp [tabG]
  have ge : ¬ (6 : Int) < (n : Int) := by omega
  have ist : isD .istuple (tabG n T) = true := rfl
  rw [run_wrong_in_table, run0 (np := 1) (n := 3) (ds := [tabG n T]) rfl]
  show (evB ir_wrong_in_table [.fz (tabG n T), .un, .un]).bind (outM false) = _
  unfold ir_wrong_in_table
  rw [b_cons']; conv in evS _ _ => simp [ist, len, ge]
  rw [Option.bind_some, onNext_nx, b_cons', v_fr]
  have i1 : evs [(.var 0)] [.fz (tabG n T), .un, .un] = some ([tabG n T], [.fz (tabG n T), .un, .un]) := by simp
  rw [i1, Option.bind_some]
  have hz : itD .enum [tabG n T] = some ((List.range n).map fun (i : Nat) => PyData.tuple [.int i, .tuple (vG n (T i))]) := by
    unfold tabG; rw [it_enT, en_range]
  simp only [hz, Option.bind_some, e1, onNext_nx]
  simp
theorem check_table_run {n : Nat} {T : Nat → Nat → GQ} (hH : Herm T) (hn : n ≤ 6) : check_table.run [tabG n T] = some (.fz .none, []) := by
  have r := wrong_in_table_run hH hn
  rw [run_check_table]
  simp [runB, List.replicate, ir_check_table, v_fr, r, evF]
theorem wrong_in_mix_run {n : Nat} (m : Nat → GQ) (hn : n ≤ 1000) : wrong_in_mix.run [.tuple (vG n m), .int n] = some (.ow [], []) := by
  have e := lc_filter (f := fun (i : Nat) => PyData.tuple [.int i, gD (m i)]) (g := fun i => PyData.int i) (c := fun _ => false) (vs := [2, 3]) (t := .tp [(.nm 2), (.nm 3)]) (k := .enum) (its := [(.var 0)]) (ifs := [(.not (.call Pk.is_num Pk.E_is_num_1.pm [(.var 3)]))]) (elt := (.var 2)) (Γ := [.fz (.tuple (vG n m)), .fz (.int n), .un, .un]) (Γ1 := [.fz (.tuple (vG n m)), .fz (.int n), .un, .un]) (ds := [.tuple (vG n m)]) (l := List.range n) (by simp) (by rw [it_enT, vG, en_range]) (by simp; omega) (fun i hi =>
    ⟨[.fz (.tuple (vG n m)), .fz (.int n), .fz (.int i), .fz (gD (m i))], [.fz (.tuple (vG n m)), .fz (.int n), .fz (.int i), .fz (gD (m i))], by simp [wipeG], by simp, fun _ => by simp [wipeG], fun z => nomatch z⟩)
  have f : (List.range n).filter (fun _ => false) = [] := by simp
  rw [f] at e
  simp [backG] at e
  have cut : cutD [] none (some 1) = ([] : List D) := by simp [cutD]
  rw [run_wrong_in_mix]
  simp [runB, List.replicate, ir_wrong_in_mix, isD, e, cut]
theorem check_mix_run {n : Nat} {T : Nat → Nat → GQ} (m : Nat → GQ) (hn : n ≤ 1000) : check_mix.run [.tuple (vG n m), tabG n T] = some (.fz .none, []) := by
  have r := wrong_in_mix_run (n := n) m hn
  have len : biD .len [tabG n T] = some (.fz (.int n)) := by simp [tabG]
  rw [run_check_mix]
  simp [runB, List.replicate, ir_check_mix, v_fr, len, r, evF]
end Pk
end EvL

set_option Elab.async false
set_option linter.all false
set_option maxRecDepth 100000
set_option maxHeartbeats 1900000
namespace EvL
open PySem PySem.Spec PyProof.Rows L2
namespace Pk
/-! ### the law's own sums -/
theorem ldot_run {n : Nat} {x y : Nat → GQ} {K : Int} {B : Nat} (hx : ∀ i, i < n → Gz 1900000 (x i)) (hy : ∀ i, i < n → Gz 1900000 (y i)) (hxy : ∀ i, i < n → Cz K B (x i * (y i).bent)) (K0 : 0 < K) (hK : Sz 1900000 K) (hB : B + n ≤ 1900000) (hn : n ≤ 1000) :
    _law_dot.run [.list (vN n x), .list (vN n y)] = some (.fz (tN (Po.sum n fun i => x i * (y i).bent)), []) := by
  obtain ⟨Γ', e1, s3, rfl⟩ := evF_nat (f := fun (i : Nat) => PyData.int i) (t := .nm 3) (b := evB [(.set 2 (.call Pk._law_plus Pk.E__law_plus_2.pm [(.var 2), (.call Pk._law_times_v2 Pk.E__law_times_v2_2.pm [(.ixv 0 (.var 3)), (.call Pk._law_mirror Pk.E__law_mirror_1.pm [(.ixv 1 (.var 3))])])]))]) (n := n) (Γ := [.fz (.list (vN n x)), .fz (.list (vN n y)), .fz (tN 0), .un])
    (fun i Γ => ∃ s3, Γ = [.fz (.list (vN n x)), .fz (.list (vN n y)), .fz (tN (Po.sum i fun i => x i * (y i).bent)), s3]) ⟨.un, rfl⟩
    (fun i Γ hi ⟨s3, hG⟩ => by
      subst hG
      have m := mirror_run (y i)
      have p := times2_run ((hx i hi).mono (show 1900000 ≤ 1900000 by decide)) ((hy i hi).bent.mono (show 1900000 ≤ 1900000 by decide))
      have c1 : Cz K (B + i) (Po.sum i fun i => x i * (y i).bent) := Cz.sum fun j hj => hxy j (by omega)
      have q := plus_run ((c1.gz' (c := 1900000) K0 (by omega) hK).mono (show 1900000 ≤ 1900000 by decide)) (((hxy i hi).gz' (c := 1900000) K0 (by omega) hK).mono (show 1900000 ≤ 1900000 by decide))
      refine ⟨[.fz (.list (vN n x)), .fz (.list (vN n y)), .fz (tN (Po.sum i fun i => x i * (y i).bent)), .fz (.int i)], [.fz (.list (vN n x)), .fz (.list (vN n y)), .fz (tN (Po.sum (i + 1) fun i => x i * (y i).bent)), .fz (.int i)], by simp, .inl ?_, _, rfl⟩
      rw [Po.sum_succ]
      simp [vN_ix x hi rfl, vN_ix y hi rfl, m, p, q])
  rw [run__law_dot, run0 (np := 2) (n := 4) (ds := [.list (vN n x), .list (vN n y)]) rfl]
  show (evB ir__law_dot [.fz (.list (vN n x)), .fz (.list (vN n y)), .un, .un]).bind (outM false) = _
  unfold ir__law_dot
  rw [b_cons']; conv in evS _ _ => simp [tN0]
  rw [Option.bind_some, onNext_nx, b_cons', v_fr]
  have i1 : evs [(.lenv 0)] [.fz (.list (vN n x)), .fz (.list (vN n y)), .fz (tN 0), .un] = some ([.int n], [.fz (.list (vN n x)), .fz (.list (vN n y)), .fz (tN 0), .un]) := by simp
  rw [i1, Option.bind_some]
  simp only [it_r1 (show -1000000 ≤ (n : Int) ∧ (n : Int) ≤ 1000000 by omega), Option.bind_some, rng0, e1, onNext_nx]
  simp
theorem lrun_run {n : Nat} {T : Nat → Nat → GQ} {c : Nat → GQ} (h : Mz n T) (g : Cv n c) : _law_run.run [tabD n T, .list (vN n c)] = some (.fz (.list (vN n (mulT n c T))), []) := by
  have hn := h.n6
  have inner : ∀ (j : Nat) (hj : j < n) (acc : MV) (s5 : MV), ∃ s5', evF (.nm 5) (evB [(.set 4 (.call Pk._law_plus Pk.E__law_plus_2.pm [(.var 4), (.call Pk._law_times_v2 Pk.E__law_times_v2_2.pm [(.ixv 1 (.var 5)), (.ix (.ixv 0 (.var 5)) (.var 3))])]))]) ((List.range n).map fun (k : Nat) => PyData.int k) [.fz (tabD n T), .fz (.list (vN n c)), acc, .fz (.int j), .fz (tN 0), s5] =
      some (.nx [.fz (tabD n T), .fz (.list (vN n c)), acc, .fz (.int j), .fz (tN (mulT n c T j)), s5']) := fun j hj acc s5 => by
    obtain ⟨Γ', e1, s5', rfl⟩ := evF_nat (f := fun (i : Nat) => PyData.int i) (t := .nm 5) (b := evB [(.set 4 (.call Pk._law_plus Pk.E__law_plus_2.pm [(.var 4), (.call Pk._law_times_v2 Pk.E__law_times_v2_2.pm [(.ixv 1 (.var 5)), (.ix (.ixv 0 (.var 5)) (.var 3))])]))]) (n := n) (Γ := [.fz (tabD n T), .fz (.list (vN n c)), acc, .fz (.int j), .fz (tN 0), s5])
      (fun i Γ => ∃ s5, Γ = [.fz (tabD n T), .fz (.list (vN n c)), acc, .fz (.int j), .fz (tN (Po.sum i fun i => c i * T i j)), s5]) ⟨s5, rfl⟩
      (fun i Γ hi ⟨s5, hG⟩ => by
        subst hG
        have p := times2_run ((g.gz hi).mono (show 30 ≤ 1900000 by decide)) ((h.gz hi hj).mono (show 40 ≤ 1900000 by decide))
        have cz : ∀ i, i < n → Cz 75600 62 (c i * T i j) := fun i hi => ((g i hi).mul (h.tz i j hi hj) (by decide) (by decide)).mono (by decide)
        have c1 : Cz 75600 (62 + i) (Po.sum i fun i => c i * T i j) := Cz.sum fun k hk => cz k (by omega)
        have q := plus_run ((c1.gz' (c := 100) (by decide) (by omega) ((Sz.lit (b := 17) (by decide)).mono (by decide))).mono (show 100 ≤ 1900000 by decide)) (((cz i hi).gz' (c := 100) (by decide) (by decide) ((Sz.lit (b := 17) (by decide)).mono (by decide))).mono (show 100 ≤ 1900000 by decide))
        refine ⟨[.fz (tabD n T), .fz (.list (vN n c)), acc, .fz (.int j), .fz (tN (Po.sum i fun i => c i * T i j)), .fz (.int i)], [.fz (tabD n T), .fz (.list (vN n c)), acc, .fz (.int j), .fz (tN (Po.sum (i + 1) fun i => c i * T i j)), .fz (.int i)], by simp, .inl ?_, _, rfl⟩
        rw [Po.sum_succ]
        simp [vN_ix c hi rfl, tabD_ix T hi rfl, vN_ix (T i) hj rfl, p, q])
    exact ⟨s5', e1⟩
  obtain ⟨Γ', e1, s3, s4, s5, rfl⟩ := evF_nat (f := fun (i : Nat) => PyData.int i) (t := .nm 3) (b := evB [(.set 4 (.tup [(.cst (.int (0))), (.cst (.int (0))), (.cst (.int (1)))])), (.fr (.nm 5) .rng1 [(.lenv 0)] [(.set 4 (.call Pk._law_plus Pk.E__law_plus_2.pm [(.var 4), (.call Pk._law_times_v2 Pk.E__law_times_v2_2.pm [(.ixv 1 (.var 5)), (.ix (.ixv 0 (.var 5)) (.var 3))])]))]), (.app 2 (.var 4))]) (n := n) (Γ := [.fz (tabD n T), .fz (.list (vN n c)), .ow false [], .un, .un, .un])
    (fun j Γ => ∃ s3 s4 s5, Γ = [.fz (tabD n T), .fz (.list (vN n c)), .ow false (vN j (mulT n c T)), s3, s4, s5]) ⟨.un, .un, .un, rfl⟩
    (fun j Γ hj ⟨s3, s4, s5, hG⟩ => by
      subst hG
      obtain ⟨s5', e2⟩ := inner j hj (.ow false (vN j (mulT n c T))) s5
      refine ⟨[.fz (tabD n T), .fz (.list (vN n c)), .ow false (vN j (mulT n c T)), .fz (.int j), s4, s5], [.fz (tabD n T), .fz (.list (vN n c)), .ow false (vN (j + 1) (mulT n c T)), .fz (.int j), .fz (tN (mulT n c T j)), s5'], by simp, .inl ?_, _, _, _, rfl⟩
      rw [b_cons']; conv in evS _ _ => simp [tN0]
      rw [Option.bind_some, onNext_nx, b_cons', v_fr]
      have i1 : evs [(.lenv 0)] [.fz (tabD n T), .fz (.list (vN n c)), .ow false (vN j (mulT n c T)), .fz (.int j), .fz (tN 0), s5] = some ([.int n], [.fz (tabD n T), .fz (.list (vN n c)), .ow false (vN j (mulT n c T)), .fz (.int j), .fz (tN 0), s5]) := by simp [tabD]
      rw [i1, Option.bind_some]
      simp only [it_r1 (show -1000000 ≤ (n : Int) ∧ (n : Int) ≤ 1000000 by omega), Option.bind_some, rng0, e2, onNext_nx]
      have lj : j < 1000000 := by omega
      simp [lim_eq, lj]
      simp [vN, List.range_succ])
  rw [run__law_run, run0 (np := 2) (n := 6) (ds := [tabD n T, .list (vN n c)]) rfl]
  show (evB ir__law_run [.fz (tabD n T), .fz (.list (vN n c)), .un, .un, .un, .un]).bind (outM false) = _
  unfold ir__law_run
  rw [b_cons']; conv in evS _ _ => simp
  rw [Option.bind_some, onNext_nx, b_cons', v_fr]
  have i1 : evs [(.lenv 0)] [.fz (tabD n T), .fz (.list (vN n c)), .ow false [], .un, .un, .un] = some ([.int n], [.fz (tabD n T), .fz (.list (vN n c)), .ow false [], .un, .un, .un]) := by simp [tabD]
  rw [i1, Option.bind_some]
  simp only [it_r1 (show -1000000 ≤ (n : Int) ∧ (n : Int) ≤ 1000000 by omega), Option.bind_some, rng0, e1, onNext_nx]
  simp
theorem dot_out {n : Nat} {T : Nat → Nat → GQ} {c d : Nat → GQ} (h : Mz n T) (g : Cv n c) (g2 : Cv n d) : _law_dot.run [.list (vN n (mulT n c T)), .list (vN n d)] = some (.fz (tN (outT n T c d)), []) := by
  have hn := h.n6
  exact ldot_run (n := n) (x := mulT n c T) (y := d) (K := 2268000) (B := 96) (fun j hj => (mul_cz h g hj).gz' (by decide) (by decide) ((Sz.lit (b := 17) (by decide)).mono (by decide))) (fun j hj => (g2.gz hj).mono (by decide)) (fun j hj => ((mul_cz h g hj).mul (g2 j hj).bent (by decide) (by decide)).mono (by decide)) (by decide) ((Sz.lit (b := 22) (by decide)).mono (by decide)) (by omega) (by omega)
/-! ### led tables -/
abbrev Mixes := List (Nat → GQ)
def msN (n : Nat) (ms : Mixes) : D := .list (ms.map fun m => .list (vN n m))
theorem lled_run {n : Nat} {T : Nat → Nat → GQ} {ms : Mixes} (h : Mz n T) (g : ∀ m ∈ ms, Cv n m) (hl : ms.length ≤ 1000) : _law_led.run [tabD n T, msN n ms] = some (.ow (ms.map fun c => .list (ms.map fun d => tN (outT n T c d))), []) := by
  have e1 := lc_map (f := fun (m : Nat → GQ) => PyData.list (vN n m)) (g := fun m => PyData.list (vN n (mulT n m T))) (vs := [3]) (t := .nm 3) (k := .seq) (its := [(.var 1)]) (elt := (.call Pk._law_run Pk.E__law_run_2.pm [(.var 0), (.var 3)])) (Γ := [.fz (tabD n T), .fz (msN n ms), .un, .un, .un]) (Γ1 := [.fz (tabD n T), .fz (msN n ms), .un, .un, .un]) (ds := [msN n ms]) (l := ms) (by simp) rfl (by omega) (fun m hm => by
    have r := lrun_run h (g m hm)
    exact ⟨[.fz (tabD n T), .fz (msN n ms), .un, .fz (.list (vN n m)), .un], .fz (.list (vN n (mulT n m T))), [.fz (tabD n T), .fz (msN n ms), .un, .fz (.list (vN n m)), .un], by simp [wipeG], by simp [r], rfl, by simp [wipeG]⟩)
  simp [backG] at e1
  have e2 := lc_map (f := fun (m : Nat → GQ) => PyData.list (vN n (mulT n m T))) (g := fun c => PyData.list (ms.map fun d => tN (outT n T c d))) (vs := [3]) (t := .nm 3) (k := .seq) (its := [(.var 2)]) (elt := (.lc [4] (.nm 4) .seq [(.var 1)] [] (.call Pk._law_dot Pk.E__law_dot_2.pm [(.var 3), (.var 4)]))) (Γ := [.fz (tabD n T), .fz (msN n ms), .ow false (ms.map fun m => PyData.list (vN n (mulT n m T))), .un, .un]) (Γ1 := [.fz (tabD n T), .fz (msN n ms), .fz (.list (ms.map fun m => PyData.list (vN n (mulT n m T)))), .un, .un]) (ds := [.list (ms.map fun m => PyData.list (vN n (mulT n m T)))]) (l := ms) (by simp) rfl (by omega) (fun c hc => by
    have e3 := lc_map (f := fun (m : Nat → GQ) => PyData.list (vN n m)) (g := fun d => tN (outT n T c d)) (vs := [4]) (t := .nm 4) (k := .seq) (its := [(.var 1)]) (elt := (.call Pk._law_dot Pk.E__law_dot_2.pm [(.var 3), (.var 4)])) (Γ := [.fz (tabD n T), .fz (msN n ms), .fz (.list (ms.map fun m => PyData.list (vN n (mulT n m T)))), .fz (.list (vN n (mulT n c T))), .un]) (Γ1 := [.fz (tabD n T), .fz (msN n ms), .fz (.list (ms.map fun m => PyData.list (vN n (mulT n m T)))), .fz (.list (vN n (mulT n c T))), .un]) (ds := [msN n ms]) (l := ms) (by simp) rfl (by omega) (fun d hd => by
      have r := dot_out h (g c hc) (g d hd)
      exact ⟨[.fz (tabD n T), .fz (msN n ms), .fz (.list (ms.map fun m => PyData.list (vN n (mulT n m T)))), .fz (.list (vN n (mulT n c T))), .fz (.list (vN n d))], .fz (tN (outT n T c d)), [.fz (tabD n T), .fz (msN n ms), .fz (.list (ms.map fun m => PyData.list (vN n (mulT n m T)))), .fz (.list (vN n (mulT n c T))), .fz (.list (vN n d))], by simp [wipeG], by simp [r], rfl, by simp [wipeG]⟩)
    exact ⟨[.fz (tabD n T), .fz (msN n ms), .fz (.list (ms.map fun m => PyData.list (vN n (mulT n m T)))), .fz (.list (vN n (mulT n c T))), .un], .ow (ms.map fun d => tN (outT n T c d)), [.fz (tabD n T), .fz (msN n ms), .fz (.list (ms.map fun m => PyData.list (vN n (mulT n m T)))), .fz (.list (vN n (mulT n c T))), .un], by simp [wipeG], by rw [e3]; simp [backG], rfl, by simp [wipeG]⟩)
  simp [backG] at e2
  rw [run__law_led, run0 (np := 2) (n := 5) (ds := [tabD n T, msN n ms]) rfl]
  show (evB ir__law_led [.fz (tabD n T), .fz (msN n ms), .un, .un, .un]).bind (outM false) = _
  unfold ir__law_led
  rw [b_cons']; conv in evS _ _ => simp [e1]
  rw [Option.bind_some, onNext_nx, b_cons', v_ret, e2]
  simp
end Pk
end EvL

set_option Elab.async false
set_option linter.all false
set_option maxRecDepth 100000
set_option maxHeartbeats 1900000
namespace EvL
open PySem PySem.Spec PyProof.Rows L2
namespace Pk
theorem zip_tt {n : Nat} {f g : Nat → D} : itD .zip [.tuple ((List.range n).map f), .tuple ((List.range n).map g)] = some ((List.range n).map fun (i : Nat) => PyData.tuple [f i, g i]) := by
  rw [it_zT, zip_range, List.map_map]; rfl
end Pk
end EvL

set_option Elab.async false
set_option linter.all false
set_option maxRecDepth 100000
set_option maxHeartbeats 1900000
namespace EvL
open PySem PySem.Spec PyProof.Rows L2
@[simp] theorem rl_oo (rss : List (List D)) : (RV.oo rss).low = .fz (.list (rss.map .list)) := rfl
theorem shg {b : Nat} {z : GQ} (h : Gz b z) (hb : b < 1920) : Shw 2 2421 (gD z) := (sh_gD h hb).w
theorem shq {b : Nat} {r : Rat} (h : Qz b r) (hb : b < 1920) : Shw 2 2421 (qD r) := (sh_qD h hb).w.mono (by decide) (by decide)
theorem shv {n b : Nat} {c : Nat → GQ} (h : ∀ i, i < n → Gz b (c i)) (hb : b < 1920) (hn : n ≤ 6) : Shw 3 20000 (.tuple (vG n c)) :=
  (Shw.tup (k := 2) (n := 2421) fun d hd => by
    obtain ⟨i, hi, rfl⟩ := List.mem_map.mp hd
    exact shg (h i (List.mem_range.mp hi)) hb).mono (by decide) (by simp; omega)
theorem shw_rows {α : Type} {ms : List α} {f : α → D} {k n : Nat} (h : ∀ m ∈ ms, Shw k n (f m)) (hl : ms.length ≤ 6) : Shw (k + 1) (6 * (n + 2) + 3) (.tuple (ms.map f)) :=
  (Shw.tup (k := k) (n := n) fun d hd => by
    obtain ⟨m, hm, rfl⟩ := List.mem_map.mp hd
    exact h m hm).mono (Nat.le_refl _) (by
      rw [List.length_map]
      exact Nat.add_le_add_right (Nat.mul_le_mul_right _ hl) _)
theorem reprL {k n : Nat} {ds : List D} (h : ∀ d ∈ ds, Shw k n d) (hk : k ≤ 40) (hl : ds.length ≤ 12) (hn : n ≤ 500000) : reprOk (.list ds) = true := by
  refine reprOk_w (Shw.lst h) rfl (by omega) ?_
  have := Nat.mul_le_mul hl (show n + 2 ≤ 500002 by omega)
  omega
namespace Pk
theorem law_mainG {R : FnD} {it : IE} (hm : R.mt = true) (hi : ∀ ns : List Int, ns.length ≤ 63 → ∃ J : Int, evs [it] [.fz (.list (ns.map .int)), .un] = some ([.int J], [.fz (.list (ns.map .int)), .un]) ∧ 0 ≤ J ∧ J ≤ 900) (h : ∀ l, F1.Pail 0 l → ∃ l', R.run [.list l] = some (.fz (.bool true), l')) :
    ∀ ns : List Int, ns.length ≤ 63 → (∀ k ∈ ns, Builtin.Int.intBits k ≤ 1048576) → runB false 1 2 [(.fr (.nm 1) .rng1 [it] [(.ife (.not (.callt R (.call Pk._law_pot Pk.E__law_pot_2.pm [(.var 0), (.var 1)]))) [(.ret (.cst (.bool false)))] [])]), (.ret (.cst (.bool true)))] [.list (ns.map .int)] = some (.fz (.bool true), []) := by
  intro ns hl hb
  obtain ⟨J, i1, J0, J9⟩ := hi ns hl
  obtain ⟨n, hn⟩ : ∃ n : Nat, J = n := ⟨J.toNat, by omega⟩
  have hn9 : n ≤ 900 := by omega
  obtain ⟨Γ', e, s1, hG⟩ := evF_nat (f := fun (k : Nat) => PyData.int k) (t := .nm 1) (b := evB [(.ife (.not (.callt R (.call Pk._law_pot Pk.E__law_pot_2.pm [(.var 0), (.var 1)]))) [(.ret (.cst (.bool false)))] [])]) (n := n) (Γ := [.fz (.list (ns.map .int)), .un])
    (fun k Γ => ∃ s1, Γ = [.fz (.list (ns.map .int)), s1]) ⟨.un, rfl⟩
    (fun k Γ hk ⟨s1, hG⟩ => by
      subst hG
      obtain ⟨l, e1, hp⟩ := pot_run (ns := ns) (t := k) (by omega) hl hb
      obtain ⟨l', e2⟩ := h l hp
      exact ⟨[.fz (.list (ns.map .int)), .fz (.int k)], [.fz (.list (ns.map .int)), .fz (.int k)], by simp, .inl (by simp [e1, e2, hm]), .fz (.int k), rfl⟩)
  subst hG
  rw [run0 (np := 1) (n := 2) (ds := [.list (ns.map .int)]) rfl]
  show (evB _ [.fz (.list (ns.map .int)), .un]).bind (outM false) = _
  rw [b_cons', v_fr, i1, Option.bind_some]
  simp only [it_r1 (show -1000000 ≤ J ∧ J ≤ 1000000 by omega), Option.bind_some, rng0' n hn, e, onNext_nx]
  simp
theorem laps_ev {ns : List Int} (hl : ns.length ≤ 63) : ∃ J : Int, evs [(.call Pk._law_laps Pk.E__law_laps_1.pm [(.var 0)])] [.fz (.list (ns.map .int)), .un] = some ([.int J], [.fz (.list (ns.map .int)), .un]) ∧ 0 ≤ J ∧ J ≤ 900 := by
  have r : _law_laps.run [.list (ns.map .int)] = some (.fz (.int (if (if (3 : Int) < (ns.length : Int) then 3 else (ns.length : Int)) > 2 then (if (3 : Int) < (ns.length : Int) then 3 else (ns.length : Int)) else 2)), []) := by
    rw [run__law_laps]
    simp [runB, List.replicate, ir__law_laps]
  obtain ⟨J, hJ⟩ : ∃ J : Int, (if (if (3 : Int) < (ns.length : Int) then 3 else (ns.length : Int)) > 2 then (if (3 : Int) < (ns.length : Int) then 3 else (ns.length : Int)) else 2) = J := ⟨_, rfl⟩
  have hb : 0 ≤ J ∧ J ≤ 900 := by subst hJ; split <;> split <;> omega
  rw [hJ] at r
  exact ⟨J, by simp [r], hb⟩
end Pk
end EvL

set_option Elab.async false
set_option linter.all false
set_option maxRecDepth 100000
set_option maxHeartbeats 1900000
namespace EvL
open PySem PySem.Spec PyProof.Rows L2
namespace Pk
end Pk
end EvL

set_option Elab.async false
set_option linter.all false
set_option maxRecDepth 100000
set_option maxHeartbeats 4000000
namespace EvL
open PySem PySem.Spec PyProof.Rows L2
/-! ### loops that may end early -/
theorem evF_find {α : Type} {f : α → D} {t : Tg} {b : Ga → Option Out} {p : α → Bool} {r : α → RV} (I : Ga → Prop) : ∀ {l : List α} {Γ : Ga}, I Γ →
    (∀ x ∈ l, ∀ Γ, I Γ → ∃ Γ1 Γ2, asg t (f x) Γ = some Γ1 ∧ I Γ2 ∧ b Γ1 = some (if p x then .rt (r x) Γ2 else .nx Γ2)) →
    ∃ Γ', I Γ' ∧ evF t b (l.map f) Γ = some (match l.find? p with | some x => .rt (r x) Γ' | none => .nx Γ')
  | [], Γ, h, _ => ⟨Γ, h, rfl⟩
  | x :: l, Γ, h, step => by
    obtain ⟨Γ1, Γ2, a, i2, e⟩ := step x (List.mem_cons_self ..) Γ h
    rw [List.map_cons, evF, a, Option.bind_some, e, Option.bind_some]
    cases hp : p x with
    | true => exact ⟨Γ2, i2, by rw [if_pos rfl, List.find?_cons, hp]; rfl⟩
    | false =>
      rw [if_neg Bool.false_ne_true]
      obtain ⟨Γ', i', e'⟩ := evF_find (p := p) (r := r) I (l := l) i2 fun y hy => step y (List.mem_cons_of_mem _ hy)
      exact ⟨Γ', i', by rw [List.find?_cons, hp]; exact e'⟩
/-- the first index of what is not 0 -/
def fo (n : Nat) (v : Nat → GQ) : Option Nat := (List.range n).find? fun j => decide (v j ≠ 0)
theorem fo_none {n : Nat} {v : Nat → GQ} : fo n v = none ↔ ∀ j, j < n → v j = 0 := by
  unfold fo
  rw [List.find?_eq_none]
  constructor
  · intro h j hj
    have := h j (List.mem_range.mpr hj)
    simpa using this
  · intro h j hj
    simpa using h j (List.mem_range.mp hj)
theorem fo_some {n k : Nat} {v : Nat → GQ} (h : fo n v = some k) : k < n ∧ v k ≠ 0 := by
  unfold fo at h
  exact ⟨List.mem_range.mp (List.mem_of_find?_eq_some h), by simpa using List.find?_some h⟩
def foD (o : Option Nat) : D := match o with
  | some k => .int k
  | none => .none
/-! ### clearing -/
def sweep (L : Nat → Nat → GQ) (k : Nat) (i j : Nat) : GQ := L i j - L i k / L k k * L k j
def sqOf (L : Nat → Nat → GQ) (k : Nat) : Rat × (Nat → GQ) := ((L k k).re, fun i => L i k / L k k)
def clrL (n : Nat) : List Nat → (Nat → Nat → GQ) → Pk.Sqs → Pk.Sqs × Option Nat × (Nat → Nat → GQ)
  | [], L, f => (f, none, L)
  | k :: ks, L, f => if fo n (L k) = none then clrL n ks L f else if (L k k).re ≤ 0 then (f, some k, L) else clrL n ks (sweep L k) (f ++ [sqOf L k])
/-- sizes of what is left -/
def bS (r : Nat) : Nat := 36 * 2 ^ r - 2
def Lz (n r : Nat) (L : Nat → Nat → GQ) : Prop := ∃ d : Int, 0 < d ∧ Sz (bS r) d ∧ Pk.Tz n d (bS r) L
theorem Lz.gz {n r : Nat} {L : Nat → Nat → GQ} (h : Lz n r L) {i j : Nat} (hi : i < n) (hj : j < n) : Gz (bS r) (L i j) := let ⟨d, d0, ds, t⟩ := h; (t i j hi hj).gz d0 ds
theorem Lz.start {n : Nat} {T : Nat → Nat → GQ} (h : Pk.Tz n 2520 34 T) : Lz n 0 T := ⟨2520, by decide, (Sz.lit (b := 12) (by decide)).mono (by decide), h⟩
end EvL

set_option Elab.async false
set_option linter.all false
set_option maxRecDepth 100000
set_option maxHeartbeats 1900000
namespace EvL
open PySem PySem.Spec PyProof.Rows L2
namespace Pk
theorem first_other_run {n : Nat} (v : Nat → GQ) (hn : n ≤ 1000) : first_other.run [.tuple (vG n v)] = some (.fz (foD (fo n v)), []) := by
  obtain ⟨Γ', i1, e1⟩ := evF_find (f := fun (i : Nat) => PyData.tuple [.int i, gD (v i)]) (t := .tp [(.nm 1), (.nm 2)]) (b := evB [(.ife (.cmp .ne (.var 2) (.cst (.tuple [(.tuple [(.int (0)), (.int (1))]), (.tuple [(.int (0)), (.int (1))])]))) [(.ret (.var 1))] [])]) (p := fun j => decide (v j ≠ 0)) (r := fun j => RV.fz (.int j)) (fun Γ => ∃ s1 s2, Γ = [.fz (.tuple (vG n v)), s1, s2]) (l := List.range n) (Γ := [.fz (.tuple (vG n v)), .un, .un]) ⟨.un, .un, rfl⟩
    (fun j hj Γ ⟨s1, s2, hG⟩ => by
      subst hG
      refine ⟨[.fz (.tuple (vG n v)), .fz (.int j), .fz (gD (v j))], [.fz (.tuple (vG n v)), .fz (.int j), .fz (gD (v j))], by simp, ⟨_, _, rfl⟩, ?_⟩
      by_cases h : v j = 0
      · simp [g0c, eq_gD, h]
      · simp [g0c, eq_gD, h])
  have hz : itD .enum [.tuple (vG n v)] = some ((List.range n).map fun (i : Nat) => PyData.tuple [.int i, gD (v i)]) := by
    rw [it_enT, vG, en_range]
  rw [run_first_other, run0 (np := 1) (n := 3) (ds := [.tuple (vG n v)]) rfl]
  show (evB ir_first_other [.fz (.tuple (vG n v)), .un, .un]).bind (outM false) = _
  unfold ir_first_other
  have i2 : evs [(.var 0)] [.fz (.tuple (vG n v)), .un, .un] = some ([.tuple (vG n v)], [.fz (.tuple (vG n v)), .un, .un]) := by simp
  rw [b_cons', v_fr, i2, Option.bind_some]
  simp only [hz, Option.bind_some, e1]
  unfold fo
  cases h : (List.range n).find? fun j => decide (v j ≠ 0) with
  | none => simp [foD]
  | some k => simp [foD]
end Pk
end EvL

set_option Elab.async false
set_option linter.all false
set_option maxRecDepth 100000
set_option maxHeartbeats 1900000
namespace EvL
open PySem PySem.Spec PyProof.Rows L2
namespace Pk
abbrev bodyC : List IS := [(.ife (.cmp .is (.call Pk.first_other Pk.E_first_other_1.pm [(.ixv 2 (.var 3))]) (.cst .none)) [.cnt] []), (.ife (.cmp .le (.call Pk.frac_sign Pk.E_frac_sign_1.pm [(.ix (.ix (.ixv 2 (.var 3)) (.var 3)) (.cst (.int (0))))]) (.cst (.int (0)))) [(.ret (.tup [(.bi .tuple [(.var 1)]), (.var 3), (.var 2)]))] []), (.set 4 (.call Pk.lead_square Pk.E_lead_square_2.pm [(.var 2), (.var 3)])), (.app 1 (.var 4)), (.set 2 (.call Pk.tables_minus Pk.E_tables_minus_2.pm [(.var 2), (.call Pk.square_table Pk.E_square_table_1.pm [(.var 4)])]))]
def clr (n : Nat) (T : Nat → Nat → GQ) := clrL n (List.range n) T []
end Pk
end EvL

set_option Elab.async false
set_option linter.all false
set_option maxRecDepth 100000
set_option maxHeartbeats 1900000
namespace EvL
open PySem PySem.Spec PyProof.Rows L2 Pk
def unV (k : Nat) (z : GQ) (i : Nat) : GQ := if i = k then z else 0
/-- what the mix takes beside it -/
def lowC (L : Nat → Nat → GQ) (s t : Nat) : GQ := (L s t).bent * GQ.ofR (((L t t).re + 1) / ((L s t).size * (-2)))
def lowM (n : Nat) (L : Nat → Nat → GQ) (s : Nat) : Nat → GQ := if L s s ≠ 0 then unV s 1 else
  match fo n (L s) with
  | some t => fun i => unV t 1 i + unV s (lowC L s t) i
  | none => fun _ => 0
def stepB (n : Nat) (m : Nat → GQ) (q : Rat × (Nat → GQ)) : Nat → GQ := match fo n q.2 with
  | some k => fun i => m i + unV k (-(Po.sum n fun i => m i * q.2 i)) i
  | none => m
theorem po_zero {n : Nat} {f : Nat → GQ} (h : ∀ i, i < n → f i = 0) : Po.sum n f = 0 := by
  induction n with
  | zero => rfl
  | succ n ih => rw [Po.sum_succ, ih fun i hi => h i (by omega), h n (by omega)]; grind
theorem po_mul (n : Nat) (f : Nat → GQ) (z : GQ) : Po.sum n (fun i => f i * z) = Po.sum n f * z := by
  induction n with
  | zero => show (0 : GQ) = 0 * z; grind
  | succ n ih => rw [Po.sum_succ, Po.sum_succ, ih]; grind
theorem po_un {n k : Nat} (hk : k < n) (z : GQ) (f : Nat → GQ) : Po.sum n (fun i => unV k z i * f i) = z * f k := by
  induction n with
  | zero => omega
  | succ n ih =>
    rw [Po.sum_succ]
    by_cases h : k = n
    · subst h
      rw [po_zero fun i hi => by unfold unV; rw [if_neg (by omega)]; grind]
      simp [unV]; grind
    · rw [ih (by omega)]
      unfold unV; rw [if_neg (by omega)]; grind
/-- the sum of squares -/
def sumT : Sqs → Nat → Nat → GQ
  | [], _, _ => 0
  | s :: g, i, j => term s i j + sumT g i j
theorem sum_add (g : Sqs) : ∀ (A : Nat → Nat → GQ) (i j : Nat), (g.foldl addT A) i j = A i j + sumT g i j := by
  induction g with
  | nil => intro A i j; show A i j = A i j + 0; grind
  | cons s g ih => intro A i j; rw [List.foldl_cons, ih, show sumT (s :: g) i j = term s i j + sumT g i j from rfl, show addT A s i j = A i j + term s i j from rfl]; grind
end EvL

set_option Elab.async false
set_option linter.all false
set_option maxRecDepth 100000
set_option maxHeartbeats 1900000
namespace EvL
open PySem PySem.Spec PyProof.Rows L2 Pk
/-- numbers of a mix over one whole number -/
def Mx (n X : Nat) (m : Nat → GQ) : Prop := ∃ D : Int, 0 < D ∧ Sz X D ∧ ∀ i, i < n → Cz D X (m i)
theorem Mx.mono {n X Y : Nat} {m : Nat → GQ} (h : Mx n X m) (hb : X ≤ Y) : Mx n Y m := let ⟨D, d0, s, c⟩ := h; ⟨D, d0, s.mono hb, fun i hi => (c i hi).mono hb⟩
theorem Mx.gz {n X : Nat} {m : Nat → GQ} (h : Mx n X m) {i : Nat} (hi : i < n) : Gz X (m i) := let ⟨D, d0, s, c⟩ := h; (c i hi).gz d0 s
/-- a stepped square -/
structure SqG (n : Nat) (s : Rat × (Nat → GQ)) : Prop where
  pos : 0 < s.1
  qz : Qz 1150 s.1
  lead : ∃ k, fo n s.2 = some k
  mx : Mx n 1150 s.2
def belM (n : Nat) (c : Sqs × Option Nat × (Nat → Nat → GQ)) (s : Nat) : Nat → GQ := c.1.reverse.foldl (stepB n) (lowM n c.2.2 s)
structure ClrOk (n : Nat) (T : Nat → Nat → GQ) : Prop where
  len : (clr n T).1.length ≤ n
  sq : ∀ s ∈ (clr n T).1, SqG n s
  full : (clr n T).2.1 = none → ∀ i j, i < n → j < n → T i j = sumT (clr n T).1 i j
  herm : ∀ s, (clr n T).2.1 = some s → s < n ∧ Herm (clr n T).2.2 ∧ (∃ r', r' ≤ 6 ∧ Lz n r' (clr n T).2.2) ∧ ((clr n T).2.2 s s).re ≤ 0 ∧ fo n ((clr n T).2.2 s) ≠ none
  below : ∀ s, (clr n T).2.1 = some s → (outT n T (belM n (clr n T) s) (belM n (clr n T) s)).re < 0 ∧ Mx n 20000 (belM n (clr n T) s)
end EvL

set_option Elab.async false
set_option linter.all false
set_option maxRecDepth 100000
set_option maxHeartbeats 1900000
namespace EvL
open PySem PySem.Spec PyProof.Rows L2
namespace Pk
section
variable {n : Nat} {T : Nat → Nat → GQ} {r : Nat} (hrn : r + n ≤ 6) (hH : Herm T) (hz : Lz n r T)
include hrn hH hz
end
theorem unit_mix_run {n k : Nat} {z : GQ} (hn : n ≤ 1000) : unit_mix.run [.int n, .int k, gD z] = some (.fz (.tuple (vG n (unV k z))), []) := by
  have e := lc_map (f := fun (i : Nat) => PyData.int i) (g := fun i => gD (unV k z i)) (vs := [3]) (t := .nm 3) (k := .rng1) (its := [(.var 0)]) (elt := (.ite (.cmp .eq (.var 3) (.var 1)) (.var 2) (.cst (.tuple [(.tuple [(.int (0)), (.int (1))]), (.tuple [(.int (0)), (.int (1))])])))) (Γ := [.fz (.int n), .fz (.int k), .fz (gD z), .un]) (Γ1 := [.fz (.int n), .fz (.int k), .fz (gD z), .un]) (ds := [.int n]) (l := List.range n) (by simp) (by rw [it_r1 (by omega), rng0]) (by simp; omega) (fun i hi => by
    refine ⟨[.fz (.int n), .fz (.int k), .fz (gD z), .fz (.int i)], .fz (gD (unV k z i)), [.fz (.int n), .fz (.int k), .fz (gD z), .fz (.int i)], by simp [wipeG], ?_, rfl, by simp [wipeG]⟩
    by_cases h : i = k
    · subst h; simp [unV]
    · have h2 : ¬ ((i : Int) = (k : Int)) := by omega
      simp [unV, h, h2, g0c])
  simp [backG] at e
  rw [run_unit_mix]
  simp [runB, List.replicate, ir_unit_mix, e]
  rfl
end Pk
end EvL

set_option Elab.async false
set_option linter.all false
set_option maxRecDepth 100000
set_option maxHeartbeats 1900000
namespace EvL
open PySem PySem.Spec PyProof.Rows L2
namespace Pk
end Pk
end EvL

set_option Elab.async false
set_option linter.all false
set_option maxRecDepth 100000
set_option maxHeartbeats 1900000
namespace EvL
open PySem PySem.Spec PyProof.Rows L2
theorem eqv_map {α : Type} (f g : α → D) : ∀ l : List α, PyData.eqvAll (l.map f) (l.map g) = l.all fun x => PyData.eqv (f x) (g x)
  | [] => by simp [PyData.eqvAll]
  | x :: l => by simp [PyData.eqvAll, eqv_map f g l]
namespace Pk
end Pk
end EvL

set_option Elab.async false
set_option linter.all false
set_option maxRecDepth 100000
set_option maxHeartbeats 1900000
namespace EvL
open PySem PySem.Spec PyProof.Rows L2
theorem ife_t {c : IE} {p q : List IS} {Γ Γ' : Ga} (h : evT c Γ = some (true, Γ')) : evS (.ife c p q) Γ = evB p Γ' := by rw [v_ife, h, Option.bind_some]; rfl
namespace Pk
end Pk
end EvL

set_option Elab.async false
set_option linter.all false
set_option maxRecDepth 100000
set_option maxHeartbeats 1900000
namespace EvL
open PySem PySem.Spec PyProof.Rows L2
namespace Pk
/-- sizes of a table and of a mix -/
structure Wz (n : Nat) (T : Nat → Nat → GQ) (c : Nat → GQ) (K M : Int) : Prop where
  n6 : n ≤ 6
  gt : ∀ i j, i < n → j < n → Gz 50000 (T i j)
  gc : ∀ i, i < n → Gz 50000 (c i)
  k0 : 0 < K
  ks : Sz 100000 K
  m0 : 0 < M
  ms : Sz 100000 M
  ck : ∀ i j, i < n → j < n → Cz K 60000 (c i * T i j)
  cm : ∀ i j, i < n → j < n → Cz M 80000 (mulT n c T j * (c i).bent)
theorem Wz.gm {n : Nat} {T : Nat → Nat → GQ} {c : Nat → GQ} {K M : Int} (h : Wz n T c K M) {j : Nat} (hj : j < n) : Gz 100000 (mulT n c T j) :=
  (Cz.sum (n := n) fun i hi => h.ck i j hi hj).gz' h.k0 (by have := h.n6; omega) h.ks
theorem wz_of {n b X : Nat} {d D : Int} {T : Nat → Nat → GQ} {c : Nat → GQ} (hn : n ≤ 6) (d0 : 0 < d) (ds : Sz b d) (ht : Tz n d b T) (D0 : 0 < D) (Ds : Sz X D) (hc : ∀ i, i < n → Cz D X (c i)) (hb : b ≤ 2302) (hX : X ≤ 30000) : Wz n T c (D * d) (D * d * D) where
  n6 := hn
  gt := fun i j hi hj => ((ht i j hi hj).gz d0 ds).mono (by omega)
  gc := fun i hi => ((hc i hi).gz D0 Ds).mono (by omega)
  k0 := Int.mul_pos D0 d0
  ks := (Ds.mul ds).mono (by omega)
  m0 := Int.mul_pos (Int.mul_pos D0 d0) D0
  ms := ((Ds.mul ds).mul Ds).mono (by omega)
  ck := fun i j hi hj => ((hc i hi).mul (ht i j hi hj) (by omega) (by omega)).mono (by omega)
  cm := fun i j hi hj => by
    have h1 : Cz (D * d) (X + b + 1 + n) (mulT n c T j) := Cz.sum fun i hi => (hc i hi).mul (ht i j hi hj) (by omega) (by omega)
    exact (h1.mul (hc i hi).bent (by have := Int.mul_pos D0 d0; omega) (by omega)).mono (by omega)
theorem lrunW {n : Nat} {T : Nat → Nat → GQ} {c : Nat → GQ} {K M : Int} (h : Wz n T c K M) : _law_run.run [tabD n T, .list (vN n c)] = some (.fz (.list (vN n (mulT n c T))), []) := by
  have hn := h.n6
  have inner : ∀ (j : Nat) (hj : j < n) (acc : MV) (s5 : MV), ∃ s5', evF (.nm 5) (evB [(.set 4 (.call Pk._law_plus Pk.E__law_plus_2.pm [(.var 4), (.call Pk._law_times_v2 Pk.E__law_times_v2_2.pm [(.ixv 1 (.var 5)), (.ix (.ixv 0 (.var 5)) (.var 3))])]))]) ((List.range n).map fun (k : Nat) => PyData.int k) [.fz (tabD n T), .fz (.list (vN n c)), acc, .fz (.int j), .fz (tN 0), s5] =
      some (.nx [.fz (tabD n T), .fz (.list (vN n c)), acc, .fz (.int j), .fz (tN (mulT n c T j)), s5']) := fun j hj acc s5 => by
    obtain ⟨Γ', e1, s5', rfl⟩ := evF_nat (f := fun (i : Nat) => PyData.int i) (t := .nm 5) (b := evB [(.set 4 (.call Pk._law_plus Pk.E__law_plus_2.pm [(.var 4), (.call Pk._law_times_v2 Pk.E__law_times_v2_2.pm [(.ixv 1 (.var 5)), (.ix (.ixv 0 (.var 5)) (.var 3))])]))]) (n := n) (Γ := [.fz (tabD n T), .fz (.list (vN n c)), acc, .fz (.int j), .fz (tN 0), s5])
      (fun i Γ => ∃ s5, Γ = [.fz (tabD n T), .fz (.list (vN n c)), acc, .fz (.int j), .fz (tN (Po.sum i fun i => c i * T i j)), s5]) ⟨s5, rfl⟩
      (fun i Γ hi ⟨s5, hG⟩ => by
        subst hG
        have p := times2_run ((h.gc i hi).mono (show 50000 ≤ 1900000 by decide)) ((h.gt i j hi hj).mono (show 50000 ≤ 1900000 by decide))
        have c1 : Cz K (60000 + i) (Po.sum i fun i => c i * T i j) := Cz.sum fun k hk => h.ck k j (by omega) hj
        have q := plus_run ((c1.gz' (c := 100000) h.k0 (by omega) h.ks).mono (show 100000 ≤ 1900000 by decide)) (((h.ck i j hi hj).gz' (c := 100000) h.k0 (by decide) h.ks).mono (show 100000 ≤ 1900000 by decide))
        refine ⟨[.fz (tabD n T), .fz (.list (vN n c)), acc, .fz (.int j), .fz (tN (Po.sum i fun i => c i * T i j)), .fz (.int i)], [.fz (tabD n T), .fz (.list (vN n c)), acc, .fz (.int j), .fz (tN (Po.sum (i + 1) fun i => c i * T i j)), .fz (.int i)], by simp, .inl ?_, _, rfl⟩
        rw [Po.sum_succ]
        simp [vN_ix c hi rfl, tabD_ix T hi rfl, vN_ix (T i) hj rfl, p, q])
    exact ⟨s5', e1⟩
  obtain ⟨Γ', e1, s3, s4, s5, rfl⟩ := evF_nat (f := fun (i : Nat) => PyData.int i) (t := .nm 3) (b := evB [(.set 4 (.tup [(.cst (.int (0))), (.cst (.int (0))), (.cst (.int (1)))])), (.fr (.nm 5) .rng1 [(.lenv 0)] [(.set 4 (.call Pk._law_plus Pk.E__law_plus_2.pm [(.var 4), (.call Pk._law_times_v2 Pk.E__law_times_v2_2.pm [(.ixv 1 (.var 5)), (.ix (.ixv 0 (.var 5)) (.var 3))])]))]), (.app 2 (.var 4))]) (n := n) (Γ := [.fz (tabD n T), .fz (.list (vN n c)), .ow false [], .un, .un, .un])
    (fun j Γ => ∃ s3 s4 s5, Γ = [.fz (tabD n T), .fz (.list (vN n c)), .ow false (vN j (mulT n c T)), s3, s4, s5]) ⟨.un, .un, .un, rfl⟩
    (fun j Γ hj ⟨s3, s4, s5, hG⟩ => by
      subst hG
      obtain ⟨s5', e2⟩ := inner j hj (.ow false (vN j (mulT n c T))) s5
      refine ⟨[.fz (tabD n T), .fz (.list (vN n c)), .ow false (vN j (mulT n c T)), .fz (.int j), s4, s5], [.fz (tabD n T), .fz (.list (vN n c)), .ow false (vN (j + 1) (mulT n c T)), .fz (.int j), .fz (tN (mulT n c T j)), s5'], by simp, .inl ?_, _, _, _, rfl⟩
      rw [b_cons']; conv in evS _ _ => simp [tN0]
      rw [Option.bind_some, onNext_nx, b_cons', v_fr]
      have i1 : evs [(.lenv 0)] [.fz (tabD n T), .fz (.list (vN n c)), .ow false (vN j (mulT n c T)), .fz (.int j), .fz (tN 0), s5] = some ([.int n], [.fz (tabD n T), .fz (.list (vN n c)), .ow false (vN j (mulT n c T)), .fz (.int j), .fz (tN 0), s5]) := by simp [tabD]
      rw [i1, Option.bind_some]
      simp only [it_r1 (show -1000000 ≤ (n : Int) ∧ (n : Int) ≤ 1000000 by omega), Option.bind_some, rng0, e2, onNext_nx]
      have lj : j < 1000000 := by omega
      simp [lim_eq, lj]
      simp [vN, List.range_succ])
  rw [run__law_run, run0 (np := 2) (n := 6) (ds := [tabD n T, .list (vN n c)]) rfl]
  show (evB ir__law_run [.fz (tabD n T), .fz (.list (vN n c)), .un, .un, .un, .un]).bind (outM false) = _
  unfold ir__law_run
  rw [b_cons']; conv in evS _ _ => simp
  rw [Option.bind_some, onNext_nx, b_cons', v_fr]
  have i1 : evs [(.lenv 0)] [.fz (tabD n T), .fz (.list (vN n c)), .ow false [], .un, .un, .un] = some ([.int n], [.fz (tabD n T), .fz (.list (vN n c)), .ow false [], .un, .un, .un]) := by simp [tabD]
  rw [i1, Option.bind_some]
  simp only [it_r1 (show -1000000 ≤ (n : Int) ∧ (n : Int) ≤ 1000000 by omega), Option.bind_some, rng0, e1, onNext_nx]
  simp
end Pk
end EvL

set_option Elab.async false
set_option linter.all false
set_option maxRecDepth 100000
set_option maxHeartbeats 1900000
namespace EvL
open PySem PySem.Spec PyProof.Rows L2
namespace Pk
theorem cv_small {n : Nat} {c : Nat → GQ} (h : ∀ i, i < n → Cz 2 4 (c i)) : Cv n c := fun i hi => ((h i hi).up (k := 15) (c := 4) (by decide) (by decide) (Sz.lit (by decide)) (by decide)).mono (by decide)
end Pk
end EvL

set_option Elab.async false
set_option linter.all false
set_option maxRecDepth 100000
namespace EvL
open PySem PySem.Spec PyProof.Rows L2
namespace Pk
end Pk
end EvL

set_option Elab.async false
set_option linter.all false
set_option maxRecDepth 100000
set_option maxHeartbeats 1900000
namespace EvL
open PySem PySem.Spec PyProof.Rows L2 Pk
end EvL

set_option Elab.async false
set_option linter.all false
set_option maxRecDepth 100000
set_option maxHeartbeats 1900000
namespace EvL
open PySem PySem.Spec PyProof.Rows L2
namespace Pk
theorem smalls_lc {c : Int} {l0 l : List D} {n v : Nat} {its : List IE} {rest : Ga} (h : F1.Pail c l) (hc : c + 5 * n < 1000000) (hn : n ≤ 1000) (hv : rest[v]? = some .un)
    (hi : evs its (.ow true l0 :: rest) = some ([.int n], .ow true l :: rest)) :
    ∃ (m : Nat → GQ) (l' : List D), evX (.lc [v + 1] (.nm (v + 1)) .rng1 its [] (.callm Pk._law_small 0 [])) (.ow true l0 :: rest) = some (.ow (vN n m), .ow true l' :: rest) ∧ (∀ i, i < n → Cz 2 4 (m i)) ∧ F1.Pail (c + 5 * n) l' := by
  have same : rest.set v .un = rest := by
    refine List.ext_getElem? fun i => ?_
    rw [List.getElem?_set]
    by_cases hi : v = i
    · subst hi; rw [if_pos rfl, hv, if_pos (lt_of_get hv)]
    · rw [if_neg hi]
  have hvl := lt_of_get hv
  obtain ⟨ys, l', e, hl, hR, hp⟩ := lc_draws (vs := [v + 1]) (t := .nm (v + 1)) (k := .rng1) (its := its) (elt := (.callm Pk._law_small 0 [])) (l0 := l0) (l := l) (rest := rest) (ds := [.int n]) (xs := rngD 0 n) (c := c) (K := 5) (fun y => ∃ z, y = tN z ∧ Cz 2 4 z)
    hi (it_r1 (by omega)) (by rw [rng_len]; omega) h (fun j l x hx hp => by
      obtain ⟨hj, rfl⟩ := rng_get hx
      obtain ⟨z, l1, e1, z1, h1⟩ := small_run hp (by omega)
      have w : wipeG (.ow true l :: rest) [v + 1] = .ow true l :: rest := by simp [wipeG, same]
      refine ⟨.ow true l :: rest.set v (.fz (.int j)), .fz (tN z), l1, .ow true l1 :: rest.set v (.fz (.int j)), ?_, ?_, ⟨z, rfl, z1⟩, ?_, by have := h1.up (d := c + 5 * ((j + 1 : Nat) : Int)) (by omega); exact this⟩
      · rw [w]; exact as_nm _ _ _ (by simp; omega)
      · simp [e1]
      · simp [wipeG])
  rw [rng_len] at hl hp
  obtain ⟨m, rfl, hm⟩ := vN_of (n := n) (by simpa using hl) hR
  refine ⟨m, l', ?_, hm, by simpa using hp⟩
  rw [e]
  simp [backG, hv, same]
end Pk
end EvL

set_option Elab.async false
set_option linter.all false
set_option maxRecDepth 100000
set_option maxHeartbeats 1900000
namespace EvL
open PySem PySem.Spec PyProof.Rows L2
namespace Pk
end Pk
end EvL

set_option Elab.async false
set_option linter.all false
set_option maxRecDepth 100000
set_option maxHeartbeats 1900000
namespace EvL
open PySem PySem.Spec PyProof.Rows L2
namespace Pk
/-- a square over a told whole number -/
structure SqK (n : Nat) (K : Int) (s : Rat × (Nat → GQ)) : Prop where
  lead : Gz 5000 (GQ.ofR s.1)
  part : ∀ i, i < n → Gz 5000 (s.2 i)
  tc : ∀ i j, i < n → j < n → Cz K 60 (term s i j)
theorem SqOk.k {n : Nat} {s : Rat × (Nat → GQ)} (h : SqOk n s) : SqK n 168 s := ⟨h.1.gz' (by decide) (by decide) ((Sz.lit (b := 6) (by decide)).mono (by decide)), fun i hi => (h.2 i hi).gz' (by decide) (by decide) ((Sz.lit (b := 2) (by decide)).mono (by decide)), fun i j hi hj => (term_cz h hi hj).mono (by decide)⟩
end Pk
end EvL

set_option Elab.async false
set_option linter.all false
set_option maxRecDepth 100000
set_option maxHeartbeats 1900000
namespace EvL
open PySem PySem.Spec PyProof.Rows L2
namespace Pk
theorem eq_nilI (xs : List Nat) : eqD (.list (xs.map fun (k : Nat) => PyData.int k)) (.list []) = some (decide (xs = [])) := by
  rw [eq_lnil (k := 1) (fun x hx => by
    obtain ⟨z, _, rfl⟩ := List.mem_map.mp hx
    simp [PyData.canLay0, PyData.depth]) (by decide)]
  simp
end Pk
end EvL

set_option Elab.async false
set_option linter.all false
set_option maxRecDepth 100000
set_option maxHeartbeats 1900000
namespace EvL
open PySem PySem.Spec PyProof.Rows L2
namespace Pk
/-! the package's sums at any sizes -/
theorem mix_timesW {n : Nat} {T : Nat → Nat → GQ} {c : Nat → GQ} {K M : Int} (h : Wz n T c K M) : mix_times.run [.tuple (vG n c), tabG n T] = some (.fz (.tuple (vG n (mulT n c T))), []) := by
  have hn := h.n6
  have e : evX (.lc [2] (.nm 2) .rng1 [(.lenv 1)] [] (.call Pk.inner_sum Pk.E_inner_sum_2.pm [(.var 0), (.lc [3] (.nm 3) .seq [(.var 1)] [] (.ixv 3 (.var 2)))])) [.fz (.tuple (vG n c)), .fz (tabG n T), .un, .un] = some (.ow (vG n (mulT n c T)), [.fz (.tuple (vG n c)), .fz (tabG n T), .un, .un]) := by
    have := lc_map (f := fun (i : Nat) => PyData.int i) (g := fun j => gD (mulT n c T j)) (vs := [2]) (t := .nm 2) (k := .rng1) (its := [(.lenv 1)]) (elt := (.call Pk.inner_sum Pk.E_inner_sum_2.pm [(.var 0), (.lc [3] (.nm 3) .seq [(.var 1)] [] (.ixv 3 (.var 2)))])) (Γ := [.fz (.tuple (vG n c)), .fz (tabG n T), .un, .un]) (Γ1 := [.fz (.tuple (vG n c)), .fz (tabG n T), .un, .un]) (ds := [.int n]) (l := List.range n) (by simp [tabG]) (by rw [it_r1 (by omega), rng0]) (by simp; omega) (fun j hj => by
      have hj : j < n := List.mem_range.mp hj
      have col := lc_map (f := fun (i : Nat) => PyData.tuple (vG n (T i))) (g := fun i => gD (T i j)) (vs := [3]) (t := .nm 3) (k := .seq) (its := [(.var 1)]) (elt := (.ixv 3 (.var 2))) (Γ := [.fz (.tuple (vG n c)), .fz (tabG n T), .fz (.int j), .un]) (Γ1 := [.fz (.tuple (vG n c)), .fz (tabG n T), .fz (.int j), .un]) (ds := [tabG n T]) (l := List.range n) (by simp) rfl (by simp; omega) (fun i hi =>
        ⟨[.fz (.tuple (vG n c)), .fz (tabG n T), .fz (.int j), .fz (.tuple (vG n (T i)))], .fz (gD (T i j)), [.fz (.tuple (vG n c)), .fz (tabG n T), .fz (.int j), .fz (.tuple (vG n (T i)))], by simp [wipeG], by simp [vG_ix (T i) hj rfl], rfl, by simp [wipeG]⟩)
      have r := inner_run (n := n) (x := c) (y := fun i => T i j) (K := K) (B := 60000) (d := .tuple (vG n c)) (e := .list (vG n fun i => T i j)) (fun i hi => (h.gc i hi).mono (by decide)) (fun i hi => (h.gt i j hi hj).mono (by decide)) (fun i hi => h.ck i j hi hj) h.k0 (h.ks.mono (by decide)) (by omega) rfl rfl
      have col' : evX (.lc [3] (.nm 3) .seq [(.var 1)] [] (.ixv 3 (.var 2))) [.fz (.tuple (vG n c)), .fz (tabG n T), .fz (.int j), .un] = some (.ow (vG n fun i => T i j), [.fz (.tuple (vG n c)), .fz (tabG n T), .fz (.int j), .un]) := by
        rw [col]; simp [backG, vG]
      refine ⟨[.fz (.tuple (vG n c)), .fz (tabG n T), .fz (.int j), .un], .fz (gD (mulT n c T j)), [.fz (.tuple (vG n c)), .fz (tabG n T), .fz (.int j), .un], by simp [wipeG], ?_, rfl, by simp [wipeG]⟩
      simp [col', r]
      rfl)
    rw [this]; simp [backG, vG]
  rw [run_mix_times]
  simp [runB, List.replicate, ir_mix_times, e]
theorem comes_outW {n : Nat} {T : Nat → Nat → GQ} {c : Nat → GQ} {K M : Int} (hH : Herm T) (h : Wz n T c K M) : comes_out.run [tabG n T, .tuple (vG n c)] = some (.fz (qD (outT n T c c).re), []) := by
  have hn := h.n6
  have r1 := mix_timesW h
  have r2 := mix_mirrored_run (n := n) c (by omega)
  have r3 := inner_run (n := n) (x := mulT n c T) (y := fun j => (c j).bent) (K := M) (B := 80000) (d := .tuple (vG n (mulT n c T))) (e := .tuple (vG n fun j => (c j).bent)) (fun j hj => (h.gm hj).mono (by decide)) (fun j hj => (h.gc j hj).bent.mono (by decide)) (fun j hj => h.cm j j hj hj) h.m0 (h.ms.mono (by decide)) (by omega) rfl rfl
  have r4 : out_together.run [tabG n T, .tuple (vG n c), .tuple (vG n c)] = some (.fz (gD (outT n T c c)), []) := by
    rw [run_out_together]
    simp [runB, List.replicate, ir_out_together, r1, r2, r3]
    rfl
  have r5 : out_of.run [tabG n T, .tuple (vG n c)] = some (.fz (qD (outT n T c c).re), []) := by
    rw [run_out_of]
    simp [runB, List.replicate, ir_out_of, r4, gD]
  have k1 := check_table_run hH hn
  have k2 := check_mix_run (n := n) (T := T) c (by omega)
  rw [run_comes_out]
  simp [runB, List.replicate, ir_comes_out, k1, k2, r5]
end Pk
end EvL

set_option Elab.async false
set_option linter.all false
set_option maxRecDepth 100000
set_option maxHeartbeats 1900000
namespace EvL
open PySem PySem.Spec PyProof.Rows L2
namespace Pk
/-- a drawn table of squares -/
structure Ot (n : Nat) (f : Sqs) : Prop where
  n0 : 0 < n
  n4 : n ≤ 4
  ok : ∀ s ∈ f, SqOk n s
  pos : ∀ s ∈ f, 0 < s.1
  len : f.length ≤ 4
theorem Ot.made {n : Nat} {f : Sqs} (h : Ot n f) : _law_made.run [.int n, .list (f.map (sqD n))] = some (.oo (tabN n (madeT f)), []) := (made_run (by have := h.n4; omega) (by have := h.len; omega) h.ok).1
theorem Ot.herm {n : Nat} {f : Sqs} (h : Ot n f) : Herm (madeT f) := (made_run (n := n) (by have := h.n4; omega) (by have := h.len; omega) h.ok).2.1
theorem Ot.tz {n : Nat} {f : Sqs} (h : Ot n f) : Tz n 168 23 (madeT f) := ((made_run (n := n) (by have := h.n4; omega) (by have := h.len; omega) h.ok).2.2).mono (by have := h.len; omega)
theorem Ot.gz {n : Nat} {f : Sqs} (h : Ot n f) {i j : Nat} (hi : i < n) (hj : j < n) : Gz 23 (madeT f i j) := (h.tz i j hi hj).gz (by decide) ((Sz.lit (b := 8) (by decide)).mono (by decide))
end Pk
end EvL

set_option Elab.async false
set_option linter.all false
set_option maxRecDepth 100000
set_option maxHeartbeats 1900000
namespace EvL
open PySem PySem.Spec PyProof.Rows L2 Pk
/-- stepped squares: each begins with 1 behind where the one ahead begins -/
def Ech (n : Nat) : Nat → Sqs → Prop
  | _, [] => True
  | k0, s :: g => ∃ k, k0 ≤ k ∧ k < n ∧ s.2 k = 1 ∧ (∀ j, j < k → s.2 j = 0) ∧ 0 < s.1 ∧ Ech n (k + 1) g
theorem Ech.mono {n : Nat} : ∀ {f : Sqs} {a b : Nat}, Ech n b f → a ≤ b → Ech n a f
  | [], _, _, _, _ => trivial
  | s :: g, a, b, ⟨k, h1, h2⟩, hab => ⟨k, by omega, h2⟩
theorem Ech.low {n : Nat} : ∀ {f : Sqs} {a i : Nat}, Ech n a f → i < a → ∀ s ∈ f, s.2 i = 0
  | [], _, _, _, _ => by simp
  | s :: g, a, i, ⟨k, h1, h2, h3, h4, h5, h6⟩, hi => fun q hq => by
    rcases List.mem_cons.mp hq with rfl | hq
    · exact h4 i (by omega)
    · exact Ech.low h6 (show i < k + 1 by omega) q hq
end EvL

set_option Elab.async false
set_option linter.all false
set_option maxRecDepth 100000
set_option maxHeartbeats 1900000
namespace EvL
open PySem PySem.Spec PyProof.Rows L2
namespace Pk
theorem mul_rep {k : Nat} (d : D) (hk : k ≤ 1000) : binD .mul (.list [d]) (.int (k : Int)) = some (.ow (List.replicate k d)) := by
  show (if _ then _ else _) = _
  rw [if_pos (by simp [lim_eq]; omega)]
  congr 2
  rw [show ((k : Int)).toNat = k by omega]
  induction k with
  | zero => rfl
  | succ q ih => simp [List.replicate_succ] 
end Pk
end EvL

set_option Elab.async false
set_option linter.all false
set_option maxRecDepth 100000
set_option maxHeartbeats 1900000
namespace EvL
open PySem PySem.Spec PyProof.Rows L2
namespace Pk
structure SqZ (n : Nat) (s : Rat × (Nat → GQ)) : Prop where
  lead : Gz 5000 (GQ.ofR s.1)
  part : ∀ i, i < n → Gz 5000 (s.2 i)
end Pk
end EvL

set_option Elab.async false
set_option linter.all false
set_option maxRecDepth 100000
set_option maxHeartbeats 1900000
namespace EvL
open PySem PySem.Spec PyProof.Rows L2
theorem lay_lst {k : Nat} {xs : List D} (h : ∀ x ∈ xs, x.canLay0 = true ∧ x.depth ≤ k) : (PyData.list xs).canLay0 = true ∧ (PyData.list xs).depth ≤ k + 1 := by
  obtain ⟨a, b⟩ := lay_all h
  exact ⟨by simp [PyData.canLay0, a], by simp only [PyData.depth]; omega⟩
theorem eqv_tN (x y : GQ) : PyData.eqv (tN x) (tN y) = decide (x = y) := by
  have h := eq_tN x y
  have sh : ∀ z : GQ, SeqAt.shaped (tN z) = true := fun z => by
    unfold tN tD
    exact shaped_t (k := 0) (fun x hx => by simp at hx; rcases hx with rfl | rfl | rfl <;> simp [PyData.canLay0, PyData.depth]) (by decide)
  rw [eq_shaped (sh x) (sh y) (.inl fun x => by simp [tN, tD])] at h
  exact Option.some.inj h
def sameT (n : Nat) (S T : Nat → Nat → GQ) : Bool := (List.range n).all fun i => (List.range n).all fun j => decide (S i j = T i j)
namespace Pk
/-- a square that counts -/
structure SqT (n : Nat) (s : Rat × (Nat → GQ)) : Prop where
  r0 : s.1 ≠ 0
  lead : fo n s.2 ≠ none
  qz : Qz 2000 s.1
  gz : ∀ i, i < n → Gz 2000 (s.2 i)
/-- whether things make a table -/
def mkB (n : Nat) (T : Nat → Nat → GQ) (es : List (D × Option (Rat × (Nat → GQ)))) : Bool := if (es.all fun e => e.2.isSome) then sameT n (madeT (es.filterMap Prod.snd)) T else false
end Pk
end EvL

set_option Elab.async false
set_option linter.all false
set_option maxRecDepth 100000
set_option maxHeartbeats 1900000
namespace EvL
open PySem PySem.Spec PyProof.Rows L2
theorem evFo_ex {α : Type} {f : α → D} {t : Tg} {i : Nat} {b : Ga → Option Out} (I : List α → Ga → Prop) {l : List α}
    (step : ∀ p x q Γ, l = p ++ x :: q → I p Γ → ∃ Γ1 Γ2, asg t (f x) Γ = some Γ1 ∧ b Γ1 = some (.nx Γ2) ∧ I (p ++ [x]) Γ2) :
    ∀ {q p : List α} {Γ : Ga}, l = p ++ q → I p Γ → ∃ Γ', evFo t i b (q.map f) Γ = backH i Γ' ∧ I l Γ'
  | [], p, Γ, e, h => ⟨Γ, rfl, by rw [e, List.append_nil]; exact h⟩
  | x :: q, p, Γ, e, h => by
    obtain ⟨Γ1, Γ2, e1, e2, h2⟩ := step p x q Γ e h
    obtain ⟨Γ', e3, h3⟩ := evFo_ex (i := i) I step (q := q) (p := p ++ [x]) (by rw [e]; simp) h2
    refine ⟨Γ', ?_, h3⟩
    rw [List.map_cons, evFo, e1, Option.bind_some, e2, Option.bind_some]
    exact e3
namespace Pk
abbrev Ow := List (Nat × (Nat → GQ) × (Nat → GQ))
def owD (n : Nat) (e : Nat × (Nat → GQ) × (Nat → GQ)) : D := .tuple [.int e.1, .tuple (vG n e.2.1), .tuple (vG n e.2.2)]
def redO (x : (Nat → GQ) × (Nat → GQ)) (e : Nat × (Nat → GQ) × (Nat → GQ)) : (Nat → GQ) × (Nat → GQ) :=
  (fun i => x.1 i - x.1 e.1 / e.2.1 e.1 * e.2.1 i, fun i => x.2 i - x.1 e.1 / e.2.1 e.1 * e.2.2 i)
theorem mix_lessZ {n : Nat} {x y : Nat → GQ} {z : GQ} (hx : ∀ i, i < n → Gz 400000 (x i)) (hy : ∀ i, i < n → Gz 400000 (y i)) (hz : Gz 400000 z) (hn : n ≤ 1000) : mix_less.run [.tuple (vG n x), .tuple (vG n y), gD z] = some (.fz (.tuple (vG n fun i => x i - z * y i)), []) := by
  have e := lc_map (f := fun (i : Nat) => PyData.tuple [gD (x i), gD (y i)]) (g := fun i => gD (x i - z * y i)) (vs := [3, 4]) (t := .tp [(.nm 3), (.nm 4)]) (k := .zip) (its := [(.var 0), (.var 1)]) (elt := (.call Pk.num_less Pk.E_num_less_2.pm [(.var 3), (.call Pk.num_product Pk.E_num_product_2.pm [(.var 2), (.var 4)])])) (Γ := [.fz (.tuple (vG n x)), .fz (.tuple (vG n y)), .fz (gD z), .un, .un]) (Γ1 := [.fz (.tuple (vG n x)), .fz (.tuple (vG n y)), .fz (gD z), .un, .un]) (ds := [.tuple (vG n x), .tuple (vG n y)]) (l := List.range n) (by simp) zip_tt (by simp; omega) (fun i hi => by
    have hi := List.mem_range.mp hi
    have p := num_product_run (hz.mono (show 400000 ≤ 1900000 by decide)) ((hy i hi).mono (show 400000 ≤ 1900000 by decide))
    have r := num_less_run ((hx i hi).mono (show 400000 ≤ 1900000 by decide)) ((hz.mul (hy i hi)).mono (show _ ≤ 1900000 by decide))
    exact ⟨[.fz (.tuple (vG n x)), .fz (.tuple (vG n y)), .fz (gD z), .fz (gD (x i)), .fz (gD (y i))], .fz (gD (x i - z * y i)), [.fz (.tuple (vG n x)), .fz (.tuple (vG n y)), .fz (gD z), .fz (gD (x i)), .fz (gD (y i))], by simp [wipeG], by simp [p, r], rfl, by simp [wipeG]⟩)
  simp [backG] at e
  rw [run_mix_less]
  simp [runB, List.replicate, ir_mix_less, e]
  rfl
/-- sizes of what is kept, element by element -/
def OwOk (n : Nat) (own : Ow) : Prop := ∀ j e, own[j]? = some e → e.1 < n ∧ e.2.1 e.1 ≠ 0 ∧ (∀ i, i < n → Gz (60 * 6 ^ j) (e.2.1 i)) ∧ ∀ i, i < n → Gz (60 * 6 ^ j) (e.2.2 i)
abbrev bodyN : List IS := [(.set 9 (.call Pk.num_over Pk.E_num_over_2.pm [(.ixv 4 (.var 6)), (.ixv 7 (.var 6))])), (.par [4, 5] [(.call Pk.mix_less Pk.E_mix_less_3.pm [(.var 4), (.var 7), (.var 9)]), (.call Pk.mix_less Pk.E_mix_less_3.pm [(.var 5), (.var 8), (.var 9)])])]
theorem six_le {j : Nat} (h : j ≤ 4) : 60 * 6 ^ j ≤ 77760 := by
  rcases (show j = 0 ∨ j = 1 ∨ j = 2 ∨ j = 3 ∨ j = 4 by omega) with rfl | rfl | rfl | rfl | rfl <;> decide
theorem red_loop {n : Nat} {own : Ow} {x : (Nat → GQ) × (Nat → GQ)} {s0 s2 s3 s6 s7 s8 s9 s10 : MV} (hn : n ≤ 5) (ho : OwOk n own) (hl : own.length ≤ 4) (h1 : ∀ i, i < n → Gz 60 (x.1 i)) (h2 : ∀ i, i < n → Gz 60 (x.2 i)) :
    ∃ s6' s7' s8' s9', evFo (.tp [(.nm 6), (.nm 7), (.nm 8)]) 1 (evB bodyN) (own.map (owD n)) [s0, .hid (own.map (owD n)), s2, s3, .fz (.tuple (vG n x.1)), .fz (.tuple (vG n x.2)), s6, s7, s8, s9, s10] =
      some (.nx [s0, .ow false (own.map (owD n)), s2, s3, .fz (.tuple (vG n (own.foldl redO x).1)), .fz (.tuple (vG n (own.foldl redO x).2)), s6', s7', s8', s9', s10]) ∧
      (∀ i, i < n → Gz (60 * 6 ^ own.length) ((own.foldl redO x).1 i)) ∧ ∀ i, i < n → Gz (60 * 6 ^ own.length) ((own.foldl redO x).2 i) := by
  obtain ⟨Γ', e, s6', s7', s8', s9', rfl, g1, g2⟩ := evFo_ex (f := owD n) (l := own) (t := .tp [(.nm 6), (.nm 7), (.nm 8)]) (i := 1) (b := evB bodyN)
    (fun p Γ => ∃ s6 s7 s8 s9, Γ = [s0, .hid (own.map (owD n)), s2, s3, .fz (.tuple (vG n (p.foldl redO x).1)), .fz (.tuple (vG n (p.foldl redO x).2)), s6, s7, s8, s9, s10] ∧ (∀ i, i < n → Gz (60 * 6 ^ p.length) ((p.foldl redO x).1 i)) ∧ ∀ i, i < n → Gz (60 * 6 ^ p.length) ((p.foldl redO x).2 i))
    (fun p o q Γ ef ⟨s6, s7, s8, s9, hG, g1, g2⟩ => by
      subst hG
      have lp : p.length ≤ 4 := by have := congrArg List.length ef; simp at this; omega
      have hj : own[p.length]? = some o := by rw [ef]; simp
      obtain ⟨k1, k0, o1, o2⟩ := ho p.length o hj
      have b := six_le lp
      rw [List.foldl_append]
      show ∃ Γ1 Γ2, _ ∧ _ ∧ ∃ s6 s7 s8 s9, Γ2 = [s0, .hid (own.map (owD n)), s2, s3, .fz (.tuple (vG n (redO (p.foldl redO x) o).1)), .fz (.tuple (vG n (redO (p.foldl redO x) o).2)), s6, s7, s8, s9, s10] ∧ _ ∧ _
      rw [List.length_append, List.length_singleton, Nat.pow_succ]
      generalize hX : 6 ^ p.length = X at *
      generalize p.foldl redO x = y at *
      have X1 : 1 ≤ X := by rw [← hX]; exact Nat.pow_pos (by decide)
      have r1 := num_over_run ((g1 o.1 k1).mono (show 60 * X ≤ 500000 by omega)) ((o1 o.1 k1).mono (show 60 * X ≤ 500000 by omega)) k0
      have gz : Gz (3 * (60 * X) + 2) (y.1 o.1 / o.2.1 o.1) := by
        rw [GQ.div_def]
        exact ((g1 o.1 k1).mul (o1 o.1 k1).inv).mono (by omega)
      have r2 := mix_lessZ (n := n) (x := y.1) (y := o.2.1) (fun i hi => (g1 i hi).mono (by omega)) (fun i hi => (o1 i hi).mono (by omega)) (gz.mono (show 3 * (60 * X) + 2 ≤ 400000 by omega)) (by omega)
      have r3 := mix_lessZ (n := n) (x := y.2) (y := o.2.2) (fun i hi => (g2 i hi).mono (by omega)) (fun i hi => (o2 i hi).mono (by omega)) (gz.mono (show 3 * (60 * X) + 2 ≤ 400000 by omega)) (by omega)
      refine ⟨[s0, .hid (own.map (owD n)), s2, s3, .fz (.tuple (vG n y.1)), .fz (.tuple (vG n y.2)), .fz (.int o.1), .fz (.tuple (vG n o.2.1)), .fz (.tuple (vG n o.2.2)), s9, s10], [s0, .hid (own.map (owD n)), s2, s3, .fz (.tuple (vG n (redO y o).1)), .fz (.tuple (vG n (redO y o).2)), .fz (.int o.1), .fz (.tuple (vG n o.2.1)), .fz (.tuple (vG n o.2.2)), .fz (gD (y.1 o.1 / o.2.1 o.1)), s10], by simp [owD], ?_, _, _, _, _, rfl, fun i hi => ?_, fun i hi => ?_⟩
      · rw [b_cons']; conv in evS _ _ => simp [vG_ix y.1 k1 rfl, vG_ix o.2.1 k1 rfl, r1]
        rw [Option.bind_some, onNext_nx]
        simp [r2, r3, EvL.putAll, redO]
      · exact ((g1 i hi).sub (gz.mul (o1 i hi))).mono (by omega)
      · exact ((g2 i hi).sub (gz.mul (o2 i hi))).mono (by omega)) (q := own) (p := []) (Γ := [s0, .hid (own.map (owD n)), s2, s3, .fz (.tuple (vG n x.1)), .fz (.tuple (vG n x.2)), s6, s7, s8, s9, s10]) rfl ⟨s6, s7, s8, s9, rfl, by simpa using h1, by simpa using h2⟩
  refine ⟨s6', s7', s8', s9', ?_, g1, g2⟩
  rw [e]
  rfl
end Pk
end EvL

set_option Elab.async false
set_option linter.all false
set_option maxRecDepth 100000
set_option maxHeartbeats 1900000
namespace EvL
open PySem PySem.Spec PyProof.Rows L2
namespace Pk
def redT (n : Nat) (T : Nat → Nat → GQ) (own : Ow) (at' : Nat) : (Nat → GQ) × (Nat → GQ) := own.foldl redO (T at', unV at' 1)
def nullStep (n : Nat) (T : Nat → Nat → GQ) (s : Ow × Mixes) (at' : Nat) : Ow × Mixes := match fo n (redT n T s.1 at').1 with
  | none => (s.1, s.2 ++ [(redT n T s.1 at').2])
  | some k => (s.1 ++ [(k, (redT n T s.1 at').1, (redT n T s.1 at').2)], s.2)
def nullS (n : Nat) (T : Nat → Nat → GQ) (k : Nat) : Ow × Mixes := (List.range k).foldl (nullStep n T) ([], [])
theorem nullS_succ (n : Nat) (T : Nat → Nat → GQ) (k : Nat) : nullS n T (k + 1) = nullStep n T (nullS n T k) k := by
  unfold nullS; rw [List.range_succ, List.foldl_append]; rfl
abbrev bodyO : List IS := [(.par [4, 5] [(.ixv 0 (.var 3)), (.call Pk.unit_mix Pk.E_unit_mix_2.pm [(.lenv 0), (.var 3)])]), (.fro (.tp [(.nm 6), (.nm 7), (.nm 8)]) 1 bodyN), (.set 10 (.call Pk.first_other Pk.E_first_other_1.pm [(.var 4)])), (.ife (.cmp .is (.var 10) (.cst .none)) [(.app 2 (.var 5))] [(.app 1 (.tup [(.var 10), (.var 4), (.var 5)]))])]
def mxD (n : Nat) (ms : Mixes) : List D := ms.map fun m => .tuple (vG n m)
theorem null_by_run {n : Nat} {T : Nat → Nat → GQ} (hn : n ≤ 5) (hT : ∀ i j, i < n → j < n → Gz 60 (T i j)) : null_by.run [tabG n T] = some (.fz (.tuple (mxD n (nullS n T n).2)), []) := by
  have len : biD .len [tabG n T] = some (.fz (.int n)) := by simp [tabG]
  obtain ⟨Γ', e, s3, s4, s5, s6, s7, s8, s9, s10, rfl, ho, hl, hm⟩ := evF_nat (f := fun (k : Nat) => PyData.int k) (t := .nm 3) (b := evB bodyO) (n := n) (Γ := [.fz (tabG n T), .ow false [], .ow false [], .un, .un, .un, .un, .un, .un, .un, .un])
    (fun k Γ => ∃ s3 s4 s5 s6 s7 s8 s9 s10, Γ = [.fz (tabG n T), .ow false ((nullS n T k).1.map (owD n)), .ow false (mxD n (nullS n T k).2), s3, s4, s5, s6, s7, s8, s9, s10] ∧ OwOk n (nullS n T k).1 ∧ (nullS n T k).1.length ≤ k ∧ (nullS n T k).2.length ≤ k)
    ⟨.un, .un, .un, .un, .un, .un, .un, .un, rfl, fun j e h => by simp [nullS] at h, Nat.le_refl _, Nat.le_refl _⟩
    (fun k Γ hk ⟨s3, s4, s5, s6, s7, s8, s9, s10, hG, ho, hl, hm⟩ => by
      subst hG
      rw [nullS_succ]
      generalize nullS n T k = st at *
      obtain ⟨own, ms⟩ := st
      simp only at ho hl hm
      have um := unit_mix_run (n := n) (k := k) (z := 1) (by omega)
      obtain ⟨s6', s7', s8', s9', e1, g1, g2⟩ := red_loop (x := (T k, unV k 1)) (s0 := .fz (tabG n T)) (s2 := .ow false (mxD n ms)) (s3 := .fz (.int k)) (s6 := s6) (s7 := s7) (s8 := s8) (s9 := s9) (s10 := s10) hn ho (by omega) (fun i hi => hT k i hk hi) (fun i hi => by
        show Gz 60 (unV k 1 i)
        unfold unV; split
        · exact Gz.one (by decide)
        · exact Gz.zero (by decide))
      have er : redT n T own k = own.foldl redO (T k, unV k 1) := rfl
      rw [← er] at e1 g1 g2
      have fr := first_other_run (n := n) (redT n T own k).1 (by omega)
      have lo : own.length < 1000000 := by omega
      have lm : (mxD n ms).length < 1000000 := by unfold mxD; rw [List.length_map]; omega
      have c1 : evS (.fro (.tp [(.nm 6), (.nm 7), (.nm 8)]) 1 bodyN) [.fz (tabG n T), .ow false (own.map (owD n)), .ow false (mxD n ms), .fz (.int k), .fz (.tuple (vG n (T k))), .fz (.tuple (vG n (unV k 1))), s6, s7, s8, s9, s10] = some (.nx [.fz (tabG n T), .ow false (own.map (owD n)), .ow false (mxD n ms), .fz (.int k), .fz (.tuple (vG n (redT n T own k).1)), .fz (.tuple (vG n (redT n T own k).2)), s6', s7', s8', s9', s10]) := by
        rw [v_fro]
        exact e1
      cases hf : fo n (redT n T own k).1 with
      | none =>
        have es : nullStep n T (own, ms) k = (own, ms ++ [(redT n T own k).2]) := by unfold nullStep; simp only [hf]
        rw [hf] at fr
        rw [es]
        refine ⟨[.fz (tabG n T), .ow false (own.map (owD n)), .ow false (mxD n ms), .fz (.int k), s4, s5, s6, s7, s8, s9, s10], [.fz (tabG n T), .ow false (own.map (owD n)), .ow false (mxD n (ms ++ [(redT n T own k).2])), .fz (.int k), .fz (.tuple (vG n (redT n T own k).1)), .fz (.tuple (vG n (redT n T own k).2)), s6', s7', s8', s9', .fz .none], by simp, .inl ?_, _, _, _, _, _, _, _, _, rfl, ho, by show own.length ≤ k + 1; omega, by simp; omega⟩
        rw [b_cons']; conv in evS _ _ => simp [tabG_ix T hk rfl, len, g1c, um, EvL.putAll]
        rw [Option.bind_some, onNext_nx, b_cons', c1, Option.bind_some, onNext_nx, b_cons']; conv in evS _ _ => simp [fr, foD]
        rw [Option.bind_some, onNext_nx]
        have lm2 : ms.length < 1000000 := by simpa [mxD] using lm
        simp [lim_eq, mxD, lm2]
      | some q =>
        obtain ⟨qn, q0⟩ := fo_some hf
        have es : nullStep n T (own, ms) k = (own ++ [(q, (redT n T own k).1, (redT n T own k).2)], ms) := by unfold nullStep; simp only [hf]
        rw [hf] at fr
        rw [es]
        have isn : cmpD .is (.int (q : Int)) .none = some false := rfl
        refine ⟨[.fz (tabG n T), .ow false (own.map (owD n)), .ow false (mxD n ms), .fz (.int k), s4, s5, s6, s7, s8, s9, s10], [.fz (tabG n T), .ow false ((own ++ [(q, (redT n T own k).1, (redT n T own k).2)]).map (owD n)), .ow false (mxD n ms), .fz (.int k), .fz (.tuple (vG n (redT n T own k).1)), .fz (.tuple (vG n (redT n T own k).2)), s6', s7', s8', s9', .fz (.int q)], by simp, .inl ?_, _, _, _, _, _, _, _, _, rfl, fun j o hj => ?_, by simp; omega, by show ms.length ≤ k + 1; omega⟩
        · rw [b_cons']; conv in evS _ _ => simp [tabG_ix T hk rfl, len, g1c, um, EvL.putAll]
          rw [Option.bind_some, onNext_nx, b_cons', c1, Option.bind_some, onNext_nx, b_cons']; conv in evS _ _ => simp [fr, foD]
          rw [Option.bind_some, onNext_nx]
          simp [lim_eq, lo, isn, owD]
        · by_cases hjl : j < own.length
          · rw [List.getElem?_append_left hjl] at hj
            exact ho j o hj
          · by_cases hje : j = own.length
            · subst hje
              rw [List.getElem?_append_right (Nat.le_refl _)] at hj
              simp at hj
              subst hj
              exact ⟨qn, q0, g1, g2⟩
            · rw [List.getElem?_eq_none (by simp; omega)] at hj
              cases hj)
  rw [run_null_by, run0 (np := 1) (n := 11) (ds := [tabG n T]) rfl]
  show (evB ir_null_by [.fz (tabG n T), .un, .un, .un, .un, .un, .un, .un, .un, .un, .un]).bind (outM false) = _
  unfold ir_null_by
  rw [b_cons']; conv in evS _ _ => simp [EvL.putAll]
  have i1 : evs [(.lenv 0)] [.fz (tabG n T), .ow false [], .ow false [], .un, .un, .un, .un, .un, .un, .un, .un] = some ([.int n], [.fz (tabG n T), .ow false [], .ow false [], .un, .un, .un, .un, .un, .un, .un, .un]) := by simp [len]
  rw [Option.bind_some, onNext_nx, b_cons', v_fr, i1, Option.bind_some]
  simp only [it_r1 (show -1000000 ≤ (n : Int) ∧ (n : Int) ≤ 1000000 by omega), Option.bind_some, rng0, e, onNext_nx]
  simp
end Pk
end EvL

set_option Elab.async false
set_option linter.all false
set_option maxRecDepth 100000
set_option maxHeartbeats 1900000
namespace EvL
open PySem PySem.Spec PyProof.Rows L2
namespace Pk
/-- what is kept of the rows of a table of stepped squares -/
inductive OwR (n : Nat) : Ow → Sqs → Prop
  | nil : OwR n [] []
  | cons {e : Nat × (Nat → GQ) × (Nat → GQ)} {own : Ow} {s : Rat × (Nat → GQ)} {p : Sqs} : e.1 < n → s.2 e.1 = 1 → 0 < s.1 → (∀ i, i < n → e.2.1 i = GQ.ofR s.1 * (s.2 i).bent) → (∀ q ∈ p, q.2 e.1 = 0) → OwR n own p → OwR n (e :: own) (s :: p)
theorem OwR.len {n : Nat} : ∀ {own : Ow} {p : Sqs}, OwR n own p → own.length = p.length
  | _, _, .nil => rfl
  | _, _, .cons _ _ _ _ _ t => by simp [OwR.len t]
end Pk
end EvL

set_option Elab.async false
set_option linter.all false
set_option maxRecDepth 100000
set_option maxHeartbeats 1900000
namespace EvL
open PySem PySem.Spec PyProof.Rows L2
namespace Pk
end Pk
end EvL

set_option Elab.async false
set_option linter.all false
set_option maxRecDepth 100000
set_option maxHeartbeats 1900000
namespace EvL
open PySem PySem.Spec PyProof.Rows L2
namespace Pk
end Pk
end EvL

set_option Elab.async false
set_option linter.all false
set_option maxRecDepth 100000
set_option maxHeartbeats 1900000
namespace EvL
open PySem PySem.Spec PyProof.Rows L2
namespace Pk
end Pk
end EvL

set_option Elab.async false
set_option linter.all false
set_option maxRecDepth 100000
set_option maxHeartbeats 1900000
namespace EvL
open PySem PySem.Spec PyProof.Rows L2
namespace Pk
end Pk
end EvL

set_option Elab.async false
set_option linter.all false
set_option maxRecDepth 100000
set_option maxHeartbeats 1900000
namespace EvL
open PySem PySem.Spec PyProof.Rows L2 Pk
abbrev Vc := Nat → GQ
/-- sums of multiples of rows -/
def Sp (n : Nat) : List Vc → Vc → Prop
  | [], v => ∀ i, i < n → v i = 0
  | r :: rs, v => ∃ c : GQ, Sp n rs fun i => v i - c * r i
theorem Sp.congr {n : Nat} : ∀ {rs : List Vc} {v w : Vc}, Sp n rs v → (∀ i, i < n → v i = w i) → Sp n rs w
  | [], v, w, h, e => fun i hi => by rw [← e i hi]; exact h i hi
  | r :: rs, v, w, ⟨c, h⟩, e => ⟨c, h.congr fun i hi => by show v i - c * r i = w i - c * r i; rw [e i hi]⟩
theorem Sp.zero {n : Nat} : ∀ {rs : List Vc} {v : Vc}, (∀ i, i < n → v i = 0) → Sp n rs v
  | [], v, h => h
  | r :: rs, v, h => ⟨0, Sp.zero fun i hi => by show v i - 0 * r i = 0; rw [h i hi]; grind⟩
theorem Sp.lin {n : Nat} (x : GQ) : ∀ {rs : List Vc} {v w : Vc}, Sp n rs v → Sp n rs w → Sp n rs fun i => v i - x * w i
  | [], v, w, h, g => fun i hi => by show v i - x * w i = 0; rw [h i hi, g i hi]; grind
  | r :: rs, v, w, ⟨c, h⟩, ⟨d, g⟩ => ⟨c - x * d, (Sp.lin x h g).congr fun i _ => by show (v i - c * r i) - x * (w i - d * r i) = v i - x * w i - (c - x * d) * r i; grind⟩
theorem Sp.mem {n : Nat} : ∀ {rs : List Vc} {r : Vc}, r ∈ rs → Sp n rs r
  | q :: rs, r, h => by
    rcases List.mem_cons.mp h with rfl | h
    · exact ⟨1, Sp.zero fun i _ => by show r i - 1 * r i = 0; grind⟩
    · exact ⟨0, (Sp.mem h).congr fun i _ => by show r i = r i - 0 * q i; grind⟩
theorem Sp.trans {n : Nat} : ∀ {rs ss : List Vc} {v : Vc}, (∀ r ∈ rs, Sp n ss r) → Sp n rs v → Sp n ss v
  | [], ss, v, _, h => Sp.zero h
  | r :: rs, ss, v, hr, ⟨c, h⟩ => by
    have h1 := Sp.trans (fun q hq => hr q (List.mem_cons_of_mem _ hq)) h
    exact (Sp.lin (-c) h1 (hr r (List.mem_cons_self ..))).congr fun i _ => by show (v i - c * r i) - (-c) * r i = v i; grind
/-- what all rows have, sums of multiples have -/
theorem Sp.at {n j : Nat} (hj : j < n) : ∀ {rs : List Vc} {v : Vc}, Sp n rs v → (∀ r ∈ rs, r j = 0) → v j = 0
  | [], v, h, _ => h j hj
  | r :: rs, v, ⟨c, h⟩, h0 => by
    have h1 : v j - c * r j = 0 := Sp.at hj h fun q hq => h0 q (List.mem_cons_of_mem _ hq)
    rw [h0 r (List.mem_cons_self ..)] at h1
    grind
/-! ### the law's rank -/
def splitR (j : Nat) : List Vc → Option (Vc × List Vc)
  | [] => none
  | r :: rs => if r j ≠ 0 then some (r, rs) else (splitR j rs).map fun p => (p.1, r :: p.2)
def elimR (j : Nat) (l r : Vc) : Vc := fun k => r k - r j / l j * l k
def stepR (s : List Vc × Nat) (j : Nat) : List Vc × Nat := match splitR j s.1 with
  | none => s
  | some p => (p.2.map (elimR j p.1), s.2 + 1)
def rankS (rows : List Vc) (k : Nat) : List Vc × Nat := (List.range k).foldl stepR (rows, 0)
def rankG (n : Nat) (rows : List Vc) : Nat := (rankS rows n).2
theorem rankS_succ (rows : List Vc) (k : Nat) : rankS rows (k + 1) = stepR (rankS rows k) k := by
  unfold rankS; rw [List.range_succ, List.foldl_append]; rfl
theorem split_none {j : Nat} : ∀ {rs : List Vc}, splitR j rs = none → ∀ r ∈ rs, r j = 0
  | [], _, r, h => by simp at h
  | q :: rs, e, r, h => by
    unfold splitR at e
    by_cases h0 : q j ≠ 0
    · rw [if_pos h0] at e; cases e
    · rw [if_neg h0, Option.map_eq_none_iff] at e
      rcases List.mem_cons.mp h with rfl | h
      · exact Classical.not_not.mp h0
      · exact split_none e r h
theorem split_some {j : Nat} : ∀ {rs : List Vc} {l : Vc} {o : List Vc}, splitR j rs = some (l, o) → l j ≠ 0 ∧ l ∈ rs ∧ (∀ r ∈ o, r ∈ rs) ∧ ∀ r ∈ rs, r = l ∨ r ∈ o
  | [], l, o, e => by cases e
  | q :: rs, l, o, e => by
    unfold splitR at e
    by_cases h0 : q j ≠ 0
    · rw [if_pos h0] at e
      cases e
      exact ⟨h0, List.mem_cons_self .., fun r h => List.mem_cons_of_mem _ h, fun r h => List.mem_cons.mp h⟩
    · rw [if_neg h0] at e
      obtain ⟨p, hp, e⟩ := Option.map_eq_some_iff.mp e
      obtain ⟨p1, p2⟩ := p
      cases e
      obtain ⟨a, b, c, d⟩ := split_some hp
      refine ⟨a, List.mem_cons_of_mem _ b, fun r h => ?_, fun r h => ?_⟩
      · rcases List.mem_cons.mp h with rfl | h
        · exact List.mem_cons_self ..
        · exact List.mem_cons_of_mem _ (c r h)
      · rcases List.mem_cons.mp h with rfl | h
        · exact .inr (List.mem_cons_self ..)
        · exact (d r h).imp id (List.mem_cons_of_mem _)
theorem split_snoc_some {j : Nat} {r : Vc} : ∀ {rs : List Vc} {l : Vc} {o : List Vc}, splitR j rs = some (l, o) → splitR j (rs ++ [r]) = some (l, o ++ [r])
  | [], l, o, e => by cases e
  | q :: rs, l, o, e => by
    rw [List.cons_append]
    unfold splitR at e ⊢
    by_cases h0 : q j ≠ 0
    · rw [if_pos h0] at e ⊢
      cases e; rfl
    · rw [if_neg h0] at e ⊢
      obtain ⟨p, hp, e⟩ := Option.map_eq_some_iff.mp e
      obtain ⟨p1, p2⟩ := p
      cases e
      rw [split_snoc_some hp]; rfl
theorem split_snoc_none {j : Nat} {r : Vc} : ∀ {rs : List Vc}, splitR j rs = none → splitR j (rs ++ [r]) = if r j ≠ 0 then some (r, rs) else none
  | [], e => by
    show splitR j [r] = _
    unfold splitR
    by_cases h0 : r j ≠ 0
    · rw [if_pos h0, if_pos h0]
    · rw [if_neg h0, if_neg h0]; rfl
  | q :: rs, e => by
    rw [List.cons_append]
    unfold splitR at e ⊢
    by_cases h0 : q j ≠ 0
    · rw [if_pos h0] at e; cases e
    · rw [if_neg h0] at e ⊢
      rw [split_snoc_none (Option.map_eq_none_iff.mp e)]
      by_cases h1 : r j ≠ 0
      · rw [if_pos h1, if_pos h1]; rfl
      · rw [if_neg h1, if_neg h1]; rfl
theorem elim_at {j : Nat} {l r : Vc} (h : l j ≠ 0) : elimR j l r j = 0 := by
  show r j - r j / l j * l j = 0
  grind
theorem elim_keep {j i : Nat} {l r : Vc} (h : l i = 0) (h2 : r i = 0) : elimR j l r i = 0 := by
  show r i - r j / l j * l i = 0
  rw [h, h2]; grind
theorem rank_loop {n : Nat} {rows : List Vc} {r : Vc} : ∀ k, k ≤ n →
    (∃ r', rankS (rows ++ [r]) k = ((rankS rows k).1 ++ [r'], (rankS rows k).2) ∧ (∀ j, j < k → r' j = 0) ∧ (∀ q ∈ (rankS rows k).1, ∀ j, j < k → q j = 0) ∧ (Sp n rows r ↔ Sp n (rankS rows k).1 r')) ∨
      (rankS (rows ++ [r]) k = ((rankS rows k).1, (rankS rows k).2 + 1) ∧ ¬ Sp n rows r)
  | 0, _ => .inl ⟨r, rfl, fun _ h => absurd h (by omega), fun _ _ _ h => absurd h (by omega), Iff.rfl⟩
  | k + 1, hk => by
    rw [rankS_succ, rankS_succ]
    rcases rank_loop (n := n) (rows := rows) (r := r) k (by omega) with ⟨r', e, h1, h2, h3⟩ | ⟨e, h⟩
    · rw [e]
      generalize rankS rows k = s at *
      obtain ⟨L, f⟩ := s
      simp only at h2 h3 ⊢
      cases hs : splitR k L with
      | none =>
        have h0 := split_none hs
        have e1 : stepR (L, f) k = (L, f) := by unfold stepR; simp only [hs]
        rw [e1]
        by_cases hr : r' k ≠ 0
        · have e2 : stepR (L ++ [r'], f) k = (L.map (elimR k r'), f + 1) := by
            unfold stepR
            simp only [split_snoc_none hs, if_pos hr]
          have e3 : L.map (elimR k r') = L := by
            refine (List.map_congr_left fun q hq => ?_).trans (List.map_id L)
            funext i
            show q i - q k / r' k * r' i = q i
            rw [h0 q hq]; grind
          refine .inr ⟨by rw [e2, e3], fun z => hr (Sp.at (by omega) (h3.mp z) h0)⟩
        · have e2 : stepR (L ++ [r'], f) k = (L ++ [r'], f) := by
            unfold stepR
            simp only [split_snoc_none hs, if_neg hr]
          have hr := Classical.not_not.mp hr
          refine .inl ⟨r', e2, fun j hj => ?_, fun q hq j hj => ?_, h3⟩
          · by_cases hjk : j = k
            · rw [hjk]; exact hr
            · exact h1 j (by omega)
          · by_cases hjk : j = k
            · rw [hjk]; exact h0 q hq
            · exact h2 q hq j (by omega)
      | some p =>
        obtain ⟨l, o⟩ := p
        obtain ⟨l0, lm, om, lo⟩ := split_some hs
        have e1 : stepR (L, f) k = (o.map (elimR k l), f + 1) := by unfold stepR; simp only [hs]
        have e2 : stepR (L ++ [r'], f) k = (o.map (elimR k l) ++ [elimR k l r'], f + 1) := by
          unfold stepR
          simp only [split_snoc_some hs, List.map_append, List.map_cons, List.map_nil]
        rw [e1, e2]
        refine .inl ⟨elimR k l r', rfl, fun j hj => ?_, fun q hq j hj => ?_, h3.trans ⟨fun z => ?_, fun z => ?_⟩⟩
        · by_cases hjk : j = k
          · rw [hjk]; exact elim_at l0
          · exact elim_keep (h2 l lm j (by omega)) (h1 j (by omega))
        · obtain ⟨q', hq', rfl⟩ := List.mem_map.mp hq
          by_cases hjk : j = k
          · rw [hjk]; exact elim_at l0
          · exact elim_keep (h2 l lm j (by omega)) (h2 q' (om q' hq') j (by omega))
        · have a : Sp n (l :: o.map (elimR k l)) r' := Sp.trans (fun q hq => by
            rcases lo q hq with rfl | ho
            · exact Sp.mem (List.mem_cons_self ..)
            · have b : Sp n (l :: o.map (elimR k l)) (elimR k l q) := Sp.mem (List.mem_cons_of_mem _ (List.mem_map_of_mem ho))
              refine (Sp.lin (-(q k / l k)) b (Sp.mem (List.mem_cons_self ..) : Sp n (l :: o.map (elimR k l)) l)).congr fun i _ => ?_
              show (q i - q k / l k * l i) - -(q k / l k) * l i = q i
              grind) z
          have b := Sp.lin (r' k / l k) a (Sp.mem (List.mem_cons_self ..) : Sp n (l :: o.map (elimR k l)) l)
          obtain ⟨c, b⟩ := b
          have b0 := Sp.at (j := k) (by omega) b fun q hq => by
            obtain ⟨q, _, rfl⟩ := List.mem_map.mp hq
            exact elim_at l0
          have c0 : c = 0 := by
            have b1 : (r' k - r' k / l k * l k) - c * l k = 0 := b0
            grind
          refine b.congr fun i _ => ?_
          show (r' i - r' k / l k * l i) - c * l i = r' i - r' k / l k * l i
          rw [c0]; grind
        · have a : Sp n L (elimR k l r') := Sp.trans (fun q hq => by
            obtain ⟨q', hq', rfl⟩ := List.mem_map.mp hq
            exact Sp.lin (q' k / l k) (Sp.mem (om q' hq')) (Sp.mem lm)) z
          refine (Sp.lin (-(r' k / l k)) a (Sp.mem lm)).congr fun i _ => ?_
          show (r' i - r' k / l k * l i) - -(r' k / l k) * l i = r' i
          grind
    · refine .inr ⟨?_, h⟩
      rw [e]
      generalize rankS rows k = s at *
      obtain ⟨L, f⟩ := s
      unfold stepR
      simp only
      cases splitR k L <;> rfl
theorem rank_snoc {n : Nat} {rows : List Vc} {r : Vc} : rankG n (rows ++ [r]) = rankG n rows ↔ Sp n rows r := by
  unfold rankG
  rcases rank_loop (n := n) (rows := rows) (r := r) n (Nat.le_refl _) with ⟨r', e, h1, h2, h3⟩ | ⟨e, h⟩
  · rw [e]
    exact ⟨fun _ => h3.mpr (Sp.zero h1), fun _ => rfl⟩
  · rw [e]
    exact ⟨fun z => absurd z (by show ¬ (rankS rows n).2 + 1 = (rankS rows n).2; omega), fun z => absurd z h⟩
end EvL

set_option Elab.async false
set_option linter.all false
set_option maxRecDepth 100000
set_option maxHeartbeats 1900000
namespace EvL
open PySem PySem.Spec PyProof.Rows L2 Pk
/-! ### what null_by keeps -/
def owR (own : Ow) : List Vc := own.map fun e => e.2.1
def TriO (n : Nat) : Ow → Prop
  | [] => True
  | e :: g => e.1 < n ∧ e.2.1 e.1 ≠ 0 ∧ (∀ f ∈ g, f.2.1 e.1 = 0) ∧ TriO n g
theorem tri_snoc {n : Nat} {f : Nat × Vc × Vc} (h1 : f.1 < n) (h2 : f.2.1 f.1 ≠ 0) : ∀ {own : Ow}, TriO n own → (∀ e ∈ own, f.2.1 e.1 = 0) → TriO n (own ++ [f])
  | [], _, _ => ⟨h1, h2, by simp, trivial⟩
  | e :: g, ⟨a, b, c, d⟩, h => ⟨a, b, fun q hq => by
      rcases List.mem_append.mp hq with hq | hq
      · exact c q hq
      · rw [List.mem_singleton.mp hq]; exact h e (List.mem_cons_self ..), tri_snoc h1 h2 d fun q hq => h q (List.mem_cons_of_mem _ hq)⟩
theorem red_keep1 {q : Nat} : ∀ {own : Ow} {x : Vc × Vc}, (∀ e ∈ own, e.2.1 q = 0) → (own.foldl redO x).1 q = x.1 q
  | [], x, _ => rfl
  | e :: g, x, h => by
    rw [List.foldl_cons, red_keep1 fun f hf => h f (List.mem_cons_of_mem _ hf)]
    show x.1 q - x.1 e.1 / e.2.1 e.1 * e.2.1 q = x.1 q
    rw [h e (List.mem_cons_self ..)]; grind
theorem red_keep2 {q : Nat} : ∀ {own : Ow} {x : Vc × Vc}, (∀ e ∈ own, e.2.2 q = 0) → (own.foldl redO x).2 q = x.2 q
  | [], x, _ => rfl
  | e :: g, x, h => by
    rw [List.foldl_cons, red_keep2 fun f hf => h f (List.mem_cons_of_mem _ hf)]
    show x.2 q - x.1 e.1 / e.2.1 e.1 * e.2.2 q = x.2 q
    rw [h e (List.mem_cons_self ..)]; grind
theorem red_zero {n : Nat} : ∀ {own : Ow} {x : Vc × Vc}, TriO n own → ∀ e ∈ own, (own.foldl redO x).1 e.1 = 0
  | [], x, _, e, h => by simp at h
  | q :: g, x, ⟨a, b, c, d⟩, e, h => by
    rw [List.foldl_cons]
    rcases List.mem_cons.mp h with rfl | h
    · rw [red_keep1 c]
      show x.1 e.1 - x.1 e.1 / e.2.1 e.1 * e.2.1 e.1 = 0
      grind
    · exact red_zero d e h
theorem red_sp {n : Nat} {rs : List Vc} : ∀ {own : Ow} {x : Vc × Vc}, (∀ e ∈ own, Sp n rs e.2.1) → (Sp n rs x.1 ↔ Sp n rs (own.foldl redO x).1)
  | [], x, _ => Iff.rfl
  | e :: g, x, h => by
    rw [List.foldl_cons]
    refine Iff.trans ?_ (red_sp fun f hf => h f (List.mem_cons_of_mem _ hf))
    have he := h e (List.mem_cons_self ..)
    constructor
    · exact fun z => Sp.lin _ z he
    · intro z
      refine (Sp.lin (-(x.1 e.1 / e.2.1 e.1)) z he).congr fun i _ => ?_
      show (x.1 i - x.1 e.1 / e.2.1 e.1 * e.2.1 i) - -(x.1 e.1 / e.2.1 e.1) * e.2.1 i = x.1 i
      grind
theorem tri_sp {n : Nat} : ∀ {own : Ow} {v : Vc}, TriO n own → Sp n (owR own) v → (∀ e ∈ own, v e.1 = 0) → ∀ i, i < n → v i = 0
  | [], v, _, h, _ => h
  | e :: g, v, ⟨a, b, c, d⟩, ⟨x, h⟩, h0 => by
    have h1 := Sp.at (j := e.1) a h fun q hq => by
      obtain ⟨f, hf, rfl⟩ := List.mem_map.mp hq
      exact c f hf
    have h2 : v e.1 - x * e.2.1 e.1 = 0 := h1
    rw [h0 e (List.mem_cons_self ..)] at h2
    have x0 : x = 0 := by grind
    refine tri_sp d (h.congr fun i _ => ?_) fun f hf => h0 f (List.mem_cons_of_mem _ hf)
    show v i - x * e.2.1 i = v i
    rw [x0]; grind
/-- an index whose row is a sum of multiples of the rows ahead -/
def hangB (n : Nat) (T : Nat → Nat → GQ) (k : Nat) : Bool := (fo n (redT n T (nullS n T k).1 k).1).isNone
def hangL (n : Nat) (T : Nat → Nat → GQ) : List Nat := (List.range n).filter (hangB n T)
def nullM (n : Nat) (T : Nat → Nat → GQ) (k : Nat) : Vc := (redT n T (nullS n T k).1 k).2
def rowsL (T : Nat → Nat → GQ) (k : Nat) : List Vc := (List.range k).map T
theorem rows_succ (T : Nat → Nat → GQ) (k : Nat) : rowsL T (k + 1) = rowsL T k ++ [T k] := by unfold rowsL; rw [List.range_succ, List.map_append]; rfl
structure NullI (n : Nat) (T : Nat → Nat → GQ) (k : Nat) : Prop where
  tri : TriO n (nullS n T k).1
  into : ∀ e ∈ (nullS n T k).1, Sp n (rowsL T k) e.2.1
  back : ∀ j, j < k → Sp n (owR (nullS n T k).1) (T j)
  val : ∀ e ∈ (nullS n T k).1, ∀ c, c < n → e.2.1 c = mulT n e.2.2 T c
  nil : ∀ e ∈ (nullS n T k).1, ∀ j, j < n → (k ≤ j ∨ hangB n T j = true) → e.2.2 j = 0
  ms : (nullS n T k).2 = ((List.range k).filter (hangB n T)).map (nullM n T)
theorem red_val {n : Nat} {T : Nat → Nat → GQ} {c : Nat} : ∀ {own : Ow} {x : Vc × Vc}, (∀ e ∈ own, e.2.1 c = mulT n e.2.2 T c) → x.1 c = mulT n x.2 T c → (own.foldl redO x).1 c = mulT n (own.foldl redO x).2 T c
  | [], x, _, h => h
  | e :: g, x, ho, h => by
    rw [List.foldl_cons]
    refine red_val (fun f hf => ho f (List.mem_cons_of_mem _ hf)) ?_
    show x.1 c - x.1 e.1 / e.2.1 e.1 * e.2.1 c = Po.sum n fun j => (x.2 j - x.1 e.1 / e.2.1 e.1 * e.2.2 j) * T j c
    have he : e.2.1 c = mulT n e.2.2 T c := ho e (List.mem_cons_self ..)
    rw [h, he]
    generalize x.1 e.1 / e.2.1 e.1 = z
    have s : (fun j => (x.2 j - z * e.2.2 j) * T j c) = fun j => x.2 j * T j c + -z * (e.2.2 j * T j c) := by funext j; grind
    rw [s, Po.sum_add, Po.sum_mul]
    show (Po.sum n fun i => x.2 i * T i c) - z * (Po.sum n fun i => e.2.2 i * T i c) = _
    grind
theorem mul_un {n k c : Nat} {T : Nat → Nat → GQ} (hk : k < n) : mulT n (unV k 1) T c = T k c := by
  have h := po_un hk 1 fun i => T i c
  show (Po.sum n fun i => unV k 1 i * T i c) = T k c
  rw [h]; grind
theorem hang_iff {n k : Nat} {T : Nat → Nat → GQ} (h : NullI n T k) : hangB n T k = true ↔ Sp n (rowsL T k) (T k) := by
  unfold hangB
  rw [Option.isNone_iff_eq_none, fo_none]
  have e : redT n T (nullS n T k).1 k = (nullS n T k).1.foldl redO (T k, unV k 1) := rfl
  have z := red_zero (x := (T k, unV k 1)) h.tri
  have s1 := red_sp (n := n) (rs := rowsL T k) (own := (nullS n T k).1) (x := (T k, unV k 1)) h.into
  have s2 := red_sp (n := n) (rs := owR (nullS n T k).1) (own := (nullS n T k).1) (x := (T k, unV k 1)) fun e he => Sp.mem (List.mem_map.mpr ⟨e, he, rfl⟩)
  rw [e]
  constructor
  · exact fun w => s1.mpr (Sp.zero w)
  · intro w
    refine tri_sp h.tri (s2.mp ?_) z
    exact Sp.trans (fun r hr => by
      obtain ⟨j, hj, rfl⟩ := List.mem_map.mp hr
      exact h.back j (List.mem_range.mp hj)) w
theorem null_inv {n : Nat} {T : Nat → Nat → GQ} : ∀ k, k ≤ n → NullI n T k
  | 0, _ => ⟨trivial, (fun e h => by simp [nullS] at h), (fun j h => absurd h (by omega)), (fun e h => by simp [nullS] at h), (fun e h => by simp [nullS] at h), rfl⟩
  | k + 1, hk => by
    have ih := null_inv (n := n) (T := T) k (by omega)
    have hi := hang_iff ih
    have eq : nullS n T (k + 1) = nullStep n T (nullS n T k) k := nullS_succ n T k
    have fl : (List.range (k + 1)).filter (hangB n T) = (List.range k).filter (hangB n T) ++ [k].filter (hangB n T) := by rw [List.range_succ, List.filter_append]
    have mono : ∀ {v : Vc}, Sp n (rowsL T k) v → Sp n (rowsL T (k + 1)) v := fun hv => Sp.trans (fun r hr => Sp.mem (by rw [rows_succ]; exact List.mem_append_left _ hr)) hv
    have own : Sp n (rowsL T (k + 1)) (T k) := Sp.mem (by rw [rows_succ]; simp)
    cases hf : fo n (redT n T (nullS n T k).1 k).1 with
    | none =>
      have hb : hangB n T k = true := by unfold hangB; rw [hf]; rfl
      have es : nullS n T (k + 1) = ((nullS n T k).1, (nullS n T k).2 ++ [nullM n T k]) := by
        rw [eq]; unfold nullStep; simp only [hf]; rfl
      refine ⟨by rw [es]; exact ih.tri, fun e he => ?_, fun j hj => ?_, fun e he => ?_, fun e he j hj hc => ?_, ?_⟩
      · rw [es] at he; exact mono (ih.into e he)
      · rw [es]
        by_cases hjk : j = k
        · subst hjk
          exact Sp.trans (fun r hr => by
            obtain ⟨i, hi, rfl⟩ := List.mem_map.mp hr
            exact ih.back i (List.mem_range.mp hi)) (hi.mp hb)
        · exact ih.back j (by omega)
      · rw [es] at he; exact ih.val e he
      · rw [es] at he; exact ih.nil e he j hj (hc.imp (by omega) id)
      · rw [es, fl, List.map_append, ← ih.ms]
        simp [hb]
    | some q =>
      have hb : hangB n T k = false := by unfold hangB; rw [hf]; rfl
      obtain ⟨qn, q0⟩ := fo_some hf
      have es : nullS n T (k + 1) = ((nullS n T k).1 ++ [(q, (redT n T (nullS n T k).1 k).1, (redT n T (nullS n T k).1 k).2)], (nullS n T k).2) := by
        rw [eq]; unfold nullStep; simp only [hf]
      have e0 : redT n T (nullS n T k).1 k = (nullS n T k).1.foldl redO (T k, unV k 1) := rfl
      have z := red_zero (x := (T k, unV k 1)) ih.tri
      have sr := red_sp (n := n) (rs := rowsL T (k + 1)) (own := (nullS n T k).1) (x := (T k, unV k 1)) fun e he => mono (ih.into e he)
      refine ⟨by rw [es]; exact tri_snoc qn q0 ih.tri z, fun e he => ?_, fun j hj => ?_, fun e he => ?_, fun e he j hj hc => ?_, ?_⟩
      · rw [es] at he
        rcases List.mem_append.mp he with he | he
        · exact mono (ih.into e he)
        · rw [List.mem_singleton.mp he]
          exact sr.mp own
      · rw [es]
        have up : ∀ {v : Vc}, Sp n (owR (nullS n T k).1) v → Sp n (owR ((nullS n T k).1 ++ [(q, (redT n T (nullS n T k).1 k).1, (redT n T (nullS n T k).1 k).2)])) v := fun hv => Sp.trans (fun r hr => Sp.mem (by unfold owR at *; rw [List.map_append]; exact List.mem_append_left _ hr)) hv
        by_cases hjk : j = k
        · subst hjk
          refine (red_sp (own := (nullS n T j).1) (x := (T j, unV j 1)) fun e he => up (Sp.mem (List.mem_map.mpr ⟨e, he, rfl⟩))).mpr (Sp.mem ?_)
          unfold owR
          rw [List.map_append]
          exact List.mem_append_right _ (List.mem_singleton.mpr rfl)
        · exact up (ih.back j (by omega))
      · rw [es] at he
        rcases List.mem_append.mp he with he | he
        · exact ih.val e he
        · rw [List.mem_singleton.mp he]
          intro c hc
          exact red_val (fun e he => ih.val e he c hc) (mul_un (by omega)).symm
      · rw [es] at he
        rcases List.mem_append.mp he with he | he
        · exact ih.nil e he j hj (hc.imp (by omega) id)
        · rw [List.mem_singleton.mp he]
          have jk : j ≠ k := fun w => by
            subst w
            rcases hc with h | h
            · omega
            · rw [hb] at h; cases h
          show ((nullS n T k).1.foldl redO (T k, unV k 1)).2 j = 0
          rw [red_keep2 fun e he => ih.nil e he j hj (hc.imp (by omega) id)]
          show unV k 1 j = 0
          unfold unV; rw [if_neg jk]
      · rw [es, fl]
        simp [hb, ih.ms]
/-- a null mix: 1 at its index, 0 at the other hanging ones, the rows led by it are noughts -/
theorem null_mix {n k : Nat} {T : Nat → Nat → GQ} (hk : k < n) (hb : hangB n T k = true) : (∀ j, j < n → hangB n T j = true → nullM n T k j = if j = k then 1 else 0) ∧ ∀ c, c < n → mulT n (nullM n T k) T c = 0 := by
  have ih := null_inv (n := n) (T := T) k (by omega)
  constructor
  · intro j hj hjb
    show ((nullS n T k).1.foldl redO (T k, unV k 1)).2 j = _
    rw [red_keep2 fun e he => ih.nil e he j hj (.inr hjb)]
    rfl
  · intro c hc
    have v : (redT n T (nullS n T k).1 k).1 c = mulT n (nullM n T k) T c := red_val (fun e he => ih.val e he c hc) (mul_un hk).symm
    rw [← v]
    unfold hangB at hb
    exact fo_none.mp (Option.isNone_iff_eq_none.mp hb) c hc
theorem hang_rank {n k : Nat} {T : Nat → Nat → GQ} (hk : k < n) : hangB n T k = decide (rankG n (rowsL T (k + 1)) = rankG n (rowsL T k)) := by
  rw [Bool.eq_iff_iff, decide_eq_true_iff, hang_iff (null_inv k (by omega)), rows_succ, rank_snoc]
theorem null_ms (n : Nat) (T : Nat → Nat → GQ) : (nullS n T n).2 = (hangL n T).map (nullM n T) := (null_inv n (Nat.le_refl _)).ms
end EvL

set_option Elab.async false
set_option linter.all false
set_option maxRecDepth 100000
set_option maxHeartbeats 1900000
namespace EvL
open PySem PySem.Spec PyProof.Rows L2
theorem gz_div {a b : Nat} {x y : GQ} (h : Gz a x) (g : Gz b y) : Gz (a + (2 * b + 1) + 1) (x / y) := by rw [GQ.div_def]; exact h.mul g.inv
namespace Pk
/-- a small told square -/
structure Sm (n : Nat) (s : Rat × (Nat → GQ)) : Prop where
  r0 : s.1 ≠ 0
  qz : Qz 20 s.1
  gz : ∀ i, i < n → Gz 20 (s.2 i)
theorem Sm.of {n : Nat} {s : Rat × (Nat → GQ)} (h : SqOk n s) (h0 : 0 < s.1) : Sm n s :=
  ⟨fun z => by rw [z] at h0; exact absurd h0 (by decide), (h.1.gz' (c := 20) (by decide) (by decide) ((Sz.lit (b := 6) (by decide)).mono (by decide))).re, fun i hi => (h.2 i hi).gz' (by decide) (by decide) ((Sz.lit (b := 2) (by decide)).mono (by decide))⟩
end Pk
end EvL

set_option Elab.async false
set_option linter.all false
set_option maxRecDepth 100000
set_option maxHeartbeats 1900000
namespace EvL
open PySem PySem.Spec PyProof.Rows L2
namespace Pk
end Pk
end EvL

set_option Elab.async false
set_option linter.all false
set_option maxRecDepth 100000
set_option maxHeartbeats 1900000
namespace EvL
open PySem PySem.Spec PyProof.Rows L2 Pk
abbrev rowD (n : Nat) (r : Vc) : D := .list (vN n r)
def bareF (j : Nat) (rs : List Vc) : List Nat := (List.range rs.length).filter fun i => decide ((rs.getD i fun _ => 0) j ≠ 0)
theorem bare_cons (j : Nat) (r : Vc) (rs : List Vc) : bareF j (r :: rs) = (if r j ≠ 0 then [0] else []) ++ (bareF j rs).map fun i => i + 1 := by
  unfold bareF
  rw [List.length_cons, List.range_succ_eq_map, List.filter_cons, List.filter_map]
  have e : ((fun i => decide (((r :: rs).getD i fun _ => 0) j ≠ 0)) ∘ Nat.succ) = fun i => decide ((rs.getD i fun _ => 0) j ≠ 0) := by
    funext i; simp
  rw [e]
  by_cases h : r j ≠ 0
  · simp [h]
  · simp only [if_neg h]
    simp at h
    simp [h]
theorem bare_split (j : Nat) : ∀ rs : List Vc, (bareF j rs = [] ∧ splitR j rs = none) ∨ ∃ a t l, bareF j rs = a :: t ∧ rs[a]? = some l ∧ splitR j rs = some (l, rs.take a ++ rs.drop (a + 1))
  | [] => .inl ⟨rfl, rfl⟩
  | r :: rs => by
    rw [bare_cons]
    unfold splitR
    by_cases h : r j ≠ 0
    · rw [if_pos h, if_pos h]
      exact .inr ⟨0, _, r, rfl, rfl, by simp⟩
    · rw [if_neg h, if_neg h]
      rcases bare_split j rs with ⟨e1, e2⟩ | ⟨a, t, l, e1, e2, e3⟩
      · rw [e1, e2]; exact .inl ⟨rfl, rfl⟩
      · rw [e1, e3]
        exact .inr ⟨a + 1, _, l, rfl, by rw [List.getElem?_cons_succ]; exact e2, by simp⟩
namespace Pk
theorem bare_run {n j : Nat} {rs : List Vc} (hj : j < n) (hn : n ≤ 1000) (hl : rs.length ≤ 1000) : _law_bare.run [.list (rs.map (rowD n)), .int j] = some (.fz (match bareF j rs with | [] => .none | a :: _ => .int a), []) := by
  have e := lc_filter (f := fun (i : Nat) => PyData.int i) (g := fun i => PyData.int i) (c := fun i => decide ((rs.getD i fun _ => 0) j ≠ 0)) (vs := [3]) (t := .nm 3) (k := .rng1) (its := [(.lenv 0)]) (ifs := [(.not (.call Pk._law_is_nought Pk.E__law_is_nought_1.pm [(.ix (.ixv 0 (.var 3)) (.var 1))]))]) (elt := .var 3) (Γ := [.fz (.list (rs.map (rowD n))), .fz (.int j), .un, .un]) (Γ1 := [.fz (.list (rs.map (rowD n))), .fz (.int j), .un, .un]) (ds := [.int rs.length]) (l := List.range rs.length) (by simp) (by rw [it_r1 (by omega), rng0]) (by simp; omega) (fun i hi => by
    have hi := List.mem_range.mp hi
    have ix : ixD (.list (rs.map (rowD n))) (.int (i : Int)) = some (rowD n (rs.getD i fun _ => 0)) := ix_list rfl (by rw [List.getElem?_map, List.getElem?_eq_getElem hi]; simp [List.getD, List.getElem?_eq_getElem hi])
    generalize rs.getD i (fun _ => 0) = r at *
    have r0 := nought_run (r j)
    refine ⟨[.fz (.list (rs.map (rowD n))), .fz (.int j), .un, .fz (.int i)], [.fz (.list (rs.map (rowD n))), .fz (.int j), .un, .fz (.int i)], by simp [wipeG], ?_, fun _ => by simp [wipeG], fun _ => ⟨.fz (.int i), [.fz (.list (rs.map (rowD n))), .fz (.int j), .un, .fz (.int i)], by simp, rfl, by simp [wipeG]⟩⟩
    by_cases hz : r j = 0
    · rw [decide_eq_true hz, hz] at r0
      simp [ix, vN_ix r hj rfl, r0, hz]
    · rw [decide_eq_false hz] at r0
      simp [ix, vN_ix r hj rfl, r0, hz])
  have ef : (List.range rs.length).filter (fun i => decide ((rs.getD i fun _ => 0) j ≠ 0)) = bareF j rs := rfl
  rw [ef] at e
  simp only [backG] at e
  have en := eq_nilI (bareF j rs)
  rw [run__law_bare, run0 (np := 2) (n := 4) (ds := [.list (rs.map (rowD n)), .int j]) rfl]
  show (evB ir__law_bare [.fz (.list (rs.map (rowD n))), .fz (.int j), .un, .un]).bind (outM false) = _
  unfold ir__law_bare
  generalize rs.map (rowD n) = R at *
  rw [b_cons']; conv in evS _ _ => simp [e]
  rw [Option.bind_some, onNext_nx]
  cases hb : bareF j rs with
  | nil => rw [hb, List.map_nil] at en; simp [en]
  | cons a t => rw [hb] at en; simp at en; simp [en]
abbrev bodyE : List IS := [(.set 8 (.call Pk._law_over_v2 Pk.E__law_over_v2_2.pm [(.ixv 7 (.var 3)), (.ixv 5 (.var 3))])), (.app 6 (.lc [9] (.nm 9) .rng1 [(.lenv 7)] [] (.call Pk._law_less_v2 Pk.E__law_less_v2_2.pm [(.ixv 7 (.var 9)), (.call Pk._law_times_v2 Pk.E__law_times_v2_2.pm [(.var 8), (.ixv 5 (.var 9))])])))]
theorem elim_gz {g j n : Nat} {l r : Vc} (hl : ∀ i, i < n → Gz g (l i)) (hr : ∀ i, i < n → Gz g (r i)) (hj : j < n) (hg : 60 ≤ g) : ∀ i, i < n → Gz (g * 6) (elimR j l r i) := fun i hi => ((hr i hi).sub ((gz_div (hr j hj) (hl j hj)).mul (hl i hi))).mono (by omega)
theorem elim_loop {g n j : Nat} {l : Vc} {o : List Vc} {s0 s1 s2 s4 s7 s8 : MV} (hn : n ≤ 5) (hj : j < n) (l0 : l j ≠ 0) (hl : ∀ i, i < n → Gz g (l i)) (ho : ∀ r ∈ o, ∀ i, i < n → Gz g (r i)) (hg : 60 ≤ g) (hg2 : g ≤ 77760) (lo : o.length ≤ 6) :
    ∃ s7' s8', evF (.nm 7) (evB bodyE) (o.map (rowD n)) [s0, s1, s2, .fz (.int j), s4, .fz (rowD n l), .ow false [], s7, s8, .un] = some (.nx [s0, s1, s2, .fz (.int j), s4, .fz (rowD n l), .ow false ((o.map (elimR j l)).map (rowD n)), s7', s8', .un]) := by
  obtain ⟨Γ', e, s7', s8', rfl⟩ := evF_all (f := rowD n) (t := .nm 7) (b := evB bodyE) (l := o) (Γ := [s0, s1, s2, .fz (.int j), s4, .fz (rowD n l), .ow false [], s7, s8, .un])
    (fun p Γ => ∃ s7 s8, Γ = [s0, s1, s2, .fz (.int j), s4, .fz (rowD n l), .ow false ((p.map (elimR j l)).map (rowD n)), s7, s8, .un]) ⟨s7, s8, rfl⟩
    (fun p r q Γ hp ⟨s7, s8, hG⟩ => by
      subst hG
      have hr := ho r (by rw [hp]; simp)
      have lp : p.length < 1000000 := by have := congrArg List.length hp; simp at this; omega
      have eA : ((p ++ [r]).map (elimR j l)).map (rowD n) = (p.map (elimR j l)).map (rowD n) ++ [rowD n (elimR j l r)] := by simp
      have lA : ((p.map (elimR j l)).map (rowD n)).length < 1000000 := by simpa using lp
      rw [eA]
      generalize (p.map (elimR j l)).map (rowD n) = A at *
      have q1 := over2_run ((hr j hj).mono (show g ≤ 1900000 by omega)) ((hl j hj).mono (show g ≤ 1900000 by omega)) ((hr j hj).mono (show g ≤ 2900000 by omega)) ((hl j hj).mono (show g ≤ 2900000 by omega)) l0
      have gz := gz_div (hr j hj) (hl j hj)
      have e := lc_map (f := fun (i : Nat) => PyData.int i) (g := fun i => tN (elimR j l r i)) (vs := [9]) (t := .nm 9) (k := .rng1) (its := [(.lenv 7)]) (elt := (.call Pk._law_less_v2 Pk.E__law_less_v2_2.pm [(.ixv 7 (.var 9)), (.call Pk._law_times_v2 Pk.E__law_times_v2_2.pm [(.var 8), (.ixv 5 (.var 9))])])) (Γ := [s0, s1, s2, .fz (.int j), s4, .fz (rowD n l), .ow false A, .fz (rowD n r), .fz (tN (r j / l j)), .un]) (Γ1 := [s0, s1, s2, .fz (.int j), s4, .fz (rowD n l), .ow false A, .fz (rowD n r), .fz (tN (r j / l j)), .un]) (ds := [.int n]) (l := List.range n) (by simp) (by rw [it_r1 (by omega), rng0]) (by simp; omega) (fun i hi => by
        have hi := List.mem_range.mp hi
        have r2 := times2_run (gz.mono (show g + (2 * g + 1) + 1 ≤ 1900000 by omega)) ((hl i hi).mono (show g ≤ 1900000 by omega))
        have r3 := less2_run ((hr i hi).mono (show g ≤ 1900000 by omega)) ((gz.mul (hl i hi)).mono (show g + (2 * g + 1) + 1 + g + 1 ≤ 1900000 by omega))
        exact ⟨[s0, s1, s2, .fz (.int j), s4, .fz (rowD n l), .ow false A, .fz (rowD n r), .fz (tN (r j / l j)), .fz (.int i)], .fz (tN (elimR j l r i)), [s0, s1, s2, .fz (.int j), s4, .fz (rowD n l), .ow false A, .fz (rowD n r), .fz (tN (r j / l j)), .fz (.int i)], by simp [wipeG], by simp [vN_ix r hi rfl, vN_ix l hi rfl, r2, r3, elimR], rfl, by simp [wipeG]⟩)
      have ev : (List.range n).map (fun i => tN (elimR j l r i)) = vN n (elimR j l r) := rfl
      rw [ev] at e
      simp only [backG] at e
      refine ⟨[s0, s1, s2, .fz (.int j), s4, .fz (rowD n l), .ow false A, .fz (rowD n r), s8, .un], [s0, s1, s2, .fz (.int j), s4, .fz (rowD n l), .ow false (A ++ [rowD n (elimR j l r)]), .fz (rowD n r), .fz (tN (r j / l j)), .un], by simp, .inl ?_, _, _, rfl⟩
      rw [b_cons']; conv in evS _ _ => simp [vN_ix r hj rfl, vN_ix l hj rfl, q1]
      rw [Option.bind_some, onNext_nx]
      simp [e, lim_eq, lA])
  exact ⟨s7', s8', e⟩
abbrev bodyR : List IS := [(.set 4 (.call Pk._law_bare Pk.E__law_bare_2.pm [(.var 1), (.var 3)])), (.ife (.cmp .isn (.var 4) (.cst .none)) [(.par [2, 5, 6] [(.bin .add (.var 2) (.cst (.int (1)))), (.ixv 1 (.var 4)), (.lst [])]), (.fr (.nm 7) .seq [(.bin .add (.slc false true (.var 1) (.cst .none) (.var 4)) (.slc true false (.var 1) (.bin .add (.var 4) (.cst (.int (1)))) (.cst .none)))] bodyE), (.set 1 (.var 6))] [])]
theorem six_le' {j : Nat} (h : j ≤ 4) : 60 * 6 ^ j ≤ 77760 := by
  rcases (show j = 0 ∨ j = 1 ∨ j = 2 ∨ j = 3 ∨ j = 4 by omega) with rfl | rfl | rfl | rfl | rfl <;> decide
theorem rank_step {n j g : Nat} {R : D} {L : List Vc} {f : Nat} {s1 s3 s4 s5 s6 s7 s8 : MV} (hn : n ≤ 5) (hj : j < n) (hL : L.length ≤ 6) (hg : ∀ r ∈ L, ∀ i, i < n → Gz g (r i)) (g1 : 60 ≤ g) (g2 : g ≤ 77760) (h1 : s1 = .ow false (L.map (rowD n)) ∨ s1 = .fz (.list (L.map (rowD n)))) :
    ∃ s1' s4' s5' s6' s7' s8', evB bodyR [.fz R, s1, .fz (.int f), .fz (.int j), s4, s5, s6, s7, s8, .un] = some (.nx [.fz R, s1', .fz (.int (stepR (L, f) j).2), .fz (.int j), s4', s5', s6', s7', s8', .un]) ∧
      (s1' = .ow false ((stepR (L, f) j).1.map (rowD n)) ∨ s1' = .fz (.list ((stepR (L, f) j).1.map (rowD n)))) ∧ (stepR (L, f) j).1.length ≤ 6 ∧ ∀ r ∈ (stepR (L, f) j).1, ∀ i, i < n → Gz (g * 6) (r i) := by
  have br := bare_run (n := n) (j := j) (rs := L) hj (by omega) (by omega)
  have c1 : evS (.set 4 (.call Pk._law_bare Pk.E__law_bare_2.pm [(.var 1), (.var 3)])) [.fz R, s1, .fz (.int f), .fz (.int j), s4, s5, s6, s7, s8, .un] = some (.nx [.fz R, .fz (.list (L.map (rowD n))), .fz (.int f), .fz (.int j), .fz (match bareF j L with | [] => .none | a :: _ => .int a), s5, s6, s7, s8, .un]) := by
    rcases h1 with rfl | rfl <;> simp [br]
  rw [b_cons', c1, Option.bind_some, onNext_nx]
  rcases bare_split j L with ⟨e1, e2⟩ | ⟨a, t, l, e1, e2, e3⟩
  · have es : stepR (L, f) j = (L, f) := by unfold stepR; simp only [e2]
    rw [es, e1]
    exact ⟨.fz (.list (L.map (rowD n))), .fz .none, s5, s6, s7, s8, by simp [cmpD], .inr rfl, hL, fun r hr i hi => (hg r hr i hi).mono (by omega)⟩
  · have es : stepR (L, f) j = ((L.take a ++ L.drop (a + 1)).map (elimR j l), f + 1) := by unfold stepR; simp only [e3]
    obtain ⟨l0, lm, om, lo⟩ := split_some e3
    have al : a < L.length := (List.getElem?_eq_some_iff.mp e2).1
    rw [es, e1]
    have ixa : ixD (.list (L.map (rowD n))) (.int (a : Int)) = some (rowD n l) := ix_list rfl (by rw [List.getElem?_map, e2]; rfl)
    have c2 : cutD (L.map (rowD n)) none (some (a : Int)) = (L.take a).map (rowD n) := by rw [cut_to (k := (a : Int)) (m := a) rfl, List.map_take]
    have c3 : cutD (L.map (rowD n)) (some ((a : Int) + 1)) none = (L.drop (a + 1)).map (rowD n) := by rw [cut_from (k := (a : Int) + 1) (m := a + 1) (by omega), List.map_drop]
    have lt : (L.take a ++ L.drop (a + 1)).length ≤ 6 := by simp; omega
    obtain ⟨s7', s8', e4⟩ := elim_loop (s0 := .fz R) (s1 := .fz (.list (L.map (rowD n)))) (s2 := .fz (.int ((f : Int) + 1))) (s4 := .fz (.int a)) (s7 := s7) (s8 := s8) hn hj l0 (hg l lm) (fun r hr => hg r (om r hr)) g1 g2 lt
    have isn : cmpD .isn (.int (a : Int)) .none = some true := rfl
    have ll : (L.take a).length + (L.drop (a + 1)).length ≤ 1000000 := by simp; omega
    refine ⟨.fz (.list (((L.take a ++ L.drop (a + 1)).map (elimR j l)).map (rowD n))), .fz (.int a), .fz (rowD n l), .fz (.list (((L.take a ++ L.drop (a + 1)).map (elimR j l)).map (rowD n))), s7', s8', ?_, .inr rfl, by rw [List.length_map]; exact lt, fun r hr i hi => ?_⟩
    · have t1 : evT (.cmp .isn (.var 4) (.cst .none)) [.fz R, .fz (.list (L.map (rowD n))), .fz (.int f), .fz (.int j), .fz (.int a), s5, s6, s7, s8, .un] = some (true, [.fz R, .fz (.list (L.map (rowD n))), .fz (.int f), .fz (.int j), .fz (.int a), s5, s6, s7, s8, .un]) := by simp [isn]
      have i1 : evs [(.bin .add (.slc false true (.var 1) (.cst .none) (.var 4)) (.slc true false (.var 1) (.bin .add (.var 4) (.cst (.int (1)))) (.cst .none)))] [.fz R, .fz (.list (L.map (rowD n))), .fz (.int ((f : Int) + 1)), .fz (.int j), .fz (.int a), .fz (rowD n l), .ow false [], s7, s8, .un] = some ([.list ((L.take a ++ L.drop (a + 1)).map (rowD n))], [.fz R, .fz (.list (L.map (rowD n))), .fz (.int ((f : Int) + 1)), .fz (.int j), .fz (.int a), .fz (rowD n l), .ow false [], s7, s8, .un]) := by
        rw [List.map_append]
        have l2 : min a L.length + (L.length - (a + 1)) ≤ 1000000 := by omega
        simp [optI, slcD, c2, c3, lim_eq, l2]
      rw [b_cons', ife_t t1, b_cons']; conv in evS _ _ => simp [ixa, EvL.putAll]
      rw [Option.bind_some, onNext_nx, b_cons', v_fr, i1, Option.bind_some]
      simp only [it_seqL, Option.bind_some, e4, onNext_nx]
      simp
    · obtain ⟨q, hq, rfl⟩ := List.mem_map.mp hr
      exact elim_gz (hg l lm) (hg q (om q hq)) hj g1 i hi
theorem rankS_nil : ∀ k, rankS [] k = ([], 0)
  | 0 => rfl
  | k + 1 => by rw [rankS_succ, rankS_nil k]; rfl
theorem rank_run {n : Nat} {rs : List Vc} (hn : n ≤ 5) (hl : rs.length ≤ 6) (hg : ∀ r ∈ rs, ∀ i, i < n → Gz 60 (r i)) : _law_rank.run [.list (rs.map (rowD n))] = some (.fz (.int (rankG n rs)), []) := by
  have en := eq_lnil (k := 2) (xs := rs.map (rowD n)) (fun x hx => by
    obtain ⟨r, _, rfl⟩ := List.mem_map.mp hx
    exact lay_lst (k := 1) fun y hy => by
      obtain ⟨i, _, rfl⟩ := List.mem_map.mp hy
      exact lay_tN _) (by decide)
  rw [run__law_rank, run0 (np := 1) (n := 10) (ds := [.list (rs.map (rowD n))]) rfl]
  show (evB ir__law_rank [.fz (.list (rs.map (rowD n))), .un, .un, .un, .un, .un, .un, .un, .un, .un]).bind (outM false) = _
  unfold ir__law_rank
  rw [b_cons']; conv in evS _ _ => simp [EvL.putAll]
  rw [Option.bind_some, onNext_nx]
  by_cases h0 : rs = []
  · subst h0
    have z : rankG n [] = 0 := by unfold rankG; rw [rankS_nil]
    rw [z]
    rw [List.map_nil] at en ⊢
    have i1 : evs [(.ite (.cmp .ne (.var 0) (.lst [])) (.bi .len [(.ixv 0 (.cst (.int (0))))]) (.cst (.int (0))))] [.fz (.list []), .ow false [], .fz (.int 0), .un, .un, .un, .un, .un, .un, .un] = some ([.int 0], [.fz (.list []), .ow false [], .fz (.int 0), .un, .un, .un, .un, .un, .un, .un]) := by simp [en]
    rw [b_cons', v_fr, i1, Option.bind_some]
    simp [rngD, evF]
  · obtain ⟨Γ', e, s1, s3, s4, s5, s6, s7, s8, rfl, h1, h2, h3⟩ := evF_nat (f := fun (k : Nat) => PyData.int k) (t := .nm 3) (b := evB bodyR) (n := n) (Γ := [.fz (.list (rs.map (rowD n))), .ow false (rs.map (rowD n)), .fz (.int 0), .un, .un, .un, .un, .un, .un, .un])
      (fun j Γ => ∃ s1 s3 s4 s5 s6 s7 s8, Γ = [.fz (.list (rs.map (rowD n))), s1, .fz (.int (rankS rs j).2), s3, s4, s5, s6, s7, s8, .un] ∧ (s1 = .ow false ((rankS rs j).1.map (rowD n)) ∨ s1 = .fz (.list ((rankS rs j).1.map (rowD n)))) ∧ (rankS rs j).1.length ≤ 6 ∧ ∀ r ∈ (rankS rs j).1, ∀ i, i < n → Gz (60 * 6 ^ j) (r i))
      ⟨_, .un, .un, .un, .un, .un, .un, rfl, .inl rfl, hl, fun r hr i hi => hg r hr i hi⟩
      (fun j Γ hj ⟨s1, s3, s4, s5, s6, s7, s8, hG, h1, h2, h3⟩ => by
        subst hG
        rw [rankS_succ, Nat.pow_succ]
        have b := six_le' (show j ≤ 4 by omega)
        have X1 : 1 ≤ 6 ^ j := Nat.pow_pos (by decide)
        generalize rankS rs j = st at *
        obtain ⟨L, f⟩ := st
        obtain ⟨s1', s4', s5', s6', s7', s8', e, a, b, c⟩ := rank_step (R := .list (rs.map (rowD n))) (f := f) (s3 := .un) (s4 := s4) (s5 := s5) (s6 := s6) (s7 := s7) (s8 := s8) hn hj h2 h3 (by omega) b h1
        refine ⟨[.fz (.list (rs.map (rowD n))), s1, .fz (.int f), .fz (.int j), s4, s5, s6, s7, s8, .un], _, by simp, .inl e, s1', _, s4', s5', s6', s7', s8', rfl, a, b, fun r hr i hi => ?_⟩
        have := c r hr i hi
        rwa [Nat.mul_assoc] at this)
    obtain ⟨r0, rs0, rfl⟩ := List.exists_cons_of_ne_nil h0
    have ne : ¬ (r0 :: rs0).map (rowD n) = [] := by simp
    have ix0 : ixD (.list ((r0 :: rs0).map (rowD n))) (.int 0) = some (rowD n r0) := ix_list (i := 0) rfl rfl
    rw [decide_eq_false ne] at en
    unfold rankG
    generalize (r0 :: rs0).map (rowD n) = X at *
    have i1 : evs [(.ite (.cmp .ne (.var 0) (.lst [])) (.bi .len [(.ixv 0 (.cst (.int (0))))]) (.cst (.int (0))))] [.fz (.list X), .ow false X, .fz (.int 0), .un, .un, .un, .un, .un, .un, .un] = some ([.int n], [.fz (.list X), .ow false X, .fz (.int 0), .un, .un, .un, .un, .un, .un, .un]) := by simp [en, ix0]
    rw [b_cons', v_fr, i1, Option.bind_some]
    simp only [it_r1 (show -1000000 ≤ (n : Int) ∧ (n : Int) ≤ 1000000 by omega), Option.bind_some, rng0, e, onNext_nx]
    simp
theorem hanging_run {n : Nat} {T : Nat → Nat → GQ} (hn : n ≤ 5) (hg : ∀ i j, i < n → j < n → Gz 60 (T i j)) : _law_hanging.run [tabD n T] = some (.ow ((hangL n T).map fun (i : Nat) => PyData.int i), []) := by
  have e := lc_filter (f := fun (i : Nat) => PyData.int i) (g := fun (i : Nat) => PyData.int i) (c := hangB n T) (vs := [1]) (t := .nm 1) (k := .rng1) (its := [(.lenv 0)]) (ifs := [(.cmp .eq (.call Pk._law_rank Pk.E__law_rank_1.pm [(.slc false true (.var 0) (.cst .none) (.bin .add (.var 1) (.cst (.int (1)))))]) (.call Pk._law_rank Pk.E__law_rank_1.pm [(.slc false true (.var 0) (.cst .none) (.var 1))]))]) (elt := .var 1) (Γ := [.fz (tabD n T), .un]) (Γ1 := [.fz (tabD n T), .un]) (ds := [.int n]) (l := List.range n) (by simp [tabD]) (by rw [it_r1 (by omega), rng0]) (by simp; omega) (fun i hi => by
    have hi := List.mem_range.mp hi
    have cut : ∀ (k : Int) (m : Nat), k = m → m ≤ n → slcD (tabD n T) none (some k) = some (.ow ((rowsL T m).map (rowD n))) := fun k m hk hm => by
      show some (RV.ow (cutD _ none (some k))) = _
      rw [cut_to hk, ← List.map_take, List.take_range, Nat.min_eq_left hm]
      unfold rowsL
      rw [List.map_map]; rfl
    have c1 := cut ((i : Int) + 1) (i + 1) (by omega) (by omega)
    have c2 := cut (i : Int) i rfl (by omega)
    have sz : ∀ m, m ≤ n → ∀ r ∈ rowsL T m, ∀ k, k < n → Gz 60 (r k) := fun m hm r hr k hk => by
      obtain ⟨q, hq, rfl⟩ := List.mem_map.mp hr
      exact hg q k (by have := List.mem_range.mp hq; omega) hk
    have r1 := rank_run (n := n) (rs := rowsL T (i + 1)) hn (by unfold rowsL; simp; omega) (sz _ (by omega))
    have r2 := rank_run (n := n) (rs := rowsL T i) hn (by unfold rowsL; simp; omega) (sz _ (by omega))
    have hr := hang_rank (n := n) (k := i) (T := T) hi
    generalize rankG n (rowsL T (i + 1)) = A at *
    generalize rankG n (rowsL T i) = B at *
    generalize (rowsL T (i + 1)).map (rowD n) = X at *
    generalize (rowsL T i).map (rowD n) = Y at *
    refine ⟨[.fz (tabD n T), .fz (.int i)], [.fz (tabD n T), .fz (.int i)], by simp [wipeG], ?_, fun _ => by simp [wipeG], fun _ => ⟨.fz (.int i), [.fz (tabD n T), .fz (.int i)], by simp, rfl, by simp [wipeG]⟩⟩
    rw [hr]
    by_cases hAB : A = B
    · subst hAB; simp [optI, c1, c2, r1, r2]
    · have hAB2 : ¬ (A : Int) = (B : Int) := by omega
      simp [optI, c1, c2, r1, r2, hAB, hAB2])
  have ef : (List.range n).filter (hangB n T) = hangL n T := rfl
  rw [ef] at e
  simp only [backG] at e
  rw [run__law_hanging, run0 (np := 1) (n := 2) (ds := [tabD n T]) rfl]
  show (evB ir__law_hanging [.fz (tabD n T), .un]).bind (outM false) = _
  unfold ir__law_hanging
  rw [b_cons']; conv in evS _ _ => simp [e]
  rw [Option.bind_some, onNext_rt]
  rfl
end Pk
end EvL

set_option Elab.async false
set_option linter.all false
set_option maxRecDepth 100000
set_option maxHeartbeats 1900000
namespace EvL
open PySem PySem.Spec PyProof.Rows L2 Pk
/-- both rows over one whole complex number -/
def GiP (n b : Nat) (x : Vc × Vc) : Prop := ∃ d : GQ, d ≠ 0 ∧ Gi b d ∧ (∀ i, i < n → Gi b (x.1 i * d)) ∧ ∀ i, i < n → Gi b (x.2 i * d)
theorem gip_red {n b c : Nat} {x : Vc × Vc} {e : Nat × Vc × Vc} (hx : GiP n b x) (he : GiP n c e.2) (hk : e.1 < n) (h0 : e.2.1 e.1 ≠ 0) : GiP n (b + c + 2) (redO x e) := by
  obtain ⟨d, d0, gd, g1, g2⟩ := hx
  obtain ⟨f, f0, gf, k1, k2⟩ := he
  have q0 : e.2.1 e.1 * f ≠ 0 := fun z => by
    have : e.2.1 e.1 = e.2.1 e.1 * f / f := by grind
    rw [z] at this
    exact h0 (by rw [this]; grind)
  refine ⟨d * (e.2.1 e.1 * f), fun z => q0 ?_, (gd.mul (k1 _ hk)).mono (by omega), fun i hi => ?_, fun i hi => ?_⟩
  · have : e.2.1 e.1 * f = d * (e.2.1 e.1 * f) / d := by grind
    rw [this, z]; grind
  · have s : (x.1 i - x.1 e.1 / e.2.1 e.1 * e.2.1 i) * (d * (e.2.1 e.1 * f)) = (x.1 i * d) * (e.2.1 e.1 * f) - (x.1 e.1 * d) * (e.2.1 i * f) := by
      generalize e.2.1 e.1 = q at *
      generalize e.2.1 i = r at *
      grind
    show Gi (b + c + 2) ((x.1 i - x.1 e.1 / e.2.1 e.1 * e.2.1 i) * (d * (e.2.1 e.1 * f)))
    rw [s]
    exact (((g1 i hi).mul (k1 _ hk)).sub ((g1 _ hk).mul (k1 i hi))).mono (by omega)
  · have s : (x.2 i - x.1 e.1 / e.2.1 e.1 * e.2.2 i) * (d * (e.2.1 e.1 * f)) = (x.2 i * d) * (e.2.1 e.1 * f) - (x.1 e.1 * d) * (e.2.2 i * f) := by
      generalize e.2.1 e.1 = q at *
      generalize e.2.2 i = r at *
      grind
    show Gi (b + c + 2) ((x.2 i - x.1 e.1 / e.2.1 e.1 * e.2.2 i) * (d * (e.2.1 e.1 * f)))
    rw [s]
    exact (((g2 i hi).mul (k1 _ hk)).sub ((g1 _ hk).mul (k2 i hi))).mono (by omega)
def zs (B p : Nat) : Nat := (B + 2) * 2 ^ p - 2
theorem zs_succ (B p : Nat) : zs B p + zs B p + 2 ≤ zs B (p + 1) := by
  unfold zs
  rw [Nat.pow_succ, ← Nat.mul_assoc]
  have : 2 ≤ (B + 2) * 2 ^ p := Nat.le_trans (show 2 ≤ (B + 2) * 1 by omega) (Nat.mul_le_mul_left _ (Nat.pow_pos (by decide)))
  omega
theorem GiP.mono {n a b : Nat} {x : Vc × Vc} (h : GiP n a x) (hb : a ≤ b) : GiP n b x := let ⟨d, d0, g, g1, g2⟩ := h; ⟨d, d0, g.mono hb, fun i hi => (g1 i hi).mono hb, fun i hi => (g2 i hi).mono hb⟩
theorem gip_fold {n B : Nat} : ∀ (own : Ow) (p : Nat) (x : Vc × Vc), (∀ j e, own[j]? = some e → e.1 < n ∧ e.2.1 e.1 ≠ 0 ∧ GiP n (zs B (p + j)) e.2) → GiP n (zs B p) x → GiP n (zs B (p + own.length)) (own.foldl redO x)
  | [], p, x, _, h => h
  | e :: g, p, x, ho, h => by
    obtain ⟨a, b, c⟩ := ho 0 e rfl
    rw [List.foldl_cons, List.length_cons, show p + (g.length + 1) = p + 1 + g.length by omega]
    refine gip_fold g (p + 1) (redO x e) (fun j f hf => ?_) ((gip_red h c a b).mono (zs_succ B p))
    have := ho (j + 1) f (by rw [List.getElem?_cons_succ]; exact hf)
    rwa [show p + (j + 1) = p + 1 + j by omega] at this
theorem cz_gi {d : Int} {b : Nat} {z : GQ} (d0 : 0 < d) (h : Cz d b z) : Gi b (z * GQ.ofR (d : Rat)) := by
  obtain ⟨n, m, e1, e2, s, t⟩ := h
  have d1 := ic_ne (show d ≠ 0 by omega)
  exact ⟨n, m, by ext <;> simp [e1, e2] <;> grind, s, t⟩
theorem row_gip {n B : Nat} {d : Int} {T : Nat → Nat → GQ} (d0 : 0 < d) (hd : Sz B d) (hT : Tz n d B T) {k : Nat} (hk : k < n) : GiP n B (T k, unV k 1) := by
  refine ⟨GQ.ofR (d : Rat), ofI_ne d0, Gi.int hd, fun i hi => cz_gi d0 (hT k i hk hi), fun i hi => cz_gi d0 ?_⟩
  show Cz d B (unV k 1 i)
  unfold unV
  split
  · exact Cz.one (by omega) hd
  · exact Cz.zero _ _
theorem null_gip {n B : Nat} {d : Int} {T : Nat → Nat → GQ} (d0 : 0 < d) (hd : Sz B d) (hT : Tz n d B T) : ∀ k, k ≤ n → (∀ j e, (nullS n T k).1[j]? = some e → e.1 < n ∧ e.2.1 e.1 ≠ 0 ∧ GiP n (zs B (0 + j)) e.2) ∧ (nullS n T k).1.length ≤ k
  | 0, _ => ⟨fun j e h => by simp [nullS] at h, Nat.le_refl _⟩
  | k + 1, hk => by
    obtain ⟨h1, h2⟩ := null_gip d0 hd hT k (by omega)
    have g := gip_fold (nullS n T k).1 0 (T k, unV k 1) h1 ((row_gip d0 hd hT (show k < n by omega)).mono (by unfold zs; omega))
    rw [nullS_succ]
    unfold nullStep
    cases hf : fo n (redT n T (nullS n T k).1 k).1 with
    | none => exact ⟨h1, by show (nullS n T k).1.length ≤ k + 1; omega⟩
    | some q =>
      obtain ⟨qn, q0⟩ := fo_some hf
      refine ⟨fun j e he => ?_, by show ((nullS n T k).1 ++ [_]).length ≤ k + 1; simp; omega⟩
      have he : ((nullS n T k).1 ++ [(q, (redT n T (nullS n T k).1 k).1, (redT n T (nullS n T k).1 k).2)])[j]? = some e := he
      by_cases hj : j < (nullS n T k).1.length
      · rw [List.getElem?_append_left hj] at he
        exact h1 j e he
      · by_cases hje : j = (nullS n T k).1.length
        · subst hje
          rw [List.getElem?_append_right (Nat.le_refl _)] at he
          simp at he
          subst he
          exact ⟨qn, q0, g⟩
        · rw [List.getElem?_eq_none (by simp; omega)] at he
          cases he
theorem over_cz {b : Nat} {y : GQ} (g : Gi b y) (y0 : y ≠ 0) : ∃ D : Int, 0 < D ∧ Sz (2 * b + 1) D ∧ ∀ (a : Nat) (x : GQ), Gi a (x * y) → Cz D (a + b + 1) x := by
  have ys : y * y.bent = GQ.ofR y.size := mul_bent' y
  have s0 := GQ.size_ne y0
  have gb := g.bent
  obtain ⟨k, l, rfl, k1, k2⟩ := g
  have es : GQ.size ⟨(k : Rat), (l : Rat)⟩ = ((k * k + l * l : Int) : Rat) := by simp [GQ.size, ic_mul, ic_add]
  have sq : ∀ i : Int, 0 ≤ i * i := fun i => by rcases Int.le_total 0 i with q | q; exact Int.mul_nonneg q q; exact Int.mul_nonneg_of_nonpos_of_nonpos q q
  have np : 0 < k * k + l * l := by
    have z : k * k + l * l ≠ 0 := fun z => s0 (by rw [es, z]; rfl)
    have := sq k; have := sq l; omega
  refine ⟨k * k + l * l, np, ((k1.mul k1).add (k2.mul k2)).mono (by omega), fun a x hx => ?_⟩
  obtain ⟨p, q, e, p1, p2⟩ := hx.mul gb
  rw [es] at ys
  have e2 : x * GQ.ofR ((k * k + l * l : Int) : Rat) = ⟨(p : Rat), (q : Rat)⟩ := by
    rw [← ys, ← e]; grind
  have d1 := ic_ne (show k * k + l * l ≠ 0 by omega)
  have key : ∀ u D P : Rat, D ≠ 0 → u * D = P → u = P / D := fun u D P h0 h => by grind
  refine ⟨p, q, key _ _ _ d1 ?_, key _ _ _ d1 ?_, p1, p2⟩
  · have := congrArg GQ.re e2
    rw [GQ.mul_re] at this
    simp at this ⊢
    grind
  · have := congrArg GQ.im e2
    rw [GQ.mul_im] at this
    simp at this ⊢
    grind
theorem zs_le {j : Nat} (h : j ≤ 4) : zs 54 j ≤ 894 := by
  rcases (show j = 0 ∨ j = 1 ∨ j = 2 ∨ j = 3 ∨ j = 4 by omega) with rfl | rfl | rfl | rfl | rfl <;> decide
theorem null_mx {n : Nat} {d : Int} {T : Nat → Nat → GQ} (hn : n ≤ 5) (d0 : 0 < d) (hd : Sz 54 d) (hT : Tz n d 54 T) {k : Nat} (hk : k < n) : Mx n 1800 (nullM n T k) := by
  obtain ⟨h1, h2⟩ := null_gip d0 hd hT k (by omega)
  have g := gip_fold (nullS n T k).1 0 (T k, unV k 1) h1 ((row_gip d0 hd hT hk).mono (by unfold zs; omega))
  obtain ⟨f, f0, gf, _, g2⟩ := g.mono (by rw [Nat.zero_add]; exact zs_le (show (nullS n T k).1.length ≤ 4 by omega))
  obtain ⟨D, D0, sD, h⟩ := over_cz gf f0
  exact ⟨D, D0, sD.mono (by decide), fun i hi => (h 894 _ (g2 i hi)).mono (by decide)⟩
end EvL

set_option Elab.async false
set_option linter.all false
set_option maxRecDepth 100000
set_option maxHeartbeats 1900000
namespace EvL
open PySem PySem.Spec PyProof.Rows L2 Pk
theorem eq_tNs {α : Type} (f g : α → GQ) (l : List α) : eqD (.list (l.map fun i => tN (f i))) (.list (l.map fun i => tN (g i))) = some (l.all fun i => decide (f i = g i)) := by
  have sh : ∀ h : α → GQ, SeqAt.shaped (.list (l.map fun i => tN (h i))) = true := fun h => shaped_l (k := 1) (fun x hx => by
    obtain ⟨i, _, rfl⟩ := List.mem_map.mp hx
    exact lay_tN _) (by decide)
  rw [eq_shaped (sh f) (sh g) (.inl fun x => by simp)]
  simp only [PyData.eqv, eqv_map, eqv_tN]
theorem hang_lt {n k : Nat} {T : Nat → Nat → GQ} (h : k ∈ hangL n T) : k < n ∧ hangB n T k = true := by
  obtain ⟨a, b⟩ := List.mem_filter.mp h
  exact ⟨List.mem_range.mp a, b⟩
theorem hang_len (n : Nat) (T : Nat → Nat → GQ) : (hangL n T).length ≤ n := Nat.le_trans (List.length_filter_le ..) (by simp)
theorem mx_wz {n : Nat} {d : Int} {T : Nat → Nat → GQ} {c : Vc} {X : Nat} (hn : n ≤ 6) (d0 : 0 < d) (hd : Sz 54 d) (hT : Tz n d 54 T) (hc : Mx n X c) (hX : X ≤ 30000) : ∃ K M, Wz n T c K M := by
  obtain ⟨D, D0, sD, h⟩ := hc
  exact ⟨_, _, wz_of hn d0 hd hT D0 sD h (by decide) hX⟩
namespace Pk
abbrev bodyA : List IS := [(.ife (.not (.call Pk._law_is_line Pk.E__law_is_line_2.pm [(.var 4), (.lenv 0)])) [(.ret (.cst (.bool false)))] []), (.app 3 (.lc [6] (.nm 6) .seq [(.var 4)] [] (.call Pk._law_read Pk.E__law_read_1.pm [(.var 6)])))]
abbrev bodyB : List IS := [(.ife (.cmp .ne (.lc [7] (.nm 7) .seq [(.var 2)] [] (.ix (.ixv 3 (.var 5)) (.var 7))) (.lc [7] (.nm 7) .seq [(.var 2)] [] (.tup [(.bi .int [(.cmp .eq (.var 7) (.ixv 2 (.var 5)))]), (.cst (.int (0))), (.cst (.int (1)))]))) [(.ret (.cst (.bool false)))] []), (.ife (.cmp .ne (.lc [6] (.nm 6) .seq [(.call Pk._law_run Pk.E__law_run_2.pm [(.var 0), (.ixv 3 (.var 5))])] [(.not (.call Pk._law_is_nought Pk.E__law_is_nought_1.pm [(.var 6)]))] (.var 6)) (.lst [])) [(.ret (.cst (.bool false)))] [])]
theorem fit_a {n : Nat} {M : Nat → Vc} {H : List Nat} {t d s1 s2 s4 s5 : MV} {T : Nat → Nat → GQ} (hn : n ≤ 6) (hM : ∀ k ∈ H, ∀ i, i < n → Gz 1800 (M k i)) (hl : H.length ≤ 6) :
    ∃ s4', evF (.nm 4) (evB bodyA) (H.map fun k => .tuple (vG n (M k))) [.fz (tabD n T), s1, s2, .ow false [], s4, s5, .un, .un] = some (.nx [.fz (tabD n T), s1, s2, .ow false (H.map fun k => .list (vN n (M k))), s4', s5, .un, .un]) := by
  have lenT : biD .len [tabD n T] = some (.fz (.int n)) := by simp [tabD]
  obtain ⟨Γ', e, s4', rfl⟩ := evF_all (f := fun k => PyData.tuple (vG n (M k))) (t := .nm 4) (b := evB bodyA) (l := H) (Γ := [.fz (tabD n T), s1, s2, .ow false [], s4, s5, .un, .un])
    (fun p Γ => ∃ s4, Γ = [.fz (tabD n T), s1, s2, .ow false (p.map fun k => .list (vN n (M k))), s4, s5, .un, .un]) ⟨s4, rfl⟩
    (fun p k q Γ hp ⟨s4, hG⟩ => by
      subst hG
      have gM := hM k (by rw [hp]; simp)
      have lp : p.length < 1000000 := by have := congrArg List.length hp; simp at this; omega
      have l1 := lline_of (p := (List.range n).map (M k)) (n := n) (fun z hz => by
        obtain ⟨i, hi, rfl⟩ := List.mem_map.mp hz
        exact (gM i (List.mem_range.mp hi)).mono (by decide)) (by simp) (by simp; omega)
      have er : rD ((List.range n).map (M k)) = .tuple (vG n (M k)) := by simp [rD, vG, Function.comp_def]
      rw [er] at l1
      have eA : ((p ++ [k]).map fun k => PyData.list (vN n (M k))) = (p.map fun k => PyData.list (vN n (M k))) ++ [.list (vN n (M k))] := by simp
      have lA : (p.map fun k => PyData.list (vN n (M k))).length < 1000000 := by simpa using lp
      rw [eA]
      generalize (p.map fun k => PyData.list (vN n (M k))) = A at *
      have e := lc_map (f := fun (i : Nat) => gD (M k i)) (g := fun i => tN (M k i)) (vs := [6]) (t := .nm 6) (k := .seq) (its := [(.var 4)]) (elt := (.call Pk._law_read Pk.E__law_read_1.pm [(.var 6)])) (Γ := [.fz (tabD n T), s1, s2, .ow false A, .fz (.tuple (vG n (M k))), s5, .un, .un]) (Γ1 := [.fz (tabD n T), s1, s2, .ow false A, .fz (.tuple (vG n (M k))), s5, .un, .un]) (ds := [.tuple (vG n (M k))]) (l := List.range n) (by simp) rfl (by simp; omega) (fun i hi => by
        have r := read_run ((gM i (List.mem_range.mp hi)).mono (show 1800 ≤ 1900000 by decide))
        exact ⟨[.fz (tabD n T), s1, s2, .ow false A, .fz (.tuple (vG n (M k))), s5, .fz (gD (M k i)), .un], .fz (tN (M k i)), [.fz (tabD n T), s1, s2, .ow false A, .fz (.tuple (vG n (M k))), s5, .fz (gD (M k i)), .un], by simp [wipeG], by simp [r], rfl, by simp [wipeG]⟩)
      have ev : (List.range n).map (fun i => tN (M k i)) = vN n (M k) := rfl
      rw [ev] at e
      simp only [backG] at e
      refine ⟨[.fz (tabD n T), s1, s2, .ow false A, .fz (.tuple (vG n (M k))), s5, .un, .un], [.fz (tabD n T), s1, s2, .ow false (A ++ [.list (vN n (M k))]), .fz (.tuple (vG n (M k))), s5, .un, .un], by simp, .inl ?_, _, rfl⟩
      rw [b_cons']; conv in evS _ _ => simp [lenT, l1]
      rw [Option.bind_some, onNext_nx]
      simp [e, lim_eq, lA])
  exact ⟨s4', e⟩
theorem fit_b {n : Nat} {T : Nat → Nat → GQ} {M : Nat → Vc} {H : List Nat} {s1 s4 s5 : MV} (hn : n ≤ 6) (hM : ∀ k ∈ H, ∃ K L, Wz n T (M k) K L) (hl : H.length ≤ 6) (hH : ∀ k ∈ H, k < n) (h1 : ∀ k ∈ H, ∀ j ∈ H, M k j = if j = k then 1 else 0) (h2 : ∀ k ∈ H, ∀ c, c < n → mulT n (M k) T c = 0) :
    ∃ s2' s5', evF (.nm 5) (evB bodyB) ((List.range H.length).map fun (k : Nat) => .int k) [.fz (tabD n T), s1, .ow false (H.map fun (i : Nat) => .int i), .ow false (H.map fun k => .list (vN n (M k))), s4, s5, .un, .un] = some (.nx [.fz (tabD n T), s1, s2', .ow false (H.map fun k => .list (vN n (M k))), s4, s5', .un, .un]) := by
  obtain ⟨Γ', e, s2', s5', rfl, _⟩ := evF_nat (f := fun (k : Nat) => PyData.int k) (t := .nm 5) (b := evB bodyB) (n := H.length) (Γ := [.fz (tabD n T), s1, .ow false (H.map fun (i : Nat) => .int i), .ow false (H.map fun k => .list (vN n (M k))), s4, s5, .un, .un])
    (fun k Γ => ∃ s2 s5, Γ = [.fz (tabD n T), s1, s2, .ow false (H.map fun k => .list (vN n (M k))), s4, s5, .un, .un] ∧ (s2 = .ow false (H.map fun (i : Nat) => .int i) ∨ s2 = .fz (.list (H.map fun (i : Nat) => .int i)))) ⟨_, s5, rfl, .inl rfl⟩
    (fun a Γ ha ⟨s2, s5, hG, hs2⟩ => by
      subst hG
      have hk : H[a]? = some H[a] := List.getElem?_eq_getElem ha
      have hm : H[a] ∈ H := List.getElem_mem ha
      generalize H[a] = k at hk hm
      obtain ⟨K, L, wz⟩ := hM k hm
      have lr := lrunW wz
      have v0 : vN n (mulT n (M k) T) = vN n fun _ => 0 := vN_congr fun j hj => h2 k hm j hj
      rw [v0] at lr
      have ixH : ixD (.list (H.map fun (i : Nat) => PyData.int i)) (.int (a : Int)) = some (.int k) := ix_list rfl (by rw [List.getElem?_map, hk]; rfl)
      have ixM : ixD (.list (H.map fun k => PyData.list (vN n (M k)))) (.int (a : Int)) = some (.list (vN n (M k))) := ix_list rfl (by rw [List.getElem?_map, hk]; rfl)
      have eq := eq_tNs (fun j => M k j) (fun j => if j = k then (1 : GQ) else 0) H
      have al : (H.all fun j => decide (M k j = if j = k then (1 : GQ) else 0)) = true := List.all_eq_true.mpr fun j hj => decide_eq_true (h1 k hm j hj)
      rw [al] at eq
      have l1 : H.length ≤ 1000000 := by omega
      generalize hX : (H.map fun k => PyData.list (vN n (M k))) = X at *
      generalize hY : (H.map fun (i : Nat) => PyData.int i) = Y at *
      have e1 : evX (.lc [7] (.nm 7) .seq [(.var 2)] [] (.ix (.ixv 3 (.var 5)) (.var 7))) [.fz (tabD n T), s1, s2, .ow false X, s4, .fz (.int a), .un, .un] = some (.ow (H.map fun j => tN (M k j)), [.fz (tabD n T), s1, .fz (.list Y), .ow false X, s4, .fz (.int a), .un, .un]) := by
        have e := lc_map (f := fun (i : Nat) => PyData.int i) (g := fun i => tN (M k i)) (vs := [7]) (t := .nm 7) (k := .seq) (its := [(.var 2)]) (elt := (.ix (.ixv 3 (.var 5)) (.var 7))) (Γ := [.fz (tabD n T), s1, s2, .ow false X, s4, .fz (.int a), .un, .un]) (Γ1 := [.fz (tabD n T), s1, .fz (.list Y), .ow false X, s4, .fz (.int a), .un, .un]) (ds := [.list Y]) (l := H) (by rcases hs2 with rfl | rfl <;> simp) (by rw [hY]; rfl) l1 (fun j hj => by
          exact ⟨[.fz (tabD n T), s1, .fz (.list Y), .ow false X, s4, .fz (.int a), .un, .fz (.int j)], .fz (tN (M k j)), [.fz (tabD n T), s1, .fz (.list Y), .ow false X, s4, .fz (.int a), .un, .fz (.int j)], by simp [wipeG], by simp [ixM, vN_ix (M k) (hH j hj) rfl], rfl, by simp [wipeG]⟩)
        rw [e]; simp [backG]
      have e2 : evX (.lc [7] (.nm 7) .seq [(.var 2)] [] (.tup [(.bi .int [(.cmp .eq (.var 7) (.ixv 2 (.var 5)))]), (.cst (.int (0))), (.cst (.int (1)))])) [.fz (tabD n T), s1, .fz (.list Y), .ow false X, s4, .fz (.int a), .un, .un] = some (.ow (H.map fun j => tN (if j = k then (1 : GQ) else 0)), [.fz (tabD n T), s1, .fz (.list Y), .ow false X, s4, .fz (.int a), .un, .un]) := by
        have e := lc_map (f := fun (i : Nat) => PyData.int i) (g := fun i => tN (if i = k then (1 : GQ) else 0)) (vs := [7]) (t := .nm 7) (k := .seq) (its := [(.var 2)]) (elt := (.tup [(.bi .int [(.cmp .eq (.var 7) (.ixv 2 (.var 5)))]), (.cst (.int (0))), (.cst (.int (1)))])) (Γ := [.fz (tabD n T), s1, .fz (.list Y), .ow false X, s4, .fz (.int a), .un, .un]) (Γ1 := [.fz (tabD n T), s1, .fz (.list Y), .ow false X, s4, .fz (.int a), .un, .un]) (ds := [.list Y]) (l := H) (by simp) (by rw [hY]; rfl) l1 (fun j hj => by
          refine ⟨[.fz (tabD n T), s1, .fz (.list Y), .ow false X, s4, .fz (.int a), .un, .fz (.int j)], .fz (tN (if j = k then (1 : GQ) else 0)), [.fz (tabD n T), s1, .fz (.list Y), .ow false X, s4, .fz (.int a), .un, .fz (.int j)], by simp [wipeG], ?_, rfl, by simp [wipeG]⟩
          by_cases hjk : j = k
          · subst hjk
            rw [if_pos rfl, ← tN1]
            simp [ixH]
          · have hne : ¬ (j : Int) = (k : Int) := by omega
            rw [if_neg hjk, ← tN0]
            simp [ixH, hne])
        rw [e]; simp [backG]
      have e3 : evX (.lc [6] (.nm 6) .seq [(.call Pk._law_run Pk.E__law_run_2.pm [(.var 0), (.ixv 3 (.var 5))])] [(.not (.call Pk._law_is_nought Pk.E__law_is_nought_1.pm [(.var 6)]))] (.var 6)) [.fz (tabD n T), s1, .fz (.list Y), .ow false X, s4, .fz (.int a), .un, .un] = some (.ow [], [.fz (tabD n T), s1, .fz (.list Y), .ow false X, s4, .fz (.int a), .un, .un]) := by
        have e := lc_filter (f := fun (j : Nat) => tN 0) (g := fun j => tN 0) (c := fun j => false) (vs := [6]) (t := .nm 6) (k := .seq) (its := [(.call Pk._law_run Pk.E__law_run_2.pm [(.var 0), (.ixv 3 (.var 5))])]) (ifs := [(.not (.call Pk._law_is_nought Pk.E__law_is_nought_1.pm [(.var 6)]))]) (elt := (.var 6)) (Γ := [.fz (tabD n T), s1, .fz (.list Y), .ow false X, s4, .fz (.int a), .un, .un]) (Γ1 := [.fz (tabD n T), s1, .fz (.list Y), .ow false X, s4, .fz (.int a), .un, .un]) (ds := [.list (vN n fun _ => 0)]) (l := List.range n) (by simp [ixM, lr]) rfl (by simp; omega) (fun j hj => by
          have r := nought_run (0 : GQ)
          simp at r
          exact ⟨[.fz (tabD n T), s1, .fz (.list Y), .ow false X, s4, .fz (.int a), .fz (tN 0), .un], [.fz (tabD n T), s1, .fz (.list Y), .ow false X, s4, .fz (.int a), .fz (tN 0), .un], by simp [wipeG], by simp [r], fun _ => by simp [wipeG], fun z => nomatch z⟩)
        have fl : (List.range n).filter (fun _ => false) = [] := by simp
        rw [fl] at e
        rw [e]; simp [backG]
      refine ⟨[.fz (tabD n T), s1, s2, .ow false X, s4, .fz (.int a), .un, .un], [.fz (tabD n T), s1, .fz (.list Y), .ow false X, s4, .fz (.int a), .un, .un], by simp, .inl ?_, _, _, rfl, .inr rfl⟩
      rw [b_cons']; conv in evS _ _ => simp [e1, e2, eq]
      rw [Option.bind_some, onNext_nx, b_cons']; conv in evS _ _ => simp [e3, eq_nil_nil]
      rw [Option.bind_some, onNext_nx]
      simp)
  exact ⟨s2', s5', e⟩
theorem fit_run {n : Nat} {d : Int} {T : Nat → Nat → GQ} (hn : n ≤ 5) (d0 : 0 < d) (hd : Sz 54 d) (hT : Tz n d 54 T) : _law_fit_v2.run [tabD n T, .tuple (mxD n (nullS n T n).2)] = some (.fz (.bool true), []) := by
  have gT : ∀ i j, i < n → j < n → Gz 60 (T i j) := fun i j hi hj => (hT i j hi hj).gz' d0 (by decide) (hd.mono (by decide))
  have hr := hanging_run hn gT
  have hlen := hang_len n T
  have em : mxD n (nullS n T n).2 = (hangL n T).map fun k => .tuple (vG n (nullM n T k)) := by rw [null_ms]; unfold mxD; rw [List.map_map]; rfl
  rw [em]
  have mx : ∀ k ∈ hangL n T, Mx n 1800 (nullM n T k) := fun k hk => null_mx hn d0 hd hT (hang_lt hk).1
  obtain ⟨s4', e1⟩ := fit_a (T := T) (H := hangL n T) (M := nullM n T) (s1 := .fz (.tuple ((hangL n T).map fun k => .tuple (vG n (nullM n T k))))) (s2 := .ow false ((hangL n T).map fun (i : Nat) => .int i)) (s4 := .un) (s5 := .un) (t := .un) (d := .un) (by omega) (fun k hk i hi => (mx k hk).gz hi) (by omega)
  obtain ⟨s2', s5', e2⟩ := fit_b (T := T) (H := hangL n T) (M := nullM n T) (s1 := .fz (.tuple ((hangL n T).map fun k => .tuple (vG n (nullM n T k))))) (s4 := s4') (s5 := .un) (by omega) (fun k hk => mx_wz (by omega) d0 hd hT (mx k hk) (by decide)) (by omega) (fun k hk => (hang_lt hk).1) (fun k hk j hj => (null_mix (hang_lt hk).1 (hang_lt hk).2).1 j (hang_lt hj).1 (hang_lt hj).2) (fun k hk => (null_mix (hang_lt hk).1 (hang_lt hk).2).2)
  have l1 : (((hangL n T).map fun k => PyData.tuple (vG n (nullM n T k))).length : Int) = (hangL n T).length := by simp
  have l2 : (((hangL n T).map fun (i : Nat) => PyData.int i).length : Int) = (hangL n T).length := by simp
  have l3 : (((hangL n T).map fun k => PyData.list (vN n (nullM n T k))).length : Int) = (hangL n T).length := by simp
  generalize ((hangL n T).map fun k => PyData.tuple (vG n (nullM n T k))) = X at *
  generalize ((hangL n T).map fun (i : Nat) => PyData.int i) = Y at *
  generalize ((hangL n T).map fun k => PyData.list (vN n (nullM n T k))) = Z at *
  rw [run__law_fit_v2, run0 (np := 2) (n := 8) (ds := [tabD n T, .tuple X]) rfl]
  show (evB ir__law_fit_v2 [.fz (tabD n T), .fz (.tuple X), .un, .un, .un, .un, .un, .un]).bind (outM false) = _
  unfold ir__law_fit_v2
  have ls : ((X.length : Int) = (Y.length : Int)) = True := by rw [l1, l2]; simp
  rw [b_cons']; conv in evS _ _ => simp [hr, EvL.putAll]
  rw [Option.bind_some, onNext_nx, b_cons']; conv in evS _ _ => simp [isD, ls]
  have i1 : evs [(.var 1)] [.fz (tabD n T), .fz (.tuple X), .ow false Y, .ow false [], .un, .un, .un, .un] = some ([.tuple X], [.fz (tabD n T), .fz (.tuple X), .ow false Y, .ow false [], .un, .un, .un, .un]) := by simp
  rw [Option.bind_some, onNext_nx, b_cons', v_fr, i1, Option.bind_some]
  simp only [it_seqT, Option.bind_some, e1, onNext_nx]
  have i2 : evs [(.lenv 3)] [.fz (tabD n T), .fz (.tuple X), .ow false Y, .ow false Z, s4', .un, .un, .un] = some ([.int (hangL n T).length], [.fz (tabD n T), .fz (.tuple X), .ow false Y, .ow false Z, s4', .un, .un, .un]) := by rw [← l3]; simp
  rw [b_cons', v_fr, i2, Option.bind_some]
  simp only [it_r1 (show -1000000 ≤ ((hangL n T).length : Int) ∧ ((hangL n T).length : Int) ≤ 1000000 by omega), Option.bind_some, rng0, e2, onNext_nx]
  simp
end Pk
end EvL

set_option Elab.async false
set_option linter.all false
set_option maxRecDepth 100000
set_option maxHeartbeats 1900000
namespace EvL
open PySem PySem.Spec PyProof.Rows L2 Pk
theorem sum_bent (n : Nat) (f : Nat → GQ) : (Po.sum n f).bent = Po.sum n fun i => (f i).bent := by
  induction n with
  | zero => show (0 : GQ).bent = 0; ext <;> simp
  | succ n ih => rw [Po.sum_succ, Po.sum_succ, bent_add, ih]
theorem out_bent {n : Nat} {T : Nat → Nat → GQ} (hH : Herm T) (c d : Nat → GQ) : outT n T d c = (outT n T c d).bent := by
  have e1 : (outT n T c d).bent = Po.sum n fun j => Po.sum n fun i => d j * T j i * (c i).bent := by
    show (Po.sum n fun j => mulT n c T j * (d j).bent).bent = _
    rw [sum_bent]
    refine Po.sum_congr fun j _ => ?_
    show ((Po.sum n fun i => c i * T i j) * (d j).bent).bent = _
    rw [bent_mul, sum_bent, bent_bent', ← po_mul]
    refine Po.sum_congr fun i _ => ?_
    rw [bent_mul, ← hH i j]; grind
  have e2 : outT n T d c = Po.sum n fun i => Po.sum n fun j => d j * T j i * (c i).bent := by
    show (Po.sum n fun i => mulT n d T i * (c i).bent) = _
    refine Po.sum_congr fun i _ => ?_
    show (Po.sum n fun j => d j * T j i) * (c i).bent = _
    rw [← po_mul]
  rw [e1, e2, Po.sum_swap]
theorem list_range {α : Type} (x0 : α) (l : List α) : l = (List.range l.length).map fun i => l.getD i x0 := by
  refine List.ext_getElem? fun i => ?_
  rw [List.getElem?_map]
  by_cases h : i < l.length
  · rw [List.getElem?_range h, List.getElem?_eq_getElem h]
    simp [List.getD, List.getElem?_eq_getElem h]
  · rw [List.getElem?_eq_none (by omega), List.getElem?_eq_none (by simp; omega)]; rfl
/-- a drawn table with a told common whole number -/
structure Dt (n : Nat) (T : Nat → Nat → GQ) : Prop where
  herm : Herm T
  size : ∃ d : Int, 0 < d ∧ Sz 54 d ∧ Tz n d 54 T
theorem Dt.gz {n : Nat} {T : Nat → Nat → GQ} (h : Dt n T) : ∀ i j, i < n → j < n → Gz 60 (T i j) := fun i j hi hj => let ⟨d, d0, hd, hT⟩ := h.size; (hT i j hi hj).gz' d0 (by decide) (hd.mono (by decide))
theorem led_dt {m n : Nat} {H : Nat → Nat → GQ} {ms : List Vc} (hm : m ≤ 5) (hH : Herm H) (hT : Tz m 2520 34 H) (hms : ∀ c ∈ ms, ∀ i, i < m → Cz 2 4 (c i)) (hl : ms.length = n) : Dt n fun i j => outT m H (ms.getD i fun _ => 0) (ms.getD j fun _ => 0) where
  herm := fun i j => out_bent hH _ _
  size := by
    have g : ∀ i, ∀ k, k < m → Cz 2 4 ((ms.getD i fun _ => 0) k) := fun i k hk => by
      by_cases h : i < ms.length
      · have : ms.getD i (fun _ => 0) ∈ ms := by simp [List.getD, List.getElem?_eq_getElem h]
        exact hms _ this k hk
      · have : ms.getD i (fun _ => 0) = fun _ => 0 := by simp [List.getD, List.getElem?_eq_none (show ms.length ≤ i by omega)]
        rw [this]; exact Cz.zero _ _
    refine ⟨2 * 2520 * 2, by decide, (Sz.lit (b := 14) (by decide)).mono (by decide), fun i j hi hj => ?_⟩
    have a : ∀ k, k < m → Cz (2 * 2520) 44 (mulT m (ms.getD i fun _ => 0) H k) := fun k hk => (Cz.sum (b := 39) fun q hq => (g i q hq).mul (hT q k hq hk) (by decide) (by decide)).mono (by omega)
    exact (Cz.sum (b := 49) fun k hk => (a k hk).mul (g j k hk).bent (by decide) (by decide)).mono (by omega)
namespace Pk
theorem small_rows {c : Int} {l0 l : List D} {n m : Nat} (h : F1.Pail c l) (hc : c + 30 * n < 1000000) (hm : m ≤ 5) (hn : n ≤ 5) :
    ∃ (ms : List Vc) (l' : List D), evX (.lc [3] (.nm 3) .rng1 [(.var 1)] [] (.lc [4] (.nm 4) .rng1 [(.var 2)] [] (.callm Pk._law_small 0 []))) [.ow true l, .fz (.int n), .fz (.int m), .un, .un] = some (.ow (ms.map fun c => .list (vN m c)), [.ow true l', .fz (.int n), .fz (.int m), .un, .un]) ∧ ms.length = n ∧ (∀ c ∈ ms, ∀ i, i < m → Cz 2 4 (c i)) ∧ F1.Pail (c + 30 * n) l' := by
  obtain ⟨ys, l', e, hl, hR, hp⟩ := lc_draws (vs := [3]) (t := .nm 3) (k := .rng1) (its := [(.var 1)]) (elt := (.lc [4] (.nm 4) .rng1 [(.var 2)] [] (.callm Pk._law_small 0 []))) (l0 := l) (l := l) (rest := [.fz (.int n), .fz (.int m), .un, .un]) (ds := [.int n]) (xs := rngD 0 n) (c := c) (K := 30) (fun y => ∃ c : Vc, y = .list (vN m c) ∧ ∀ i, i < m → Cz 2 4 (c i))
    (by simp) (it_r1 (by omega)) (by rw [rng_len]; omega) h (fun j l x hx hp => by
      obtain ⟨hj, rfl⟩ := rng_get hx
      obtain ⟨z, l2, e2, z1, h2⟩ := smalls_lc (its := [(.var 2)]) (l0 := l) (v := 3) (rest := [.fz (.int n), .fz (.int m), .fz (.int j), .un]) (n := m) hp (by omega) (by omega) rfl (by simp)
      exact ⟨[.ow true l, .fz (.int n), .fz (.int m), .fz (.int j), .un], .ow (vN m z), l2, [.ow true l2, .fz (.int n), .fz (.int m), .fz (.int j), .un], by simp [wipeG], e2, ⟨z, rfl, z1⟩, by simp [wipeG], by have := h2.up (d := c + 30 * ((j + 1 : Nat) : Int)) (by omega); exact this⟩)
  rw [rng_len] at hl hp
  obtain ⟨ms, rfl, hl2, hm2⟩ := maps_of hR
  refine ⟨ms, l', ?_, by rw [hl2, hl]; simp, hm2, by simpa using hp⟩
  rw [e]
  simp [backG]
theorem flat_run {c : Int} {l : List D} {n : Nat} (h : F1.Pail c l) (hc : c + 700 < 1000000) (hn : n ≤ 5) :
    ∃ (T : Nat → Nat → GQ) (r : RV) (l' : List D), _law_flat.run [.list l, .int n] = some (r, l') ∧ (r = .oo (tabN n T) ∨ r = .ow ((List.range n).map fun i => .list (vN n (T i)))) ∧ Dt n T ∧ F1.Pail (c + 600) l' := by
  obtain ⟨w, l1, e1, w0, w1, h1⟩ := draw_run (m := 3) h (by omega) (by decide) (by decide)
  rw [run__law_flat, run1 (np := 2) (n := 5) (ds := [.int n]) rfl]
  show ∃ T r l', (evB ir__law_flat [.ow true l, .fz (.int n), .un, .un, .un]).bind (outM true) = _ ∧ _
  unfold ir__law_flat
  by_cases hw : w = 0
  · obtain ⟨T, l2, e2, hH, hT, h2⟩ := drawn_table_run (n := n) h1 (by omega) (by omega)
    refine ⟨T, .oo (tabN n T), l2, ?_, .inl rfl, ⟨hH, 2520, by decide, (Sz.lit (b := 12) (by decide)).mono (by decide), fun i j hi hj => (hT i j hi hj).mono (by decide)⟩, h2.up (by omega)⟩
    rw [b_cons']; conv in evS _ _ => simp [e1, hw, e2]
    rw [Option.bind_some, onNext_rt]
    rfl
  · obtain ⟨m0, l2, e2, m0', m1, h2⟩ := draw_run (m := (n : Int) + 1) h1 (by omega) (by omega) (by omega)
    obtain ⟨m, rfl⟩ : ∃ m : Nat, m0 = m := ⟨m0.toNat, by omega⟩
    have hm : m ≤ 5 := by omega
    obtain ⟨H, l3, e3, hH, hT, h3⟩ := hermite_run (n := m) h2 (by omega) (by omega)
    obtain ⟨ms, l4, e4, hl, hms, h4⟩ := small_rows (l0 := l3) (n := n) (m := m) h3 (by omega) hm hn
    have ld := lled_run (n := m) (T := H) (ms := ms) ⟨hT, by omega⟩ (fun c hc => cv_small (hms c hc)) (by omega)
    have em : PyData.list (ms.map fun c => .list (vN m c)) = msN m ms := rfl
    refine ⟨fun i j => outT m H (ms.getD i fun _ => 0) (ms.getD j fun _ => 0), .ow (ms.map fun c => .list (ms.map fun d => tN (outT m H c d))), l4, ?_, .inr ?_, led_dt hm hH hT hms hl, h4.up (by omega)⟩
    · rw [b_cons']; conv in evS _ _ => simp [e1, hw]
      rw [Option.bind_some, onNext_nx, b_cons']; conv in evS _ _ => simp [e2]
      rw [Option.bind_some, onNext_nx]
      simp [e3, e4, tabN_list, em, ld]
    · congr 1
      have lr := list_range (fun _ => (0 : GQ)) ms
      rw [hl] at lr
      conv => lhs; rw [lr]
      rw [List.map_map]
      refine List.map_congr_left fun i _ => ?_
      show PyData.list (((List.range n).map fun i => ms.getD i fun _ => 0).map fun d => tN (outT m H (ms.getD i fun _ => 0) d)) = _
      rw [List.map_map]; rfl
theorem null_mixes_run {n : Nat} {T : Nat → Nat → GQ} (hn : n ≤ 5) (h : Dt n T) : null_mixes.run [tabG n T] = some (.fz (.tuple (mxD n (nullS n T n).2)), []) := by
  have r := null_by_run hn h.gz
  have k := check_table_run h.herm (show n ≤ 6 by omega)
  rw [run_null_mixes]
  simp [runB, List.replicate, ir_null_mixes, r, k]
theorem rank_any_run {n : Nat} {T : Nat → Nat → GQ} (hn : n ≤ 5) (h : Dt n T) : rank_of.run [tabG n T] = some (.fz (.int ((n : Int) - ((nullS n T n).2.length : Int))), []) := by
  have r := null_by_run hn h.gz
  have k := check_table_run h.herm (show n ≤ 6 by omega)
  have len : biD .len [tabG n T] = some (.fz (.int n)) := by simp [tabG]
  have l2 : (mxD n (nullS n T n).2).length = (nullS n T n).2.length := by simp [mxD]
  rw [run_rank_of]
  simp [runB, List.replicate, ir_rank_of, r, k, len, l2]
theorem togetherW {n : Nat} {T : Nat → Nat → GQ} {c d : Nat → GQ} {K M M2 : Int} (hH : Herm T) (h : Wz n T c K M) (hd : ∀ i, i < n → Gz 50000 (d i)) (m0 : 0 < M2) (ms : Sz 100000 M2) (cm : ∀ j, j < n → Cz M2 80000 (mulT n c T j * (d j).bent)) : come_out_together.run [tabG n T, .tuple (vG n c), .tuple (vG n d)] = some (.fz (gD (outT n T c d)), []) := by
  have hn := h.n6
  have k1 := check_table_run hH hn
  have k2 := check_mix_run (n := n) (T := T) c (by omega)
  have k3 := check_mix_run (n := n) (T := T) d (by omega)
  have r1 := mix_timesW h
  have r2 := mix_mirrored_run (n := n) d (by omega)
  have r3 := inner_run (n := n) (x := mulT n c T) (y := fun j => (d j).bent) (K := M2) (B := 80000) (d := .tuple (vG n (mulT n c T))) (e := .tuple (vG n fun j => (d j).bent)) (fun j hj => (h.gm hj).mono (by decide)) (fun j hj => (hd j hj).bent.mono (by decide)) (fun j hj => cm j hj) m0 (ms.mono (by decide)) (by omega) rfl rfl
  have r4 : out_together.run [tabG n T, .tuple (vG n c), .tuple (vG n d)] = some (.fz (gD (outT n T c d)), []) := by
    rw [run_out_together]
    simp [runB, List.replicate, ir_out_together, r1, r2, r3]
    rfl
  rw [run_come_out_together]
  simp [runB, List.replicate, ir_come_out_together, k1, k2, k3, r4]
end Pk
theorem mx_add {n X : Nat} {c m : Vc} {x : GQ} (hc : Mx n X c) (hm : Mx n 1800 m) (hx : Cz 2 4 x) : Mx n (X + 1810) fun i => c i + x * m i := by
  obtain ⟨D, D0, sD, h⟩ := hc
  obtain ⟨E, E0, sE, g⟩ := hm
  have p2 : 0 < 2 * E := by omega
  refine ⟨D * (2 * E), Int.mul_pos D0 p2, (sD.mul ((Sz.lit (b := 2) (i := 2) (by decide)).mul sE)).mono (by omega), fun i hi => ?_⟩
  have a := (h i hi).up (k := 2 * E) (c := 1802) (by omega) (by omega) (((Sz.lit (b := 2) (i := 2) (by decide)).mul sE).mono (by omega)) rfl
  have b := (hx.mul (g i hi) (by decide) (by omega)).up (k := D) (c := X) (e := D * (2 * E)) (by omega) (by omega) sD (by rw [Int.mul_comm])
  exact (a.add b).mono (by omega)
end EvL

set_option Elab.async false
set_option linter.all false
set_option maxRecDepth 100000
set_option maxHeartbeats 8000000
namespace K36
open PySem PySem.Spec PyProof.Rows L2 EvL
def S__law_right_0 : IS := (.set 1 (.callm Pk._law_many 0 []))
def S__law_right_1 : IS := (.set 2 (.callm Pk._law_flat 0 [(.var 1)]))
def S__law_right_2 : IS := (.par [3, 4] [(.call Pk._law_tab Pk.E__law_tab_1.pm [(.var 2)]), (.call Pk.null_mixes Pk.E_null_mixes_1.pm [(.call Pk._law_tab Pk.E__law_tab_1.pm [(.var 2)])])])
def S__law_right_3 : IS := (.ife (.or (.not (.call Pk._law_fit_v2 Pk.E__law_fit_v2_2.pm [(.var 2), (.var 4)])) (.cmp .ne (.bi .repr [(.call Pk.null_mixes Pk.E_null_mixes_0_table.pm [(.var 3)])]) (.bi .repr [(.var 4)]))) [(.ret (.cst (.bool false)))] [])
def S__law_right_4 : IS := (.ife (.cmp .ne (.bi .repr [(.lst [(.call Pk.rank_of Pk.E_rank_of_1.pm [(.var 3)]), (.call Pk.rank_of Pk.E_rank_of_0_table.pm [(.var 3)])])]) (.bi .repr [(.bin .mul (.lst [(.bin .sub (.var 1) (.lenv 4))]) (.cst (.int (2))))])) [(.ret (.cst (.bool false)))] [])
def S__law_right_5 : IS := (.par [5, 6] [(.bin .mul (.lst [(.tup [(.cst (.int (0))), (.cst (.int (0))), (.cst (.int (1)))])]) (.var 1)), (.lc [10] (.nm 10) .rng1 [(.var 1)] [] (.callm Pk._law_small 0 []))])
def S__law_right_6 : IS := (.fr (.nm 7) .seq [(.var 4)] [(.set 8 (.callm Pk._law_small 0 [])), (.set 5 (.lc [10] (.nm 10) .rng1 [(.var 1)] [] (.call Pk._law_plus Pk.E__law_plus_2.pm [(.ixv 5 (.var 10)), (.call Pk._law_times_v2 Pk.E__law_times_v2_2.pm [(.var 8), (.call Pk._law_read Pk.E__law_read_1.pm [(.ixv 7 (.var 10))])])])))])
def S__law_right_7 : IS := (.ife (.cmp .ne (.bi .repr [(.call Pk.comes_out Pk.E_comes_out_2.pm [(.var 3), (.call Pk._law_line Pk.E__law_line_1.pm [(.var 5)])])]) (.bi .repr [(.tup [(.cst (.int (0))), (.cst (.int (1)))])])) [(.ret (.cst (.bool false)))] [])
def S__law_right_8 : IS := (.set 9 (.tup [(.tup [(.cst (.int (0))), (.cst (.int (1)))]), (.tup [(.cst (.int (0))), (.cst (.int (1)))])]))
def S__law_right_9 : IS := (.ret (.cmp .eq (.bi .repr [(.lst [(.call Pk.come_out_together Pk.E_come_out_together_3.pm [(.var 3), (.call Pk._law_line Pk.E__law_line_1.pm [(.var 5)]), (.call Pk._law_line Pk.E__law_line_1.pm [(.var 6)])]), (.call Pk.come_out_together Pk.E_come_out_together_3.pm [(.var 3), (.call Pk._law_line Pk.E__law_line_1.pm [(.var 6)]), (.call Pk._law_line Pk.E__law_line_1.pm [(.var 5)])])])]) (.bi .repr [(.lst [(.var 9), (.var 9)])])))
theorem S__law_right : ir__law_right = [S__law_right_0, S__law_right_1, S__law_right_2, S__law_right_3, S__law_right_4, S__law_right_5, S__law_right_6, S__law_right_7, S__law_right_8, S__law_right_9] := rfl
abbrev bodyC : List IS := [(.set 8 (.callm Pk._law_small 0 [])), (.set 5 (.lc [10] (.nm 10) .rng1 [(.var 1)] [] (.call Pk._law_plus Pk.E__law_plus_2.pm [(.ixv 5 (.var 10)), (.call Pk._law_times_v2 Pk.E__law_times_v2_2.pm [(.var 8), (.call Pk._law_read Pk.E__law_read_1.pm [(.ixv 7 (.var 10))])])])))]
theorem c_loop {c0 : Int} {l : List D} {n : Nat} {T : Nat → Nat → GQ} {M : Nat → Vc} {H : List Nat} {s2 s3 s4 s6 : MV} (h : F1.Pail c0 l) (hc : c0 + 100 < 1000000) (hn : n ≤ 5) (hl : H.length ≤ n) (hM : ∀ k ∈ H, Mx n 1800 (M k)) (hz : ∀ k ∈ H, ∀ j, j < n → Pk.mulT n (M k) T j = 0) :
    ∃ (s7 s8 : MV) (c : Vc) (l' : List D), evF (.nm 7) (evB bodyC) (H.map fun k => .tuple (vG n (M k))) [.ow true l, .fz (.int n), s2, s3, s4, .ow false (vN n fun _ => 0), s6, .un, .un, .un, .un] = some (.nx [.ow true l', .fz (.int n), s2, s3, s4, .ow false (vN n c), s6, s7, s8, .un, .un]) ∧ Mx n 9100 c ∧ (∀ j, j < n → Pk.mulT n c T j = 0) ∧ F1.Pail (c0 + 30) l' := by
  obtain ⟨Γ', e, s7, s8, c, l', rfl, hX, h0, hp⟩ := evF_all (f := fun k => PyData.tuple (vG n (M k))) (t := .nm 7) (b := evB bodyC) (l := H) (Γ := [.ow true l, .fz (.int n), s2, s3, s4, .ow false (vN n fun _ => 0), s6, .un, .un, .un, .un])
    (fun p Γ => ∃ (s7 s8 : MV) (c : Vc) (l' : List D), Γ = [.ow true l', .fz (.int n), s2, s3, s4, .ow false (vN n c), s6, s7, s8, .un, .un] ∧ Mx n (10 + 1810 * p.length) c ∧ (∀ j, j < n → Pk.mulT n c T j = 0) ∧ F1.Pail (c0 + 5 * p.length) l')
    ⟨.un, .un, fun _ => 0, l, rfl, ⟨1, by decide, (Sz.lit (b := 1) (by decide)).mono (by omega), fun i hi => Cz.zero _ _⟩, fun j hj => po_zero fun i hi => by grind, by simpa using h⟩
    (fun p k q Γ hp ⟨s7, s8, c, l1, hG, hX, h0, h1⟩ => by
      subst hG
      have hk : k ∈ H := by rw [hp]; simp
      have mk := hM k hk
      have zk := hz k hk
      have lp : p.length ≤ 5 := by have := congrArg List.length hp; simp at this; omega
      obtain ⟨x, l2, e1, x1, h2⟩ := Pk.small_run h1 (by omega)
      have gx : Gz 20 x := x1.gz' (by decide) (by decide) ((Sz.lit (b := 2) (by decide)).mono (by decide))
      have e2 := lc_map (f := fun (i : Nat) => PyData.int i) (g := fun i => tN (c i + x * M k i)) (vs := [10]) (t := .nm 10) (k := .rng1) (its := [(.var 1)]) (elt := (.call Pk._law_plus Pk.E__law_plus_2.pm [(.ixv 5 (.var 10)), (.call Pk._law_times_v2 Pk.E__law_times_v2_2.pm [(.var 8), (.call Pk._law_read Pk.E__law_read_1.pm [(.ixv 7 (.var 10))])])])) (Γ := [.ow true l2, .fz (.int n), s2, s3, s4, .ow false (vN n c), s6, .fz (.tuple (vG n (M k))), .fz (tN x), .un, .un]) (Γ1 := [.ow true l2, .fz (.int n), s2, s3, s4, .ow false (vN n c), s6, .fz (.tuple (vG n (M k))), .fz (tN x), .un, .un]) (ds := [.int n]) (l := List.range n) (by simp) (by rw [it_r1 (by omega), rng0]) (by simp; omega) (fun i hi => by
        have hi := List.mem_range.mp hi
        have r1 := Pk.read_run ((mk.gz hi).mono (show 1800 ≤ 1900000 by decide))
        have r2 := Pk.times2_run (gx.mono (show 20 ≤ 1900000 by decide)) ((mk.gz hi).mono (show 1800 ≤ 1900000 by decide))
        have r3 := Pk.plus_run ((hX.gz hi).mono (show 10 + 1810 * p.length ≤ 1900000 by omega)) ((gx.mul (mk.gz hi)).mono (show 20 + 1800 + 1 ≤ 1900000 by decide))
        exact ⟨[.ow true l2, .fz (.int n), s2, s3, s4, .ow false (vN n c), s6, .fz (.tuple (vG n (M k))), .fz (tN x), .un, .fz (.int i)], .fz (tN (c i + x * M k i)), [.ow true l2, .fz (.int n), s2, s3, s4, .ow false (vN n c), s6, .fz (.tuple (vG n (M k))), .fz (tN x), .un, .fz (.int i)], by simp [wipeG], by simp [vN_ix c hi rfl, vG_ix (M k) hi rfl, r1, r2, r3], rfl, by simp [wipeG]⟩)
      have ev : (List.range n).map (fun i => tN (c i + x * M k i)) = vN n fun i => c i + x * M k i := rfl
      rw [ev] at e2
      simp only [backG] at e2
      refine ⟨[.ow true l1, .fz (.int n), s2, s3, s4, .ow false (vN n c), s6, .fz (.tuple (vG n (M k))), s8, .un, .un], [.ow true l2, .fz (.int n), s2, s3, s4, .ow false (vN n fun i => c i + x * M k i), s6, .fz (.tuple (vG n (M k))), .fz (tN x), .un, .un], by simp, .inl ?_, _, _, _, _, rfl, ?_, fun j hj => ?_, ?_⟩
      · rw [b_cons']; conv in evS _ _ => simp [e1]
        rw [Option.bind_some, onNext_nx]
        simp [e2]
      · rw [List.length_append, List.length_singleton, show 10 + 1810 * (p.length + 1) = 10 + 1810 * p.length + 1810 by omega]
        exact mx_add hX mk x1
      · show (Po.sum n fun i => (c i + x * M k i) * T i j) = 0
        have s : (fun i => (c i + x * M k i) * T i j) = fun i => c i * T i j + x * (M k i * T i j) := by funext i; grind
        have a : (Po.sum n fun i => c i * T i j) = 0 := h0 j hj
        have b : (Po.sum n fun i => M k i * T i j) = 0 := zk j hj
        rw [s, Po.sum_add, Po.sum_mul, a, b]; grind
      · rw [List.length_append, List.length_singleton]
        exact h2.up (by omega))
  exact ⟨s7, s8, c, l', e, hX.mono (by omega), h0, hp.up (by omega)⟩
theorem ints2 {a : Int} (h : Sz 10 a) : reprOk (.list [.int a, .int a]) = true := reprL (k := 0) (n := 700) (all_cons ((Sh.int h (by decide)).w.mono (by decide) (by decide)) (all_cons ((Sh.int h (by decide)).w.mono (by decide) (by decide)) all_nil)) (by decide) (by simp) (by decide)
theorem right_run {l : List D} (h : F1.Pail 0 l) : ∃ l', d__law_right.f.run [.list l] = some (.fz (.bool true), l') := by
  obtain ⟨n, l1, e1, hn, h1⟩ := Pk.many_run h (by omega)
  have hn6 : n ≤ 6 := by omega
  obtain ⟨T, r, l2, e2, hr, dt, h2⟩ := Pk.flat_run (n := n) h1 (by omega) hn
  obtain ⟨d, d0, sd, tz⟩ := dt.size
  have hH := dt.herm
  have t1 := Pk.tab_run dt.gz (by decide) (show n ≤ 1000 by omega)
  have nm := Pk.null_mixes_run hn dt
  have rk := Pk.rank_any_run hn dt
  have ft := Pk.fit_run hn d0 sd tz
  have em : Pk.mxD n (Pk.nullS n T n).2 = (hangL n T).map fun k => .tuple (vG n (nullM n T k)) := by rw [null_ms]; unfold Pk.mxD; rw [List.map_map]; rfl
  have hll := hang_len n T
  have lms : (Pk.nullS n T n).2.length = (hangL n T).length := by rw [null_ms, List.length_map]
  rw [lms] at rk
  have mx : ∀ k ∈ hangL n T, Mx n 1800 (nullM n T k) := fun k hk => null_mx hn d0 sd tz (hang_lt hk).1
  have zr : ∀ k ∈ hangL n T, ∀ j, j < n → Pk.mulT n (nullM n T k) T j = 0 := fun k hk => (null_mix (hang_lt hk).1 (hang_lt hk).2).2
  rw [em] at nm ft
  have k1 : reprOk (.tuple ((hangL n T).map fun k => .tuple (vG n (nullM n T k)))) = true := reprOk_w (shw_rows (k := 3) (n := 20000) (f := fun k => PyData.tuple (vG n (nullM n T k))) (fun k hk => shv (fun i hi => (mx k hk).gz hi) (by decide) hn6) (by omega)) rfl (by decide) (by decide)
  have k2 : reprOk (.list [.int ((n : Int) - ((hangL n T).length : Int)), .int ((n : Int) - ((hangL n T).length : Int))]) = true := ints2 (Sz.of_lt (by omega) (by omega))
  obtain ⟨m, l3, e3, hm, h3⟩ := Pk.smalls_lc (n := n) (v := 9) (its := [(.var 1)]) (l0 := l2) (rest := [.fz (.int n), .fz (tabD n T), .fz (tabG n T), .fz (.tuple ((hangL n T).map fun k => .tuple (vG n (nullM n T k)))), .un, .un, .un, .un, .un, .un]) h2 (by omega) (by omega) rfl (by simp)
  obtain ⟨s7, s8, c, l4, e4, cX, c0, h4⟩ := c_loop (T := T) (M := nullM n T) (H := hangL n T) (s2 := .fz (tabD n T)) (s3 := .fz (tabG n T)) (s4 := .fz (.tuple ((hangL n T).map fun k => .tuple (vG n (nullM n T k))))) (s6 := .ow false (vN n m)) h3 (by omega) hn hll mx zr
  have lT : ((hangL n T).map fun k => PyData.tuple (vG n (nullM n T k))).length = (hangL n T).length := by simp
  obtain ⟨K, L, wc⟩ := mx_wz hn6 d0 sd tz cX (by decide)
  have md : Mx n 4 m := ⟨2, by decide, Sz.lit (by decide), hm⟩
  obtain ⟨K2, L2, wm⟩ := mx_wz hn6 d0 sd tz md (by decide)
  have lc := Pk.vline_run (n := n) (m := c) (fun i hi => (cX.gz hi)) (by decide) (by omega)
  have lm := Pk.vline_run (n := n) (m := m) (fun i hi => (md.gz hi)) (by decide) (by omega)
  have oc : Pk.outT n T c c = 0 := po_zero fun j hj => by rw [c0 j hj]; grind
  have ocm : Pk.outT n T c m = 0 := po_zero fun j hj => by rw [c0 j hj]; grind
  have omc : Pk.outT n T m c = 0 := by rw [out_bent hH c m, ocm]; ext <;> simp
  have co := Pk.comes_outW hH wc
  rw [oc] at co
  have w1 := Pk.togetherW (d := m) (M2 := 1) hH wc (fun i hi => (md.gz hi).mono (by decide)) (by decide) ((Sz.lit (b := 1) (by decide)).mono (by decide)) (fun j hj => by rw [c0 j hj, show (0 : GQ) * (m j).bent = 0 by grind]; exact Cz.zero _ _)
  rw [ocm] at w1
  have w2 : Pk.come_out_together.run [tabG n T, .tuple (vG n m), .tuple (vG n c)] = some (.fz (gD (Pk.outT n T m c)), []) := by
    obtain ⟨D, D0, sD, hD⟩ := cX
    refine Pk.togetherW (d := c) (M2 := 2 * d * D) hH wm (fun i hi => ((hD i hi).gz D0 sD).mono (by decide)) (Int.mul_pos (by omega) D0) ((((Sz.lit (b := 2) (i := 2) (by decide)).mul sd).mul sD).mono (by omega)) (fun j hj => ?_)
    have a : Cz (2 * d) (59 + n) (Pk.mulT n m T j) := Cz.sum fun i hi => (hm i hi).mul (tz i j hi hj) (by decide) (by omega)
    exact (a.mul (hD j hj).bent (by omega) (by omega)).mono (by omega)
  rw [omc] at w2
  have q0 : qD (GQ.re 0) = .tuple [.int 0, .int 1] := rfl
  have g0 : gD 0 = .tuple [.tuple [.int 0, .int 1], .tuple [.int 0, .int 1]] := rfl
  rw [q0] at co
  rw [g0] at w1 w2
  have k3 : reprOk (.tuple [.int 0, .int 1]) = true := by rw [← q0]; exact reprOk_w (shq (b := 10) (r := 0) ⟨Sz.of_lt (by decide) (by decide), Sz.of_lt (by decide) (by decide)⟩ (by decide)) rfl (by decide) (by decide)
  have sg := shg (b := 10) (z := 0) (Gz.zero (by decide)) (by decide)
  have k4 : reprOk (.list [.tuple [.tuple [.int 0, .int 1], .tuple [.int 0, .int 1]], .tuple [.tuple [.int 0, .int 1], .tuple [.int 0, .int 1]]]) = true := by rw [← g0]; exact reprL (all_cons sg (all_cons sg all_nil)) (by decide) (by simp) (by decide)
  have mr := Pk.mul_rep (k := n) (tN 0) (by omega)
  have er : List.replicate n (tN 0) = vN n fun _ => 0 := by unfold vN; rw [List.map_const']; simp
  rw [er] at mr
  have m2 : ∀ d : D, binD .mul (.list [d]) (.int 2) = some (.ow [d, d]) := fun d => Pk.mul_rep (k := 2) d (by decide)
  generalize ((hangL n T).map fun k => PyData.tuple (vG n (nullM n T k))) = X at *
  refine ⟨l4, ?_⟩
  rw [run__law_right, run1 (np := 1) (n := 11) (ds := []) rfl, S__law_right]
  show (evB _ [.ow true l, .un, .un, .un, .un, .un, .un, .un, .un, .un, .un]).bind (outM true) = _
  rw [b_cons']; conv in evS _ _ => simp [S__law_right_0, e1]
  rw [Option.bind_some, onNext_nx, b_cons']; conv in evS _ _ => simp [S__law_right_1, e2]
  have c2 : evS S__law_right_2 [.ow true l2, .fz (.int n), r.mv, .un, .un, .un, .un, .un, .un, .un, .un] = some (.nx [.ow true l2, .fz (.int n), .fz (tabD n T), .fz (tabG n T), .fz (.tuple X), .un, .un, .un, .un, .un, .un]) := by
    have er : PyData.list ((List.range n).map fun i => .list (vN n (T i))) = tabD n T := rfl
    rcases hr with rfl | rfl
    · simp [S__law_right_2, tabN_list, t1, nm, EvL.putAll]
    · simp [S__law_right_2, er, t1, nm, EvL.putAll]
  rw [Option.bind_some, onNext_nx, b_cons', c2, Option.bind_some, onNext_nx, b_cons']; conv in evS _ _ => simp [S__law_right_3, ft, nm, k1]
  rw [Option.bind_some, onNext_nx, b_cons']; conv in evS _ _ => simp [S__law_right_4, rk, lT, m2, k2]
  rw [Option.bind_some, onNext_nx, b_cons']; conv in evS _ _ => simp [S__law_right_5, Pk.tN0, mr, e3, EvL.putAll]
  have i1 : evs [(.var 4)] [.ow true l3, .fz (.int n), .fz (tabD n T), .fz (tabG n T), .fz (.tuple X), .ow false (vN n fun _ => 0), .ow false (vN n m), .un, .un, .un, .un] = some ([.tuple X], [.ow true l3, .fz (.int n), .fz (tabD n T), .fz (tabG n T), .fz (.tuple X), .ow false (vN n fun _ => 0), .ow false (vN n m), .un, .un, .un, .un]) := by simp
  rw [Option.bind_some, onNext_nx, b_cons', S__law_right_6, v_fr, i1, Option.bind_some]
  simp only [it_seqT, Option.bind_some]
  rw [e4, Option.bind_some, onNext_nx, b_cons']; conv in evS _ _ => simp [S__law_right_7, lc, co, k3]
  rw [Option.bind_some, onNext_nx, b_cons']; conv in evS _ _ => simp [S__law_right_8]
  rw [Option.bind_some, onNext_nx, b_cons']; conv in evS _ _ => simp [S__law_right_9, lc, lm, w1, w2, k4]
  rw [Option.bind_some, onNext_rt]
  rfl
theorem main : ∀ ns : List Int, ns.length ≤ 63 → (∀ k ∈ ns, Builtin.Int.intBits k ≤ 1048576) → d_law.f.run [.list (ns.map .int)] = some (.fz (.bool true), []) := by
  intro ns hl hb
  rw [run_law]
  exact Pk.law_mainG rfl (fun ns hl => Pk.laps_ev hl) (fun l h => right_run h) ns hl hb
end K36

open PySem PySem.W PySem.Calls PyProof.Rows
theorem PySem.Challenge.cw_rimseries_k36_whole_null_mixes_and_rank_holds : PySem.Challenge.rw_rimseries_k36_whole_null_mixes_and_rank.Holds := by
  w_on; o_law
  refine HandSHeadRun.head_imp (r := OpenLaw.row PySem.Challenge.rw_rimseries_k36_whole_null_mixes_and_rank) (q := K36.vw) (H := EvL.hookN 6 K36.asked) (ob := EvL.obsT 6 K36.asked) (M := 20000) (loose := K36.loose) (d := HandSHeadRun.topDef (OpenLaw.row PySem.Challenge.rw_rimseries_k36_whole_null_mixes_and_rank).prog 86) (kwd := []) (EvL.obsT_eq 6 _)
    K36.run (by kernel_rfl) (by kernel_rfl) (by kernel_rfl) (by rfl) (by first | assumption | decide +kernel) (by decide +kernel) ⟨rfl, rfl, rfl, rfl, rfl, by decide +kernel⟩ ?hw ?hc
  case hw => w_witness2
  case hc =>
    refine EvL.walk_NB (l := PySem.Challenge.rw_rimseries_k36_whole_null_mixes_and_rank) (n := 63) (k := 10) (D0 := K36.d_law) (x := "script") rfl (by decide) (by kernel_rfl) ⟨rfl, by decide, by decide⟩ rfl rfl (by decide +kernel) (fun w mg h K X G c => ?_) K36.main
    have e : (HandSHeadRun.topDef (OpenLaw.row PySem.Challenge.rw_rimseries_k36_whole_null_mixes_and_rank).prog 86).name = ("law" : PySem.Str) := by kernel_rfl
    rw [e]
    exact K36.table rfl X G c

