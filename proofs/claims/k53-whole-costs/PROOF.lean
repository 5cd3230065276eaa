import PyProof.Rows.All
import Wide.All
import OpenK.AllK
import Wide.FinOn
import HandS.ForMost
import HandS.ForExc
import HandS.Deep
import HandS.TupAny
import HandS.TupMul
import HandS.Style
import HandS.Walk
import HandS.Zip
import HandS.IsInst
import HandS.ExcIs
import HandS.Wide
import KE.KeyNested
import KE.KDictPairs
import KE.KDictKeyed
import KE.SortData
import HandS.HeadHook1
import HandS.Lambda
import HandS.Dict
import HandS.Strs
import PyProof.TupleOfStr
import PyProof.ListStr
import HandS.Conv
import KE.GoesMore
import KE.GoesZip
import KE.GoesEnum
import KE.KDictZip
import HandS.Star
import HandS.HeadHook2
import HandS.Codes
import HandS.HotCalls
import HandS.Head0
import HandS.Head1
import HandS.Head2
import HandS.HeadEnd
import HandS.HeadHook3
import HandS.HeadHook4
import HandS.HeadWalk
import KE.KStateDown
import PySem.Challenge.RW_fullpipes_k53_whole_costs
set_option Elab.async false
set_option linter.all false
set_option maxRecDepth 100000
/-! A small pure reading of Python texts: data, codes, what a code is worth. -/
namespace Fp
open PySem
abbrev D := PyData
inductive Res (α : Type) where
  | ok (a : α)
  | exc (c : Str)
  | err
def Res.bind {α β : Type} : Res α → (α → Res β) → Res β
  | .ok a, f => f a
  | .exc c, _ => .exc c
  | .err, _ => .err
instance : Monad Res where
  pure := Res.ok
  bind := Res.bind
@[simp] theorem pure_eq {α : Type} (a : α) : (pure a : Res α) = .ok a := rfl
@[simp] theorem ok_bind {α β : Type} (a : α) (f : α → Res β) : ((Res.ok a : Res α) >>= f) = f a := rfl
@[simp] theorem exc_bind {α β : Type} (c : Str) (f : α → Res β) : ((Res.exc c : Res α) >>= f) = .exc c := rfl
@[simp] theorem err_bind {α β : Type} (f : α → Res β) : ((Res.err : Res α) >>= f) = .err := rfl
def Res.tame {α : Type} : Res α → Res α
  | .ok a => .ok a
  | _ => .err
@[simp] theorem tame_ok {α : Type} (a : α) : (Res.ok a).tame = .ok a := rfl
def must {α : Type} : Option α → Res α
  | some a => .ok a
  | none => .err
@[simp] theorem must_some {α : Type} (a : α) : must (some a) = .ok a := rfl
def need (b : Bool) : Res Unit := if b then .ok () else .err
@[simp] theorem need_true : need true = .ok () := rfl
/-- a slot: nothing known; data that stays; a list of one's own that may change; a caught error of the class c -/
inductive Slot where
  | no
  | fz (d : D)
  | ow (d : D)
  | ex (c : Str)
abbrev Slots := List Slot
inductive Bf where
  | len | all | any | sum | sorted | min | max | tuple | list | dict | str | int
  deriving DecidableEq
inductive Ty where
  | int | bool | str | list | tuple
  deriving DecidableEq
def Ty.name : Ty → String
  | .int => "int"
  | .bool => "bool"
  | .str => "str"
  | .list => "list"
  | .tuple => "tuple"
inductive Mf where
  | index | indexT | count | join | split | get
  deriving DecidableEq
mutual
inductive Tg where
  | nm (i : Nat)
  | tp (ts : Tgs)
inductive Tgs where
  | nil
  | cons (t : Tg) (ts : Tgs)
end
mutual
inductive E where
  | var (i : Nat)
  | own (i : Nat)
  | cst (d : D)
  | glb (d : D)
  | tup (es : Es)
  | lst (es : Es)
  | bin (op : Operator) (a b : E)
  | neg (a : E)
  | cmp (op : CmpOp) (a b : E)
  | chn (o p : CmpOp) (a b c : E)
  | bop (op : BoolOp) (es : Es)
  | not (a : E)
  | ite (t a b : E)
  | idx (a b : E)
  | slc (a : E) (lo hi : Eo)
  | rev (a : E)
  | call (f : Str) (es : Es)
  | sel (fs : List Str) (i : E) (es : Es)
  | blt (f : Bf) (a : E)
  | dct (a : E)
  | dcz (a b : E)
  | dix (a b : E)
  | blt2 (f : Bf) (a b : E)
  | isi (a : E) (t : Ty)
  | isx (i : Nat) (t : Str)
  | nay
  | told (f : Str) (b : E)
  | mth (m : Mf) (o a : E)
  | lc (own : List Nat) (elt : E) (tg : Tg) (it : It) (cnd : Eo)
  | lc2 (own : List Nat) (elt : E) (tg : Tg) (it : It) (tg2 : Tg) (it2 : It) (cnd : Eo)
inductive Es where
  | nil
  | cons (e : E) (es : Es)
inductive Eo where
  | no
  | so (e : E)
inductive It where
  | seq (e : E)
  | rng (a : E)
  | rng2 (a b : E)
  | zip (a b : E)
  | enm (a : E)
  | zip3 (a b c : E)
end
/-! ### what is done with data -/
def binD : Operator → D → D → Res D
  | .Add, .int i, .int j => .ok (.int (i + j))
  | .Add, .str a, .str b => if a.length + b.length ≤ sizeLine then .ok (.str (a ++ b)) else .err
  | .Add, .list xs, .list ys => if xs.length + ys.length ≤ sizeLine then .ok (.list (xs ++ ys)) else .err
  | .Add, .tuple xs, .tuple ys => if xs.length + ys.length ≤ sizeLine then .ok (.tuple (xs ++ ys)) else .err
  | .Sub, .int i, .int j => .ok (.int (i - j))
  | .Mult, .int i, .int j => if (-(2 ^ 64) < i ∧ i < 2 ^ 64) ∨ (-(2 ^ 64) < j ∧ j < 2 ^ 64) then .ok (.int (i * j)) else .err
  | .Mult, .list xs, .int k => if (-(2 ^ 63) ≤ k ∧ k < 2 ^ 63) ∧ xs.length * k.toNat ≤ sizeLine then .ok (.list (List.replicate k.toNat xs).flatten) else .err
  | .Mult, .tuple xs, .int k => if 1 ≤ k ∧ k ≤ 1000 ∧ xs.length ≠ 0 ∧ xs.length ≤ 1000 then .ok (.tuple (List.replicate k.toNat xs).flatten) else .err
  | .FloorDiv, .int i, .int j => if 0 < j ∧ j < 2 ^ 64 then .ok (.int (i / j)) else .err
  | .Mod, .int i, .int j => if 0 < j then .ok (.int (i % j)) else .err
  | .Pow, .int i, .int j => if 0 ≤ j ∧ j ≤ 1000000 ∧ i.natAbs < 2 ^ 64 then .ok (.int (i ^ j.toNat)) else .err
  | _, _, _ => .err
def eqD (x y : D) : Res Bool := if SeqAt.shaped x = true ∧ SeqAt.shaped y = true then .ok (PyData.eqv x y) else .err
mutual
def ltD : D → D → Option Bool
  | .int i, .int j => some (decide (i < j))
  | .str a, .str b => some (decide (a.cps.toList < b.cps.toList))
  | .tuple xs, .tuple ys => ltL xs ys
  | .list xs, .list ys => ltL xs ys
  | _, _ => none
def ltL : List D → List D → Option Bool
  | [], [] => some false
  | [], _ :: _ => some true
  | _ :: _, [] => some false
  | x :: xs, y :: ys => if PyData.eqv x y then ltL xs ys else ltD x y
end
/-! dicts: keys that are numbers or texts -/
def keq : D → D → Bool
  | .int i, .int j => decide (i = j)
  | .str a, .str b => decide (a = b)
  | _, _ => false
def dputD (kvs : List (D × D)) (k v : D) : List (D × D) := if kvs.any (fun p => keq p.1 k) then kvs.map (fun p => if keq p.1 k then (p.1, v) else p) else kvs ++ [(k, v)]
def dgetD (kvs : List (D × D)) (k : D) : Option D := (kvs.find? fun p => keq p.1 k).map (·.2)
def isKey : D → Bool
  | .int _ => true
  | .str _ => true
  | _ => false
def pairD : D → Option (D × D)
  | .tuple [k, v] => if isKey k then some (k, v) else none
  | _ => none
def pairsK : List D → Option (List (D × D))
  | [] => some []
  | x :: xs => (pairD x).bind fun p => (pairsK xs).map (p :: ·)
/-! keys that are tuples -/
mutual
def nkOf : D → Option NestedKey
  | .none => some .none
  | .bool b => some (.num (if b = true then 1 else 0))
  | .int i => some (.num i)
  | .str x => some (.text x)
  | .tuple xs => (nkAll xs).map .tup
  | _ => none
def nkAll : List D → Option (List NestedKey)
  | [] => some []
  | x :: xs => (nkOf x).bind fun k => (nkAll xs).map (k :: ·)
end
def nkT (d : D) : Option NestedKey := match d with
  | .tuple _ => (nkOf d).bind fun k => if k.depth ≤ 8 then some k else none
  | _ => none
def pairN : D → Option (NestedKey × D)
  | .tuple [k, v] => (nkT k).map fun c => (c, v)
  | _ => none
def pairsN : List D → Option (List (NestedKey × D))
  | [] => some []
  | x :: xs => (pairN x).bind fun p => (pairsN xs).map (p :: ·)
def getN (ps : List (NestedKey × D)) (k : NestedKey) : Option D := (ps.find? fun p => decide (p.1 = k)).map (·.2)
def inD (x : D) : D → Res Bool
  | .list ys => if SeqAt.shaped x = true ∧ SeqAt.shaped (.list ys) = true then .ok (ys.any fun z => PyData.eqv z x) else .err
  | .tuple ys => if SeqAt.shaped x = true ∧ SeqAt.shaped (.tuple ys) = true then .ok (ys.any fun z => PyData.eqv z x) else .err
  | .str b => match x with
    | .str a => match a.cps.toList with
      | [c] => .ok (decide (c ∈ b.cps.toList))
      | _ => .err
    | _ => .err
  | .dict kvs => if isKey x then .ok (dgetD kvs x).isSome else .err
  | _ => .err
def isD : D → D → Res Bool
  | x, .none => .ok (match x with
    | .none => true
    | _ => false)
  | .bool a, .bool b => .ok (decide (a = b))
  | _, _ => .err
def cmpD : CmpOp → D → D → Res Bool
  | .Eq, x, y => eqD x y
  | .NotEq, x, y => eqD x y >>= fun b => .ok (!b)
  | .Lt, .int i, .int j => .ok (decide (i < j))
  | .Lt, .str a, .str b => .ok (decide (a.cps.toList < b.cps.toList))
  | .LtE, .int i, .int j => .ok (decide (i ≤ j))
  | .Gt, .int i, .int j => .ok (decide (j < i))
  | .GtE, .int i, .int j => .ok (decide (j ≤ i))
  | .In, x, y => inD x y
  | .NotIn, x, y => inD x y >>= fun b => .ok (!b)
  | .Is, x, y => isD x y
  | .IsNot, x, y => isD x y >>= fun b => .ok (!b)
  | _, _, _ => .err
def idxD : D → D → Res D
  | .list xs, .int i => must (L2.atI xs i)
  | .tuple xs, .int i => must (L2.atI xs i)
  | .str s, .int i => must ((L2.atI s.cps.toList i).map fun c => .str ⟨#[c]⟩)
  | .dict kvs, k => if isKey k then must (dgetD kvs k) else .err
  | _, _ => .err
def cutD {α : Type} (xs : List α) (lo hi : Option Int) : List α := (xs.drop (HT.sIx xs.length 0 lo)).take (HT.sIx xs.length xs.length hi - HT.sIx xs.length 0 lo)
def partD : Option D → Res (Option Int)
  | none => .ok none
  | some (.int i) => .ok (some i)
  | _ => .err
def slcD : D → Option Int → Option Int → Res D
  | .list xs, lo, hi => .ok (.list (cutD xs lo hi))
  | .tuple xs, lo, hi => .ok (.tuple (cutD xs lo hi))
  | _, _, _ => .err
def revD : D → Res D
  | .list xs => .ok (.list xs.reverse)
  | .tuple xs => .ok (.tuple xs.reverse)
  | _ => .err
def boolsD : List D → Option (List Bool)
  | [] => some []
  | .bool b :: r => (boolsD r).map (b :: ·)
  | _ => none
def intsD : List D → Option (List Int)
  | [] => some []
  | .int b :: r => (intsD r).map (b :: ·)
  | _ => none
def signsD (s : Str) : List D := s.cps.toList.map fun c => .str ⟨#[c]⟩
/-! sorted -/
def leD (a b : D) : Bool := PySem.W.dataLe false id a b
def isTupC : D → Bool
  | .tuple (_ :: _) => true
  | _ => false
def isFlat : D → Bool
  | .none => false
  | .tuple _ => false
  | _ => true
def sortB (xs : List D) : Bool := (xs.all fun d => xs.all fun e => PySem.W.alike d e) && (xs.all isTupC || xs.all isFlat) && xs.all fun d => decide (d.depth ≤ 60)
def bltD : Bf → D → Res D
  | .sorted, .list xs => if sortB xs then .ok (.list (xs.mergeSort leD)) else .err
  | .len, .list xs => .ok (.int xs.length)
  | .len, .tuple xs => .ok (.int xs.length)
  | .len, .str s => .ok (.int s.length)
  | .all, .list xs => must ((boolsD xs).map fun bs => .bool (bs.all id))
  | .any, .list xs => must ((boolsD xs).map fun bs => .bool (bs.any id))
  | .sum, .list xs => must ((intsD xs).map fun ns => .int ns.sum)
  | .tuple, .list xs => .ok (.tuple xs)
  | .tuple, .tuple xs => .ok (.tuple xs)
  | .tuple, .str s => .ok (.tuple (signsD s))
  | .list, .list xs => .ok (.list xs)
  | .list, .tuple xs => .ok (.list xs)
  | .list, .str s => .ok (.list (signsD s))
  | _, _ => .err
def blt2D : Bf → D → D → Res D
  | .min, .int i, .int j => .ok (.int (if j < i then j else i))
  | .max, .int i, .int j => .ok (.int (if j > i then j else i))
  | _, _, _ => .err
def subX (c t : Str) : Bool := decide (c = t) || decide (t = "PipeError") || decide (t = "ValueError")
def isxD (ρ : Slots) (i : Nat) (t : Str) : Res D := match ρ[i]? with
  | some (.ex c) => .ok (.bool (subX c t))
  | _ => .err
def isiD : D → Ty → Bool
  | .int _, .int => true
  | .bool _, .int => true
  | .bool _, .bool => true
  | .str _, .str => true
  | .list _, .list => true
  | .tuple _, .tuple => true
  | _, _ => false
def findD (xs : List D) (y : D) : Res D := if SeqAt.shaped y = true ∧ PyData.canLayAll0 xs = true then must ((xs.findIdx? fun z => PyData.eqv z y).map fun j => .int (j : Nat)) else .err
def countD (xs : List D) (y : D) : Res D := if SeqAt.shaped y = true ∧ PyData.canLayAll0 xs = true then .ok (.int ((xs.countP fun z => PyData.eqv z y) : Nat)) else .err
def mthD : Mf → D → D → Res D
  | .index, .list xs, y => findD xs y
  | .index, .tuple xs, y => findD xs y
  | .count, .list xs, y => countD xs y
  | _, _, _ => .err
def mthO : Mf → D → Res Unit
  | .index, .list _ => .ok ()
  | .index, .tuple _ => .ok ()
  | .count, .list _ => .ok ()
  | _, _ => .err
def itemsD : D → Res (List D)
  | .list xs => .ok xs
  | .tuple xs => .ok xs
  | .str s => .ok (signsD s)
  | _ => .err
def seqD : D → Res (List D)
  | .list xs => .ok xs
  | .tuple xs => .ok xs
  | _ => .err
def pairsD (xs ys : List D) : List D := (xs.zip ys).map fun p => .tuple [p.1, p.2]
/-- dict(xs) -/
def dictD (d : D) : Res D := seqD d >>= fun xs => must ((pairsK xs).map fun ps => .dict (ps.foldl (fun acc p => dputD acc p.1 p.2) []))
def dictZ (x y : D) : Res D := seqD x >>= fun xs => seqD y >>= fun ys => must ((pairsK (pairsD xs ys)).map fun ps => .dict (ps.foldl (fun acc p => dputD acc p.1 p.2) []))
/-- dict(xs)[k], keys that are tuples, none twice -/
def dictN (d : D) : Res (List (NestedKey × D)) := seqD d >>= fun xs => must (pairsN xs) >>= fun ps => if (ps.map (·.1)).Nodup then .ok ps else .err
def idxN (ps : List (NestedKey × D)) (k : D) : Res D := must (nkT k) >>= fun c => must (getN ps c)
def rangeD (lo hi : Int) : Res (List D) := if -(2 ^ 62) ≤ lo ∧ lo < 2 ^ 62 ∧ -(2 ^ 62) ≤ hi ∧ hi < 2 ^ 62 ∧ (hi - lo).toNat ≤ sizeLine then .ok ((List.range (hi - lo).toNat).map fun i => .int (lo + (i : Nat))) else .err
def trisD (xs ys zs : List D) : List D := (xs.zip (ys.zip zs)).map fun p => .tuple [p.1, p.2.1, p.2.2]
def numbD (xs : List D) : List D := ((List.range xs.length).zip xs).map fun p => .tuple [.int (p.1 : Nat), p.2]
/-- told: what a lambda gives, or how it was refused -/
def toldNames : List Str := ["NoNet", "NoState", "NoPush", "NoPipe", "NoWay", "NoRun", "NoSpot", "NoOrder", "NoFeeds", "NoTurn", "NoTurns", "NoSlug", "NoWish", "NoStock", "NoCost", "NoOuts", "NoNumber", "NoBack", "NoText", "TooGreat"]
def toldD : Res D → Res D
  | .ok d => .ok d
  | .exc c => if c ∈ toldNames then .ok (.tuple [.str "refused", .str c]) else .err
  | .err => .err
mutual
def bindT : Tg → D → Slots → Res Slots
  | .nm i, d, ρ => if i < ρ.length then .ok (ρ.set i (.fz d)) else .err
  | .tp ts, .tuple ds, ρ => bindTs ts ds ρ
  | .tp ts, .list ds, ρ => bindTs ts ds ρ
  | .tp _, _, _ => .err
def bindTs : Tgs → List D → Slots → Res Slots
  | .nil, [], ρ => .ok ρ
  | .cons t ts, d :: ds, ρ => bindT t d ρ >>= fun ρ' => bindTs ts ds ρ'
  | _, _, _ => .err
end
mutual
def tgIx : Tg → List Nat
  | .nm i => [i]
  | .tp ts => tgsIx ts
def tgsIx : Tgs → List Nat
  | .nil => []
  | .cons t ts => tgIx t ++ tgsIx ts
end
def wipeE (ρ : Slots) : List Nat → Slots
  | [] => ρ
  | v :: vs => (wipeE ρ vs).set v .no
def asBool : D → Res Bool
  | .bool b => .ok b
  | _ => .err
def lcGo (tg : Tg) (ρ : Slots) (cnd : Slots → Res Bool) (elt : Slots → Res D) : List D → Res (List D)
  | [] => .ok []
  | x :: xs => do
    let ρ1 ← (bindT tg x ρ).tame
    let b ← (cnd ρ1).tame
    if b then
      let y ← (elt ρ1).tame
      let ys ← lcGo tg ρ cnd elt xs
      return y :: ys
    else lcGo tg ρ cnd elt xs
def lc2Go (tg : Tg) (ρ : Slots) (inner : Slots → Res (List D)) : List D → Res (List D)
  | [] => .ok []
  | x :: xs => do
    let ρ1 ← (bindT tg x ρ).tame
    let ys ← inner ρ1
    let zs ← lc2Go tg ρ inner xs
    return ys ++ zs
def slotD (ρ : Slots) (i : Nat) : Res D := match ρ[i]? with
  | some (.fz d) => .ok d
  | _ => .err
def slotO (ρ : Slots) (i : Nat) : Res D := match ρ[i]? with
  | some (.ow d) => .ok d
  | _ => .err
section
variable (G : Str → List D → Res D)
mutual
def ev : E → Slots → Res D
  | .var i, ρ => slotD ρ i
  | .own i, ρ => slotO ρ i
  | .cst d, _ => .ok d
  | .glb d, _ => .ok d
  | .tup es, ρ => evs es ρ >>= fun ds => .ok (.tuple ds)
  | .lst es, ρ => evs es ρ >>= fun ds => .ok (.list ds)
  | .bin op a b, ρ => ev a ρ >>= fun x => ev b ρ >>= fun y => binD op x y
  | .neg a, ρ => ev a ρ >>= fun x => match x with
    | .int i => .ok (.int (-i))
    | _ => .err
  | .cmp op a b, ρ => ev a ρ >>= fun x => ev b ρ >>= fun y => cmpD op x y >>= fun r => .ok (.bool r)
  | .chn o p a b c, ρ => ev a ρ >>= fun x => ev b ρ >>= fun y => cmpD o x y >>= fun r => if r then ev c ρ >>= fun z => cmpD p y z >>= fun q => .ok (.bool q) else .ok (.bool false)
  | .bop op es, ρ => evb op es ρ
  | .not a, ρ => ev a ρ >>= fun x => asBool x >>= fun b => .ok (.bool (!b))
  | .ite t a b, ρ => ev t ρ >>= fun x => asBool x >>= fun c => if c then ev a ρ else ev b ρ
  | .idx a b, ρ => ev a ρ >>= fun x => ev b ρ >>= fun y => idxD x y
  | .slc a lo hi, ρ => ev a ρ >>= fun x => evo lo ρ >>= fun l => partD l >>= fun l => evo hi ρ >>= fun h => partD h >>= fun h => slcD x l h
  | .rev a, ρ => ev a ρ >>= fun x => revD x
  | .call f es, ρ => evs es ρ >>= fun ds => G f ds
  | .sel fs i es, ρ => ev i ρ >>= fun k => match k with
    | .int k => must (L2.atI fs k) >>= fun f => evs es ρ >>= fun ds => G f ds
    | _ => .err
  | .blt f a, ρ => ev a ρ >>= fun x => bltD f x
  | .dct a, ρ => ev a ρ >>= fun x => dictD x
  | .dcz a b, ρ => ev a ρ >>= fun x => ev b ρ >>= fun y => dictZ x y
  | .dix a b, ρ => ev a ρ >>= fun x => dictN x >>= fun ps => ev b ρ >>= fun k => idxN ps k
  | .blt2 f a b, ρ => ev a ρ >>= fun x => ev b ρ >>= fun y => blt2D f x y
  | .isx i t, ρ => isxD ρ i t
  | .nay, _ => .err
  | .told _ b, ρ => toldD (ev b ρ)
  | .isi a t, ρ => ev a ρ >>= fun x => .ok (.bool (isiD x t))
  | .mth m o a, ρ => ev o ρ >>= fun x => mthO m x >>= fun _ => ev a ρ >>= fun y => mthD m x y
  | .lc own elt tg it cnd, ρ => evi it ρ >>= fun xs => lcGo tg (wipeE ρ own) (fun ρ1 => evc cnd ρ1) (fun ρ1 => ev elt ρ1) xs >>= fun ds => .ok (.list ds)
  | .lc2 own elt tg it tg2 it2 cnd, ρ => evi it ρ >>= fun xs =>
      lc2Go tg (wipeE ρ own) (fun ρ1 => (evi it2 ρ1).tame >>= fun ys => lcGo tg2 (wipeE ρ1 (tgIx tg2)) (fun ρ2 => evc cnd ρ2) (fun ρ2 => ev elt ρ2) ys) xs >>= fun ds =>
        if ds.length ≤ sizeLine then .ok (.list ds) else .err
def evs : Es → Slots → Res (List D)
  | .nil, _ => .ok []
  | .cons e es, ρ => ev e ρ >>= fun d => evs es ρ >>= fun ds => .ok (d :: ds)
def evb (op : BoolOp) : Es → Slots → Res D
  | .nil, _ => .err
  | .cons e .nil, ρ => ev e ρ
  | .cons e es, ρ => ev e ρ >>= fun x => asBool x >>= fun b => match op, b with
    | .And, true => evb op es ρ
    | .And, false => .ok (.bool false)
    | .Or, true => .ok (.bool true)
    | .Or, false => evb op es ρ
def evo : Eo → Slots → Res (Option D)
  | .no, _ => .ok none
  | .so e, ρ => ev e ρ >>= fun d => .ok (some d)
def evc : Eo → Slots → Res Bool
  | .no, _ => .ok true
  | .so e, ρ => ev e ρ >>= fun d => asBool d
def evi : It → Slots → Res (List D)
  | .seq e, ρ => ev e ρ >>= fun x => itemsD x
  | .rng a, ρ => ev a ρ >>= fun x => match x with
    | .int j => rangeD 0 j
    | _ => .err
  | .rng2 a b, ρ => ev a ρ >>= fun x => ev b ρ >>= fun y => match x, y with
    | .int i, .int j => rangeD i j
    | _, _ => .err
  | .zip a b, ρ => ev a ρ >>= fun x => ev b ρ >>= fun y => seqD x >>= fun xs => seqD y >>= fun ys => .ok (pairsD xs ys)
  | .enm a, ρ => ev a ρ >>= fun x => seqD x >>= fun xs => .ok (numbD xs)
  | .zip3 a b c, ρ => ev a ρ >>= fun x => ev b ρ >>= fun y => ev c ρ >>= fun z => seqD x >>= fun xs => seqD y >>= fun ys => seqD z >>= fun zs => .ok (trisD xs ys zs)
end
end
end Fp
set_option maxHeartbeats 1000000
namespace Fp
open PySem
/-! ### statements -/
inductive Fl where
  | nx (ρ : Slots)
  | rt (d : D)
  | ex (c : Str) (ρ : Slots)
  | bad
mutual
inductive S where
  | set (t : Tg) (e : E)
  | own (i : Nat) (e : E)
  | par (bs : List (Nat × Bool)) (es : Es)
  | app (i : Nat) (e : E)
  | ext (i : Nat) (e : E)
  | put (i : Nat) (k e : E)
  | pop (x i : Nat) (k : Eo)
  | apop (i j : Nat) (k : E)
  | exp (e : E)
  | ite (t : E) (a b : Ss)
  | for_ (ws : List Nat) (t : Tg) (it : It) (b : Ss)
  | whl (fuel : Nat) (ws : List Nat) (t : E) (b : Ss)
  | ret (e : E)
  | rai (c : Str)
  | tre (xs : List Str) (b : Ss) (c : Str) (i : Nat) (h : Ss)
  | frz (i : Nat)
  | pas
  | dst (i : Nat) (e : E)
  | dsz (i : Nat) (a b : E)
  | dpt (i : Nat) (k e : E)
  | dpn (i : Nat) (k : E) (x : Nat) (e f : E)
  | ali (a b c d r f s : Nat)
inductive Ss where
  | nil
  | nay
  | cons (s : S) (ss : Ss)
end
def liftR {α : Type} (ρ : Slots) (r : Res α) (f : α → Fl) : Fl := match r with
  | .ok a => f a
  | .exc c => .ex c ρ
  | .err => .bad
def Fl.ofR : Res Slots → Fl
  | .ok ρ => .nx ρ
  | _ => .bad
def Fl.then (r : Fl) (f : Slots → Fl) : Fl := match r with
  | .nx ρ => f ρ
  | .rt d => .rt d
  | .ex c ρ => .ex c ρ
  | .bad => .bad
/-- a list of one's own is stored in a slot -/
def ownD (i : Nat) (d : D) (ρ : Slots) : Res Slots := match d with
  | .list xs => if i < ρ.length then .ok (ρ.set i (.ow (.list xs))) else .err
  | _ => .err
def parD : List (Nat × Bool) → List D → Slots → Res Slots
  | [], [], ρ => .ok ρ
  | (i, b) :: bs, d :: ds, ρ => (if b then ownD i d ρ else bindT (.nm i) d ρ) >>= fun ρ' => parD bs ds ρ'
  | _, _, _ => .err
def slotL (ρ : Slots) (i : Nat) : Res (List D) := match ρ[i]? with
  | some (.ow (.list xs)) => .ok xs
  | _ => .err
def appD (i : Nat) (d : D) (ρ : Slots) : Res Slots := slotL ρ i >>= fun xs => if xs.length < sizeLine then .ok (ρ.set i (.ow (.list (xs ++ [d])))) else .err
def extD (i : Nat) (d : D) (ρ : Slots) : Res Slots := slotL ρ i >>= fun xs => seqD d >>= fun ys => if xs.length + ys.length ≤ sizeLine then .ok (ρ.set i (.ow (.list (xs ++ ys)))) else .err
def putD (i : Nat) (k d : D) (ρ : Slots) : Res Slots := slotL ρ i >>= fun xs => match k with
  | .int n => must (L2.ixN xs.length n) >>= fun j => .ok (ρ.set i (.ow (.list (xs.set j d))))
  | _ => .err
/-- what is popped, and the slots behind it -/
def popD (i : Nat) (k : Option Int) (ρ : Slots) : Res (D × Slots) := slotL ρ i >>= fun xs => must (L2.ixN xs.length (k.getD (-1))) >>= fun j => must xs[j]? >>= fun y => .ok (y, ρ.set i (.ow (.list (xs.eraseIdx j))))
/-- one's own dict -/
def slotK (ρ : Slots) (i : Nat) : Res (List (D × D)) := match ρ[i]? with
  | some (.ow (.dict kvs)) => .ok kvs
  | _ => .err
def dputS (i : Nat) (k d : D) (ρ : Slots) : Res Slots := slotK ρ i >>= fun kvs => if isKey k = true ∧ kvs.length < sizeLine then .ok (ρ.set i (.ow (.dict (dputD kvs k d)))) else .err
def dstD (i : Nat) (d : D) (ρ : Slots) : Res Slots := match d with
  | .dict kvs => if i < ρ.length then .ok (ρ.set i (.ow (.dict kvs))) else .err
  | _ => .err
/-- the items of all rows, one behind another -/
def flatR : List D → Option (List D)
  | [] => some []
  | .list xs :: rs => (flatR rs).map (xs ++ ·)
  | .tuple xs :: rs => (flatR rs).map (xs ++ ·)
  | _ :: _ => none
def rowsD : D → Res (List D)
  | .tuple rs => must (flatR rs)
  | _ => .err
/-- for r, f in ((a, b), (c, d)): for s in r: f.extend(s) -/
def aliD (a b c d r f s : Nat) (ρ : Slots) : Res Slots := slotD ρ a >>= fun x => slotL ρ b >>= fun xs => slotD ρ c >>= fun y => slotL ρ d >>= fun ys => rowsD x >>= fun us => rowsD y >>= fun vs =>
  if b ≠ d ∧ r ≠ f ∧ r ≠ s ∧ f ≠ s ∧ (∀ j ∈ [a, b, c, d], j ≠ r ∧ j ≠ f ∧ j ≠ s) ∧ r < ρ.length ∧ f < ρ.length ∧ s < ρ.length ∧ xs.length + us.length ≤ sizeLine ∧ ys.length + vs.length ≤ sizeLine then
    .ok (((wipeE ρ [r, f, s]).set b (.ow (.list (xs ++ us)))).set d (.ow (.list (ys ++ vs)))) else .err
def frzD (i : Nat) (ρ : Slots) : Res Slots := match ρ[i]? with
  | some (.ow (.list d)) => .ok (ρ.set i (.fz (.list d)))
  | _ => .err
def forGo (t : Tg) (ws : List Nat) (body : Slots → Fl) : List D → Slots → Fl
  | [], ρ => .nx ρ
  | x :: xs, ρ => match bindT t x ρ with
    | .ok ρ1 => (body ρ1).then fun ρ2 => forGo t ws body xs (wipeE ρ2 ws)
    | _ => .bad
def whGo (ws : List Nat) (test : Slots → Res Bool) (body : Slots → Fl) : Nat → Slots → Fl
  | 0, _ => .bad
  | n + 1, ρ => liftR ρ (test ρ) fun c => if c then (body ρ).then fun ρ2 => whGo ws test body n (wipeE ρ2 ws) else .nx ρ
def noEx (ρ : Slots) : Slots := ρ.map fun s => match s with
  | .ex _ => .no
  | s => s
def treGo (xs : List Str) (c : Str) (i : Nat) (h : Slots → Fl) : Fl → Fl
  | .ex c' ρ => if c' ∈ xs then (if subX c' c then (match h (ρ.set i (.ex c')) with
    | .nx ρ' => .nx (noEx (ρ'.set i .no))
    | .rt d => .rt d
    | _ => .bad) else .ex c' ρ) else .bad
  | r => r
def isL (b : Bool) (d : D) : Res Unit := match b, d with
  | false, _ => .ok ()
  | true, .list _ => .ok ()
  | true, _ => .err
section
variable (G : Str → List D → Res D)
def evp : List (Nat × Bool) → Es → Slots → Res (List D)
  | [], .nil, _ => .ok []
  | (_, b) :: bs, .cons e es, ρ => ev G e ρ >>= fun d => isL b d >>= fun _ => evp bs es ρ >>= fun ds => .ok (d :: ds)
  | _, _, _ => .err
mutual
def exS : S → Slots → Fl
  | .set t e, ρ => liftR ρ (ev G e ρ) fun d => .ofR (bindT t d ρ)
  | .own i e, ρ => liftR ρ (ev G e ρ) fun d => .ofR (ownD i d ρ)
  | .par bs es, ρ => liftR ρ (evp G bs es ρ) fun ds => .ofR (parD bs ds ρ)
  | .app i e, ρ => liftR ρ (slotL ρ i) fun _ => liftR ρ (ev G e ρ) fun d => .ofR (appD i d ρ)
  | .ext i e, ρ => liftR ρ (slotL ρ i) fun _ => liftR ρ (ev G e ρ) fun d => .ofR (extD i d ρ)
  | .put i k e, ρ => liftR ρ (ev G e ρ) fun d => liftR ρ (slotL ρ i) fun _ => liftR ρ (ev G k ρ) fun n => .ofR (putD i n d ρ)
  | .pop x i k, ρ => liftR ρ (slotL ρ i) fun _ => liftR ρ (evo G k ρ >>= partD) fun n => .ofR (popD i n ρ >>= fun yρ => bindT (.nm x) yρ.1 yρ.2)
  | .apop i j k, ρ => liftR ρ (slotL ρ i) fun _ => liftR ρ (slotL ρ j) fun _ => liftR ρ (ev G k ρ) fun n => match n with
    | .int n => .ofR (popD j (some n) ρ >>= fun yρ => appD i yρ.1 yρ.2)
    | _ => .bad
  | .exp e, ρ => liftR ρ (ev G e ρ) fun _ => .nx ρ
  | .ite t a b, ρ => liftR ρ (ev G t ρ >>= asBool) fun c => if c then exSs a ρ else exSs b ρ
  | .for_ ws t it b, ρ => liftR ρ (evi G it ρ) fun xs => forGo t ws (fun ρ => exSs b ρ) xs (wipeE ρ ws)
  | .whl fuel ws t b, ρ => whGo ws (fun ρ => ev G t ρ >>= asBool) (fun ρ => exSs b ρ) fuel (wipeE ρ ws)
  | .ret e, ρ => liftR ρ (ev G e ρ) fun d => .rt d
  | .rai c, ρ => .ex c ρ
  | .tre xs b c i h, ρ => treGo xs c i (fun ρ => exSs h ρ) (exSs b ρ)
  | .frz i, ρ => .ofR (frzD i ρ)
  | .pas, ρ => .nx ρ
  | .ali a b c d r f s, ρ => .ofR (aliD a b c d r f s ρ)
  | .dsz i a b, ρ => liftR ρ (ev G a ρ >>= fun x => ev G b ρ >>= fun y => dictZ x y) fun d => .ofR (dstD i d ρ)
  | .dst i e, ρ => liftR ρ (ev G e ρ >>= dictD) fun d => .ofR (dstD i d ρ)
  | .dpt i k e, ρ => liftR ρ (ev G e ρ) fun d => liftR ρ (slotK ρ i) fun _ => liftR ρ (ev G k ρ) fun n => .ofR (dputS i n d ρ)
  | .dpn i k x e f, ρ => liftR ρ (ev G e ρ) fun d => liftR ρ (ev G f ρ) fun g => liftR ρ (slotK ρ i) fun _ => liftR ρ (ev G k ρ) fun n => .ofR (dputS i n d ρ >>= fun ρ' => bindT (.nm x) g ρ')
def exSs : Ss → Slots → Fl
  | .nil, ρ => .nx ρ
  | .nay, _ => .bad
  | .cons s ss, ρ => (exS s ρ).then fun ρ' => exSs ss ρ'
end
end
/-- a def, from its parameters' values -/
def fnD (G : Str → List D → Res D) (np nl : Nat) (b : Ss) (ds : List D) : Res D := if ds.length = np then (match exSs G b (ds.map Slot.fz ++ List.replicate nl Slot.no) with
  | .nx _ => .ok .none
  | .rt d => .ok d
  | .ex c _ => .exc c
  | .bad => .err) else .err
theorem evb_and {G : Str → List D → Res D} {ca c2 : E} {cs : Es} {ρ : Slots} : evb G .And (.cons ca (.cons c2 cs)) ρ = (ev G ca ρ >>= fun x => asBool x >>= fun b => match b with
      | true => evb G .And (.cons c2 cs) ρ
      | false => .ok (.bool false)) := by
  rw [evb]
  · congr 1; funext x; congr 1; funext b; cases b <;> rfl
  · intro z; cases z
theorem evb_or {G : Str → List D → Res D} {ca c2 : E} {cs : Es} {ρ : Slots} : evb G .Or (.cons ca (.cons c2 cs)) ρ = (ev G ca ρ >>= fun x => asBool x >>= fun b => match b with
      | true => .ok (.bool true)
      | false => evb G .Or (.cons c2 cs) ρ) := by
  rw [evb]
  · congr 1; funext x; congr 1; funext b; cases b <;> rfl
  · intro z; cases z
theorem evb_one {G : Str → List D → Res D} {op : BoolOp} {ca : E} {ρ : Slots} : evb G op (.cons ca .nil) ρ = ev G ca ρ := by rw [evb]
def selD (fs : List Str) : D → Res Str
  | .int k => must (L2.atI fs k)
  | _ => .err
theorem sel_eq {G : Str → List D → Res D} {fs : List Str} {i : E} {es : Es} {ρ : Slots} : ev G (.sel fs i es) ρ = (ev G i ρ >>= fun k => selD fs k >>= fun f => evs G es ρ >>= fun ds => G f ds) := by
  show (ev G i ρ >>= fun k => _) = _
  congr 1
  funext k
  cases k <;> rfl
end Fp
namespace Fp
open PySem PySem.Spec PyProof.Rows L2
/-! ### what stays; the tables of code objects may grow -/
class TB where
  T : List (Addr × Str)
  P : Program
  w : World
/-- no table -/
def ntb : HO → Bool
  | .tbl _ => false
  | _ => true
structure Same [TB] (H H' : Hp) : Prop where
  k : ∀ b o, H b = some o → ntb o = true → H' b = some o
  free : ∀ {b}, H' b = none → H b = none
  t : LamX.Tabs TB.T H → LamX.Tabs TB.T H'
theorem Same.refl [TB] (H : Hp) : Same H H := ⟨fun _ _ h _ => h, fun h => h, fun h => h⟩
theorem Same.trans [TB] {H H1 H2 : Hp} (a : Same H H1) (b : Same H1 H2) : Same H H2 := ⟨fun c o h n => b.k c o (a.k c o h n) n, fun h => a.free (b.free h), fun h => b.t (a.t h)⟩
theorem Same.of [TB] {H H' : Hp} (e : L2.Same H H') : Same H H' := by
  refine ⟨fun b o h _ => e b o h, fun {b} h => ?_, fun h => h.ext e⟩
  cases q : H b with
  | none => rfl
  | some o => rw [e b o q] at h; cases h
theorem Same.some [TB] {H H' : Hp} (e : Same H H') {a : Addr} (h : ∃ o, H a = some o) : ∃ o, H' a = some o := by
  cases q : H' a with
  | none =>
    obtain ⟨o, h⟩ := h
    rw [e.free q] at h
    cases h
  | some o => exact ⟨o, rfl⟩
variable [TB]
/-- a plain tuple -/
def plO (o : Obj) : Prop := o.cls = .type "tuple" ∧ o.dict = none ∧ o.slots = #[]
def SqP (K : PySem.W.Frag) (H : Hp) (a : Addr) (vs : List V) : Prop := (∃ o, H a = some (.frz o (.tup vs)) ∧ plO o) ∨ ∃ (o : Obj) (its : Array Value) (n : Nat), K.lookup a = some o ∧ plO o ∧ o.data = .seq its n ∧ its.size ≤ sizeLine ∧ Vals vs its.toList
theorem SqP.t {K : PySem.W.Frag} {H : Hp} {a : Addr} {vs : List V} (h : SqP K H a vs) : SqT K H a vs := by
  rcases h with ⟨o, h, _⟩ | ⟨o, its, n, h1, h2, h3⟩
  · exact .inl (.inr ⟨o, h⟩)
  · exact .inr ⟨o, its, n, h1, h2.1, h3⟩
/-! ### how data stands in the heap; M: the addresses that it keeps off -/
mutual
inductive Rep (K : PySem.W.Frag) (M : Addr → Prop) (H : Hp) : V → D → Prop
  | non : Rep K M H .non .none
  | bl (b : Bool) : Rep K M H (.bl b) (.bool b)
  | int (i : Int) : Rep K M H (.int i) (.int i)
  | str (x : Str) : x.length ≤ sizeLine → Rep K M H (.str x) (.str x)
  | lst {a : Addr} {vs : List V} {ds : List D} : Rd H a (.lst vs) → ¬ M a → vs.length ≤ sizeLine → RepL K M H vs ds → Rep K M H (.ref a) (.list ds)
  | tup {a : Addr} {vs : List V} {ds : List D} : SqP K H a vs → vs.length ≤ sizeLine → RepL K M H vs ds → Rep K M H (.ref a) (.tuple ds)
inductive RepL (K : PySem.W.Frag) (M : Addr → Prop) (H : Hp) : List V → List D → Prop
  | nil : RepL K M H [] []
  | cons {v : V} {vs : List V} {d : D} {ds : List D} : Rep K M H v d → RepL K M H vs ds → RepL K M H (v :: vs) (d :: ds)
end
section
variable {K : PySem.W.Frag} {M M' : Addr → Prop} {H H' : Hp}
theorem same_rd {a : Addr} {u : HO} (e : Same H H') (h : Rd H a u) (hu : ntb u = true := by rfl) : Rd H' a u := by
  rcases h with h | ⟨o, h⟩
  · exact Or.inl (e.k a _ h hu)
  · exact Or.inr ⟨o, e.k a _ h rfl⟩
theorem same_t {a : Addr} {xs : List V} (e : Same H H') (h : SqT K H a xs) : SqT K H' a xs := by
  rcases h with h | h
  · exact Or.inl (same_rd e h)
  · exact Or.inr h
theorem same_p {a : Addr} {xs : List V} (e : Same H H') (h : SqP K H a xs) : SqP K H' a xs := by
  rcases h with ⟨o, h, q⟩ | h
  · exact .inl ⟨o, e.k a _ h rfl, q⟩
  · exact .inr h
theorem rd_some {a : Addr} {u : HO} (h : Rd H a u) : ∃ o, H a = some o := by
  rcases h with h | ⟨o, h⟩
  · exact ⟨_, h⟩
  · exact ⟨_, h⟩
mutual
theorem Rep.mono (e : Same H H') : ∀ {v : V} {d : D}, Rep K M H v d → Rep K M H' v d
  | _, _, .non => .non
  | _, _, .bl b => .bl b
  | _, _, .int i => .int i
  | _, _, .str x h => .str x h
  | _, _, .lst h n z r => .lst (same_rd e h) n z (RepL.mono e r)
  | _, _, .tup h z r => .tup (same_p e h) z (RepL.mono e r)
theorem RepL.mono (e : Same H H') : ∀ {vs : List V} {ds : List D}, RepL K M H vs ds → RepL K M H' vs ds
  | _, _, .nil => .nil
  | _, _, .cons h r => .cons (Rep.mono e h) (RepL.mono e r)
end
mutual
/-- other addresses to keep off: fewer, or new ones -/
theorem Rep.off (e : ∀ a, M' a → M a ∨ H a = none) : ∀ {v : V} {d : D}, Rep K M H v d → Rep K M' H v d
  | _, _, .non => .non
  | _, _, .bl b => .bl b
  | _, _, .int i => .int i
  | _, _, .str x h => .str x h
  | _, _, .lst h n z r => .lst h (fun q => by
      rcases e _ q with q | q
      · exact n q
      · obtain ⟨o, ho⟩ := rd_some h
        rw [q] at ho
        cases ho) z (RepL.off e r)
  | _, _, .tup h z r => .tup h z (RepL.off e r)
theorem RepL.off (e : ∀ a, M' a → M a ∨ H a = none) : ∀ {vs : List V} {ds : List D}, RepL K M H vs ds → RepL K M' H vs ds
  | _, _, .nil => .nil
  | _, _, .cons h r => .cons (Rep.off e h) (RepL.off e r)
end
mutual
/-- what is kept off may change -/
theorem Rep.keep (e : ∀ b o, H b = some o → ntb o = true → ¬ M b → H' b = some o) (et : ∀ b xs, H b = some (.tup xs) → H' b = some (.tup xs)) (ef : ∀ b o u, H b = some (.frz o u) → H' b = some (.frz o u)) : ∀ {v : V} {d : D}, Rep K M H v d → Rep K M H' v d
  | _, _, .non => .non
  | _, _, .bl b => .bl b
  | _, _, .int i => .int i
  | _, _, .str x h => .str x h
  | _, _, .lst h n z r => .lst (by
      rcases h with h | ⟨o, h⟩
      · exact .inl (e _ _ h rfl n)
      · exact .inr ⟨o, ef _ _ _ h⟩) n z (RepL.keep e et ef r)
  | _, _, .tup h z r => .tup (by
      rcases h with ⟨o, h, q⟩ | h
      · exact .inl ⟨o, ef _ _ _ h, q⟩
      · exact .inr h) z (RepL.keep e et ef r)
theorem RepL.keep (e : ∀ b o, H b = some o → ntb o = true → ¬ M b → H' b = some o) (et : ∀ b xs, H b = some (.tup xs) → H' b = some (.tup xs)) (ef : ∀ b o u, H b = some (.frz o u) → H' b = some (.frz o u)) : ∀ {vs : List V} {ds : List D}, RepL K M H vs ds → RepL K M H' vs ds
  | _, _, .nil => .nil
  | _, _, .cons h r => .cons (Rep.keep e et ef h) (RepL.keep e et ef r)
end
theorem sqL_of {a : Addr} {xs : List V} (h : Rd H a (.lst xs)) : SqL K H a xs := .inl h
mutual
theorem Rep.dp : ∀ {v : V} {d : D}, Rep K M H v d → Dp K H v d
  | _, _, .non => .non
  | _, _, .bl b => .bl b
  | _, _, .int i => .int i
  | _, _, .str x h => .str x
  | _, _, .lst h n z r => .lst (sqL_of h) (RepL.dp r)
  | _, _, .tup h z r => .tup h.t (RepL.dp r)
theorem RepL.dp : ∀ {vs : List V} {ds : List D}, RepL K M H vs ds → DpAll K H vs ds
  | _, _, .nil => .nil
  | _, _, .cons h r => .cons (Rep.dp h) (RepL.dp r)
end
theorem RepL.length : ∀ {vs : List V} {ds : List D}, RepL K M H vs ds → vs.length = ds.length
  | _, _, .nil => rfl
  | _, _, .cons _ r => by rw [List.length_cons, List.length_cons, RepL.length r]
theorem RepL.get : ∀ {vs : List V} {ds : List D}, RepL K M H vs ds → ∀ {i : Nat} {d : D}, ds[i]? = some d → ∃ v, vs[i]? = some v ∧ Rep K M H v d
  | _, _, .nil, i, d, h => by simp at h
  | _, _, .cons h r, 0, d, e => by
    simp only [List.getElem?_cons_zero, Option.some.injEq] at e
    subst e
    exact ⟨_, rfl, h⟩
  | _, _, .cons h r, i + 1, d, e => by
    obtain ⟨v, h1, h2⟩ := RepL.get r (i := i) (d := d) (by simpa using e)
    exact ⟨v, by simpa using h1, h2⟩
theorem RepL.getV : ∀ {vs : List V} {ds : List D}, RepL K M H vs ds → ∀ {i : Nat} {v : V}, vs[i]? = some v → ∃ d, ds[i]? = some d ∧ Rep K M H v d
  | _, _, .nil, i, d, h => by simp at h
  | _, _, .cons h r, 0, d, e => by
    simp only [List.getElem?_cons_zero, Option.some.injEq] at e
    subst e
    exact ⟨_, rfl, h⟩
  | _, _, .cons h r, i + 1, d, e => by
    obtain ⟨v, h1, h2⟩ := RepL.getV r (i := i) (v := d) (by simpa using e)
    exact ⟨v, by simpa using h1, h2⟩
theorem RepL.append : ∀ {vs ws : List V} {ds es : List D}, RepL K M H vs ds → RepL K M H ws es → RepL K M H (vs ++ ws) (ds ++ es)
  | _, _, _, _, .nil, s => s
  | _, _, _, _, .cons h r, s => .cons h (RepL.append r s)
theorem RepL.take : ∀ {vs : List V} {ds : List D} (n : Nat), RepL K M H vs ds → RepL K M H (vs.take n) (ds.take n)
  | _, _, 0, _ => .nil
  | _, _, _ + 1, .nil => .nil
  | _, _, n + 1, .cons h r => .cons h (RepL.take n r)
theorem RepL.drop : ∀ {vs : List V} {ds : List D} (n : Nat), RepL K M H vs ds → RepL K M H (vs.drop n) (ds.drop n)
  | _, _, 0, r => r
  | _, _, _ + 1, .nil => .nil
  | _, _, n + 1, .cons h r => RepL.drop n r
theorem RepL.reverse : ∀ {vs : List V} {ds : List D}, RepL K M H vs ds → RepL K M H vs.reverse ds.reverse
  | _, _, .nil => .nil
  | _, _, .cons h r => by
    rw [List.reverse_cons, List.reverse_cons]
    exact (RepL.reverse r).append (.cons h .nil)
theorem RepL.set {v : V} {d : D} (h : Rep K M H v d) : ∀ {vs : List V} {ds : List D} (i : Nat), RepL K M H vs ds → RepL K M H (vs.set i v) (ds.set i d)
  | _, _, _, .nil => .nil
  | _, _, 0, .cons _ r => .cons h r
  | _, _, i + 1, .cons q r => .cons q (RepL.set h i r)
theorem RepL.erase : ∀ {vs : List V} {ds : List D} (i : Nat), RepL K M H vs ds → RepL K M H (vs.eraseIdx i) (ds.eraseIdx i)
  | _, _, _, .nil => .nil
  | _, _, 0, .cons _ r => r
  | _, _, i + 1, .cons q r => .cons q (RepL.erase i r)
theorem RepL.rep {vs : List V} {ds : List D} (r : RepL K M H vs ds) : ∀ k : Nat, RepL K M H (List.replicate k vs).flatten (List.replicate k ds).flatten
  | 0 => .nil
  | k + 1 => by
    rw [List.replicate_succ, List.replicate_succ, List.flatten_cons, List.flatten_cons]
    exact r.append (RepL.rep r k)
theorem RepL.ints : ∀ {ns : List Int}, RepL K M H (ns.map V.int) (ns.map PyData.int)
  | [] => .nil
  | _ :: _ => .cons (.int _) RepL.ints
end
/-! ### slots -/
def OwnA (ρ : Slots) (σ : L2.St) (a : Addr) : Prop := ∃ (i : Nat) (d : D), ρ[i]? = some (.ow d) ∧ σ[i]? = some (some (.ref a))
def Mx (M0 : Addr → Prop) (ρ : Slots) (σ : L2.St) (a : Addr) : Prop := M0 a ∨ OwnA ρ σ a
def keyD : Key → D
  | .inl i => .int i
  | .inr x => .str x
/-- a dict's entries -/
inductive RepKV (K : PySem.W.Frag) (M : Addr → Prop) (H : Hp) : List (Key × V) → List (D × D) → Prop
  | nil : RepKV K M H [] []
  | cons {k : Key} {v : V} {d : D} {kvs : List (Key × V)} {ds : List (D × D)} : Rep K M H v d → RepKV K M H kvs ds → RepKV K M H ((k, v) :: kvs) ((keyD k, d) :: ds)
theorem RepKV.imp {K : PySem.W.Frag} {M M' : Addr → Prop} {H H' : Hp} (f : ∀ v d, Rep K M H v d → Rep K M' H' v d) : ∀ {kvs : List (Key × V)} {ds : List (D × D)}, RepKV K M H kvs ds → RepKV K M' H' kvs ds
  | _, _, .nil => .nil
  | _, _, .cons h r => .cons (f _ _ h) (RepKV.imp f r)
theorem RepKV.length {K : PySem.W.Frag} {M : Addr → Prop} {H : Hp} : ∀ {kvs : List (Key × V)} {ds : List (D × D)}, RepKV K M H kvs ds → kvs.length = ds.length
  | _, _, .nil => rfl
  | _, _, .cons _ r => by rw [List.length_cons, List.length_cons, RepKV.length r]
/-- one's own list, one's own dict -/
def Own (K : PySem.W.Frag) (M : Addr → Prop) (H : Hp) (a : Addr) (d : D) : Prop := (∃ vs ds, d = .list ds ∧ H a = some (.lst vs) ∧ vs.length ≤ sizeLine ∧ RepL K M H vs ds) ∨ ∃ kvs ds, d = .dict ds ∧ H a = some (.dK kvs) ∧ kvs.length ≤ sizeLine ∧ RepKV K M H kvs ds
theorem own_some {K : PySem.W.Frag} {M : Addr → Prop} {H : Hp} {a : Addr} {d : D} (h : Own K M H a d) : ∃ o, H a = some o := by
  rcases h with ⟨_, _, _, h, _⟩ | ⟨_, _, _, h, _⟩
  · exact ⟨_, h⟩
  · exact ⟨_, h⟩
theorem own_imp {K : PySem.W.Frag} {M M' : Addr → Prop} {H H' : Hp} {a : Addr} {d : D} (hs : ∀ o, H a = some o → ntb o = true → H' a = some o) (f : ∀ v d, Rep K M H v d → Rep K M' H' v d) (fL : ∀ vs ds, RepL K M H vs ds → RepL K M' H' vs ds) (h : Own K M H a d) : Own K M' H' a d := by
  rcases h with ⟨vs, ds, h1, h2, h3, h4⟩ | ⟨kvs, ds, h1, h2, h3, h4⟩
  · exact .inl ⟨vs, ds, h1, hs _ h2 rfl, h3, fL _ _ h4⟩
  · exact .inr ⟨kvs, ds, h1, hs _ h2 rfl, h3, h4.imp f⟩
theorem own_lst {K : PySem.W.Frag} {M : Addr → Prop} {H : Hp} {a : Addr} {ds : List D} (h : Own K M H a (.list ds)) : ∃ vs, H a = some (.lst vs) ∧ vs.length ≤ sizeLine ∧ RepL K M H vs ds := by
  rcases h with ⟨vs, ds, h1, h2, h3, h4⟩ | ⟨kvs, ds, h1, _⟩
  · cases h1
    exact ⟨vs, h2, h3, h4⟩
  · cases h1
theorem own_off {K : PySem.W.Frag} {M M' : Addr → Prop} {H : Hp} {a : Addr} {d : D} (e : ∀ a, M' a → M a ∨ H a = none) (h : Own K M H a d) : Own K M' H a d := own_imp (fun _ q _ => q) (fun _ _ r => r.off e) (fun _ _ r => r.off e) h
/-- the addresses that are kept off stand; the tables are as they should be -/
structure okM (M : Addr → Prop) (H : Hp) : Prop where
  s : ∀ a, M a → ∃ o, H a = some o
  t : LamX.Tabs TB.T H
theorem okM.mono {M : Addr → Prop} {H H' : Hp} (h : okM M H) (e : Same H H') : okM M H' := ⟨fun a m => e.some (h.s a m), e.t h.t⟩
structure RelS (K : PySem.W.Frag) (xa : Addr → Str → Prop) (M0 : Addr → Prop) (ρ : Slots) (σ : L2.St) (H : Hp) : Prop where
  len : ρ.length = σ.length
  m0 : okM M0 H
  fz : ∀ (i : Nat) d, ρ[i]? = some (.fz d) → ∃ v, σ[i]? = some (some v) ∧ Rep K (Mx M0 ρ σ) H v d
  ow : ∀ (i : Nat) d, ρ[i]? = some (.ow d) → ∃ a, σ[i]? = some (some (.ref a)) ∧ Own K (Mx M0 ρ σ) H a d
  ex : ∀ (i : Nat) c, ρ[i]? = some (.ex c) → ∃ a, σ[i]? = some (some (.ref a)) ∧ xa a c
  dj : ∀ (i j : Nat) d e a, ρ[i]? = some (.ow d) → ρ[j]? = some (.ow e) → σ[i]? = some (some (.ref a)) → σ[j]? = some (some (.ref a)) → i = j
section
variable {K : PySem.W.Frag} {xa : Addr → Str → Prop} {M0 : Addr → Prop} {ρ : Slots} {σ : L2.St} {H H' : Hp}
theorem own_mono {K : PySem.W.Frag} {M : Addr → Prop} {a : Addr} {d : D} (e : Same H H') (h : Own K M H a d) : Own K M H' a d := own_imp (fun o q n => e.k _ _ q n) (fun _ _ r => r.mono e) (fun _ _ r => r.mono e) h
theorem RelS.mono (r : RelS K xa M0 ρ σ H) (e : Same H H') : RelS K xa M0 ρ σ H' :=
  ⟨r.len, r.m0.mono e, fun i d h => let ⟨v, h1, h2⟩ := r.fz i d h; ⟨v, h1, h2.mono e⟩, fun i d h => let ⟨a, h1, h2⟩ := r.ow i d h; ⟨a, h1, own_mono e h2⟩, r.ex, r.dj⟩
end
/-! ### wishes -/
def clsV (K : PySem.W.Frag) (c : Str) : Value := .ref (He.ga K c)
def PostR (K : PySem.W.Frag) (W : WX) (σ : L2.St) {α : Type} (k : α → Hp → Prop) (H : Hp) : Res α → Prop
  | .ok a => ∀ H', Same H H' → k a H'
  | .exc c => ∀ H', Same H H' → W (clsV K c) none σ H'
  | .err => False
section
variable {K : PySem.W.Frag} {W : WX} {ρ : Slots} {σ : L2.St} {H H' : Hp} {α β : Type} {k k' : α → Hp → Prop}
theorem PostR.imp {r : Res α} (h : PostR K W σ k H r) (f : ∀ a H', Same H H' → k a H' → k' a H') : PostR K W σ k' H r := by
  cases r with
  | ok a => exact fun H' s => f a H' s (h H' s)
  | exc c => exact h
  | err => exact h
theorem PostR.mono {r : Res α} (e : Same H H') (h : PostR K W σ k H r) : PostR K W σ k H' r := by
  cases r with
  | ok a => exact fun H2 s => h H2 (e.trans s)
  | exc c => exact fun H2 s => h H2 (e.trans s)
  | err => exact h
theorem PostR.bind {r : Res α} {f : α → Res β} {k : β → Hp → Prop} (h : PostR K W σ k H (r >>= f)) : PostR K W σ (fun a H1 => PostR K W σ k H1 (f a)) H r := by
  cases r with
  | ok a => exact fun H' s => PostR.mono s h
  | exc c => exact h
  | err => exact h
theorem PostR.ok {a : α} (h : PostR K W σ k H (.ok a)) : k a H := h H (Same.refl H)
/-- what does not raise comes out -/
theorem PostR.get {r : Res α} (h : PostR K W σ k H r) (hn : ∀ c, r ≠ .exc c) : ∃ a, r = .ok a ∧ k a H := by
  cases r with
  | ok a => exact ⟨a, rfl, h.ok⟩
  | exc c => exact absurd rfl (hn c)
  | err => exact h.elim
end
def brw : E → Bool
  | .own _ => true
  | .dct _ => true
  | .dcz _ _ => true
  | _ => false
def RepB (b : Bool) (K : PySem.W.Frag) (M : Addr → Prop) (H : Hp) (v : V) (d : D) : Prop := match b with
  | true => ∃ a, v = .ref a ∧ Own K M H a d
  | false => Rep K M H v d
theorem RepB.mono {b : Bool} {K : PySem.W.Frag} {M : Addr → Prop} {H H' : Hp} {v : V} {d : D} (e : Same H H') (h : RepB b K M H v d) : RepB b K M H' v d := by
  cases b with
  | false => exact Rep.mono e h
  | true =>
    obtain ⟨a, h1, h2⟩ := h
    exact ⟨a, h1, own_mono e h2⟩
theorem RepB.dp {b : Bool} {K : PySem.W.Frag} {M : Addr → Prop} {H : Hp} {v : V} {d : D} (h : RepB b K M H v d) (hd : d.canLay0 = true) : Dp K H v d := by
  cases b with
  | false => exact Rep.dp h
  | true =>
    obtain ⟨a, rfl, ⟨vs, ds, rfl, h2, _, h5⟩ | ⟨kvs, ds, rfl, _⟩⟩ := h
    · exact .lst (.inl (.inl h2)) h5.dp
    · cases hd
theorem RepB.list {b : Bool} {K : PySem.W.Frag} {M : Addr → Prop} {H : Hp} {v : V} {ds : List D} (h : RepB b K M H v (.list ds)) : ∃ a vs, v = .ref a ∧ Rd H a (.lst vs) ∧ vs.length ≤ sizeLine ∧ RepL K M H vs ds := by
  cases b with
  | false =>
    cases h with
    | lst h n z r => exact ⟨_, _, rfl, h, z, r⟩
  | true =>
    obtain ⟨a, rfl, h⟩ := h
    obtain ⟨vs, h2, h4, h5⟩ := own_lst h
    exact ⟨a, vs, rfl, .inl h2, h4, h5⟩
theorem RepB.rep {b : Bool} {K : PySem.W.Frag} {M : Addr → Prop} {H : Hp} {v : V} {d : D} (h : RepB b K M H v d) (hd : ∀ ds, d ≠ .list ds) (hd' : ∀ ds, d ≠ .dict ds) : Rep K M H v d := by
  cases b with
  | false => exact h
  | true =>
    obtain ⟨a, rfl, ⟨vs, ds', e, _⟩ | ⟨vs, ds', e, _⟩⟩ := h
    · exact absurd e (hd ds')
    · exact absurd e (hd' ds')
theorem RepB.tupleP {b : Bool} {K : PySem.W.Frag} {M : Addr → Prop} {H : Hp} {v : V} {ds : List D} (h : RepB b K M H v (.tuple ds)) : ∃ a vs, v = .ref a ∧ SqP K H a vs ∧ vs.length ≤ sizeLine ∧ RepL K M H vs ds := by
  have h' := h.rep (fun ds e => by cases e) (fun ds e => by cases e)
  cases h' with
  | tup q z r => exact ⟨_, _, rfl, q, z, r⟩
theorem RepB.tuple {b : Bool} {K : PySem.W.Frag} {M : Addr → Prop} {H : Hp} {v : V} {ds : List D} (h : RepB b K M H v (.tuple ds)) : ∃ a vs, v = .ref a ∧ SqT K H a vs ∧ vs.length ≤ sizeLine ∧ RepL K M H vs ds := by
  obtain ⟨a, vs, h1, h2, h3⟩ := h.tupleP
  exact ⟨a, vs, h1, h2.t, h3⟩
theorem RepB.int {b : Bool} {K : PySem.W.Frag} {M : Addr → Prop} {H : Hp} {v : V} {i : Int} (h : RepB b K M H v (.int i)) : v = .int i := by
  have h' := h.rep (fun ds e => by cases e) (fun ds e => by cases e)
  cases h'
  rfl
theorem RepB.bool {b : Bool} {K : PySem.W.Frag} {M : Addr → Prop} {H : Hp} {v : V} {c : Bool} (h : RepB b K M H v (.bool c)) : v = .bl c := by
  have h' := h.rep (fun ds e => by cases e) (fun ds e => by cases e)
  cases h'
  rfl
theorem RepB.str {b : Bool} {K : PySem.W.Frag} {M : Addr → Prop} {H : Hp} {v : V} {x : Str} (h : RepB b K M H v (.str x)) : v = .str x ∧ x.length ≤ sizeLine := by
  have h' := h.rep (fun ds e => by cases e) (fun ds e => by cases e)
  cases h' with
  | str _ z => exact ⟨rfl, z⟩
theorem RepB.dict {b : Bool} {K : PySem.W.Frag} {M : Addr → Prop} {H : Hp} {v : V} {ds : List (D × D)} (h : RepB b K M H v (.dict ds)) : ∃ a kvs, v = .ref a ∧ H a = some (.dK kvs) ∧ kvs.length ≤ sizeLine ∧ RepKV K M H kvs ds := by
  cases b with
  | false => cases (show Rep K M H v (.dict ds) from h)
  | true =>
    obtain ⟨a, rfl, ⟨vs, ds', e, _⟩ | ⟨kvs, ds', e, h2, h3, h4⟩⟩ := h
    · cases e
    · cases e
      exact ⟨a, kvs, rfl, h2, h3, h4⟩
theorem RepB.none {b : Bool} {K : PySem.W.Frag} {M : Addr → Prop} {H : Hp} {v : V} (h : RepB b K M H v .none) : v = .non := by
  have h' := h.rep (fun ds e => by cases e) (fun ds e => by cases e)
  cases h'
  rfl
/-- what an expression's code asks -/
def canE (K : PySem.W.Frag) (xa : Addr → Str → Prop) (W : WX) (G : Str → List D → Res D) (c : E) : TE := fun σ H Q => ∃ M0 ρ, RelS K xa M0 ρ σ H ∧ PostR K W σ (fun d H' => ∀ v, RepB (brw c) K (Mx M0 ρ σ) H' v d → Q v H') H (ev G c ρ)
/-- as a test -/
def canT (K : PySem.W.Frag) (xa : Addr → Str → Prop) (W : WX) (G : Str → List D → Res D) (c : E) : TT := fun σ H Q => ∃ M0 ρ, RelS K xa M0 ρ σ H ∧ PostR K W σ (fun b H' => Q b H') H (ev G c ρ >>= asBool)
def canA (K : PySem.W.Frag) (xa : Addr → Str → Prop) (W : WX) (G : Str → List D → Res D) (cs : Es) : TA := fun σ H Q => ∃ M0 ρ, RelS K xa M0 ρ σ H ∧ PostR K W σ (fun ds H' => ∀ vs, RepL K (Mx M0 ρ σ) H' vs ds → Q vs H') H (evs G cs ρ)
theorem PE.of {X : Cx} {e : Expr} {t t' : TE} (h : PE X e t) (f : ∀ σ H Q, t' σ H Q → t σ H Q) : PE X e t' := ⟨fun pins s σ H Q I q => h.run pins s σ H Q I (f σ H Q q)⟩
theorem PT.of {X : Cx} {e : Expr} {t t' : TT} (h : PT X e t) (f : ∀ σ H Q, t' σ H Q → t σ H Q) : PT X e t' := ⟨fun pins s σ H Q I q => h.run pins s σ H Q I (f σ H Q q)⟩
theorem PA.of {X : Cx} {e : List Expr} {t t' : TA} (h : PA X e t) (f : ∀ σ H Q, t' σ H Q → t σ H Q) : PA X e t' := ⟨fun pos pins s σ H Q I q => h.run pos pins s σ H Q I (f σ H Q q)⟩
end Fp
set_option maxHeartbeats 1000000
namespace Fp
open PySem PySem.Spec PyProof.Rows L2
variable [TB]
theorem keq_key (a b : Key) : keq (keyD a) (keyD b) = decide (a = b) := by
  cases a <;> cases b <;> simp [keyD, keq]
section
variable {K : PySem.W.Frag} {M : Addr → Prop} {H : Hp}
theorem RepKV.any (k : Key) : ∀ {kvs : List (Key × V)} {ds : List (D × D)}, RepKV K M H kvs ds → (ds.any fun p => keq p.1 (keyD k)) = kvs.any fun kv => decide (kv.1 = k)
  | _, _, .nil => rfl
  | _, _, .cons h r => by
    rw [List.any_cons, List.any_cons, RepKV.any k r, keq_key]
theorem RepKV.repl (k : Key) {v : V} {d : D} (hv : Rep K M H v d) : ∀ {kvs : List (Key × V)} {ds : List (D × D)}, RepKV K M H kvs ds → RepKV K M H (kvs.map fun kv => if kv.1 = k then (kv.1, v) else kv) (ds.map fun p => if keq p.1 (keyD k) then (p.1, d) else p)
  | _, _, .nil => .nil
  | _, _, .cons (k := k') h r => by
    rw [List.map_cons, List.map_cons, keq_key]
    by_cases e : k' = k
    · simp only [e, decide_true, if_true]
      exact .cons hv (RepKV.repl k hv r)
    · simp only [e, decide_false, if_false, Bool.false_eq_true]
      exact .cons h (RepKV.repl k hv r)
theorem RepKV.snoc {k : Key} {v : V} {d : D} (hv : Rep K M H v d) : ∀ {kvs : List (Key × V)} {ds : List (D × D)}, RepKV K M H kvs ds → RepKV K M H (kvs ++ [(k, v)]) (ds ++ [(keyD k, d)])
  | _, _, .nil => .cons hv .nil
  | _, _, .cons h r => .cons h (RepKV.snoc hv r)
theorem RepKV.put {k : Key} {v : V} {d : D} {kvs : List (Key × V)} {ds : List (D × D)} (r : RepKV K M H kvs ds) (hv : Rep K M H v d) : RepKV K M H (putK kvs k v) (dputD ds (keyD k) d) := by
  unfold putK dputD
  rw [r.any k]
  split
  · exact r.repl k hv
  · exact r.snoc hv
theorem RepKV.get {k : Key} : ∀ {kvs : List (Key × V)} {ds : List (D × D)}, RepKV K M H kvs ds → (∀ d, dgetD ds (keyD k) = some d → ∃ v, valV kvs k = some v ∧ Rep K M H v d) ∧ (dgetD ds (keyD k) = none → valV kvs k = none)
  | _, _, .nil => ⟨fun d h => (by cases h), fun _ => rfl⟩
  | _, _, .cons (k := k') (v := v') (d := d') (kvs := kvs) (ds := ds) h r => by
    by_cases e : k' = k
    · subst e
      have e1 : dgetD ((keyD k', d') :: ds) (keyD k') = some d' := by unfold dgetD; rw [List.find?_cons, keq_key]; simp
      rw [e1, valV_pos rfl]
      exact ⟨fun d h => ⟨v', rfl, by cases h; exact ‹Rep K M H v' d'›⟩, fun h => by cases h⟩
    · have e1 : dgetD ((keyD k', d') :: ds) (keyD k) = dgetD ds (keyD k) := by unfold dgetD; rw [List.find?_cons, keq_key]; simp [e]
      rw [e1, valV_neg e]
      exact RepKV.get r
end
theorem isKey_of {k : D} (h : isKey k = true) : ∃ c : Key, k = keyD c := by
  cases k with
  | int i => exact ⟨.inl i, rfl⟩
  | str x => exact ⟨.inr x, rfl⟩
  | _ => cases h
/-- a key, as a value -/
theorem key_v {b : Bool} {K : PySem.W.Frag} {M : Addr → Prop} {H : Hp} {v : V} {c : Key} (h : RepB b K M H v (keyD c)) : v = kV c := by
  cases c with
  | inl i => exact h.int
  | inr x => exact h.str.1
end Fp
set_option maxHeartbeats 1000000
namespace Fp
open PySem PySem.Spec PyProof.Rows L2
variable [TB]
/-! ### new objects -/
def MD (M : Addr → Prop) (D : Addr) (a : Addr) : Prop := M a ∨ a = D
/-- a list is new: nothing of it is in it -/
def Nu (K : PySem.W.Frag) (M : Addr → Prop) (H H' : Hp) (v : V) (d : D) : Prop := ∀ ds, d = .list ds → ∃ p vs, v = .ref p ∧ H p = none ∧ H' p = some (.lst vs) ∧ vs.length ≤ sizeLine ∧ RepL K (MD M p) H' vs ds
section
variable {K : PySem.W.Frag} {M : Addr → Prop} {H H' : Hp}
theorem okM.out (h : okM M H) {p : Addr} (hp : H p = none) : ¬ M p := fun m => by
  obtain ⟨o, q⟩ := h.s p m
  rw [hp] at q
  cases q
theorem same_new {p : Addr} {o : HO} (h : H p = none) : Same H (upd H p o) := .of fun b x e => by
  rw [upd_ne (ne_of_none e h)]
  exact e
/-- what is a list or a dict is no table, no code object -/
def noTb : HO → Bool
  | .lst _ => true
  | .dK _ => true
  | _ => false
theorem tabs_upd {H : Hp} {a : Addr} {u u' : HO} (h : H a = some u) (hu : noTb u = true) (t : LamX.Tabs TB.T H) : LamX.Tabs TB.T (upd H a u') := fun q hq => by
  obtain ⟨ps, h1, h2, h3⟩ := t q hq
  have n1 : q.1 ≠ a := fun e => by
    rw [e, h] at h1
    cases h1
    cases hu
  refine ⟨ps, by rw [upd_ne n1]; exact h1, h2, fun pos cv hc => ?_⟩
  obtain ⟨c, e1, e2⟩ := h3 pos cv hc
  have n2 : c ≠ a := fun e => by
    rw [e, h] at e2
    cases e2
    cases hu
  exact ⟨c, e1, by rw [upd_ne n2]; exact e2⟩
theorem upd_free {H : Hp} {a : Addr} {u : HO} (h : ∃ o, H a = some o) {b : Addr} (q : upd H a u b = none) : H b = none := by
  by_cases e : b = a
  · subst e
    rw [upd_same] at q
    cases q
  · rw [upd_ne e] at q
    exact q
theorem new_lst {p : Addr} {vs : List V} {ds : List D} (hM : okM M H) (hp : H p = none) (z : vs.length ≤ sizeLine) (r : RepL K M H vs ds) : Rep K M (upd H p (.lst vs)) (.ref p) (.list ds) :=
  .lst (.inl upd_same) (hM.out hp) z (r.mono (same_new hp))
theorem new_tup {p : Addr} {o : Obj} {vs : List V} {ds : List D} (ho : plO o) (hp : H p = none) (z : vs.length ≤ sizeLine) (r : RepL K M H vs ds) : Rep K M (upd H p (.frz o (.tup vs))) (.ref p) (.tuple ds) :=
  .tup (.inl ⟨o, upd_same, ho⟩) z (r.mono (same_new hp))
/-- a plain tuple is laid -/
theorem inv_tup {X : Cx} {pins : List (Addr × Obj)} {σ : L2.St} {H : Hp} {s : Shared} {its : List Value} {n t' : Nat} {ys : List V} {arr : Array Value} (I : L2.Inv X pins σ H s) (hv : Vals ys its) (hz : ys.length ≤ sizeLine) (ha : arr = its.toArray) :
    L2.Inv X pins σ (upd H s.heap.objs.size (.frz { cls := .type "tuple", data := .seq arr n } (.tup ys))) { s with heap := s.heap.push { cls := .type "tuple", data := .seq arr n }, toks := t' } := by
  subst ha
  exact I.laid (fun _ _ q => Heap.get?_push_of_some _ q) (Nat.le_refl _) ⟨Heap.get?_push_size _ rfl, hz, its, hv, ⟨_, Heap.get?_push_size _ rfl, rfl, _, rfl⟩⟩
theorem nu_lst {p : Addr} {vs : List V} {ds : List D} (hp : H p = none) (z : vs.length ≤ sizeLine) (r : RepL K M H vs ds) : Nu K M H (upd H p (.lst vs)) (.ref p) (.list ds) := fun _ e => by
  cases e
  refine ⟨p, vs, rfl, hp, upd_same, z, (r.off fun a m => ?_).mono (same_new hp)⟩
  rcases m with m | m
  · exact .inl m
  · exact .inr (by rw [m]; exact hp)
theorem nu_no {v : V} {d : D} (h : ∀ ds, d ≠ .list ds) : Nu K M H H' v d := fun ds e => absurd e (h ds)
theorem Nu.back {H0 : Hp} {v : V} {d : D} (e : Same H0 H) (h : Nu K M H H' v d) : Nu K M H0 H' v d := fun ds q => by
  obtain ⟨p, vs, h1, h2, h3⟩ := h ds q
  exact ⟨p, vs, h1, e.free h2, h3⟩
end
/-! ### operators by data -/
def rBin (K : PySem.W.Frag) (op : Operator) : R2 := fun x y H Q => ∃ M b1 b2 d1 d2 d, okM M H ∧ RepB b1 K M H x d1 ∧ RepB b2 K M H y d2 ∧ binD op d1 d2 = .ok d ∧ ∀ v H', Same H H' → Rep K M H' v d → Nu K M H H' v d → Q v H'
theorem lstR {X : Cx} {pins : List (Addr × Obj)} {σ : L2.St} {H : Hp} {s : Shared} {l : Addr} {xs : List V} (I : Inv X pins σ H s) (hH : Rd H l (.lst xs)) : xs.length ≤ sizeLine ∧ ∃ (its : List Value) (n : Nat), Vals xs its ∧ xs.length = its.length ∧ s.heap.get? l = some { cls := .type "list", data := .seq its.toArray n } := by
  obtain ⟨z, its, n, r, e⟩ := hH.ok I.hok
  exact ⟨z, its, n, r, r.length, e⟩
section
variable {X : Cx}
/-- t + u, plain tuples -/
def rCatP (K : PySem.W.Frag) : R2 := fun x y H Q => ∃ a b xs ys, x = .ref a ∧ y = .ref b ∧ SqP K H a xs ∧ SqP K H b ys ∧ xs.length + ys.length ≤ sizeLine ∧
  (xs = [] → Q (.ref b) H) ∧ (xs ≠ [] → ys = [] → Q (.ref a) H) ∧ (xs ≠ [] → ys ≠ [] → ∀ p o, plO o → H p = none → Q (.ref p) (upd H p (.frz o (.tup (xs ++ ys)))))
theorem op_catP : OpR X (binaryOp .Add) (rCatP X.K) := by
  intro pins s σ H x y v u Q I rx ry h
  obtain ⟨a, b, xs, ys, e1, e2, pa, pb, hlen, w0, w1, w2⟩ := h
  by_cases n1 : xs = []
  · exact op_catA pins s σ H x y v u Q I rx ry ⟨a, b, xs, ys, e1, e2, pa.t, pb.t, hlen, w0, w1, fun n => absurd n1 n⟩
  by_cases n2 : ys = []
  · exact op_catA pins s σ H x y v u Q I rx ry ⟨a, b, xs, ys, e1, e2, pa.t, pb.t, hlen, w0, w1, fun _ n => absurd n2 n⟩
  rw [e1] at rx
  rw [e2] at ry
  cases rx
  cases ry
  obtain ⟨us, ra, ta, _⟩ := I.tuple pa.t
  obtain ⟨ws, rb, tb, _⟩ := I.tuple pb.t
  have m1 : us ≠ [] := fun e => n1 (ra.nil_iff.mp e)
  have m2 : ws ≠ [] := fun e => n2 (rb.nil_iff.mp e)
  have hl2 : us.length + ws.length ≤ sizeLine := by rw [← ra.length, ← rb.length]; exact hlen
  exact HT.cat_tup ta tb m1 (fun e => absurd e m2) (fun _ => ⟨.ref _, _, inv_tup (its := us ++ ws) (t' := s.toks) I (ra.append rb) (by rw [List.length_append]; exact hlen) (by simp), rfl, w2 n1 n2 _ _ ⟨rfl, rfl, rfl⟩ I.fresh⟩) hl2
def rCatR : R2 := fun x y H Q => ∃ l b xs zs, x = .ref l ∧ y = .ref b ∧ Rd H l (.lst xs) ∧ Rd H b (.lst zs) ∧ xs.length + zs.length ≤ sizeLine ∧ ∀ p, H p = none → Q (.ref p) (upd H p (.lst (xs ++ zs)))
theorem op_catR : OpR X (binaryOp .Add) rCatR := by
  intro pins s σ H x y v u Q I rx ry h
  obtain ⟨l, b, xs, zs, rfl, rfl, hH, hB, hz, q⟩ := h
  cases rx
  cases ry
  obtain ⟨z, its, n, r, hl, e⟩ := lstR I hH
  obtain ⟨z2, its2, n2, r2, hl2, e2⟩ := lstR I hB
  refine PySem.P.add_list e e2 ?_ (by rw [List.size_toArray, List.size_toArray]; omega)
  have ea : its.toArray ++ its2.toArray = (its ++ its2).toArray := by simp
  rw [ea]
  exact ⟨.ref _, _, I.lnew (t' := s.toks) (r.append r2) (by rw [List.length_append]; omega), rfl, q _ I.fresh⟩
def rRepR : R2 := fun x y H Q => ∃ l k xs, x = .ref l ∧ y = .int k ∧ Rd H l (.lst xs) ∧ -(2 ^ 63) ≤ k ∧ k < 2 ^ 63 ∧ xs.length * k.toNat ≤ sizeLine ∧
  ∀ p, H p = none → Q (.ref p) (upd H p (.lst (List.replicate k.toNat xs).flatten))
theorem op_repR : OpR X (binaryOp .Mult) rRepR := by
  intro pins s σ H x y v u Q I rx ry h
  obtain ⟨l, k, xs, rfl, rfl, hH, h1, h2, hz, q⟩ := h
  cases rx
  obtain ⟨t, rfl⟩ := ry
  obtain ⟨z, its, n, r, hl, e⟩ := lstR I hH
  have hlen : its.toArray.size * k.toNat ≤ sizeLine := by rw [List.size_toArray, ← hl]; exact hz
  have hcap : ¬ its.toArray.size * k.toNat > (2 ^ 63 - 1) / 8 := by
    have : (sizeLine : Nat) ≤ (2 ^ 63 - 1) / 8 := by decide
    omega
  have hfit : ¬ (!Builtin.List.listFitsIndex k) = true := by
    rw [fitsIndex_both h1 h2]
    exact Bool.false_ne_true
  have hlong : ¬ Builtin.List.listTooLong (its.toArray.size * k.toNat) = true := by
    rw [notLongL hlen]
    exact Bool.false_ne_true
  have hnew : List.foldl (fun x1 x2 => x1 ++ x2) #[] (List.replicate (if its.toArray.isEmpty = true then 0 else k.toNat) its.toArray) = (List.replicate k.toNat its).flatten.toArray := by
    have f0 : ∀ m : Nat, List.foldl (fun x1 x2 => x1 ++ x2) #[] (List.replicate m its.toArray) = (List.replicate m its).flatten.toArray := fun m => by
      have := foldl_rep its m []
      rw [List.nil_append] at this
      exact this
    rw [f0]
    cases its with
    | nil => simp
    | cons a r' => rw [if_neg (by simp)]
  refine wpAny_binaryOp_repeat_ref (T := "list") (U := "int") (by decide) ⟨_, e, rfl⟩ (fun s' => typeIs_int s' k t) noFill_list_mul F.fills_int_mul F.slot_int_rmul repeat_list F.slot_int_index.lookup
    (call_meets F.slot_int_rmul (typeIs_int s k t) F.entry_int_rmul (F.args_int_rmul_2 _ _) (int___rmul___int_list k t l its.toArray n)
      ⟨e, rfl, ⟨_, e, rfl⟩, call_meets F.slot_list_mul ⟨_, e, rfl⟩ F.entry_list_mul (F.args_list_mul_2 _ _) (AutoListH.list___mul___list_int_3 l its.toArray n k t hfit hcap hlong) ⟨e, ?_⟩⟩)
  rw [hnew]
  exact ⟨.ref _, _, I.lnew (t' := s.toks) (r.rep k.toNat) (by rw [PyProof.Rows.lm_len_rep_flat, Nat.mul_comm]; exact hz), rfl, q _ I.fresh⟩
theorem tup_mul1 (l : Addr) (items : Array Value) (n : Nat) (u : Tok) : Meets (Builtin.«tuple.__mul__» ⟨[.ref l, .int 1 u], []⟩) (fun _ R s => s.heap.get? l = some { cls := .type "tuple", data := .seq items n } ∧ R (.ok (.ret (Value.ref l))) s) :=
  .of_wp fun prog w A R s h => by
    obtain ⟨hp, g, d, tk, os⟩ := s; obtain ⟨hl, h⟩ := h
    have f1 := AutoSeq1.idx_int
    (wp_walk using wpAny_loadPart' hl) <;> skip
    exact ⟨_, rfl, h⟩
/-- what a plain tuple is -/
theorem plain_obj {pins : List (Addr × Obj)} {s : Shared} {σ : L2.St} {H : Hp} {b : Addr} {zs : List V} (I : L2.Inv X pins σ H s) (hB : SqP X.K H b zs) : ∃ its n, Vals zs its ∧ zs.length ≤ sizeLine ∧ s.heap.get? b = some { cls := .type "tuple", data := .seq its.toArray n } := by
  obtain ⟨its2, r2, ⟨o, e2, hc, n2, hd⟩, z2⟩ := I.tuple hB.t
  have pl : plO o := by
    rcases hB with ⟨o', h, h5⟩ | ⟨o', _, _, h, h5, _⟩
    · have z : s.heap.get? b = some o' := (I.hok b _ h).1
      rw [e2] at z
      cases z
      exact h5
    · have z : s.heap.get? b = some o' := I.kIn b o' h
      rw [e2] at z
      cases z
      exact h5
  obtain ⟨p1, p2, p3⟩ := pl
  refine ⟨its2, n2, r2, z2, ?_⟩
  rw [e2]
  cases o
  simp_all
/-- t * k, a plain tuple -/
def rMulP (K : PySem.W.Frag) : R2 := fun x y H Q => ∃ l k xs, x = .ref l ∧ y = .int k ∧ SqP K H l xs ∧ xs ≠ [] ∧ 1 ≤ k ∧ k ≤ 1000 ∧ xs.length ≤ 1000 ∧ (k = 1 → Q (.ref l) H) ∧ (2 ≤ k → ∀ p o, plO o → H p = none → Q (.ref p) (upd H p (.frz o (.tup (List.replicate k.toNat xs).flatten))))
theorem op_mulP : OpR X (binaryOp .Mult) (rMulP X.K) := by
  intro pins s σ H x y v u Q I rx ry h
  obtain ⟨l, k, xs, rfl, rfl, hT, hne, h1, h2, hz, w1, w2⟩ := h
  cases rx
  obtain ⟨t, rfl⟩ := ry
  obtain ⟨its, n, r, hs, ho⟩ := plain_obj I hT
  have hle : its.length = xs.length := r.length.symm
  by_cases hk : k = 1
  · subst hk
    exact wpAny_binaryOp_repeat_ref (T := "tuple") (U := "int") (by decide) ⟨_, ho, rfl⟩ (fun s' => typeIs_int s' 1 t) noFill_tuple_mul F.fills_int_mul F.slot_int_rmul repeat_tuple F.slot_int_index.lookup
      (call_meets F.slot_int_rmul (typeIs_int s 1 t) F.entry_int_rmul (F.args_int_rmul_2 _ _) (int_rmul_tuple 1 t l its.toArray n none #[])
        ⟨ho, rfl, ⟨_, ho, rfl⟩, call_meets F.slot_tuple_mul ⟨_, ho, rfl⟩ F.entry_tuple_mul (F.args_tuple_mul_2 _ _) (tup_mul1 l its.toArray n t) ⟨ho, .ref l, H, I, rfl, w1 rfl⟩⟩)
  have hk2 : 2 ≤ k := by omega
  have hi : its.toArray.isEmpty = false := by
    cases its with
    | nil => exact absurd (List.eq_nil_of_length_eq_zero hle.symm) hne
    | cons a b => rfl
  have hsz0 : its.toArray.size = xs.length := by rw [List.size_toArray, hle]
  have hm : ((its.toArray.size : Nat) : Int) * k ≤ 1000000 := by
    rw [hsz0]
    have := Int.mul_le_mul_of_nonneg_right (c := k) (show ((xs.length : Nat) : Int) ≤ 1000 by omega) (by omega)
    omega
  have fl : k.toNat * xs.length ≤ 1000000 := by
    have := Nat.mul_le_mul (show k.toNat ≤ 1000 by omega) hz
    omega
  have flen : (List.replicate k.toNat its).flatten.length ≤ sizeLine := by
    rw [PyProof.Rows.lm_len_rep_flat, hle, sizeLine_eq]
    omega
  refine wpAny_binaryOp_repeat_ref (T := "tuple") (U := "int") (by decide) ⟨_, ho, rfl⟩ (fun s' => typeIs_int s' k t) noFill_tuple_mul F.fills_int_mul F.slot_int_rmul repeat_tuple F.slot_int_index.lookup
    (call_meets F.slot_int_rmul (typeIs_int s k t) F.entry_int_rmul (F.args_int_rmul_2 _ _) (int_rmul_tuple k t l its.toArray n none #[])
      ⟨ho, rfl, ⟨_, ho, rfl⟩, call_meets F.slot_tuple_mul ⟨_, ho, rfl⟩ F.entry_tuple_mul (F.args_tuple_mul_2 _ _) (tuple_mulW l its.toArray n none #[] k t (by rw [decide_eq_false (by omega), decide_eq_false (by omega)] <;> rfl) (by rw [hi, Bool.false_or]; exact beq_eq_false_iff_ne.mpr (by omega)) (by rw [hi, Bool.or_false]; exact decide_eq_false (by omega)) (by omega) (by unfold Builtin.Tuple.tupleTooMany; rw [sizeLine_eq]; exact decide_eq_false (by omega)) (by rw [size_rep, List.size_toArray]; exact flen)) ⟨ho, ?_⟩⟩)
  rw [size_rep]
  exact ⟨.ref _, _, inv_tup (its := (List.replicate k.toNat its).flatten) (t' := s.toks) I (r.rep k.toNat) (by rw [PyProof.Rows.lm_len_rep_flat, sizeLine_eq]; omega) rfl, rfl, w2 hk2 _ _ ⟨rfl, rfl, rfl⟩ I.fresh⟩
theorem log2_64 {j : Int} (h0 : 0 < j) (h : j < 2 ^ 64) : CDivW 0 j := wide_div (b := 64) h0 (by omega) (by omega) (by omega)
theorem op_bin (op : Operator) : OpR X (binaryOp op) (rBin X.K op) := by
  intro pins s σ H x y v u Q I rx ry h
  obtain ⟨M, b1, b2, d1, d2, d, hM, h1, h2, e, q⟩ := h
  cases op with
  | Add =>
    unfold binD at e
    split at e
    all_goals first | (rename_i z; cases z) | skip
    · cases e
      rw [h1.int] at rx; rw [h2.int] at ry
      exact op_add pins s σ H _ _ v u Q I rx ry ⟨_, _, rfl, rfl, q _ _ (Same.refl _) (.int _) (nu_no fun _ z => by cases z)⟩
    · split at e
      · cases e
        rename_i hz
        obtain ⟨e1, z1⟩ := h1.str
        obtain ⟨e2, z2⟩ := h2.str
        rw [e1] at rx; rw [e2] at ry
        exact op_add_str pins s σ H _ _ v u Q I rx ry ⟨_, _, rfl, rfl, hz, q _ _ (Same.refl _) (.str _ (by
          have : ∀ a b : Str, (a ++ b).length = a.length + b.length := fun a b => by
            show (a.cps ++ b.cps).size = _
            rw [Array.size_append]; rfl
          rw [this]; exact hz)) (nu_no fun _ z => by cases z)⟩
      · cases e
    · split at e
      · cases e
        rename_i hz
        obtain ⟨a, vs, e1, r1, z1, l1⟩ := h1.list
        obtain ⟨b, ws, e2, r2, z2, l2⟩ := h2.list
        rw [e1] at rx; rw [e2] at ry
        have hz' : vs.length + ws.length ≤ sizeLine := by rw [l1.length, l2.length]; exact hz
        exact op_catR pins s σ H _ _ v u Q I rx ry ⟨a, b, vs, ws, rfl, rfl, r1, r2, hz', fun p hp => q _ _ (same_new hp) (new_lst hM hp (by rw [List.length_append]; exact hz') (l1.append l2)) (nu_lst hp (by rw [List.length_append]; exact hz') (l1.append l2))⟩
      · cases e
    · split at e
      · cases e
        rename_i hz
        obtain ⟨a, vs, e1, r1, z1, l1⟩ := h1.tupleP
        obtain ⟨b, ws, e2, r2, z2, l2⟩ := h2.tupleP
        rw [e1] at rx; rw [e2] at ry
        have hz' : vs.length + ws.length ≤ sizeLine := by rw [l1.length, l2.length]; exact hz
        refine op_catP pins s σ H _ _ v u Q I rx ry ⟨a, b, vs, ws, rfl, rfl, r1, r2, hz', fun n => ?_, fun _ n => ?_, fun _ _ p o ho hp => ?_⟩
        · subst n
          cases l1
          exact q _ _ (Same.refl _) (.tup r2 z2 l2) (nu_no fun _ z => by cases z)
        · subst n
          cases l2
          refine q _ _ (Same.refl _) (.tup r1 z1 ?_) (nu_no fun _ z => by cases z)
          rw [List.append_nil]
          exact l1
        · exact q _ _ (same_new hp) (new_tup ho hp (by rw [List.length_append]; exact hz') (l1.append l2)) (nu_no fun _ z => by cases z)
      · cases e
    · cases e
  | Sub =>
    unfold binD at e
    split at e
    all_goals first | (rename_i z; cases z) | skip
    · cases e
      rw [h1.int] at rx; rw [h2.int] at ry
      exact op_sub pins s σ H _ _ v u Q I rx ry ⟨_, _, rfl, rfl, q _ _ (Same.refl _) (.int _) (nu_no fun _ z => by cases z)⟩
    · cases e
  | Mult =>
    unfold binD at e
    split at e
    all_goals first | (rename_i z; cases z) | skip
    · split at e
      · cases e
        rename_i hc
        rw [h1.int] at rx; rw [h2.int] at ry
        exact op_mul pins s σ H _ _ v u Q I rx ry ⟨_, _, rfl, rfl, hc, q _ _ (Same.refl _) (.int _) (nu_no fun _ z => by cases z)⟩
      · cases e
    · rename_i xs k
      split at e
      · cases e
        rename_i hc
        obtain ⟨a, vs, e1, r1, z1, l1⟩ := h1.list
        rw [e1] at rx; rw [h2.int] at ry
        have hz' : vs.length * k.toNat ≤ sizeLine := by rw [l1.length]; exact hc.2
        exact op_repR pins s σ H _ _ v u Q I rx ry ⟨a, _, vs, rfl, rfl, r1, hc.1.1, hc.1.2, hz', fun p hp => q _ _ (same_new hp) (new_lst hM hp (by rw [PyProof.Rows.lm_len_rep_flat, Nat.mul_comm]; exact hz') (l1.rep _)) (nu_lst hp (by rw [PyProof.Rows.lm_len_rep_flat, Nat.mul_comm]; exact hz') (l1.rep _))⟩
      · cases e
    · rename_i xs k
      split at e
      · cases e
        rename_i hc
        obtain ⟨a, vs, e1, r1, z1, l1⟩ := h1.tupleP
        rw [e1] at rx; rw [h2.int] at ry
        have hl := l1.length
        have hfz : (List.replicate k.toNat vs).flatten.length ≤ sizeLine := by
          rw [PyProof.Rows.lm_len_rep_flat, sizeLine_eq]
          have := Nat.mul_le_mul (show k.toNat ≤ 1000 by omega) (show vs.length ≤ 1000 by omega)
          omega
        refine op_mulP pins s σ H _ _ v u Q I rx ry ⟨a, k, vs, rfl, rfl, r1, fun z => hc.2.2.1 (by rw [← hl, z]; rfl), hc.1, hc.2.1, by omega, fun e1 => ?_, fun _ p o ho hp => q _ _ (same_new hp) (new_tup ho hp hfz (l1.rep _)) (nu_no fun _ z => by cases z)⟩
        subst e1
        refine q _ _ (Same.refl _) ?_ (nu_no fun _ z => by cases z)
        have : (List.replicate (1 : Int).toNat xs).flatten = xs := by simp
        rw [this]
        exact .tup r1 z1 l1
      · cases e
    · cases e
  | FloorDiv =>
    unfold binD at e
    split at e
    all_goals first | (rename_i z; cases z) | skip
    · split at e
      · cases e
        rename_i hc
        rw [h1.int] at rx; rw [h2.int] at ry
        exact op_fdivW pins s σ H _ _ v u Q I rx ry ⟨_, _, rfl, rfl, log2_64 hc.1 hc.2, q _ _ (Same.refl _) (.int _) (nu_no fun _ z => by cases z)⟩
      · cases e
    · cases e
  | Mod =>
    unfold binD at e
    split at e
    all_goals first | (rename_i z; cases z) | skip
    · split at e
      · cases e
        rename_i hc
        rw [h1.int] at rx; rw [h2.int] at ry
        exact op_mod pins s σ H _ _ v u Q I rx ry ⟨_, _, rfl, rfl, hc, q _ _ (Same.refl _) (.int _) (nu_no fun _ z => by cases z)⟩
      · cases e
    · cases e
  | Pow =>
    unfold binD at e
    split at e
    all_goals first | (rename_i z; cases z) | skip
    · split at e
      · cases e
        rename_i hc
        rw [h1.int] at rx; rw [h2.int] at ry
        exact op_pow pins s σ H _ _ v u Q I rx ry ⟨_, _, rfl, rfl, hc, q _ _ (Same.refl _) (.int _) (nu_no fun _ z => by cases z)⟩
      · cases e
    · cases e
  | _ => cases e
end
end Fp
set_option maxHeartbeats 1000000
namespace Fp
open PySem PySem.Spec PyProof.Rows L2
variable [TB]
/-! ### comparisons by data -/
def rCmp (K : PySem.W.Frag) (op : CmpOp) : R2 := fun x y H Q => ∃ M b1 b2 d1 d2 r, RepB b1 K M H x d1 ∧ RepB b2 K M H y d2 ∧ cmpD op d1 d2 = .ok r ∧ Q (.bl r) H
theorem str_one {a : Str} {c : Nat} (h : a.cps.toList = [c]) : a = ⟨#[c]⟩ := by
  cases a with
  | mk cps =>
    have : cps = #[c] := by
      apply Array.ext'
      exact h
    rw [this]
section
variable {X : Cx}
theorem inD_ok {K : PySem.W.Frag} {M : Addr → Prop} {b1 b2 : Bool} {H : Hp} {x y : V} {v u : Value} {d1 d2 : D} {r : Bool} {pins : List (Addr × Obj)} {s : Shared} {σ : L2.St} (hu : X.A.units + 65 < cLine) (I : Inv X pins σ H s) (rx : RelV x v) (ry : RelV y u)
    (h1 : RepB b1 X.K M H x d1) (h2 : RepB b2 X.K M H y d2) (e : inD d1 d2 = .ok r) : (∀ Q : VK, Q (.bl r) H → wpAny (model X.prog X.w) X.A (compareOp .In v u) (EP X pins σ Q) X.xe s) ∧ ∀ Q : VK, Q (.bl (!r)) H → wpAny (model X.prog X.w) X.A (compareOp .NotIn v u) (EP X pins σ Q) X.xe s := by
  unfold inD at e
  split at e
  · split at e
    · rename_i hs
      cases e
      obtain ⟨as, r1⟩ := Dp.reads I _ x v (h1.dp (SeqAt.canLay_of_shaped hs.1)) rx
      obtain ⟨bs, r2⟩ := Dp.reads I _ y u (h2.dp (SeqAt.canLay_of_shaped hs.2)) ry
      exact ⟨fun Q q => SeqAt.in_list_reads r2 r1 (SeqAt.canLay_of_shaped hs.2) (SeqAt.canLay_of_shaped hs.1) (room_in_shaped hs.1 hu) ⟨.bl _, H, I, rfl, q⟩, fun Q q => SeqAt.notIn_list_reads r2 r1 (SeqAt.canLay_of_shaped hs.2) (SeqAt.canLay_of_shaped hs.1) (room_in_shaped hs.1 hu) ⟨.bl _, H, I, rfl, q⟩⟩
    · cases e
  · split at e
    · rename_i hs
      cases e
      obtain ⟨as, r1⟩ := Dp.reads I _ x v (h1.dp (SeqAt.canLay_of_shaped hs.1)) rx
      obtain ⟨bs, r2⟩ := Dp.reads I _ y u (h2.dp (SeqAt.canLay_of_shaped hs.2)) ry
      have hl : ∀ {ys : List D}, SeqAt.shaped (.tuple ys) = true → PyData.canLayAll0 ys = true := fun {ys} h => by
        have := SeqAt.canLay_of_shaped h
        simpa [PyData.canLay0] using this
      exact ⟨fun Q q => SeqAt.in_tuple_reads r2 r1 (hl hs.2) (SeqAt.canLay_of_shaped hs.1) (room_in_shaped hs.1 hu) ⟨.bl _, H, I, rfl, q⟩, fun Q q => SeqAt.notIn_tuple_reads r2 r1 (hl hs.2) (SeqAt.canLay_of_shaped hs.1) (room_in_shaped hs.1 hu) ⟨.bl _, H, I, rfl, q⟩⟩
    · cases e
  · split at e
    · split at e
      · rename_i c hc
        cases e
        obtain ⟨e1, z1⟩ := h1.str
        obtain ⟨e2, z2⟩ := h2.str
        rw [e1, str_one hc] at rx
        rw [e2] at ry
        exact ⟨fun Q q => op_in_sign pins s σ H _ _ v u Q I rx ry ⟨_, _, rfl, rfl, q⟩, fun Q q => op_notIn_sign pins s σ H _ _ v u Q I rx ry ⟨_, _, rfl, rfl, q⟩⟩
      · cases e
    · cases e
  · split at e
    · rename_i kvd hk
      cases e
      obtain ⟨c, rfl⟩ := isKey_of hk
      obtain ⟨a, kvs, rfl, hH, _, r⟩ := h2.dict
      cases ry
      have hx := key_v h1
      have hg : DGet H a x (valV kvs c) := by rw [hx]; exact DGet.k hH
      have ho : (valV kvs c).isSome = (dgetD kvd (keyD c)).isSome := by
        cases hq : dgetD kvd (keyD c) with
        | some d =>
          obtain ⟨v, h, _⟩ := (r.get (k := c)).1 d hq
          rw [h]; rfl
        | none => rw [(r.get (k := c)).2 hq]; rfl
      exact ⟨fun Q q => d_in (by omega) I hg rx fun s' I' => ⟨.bl _, H, I', rfl, by rw [ho]; exact q⟩, fun Q q => d_notIn (by omega) I hg rx fun s' I' => ⟨.bl _, H, I', rfl, by rw [ho]; exact q⟩⟩
    · cases e
  · cases e
theorem isD_ok {M : Addr → Prop} {b1 b2 : Bool} {H : Hp} {x y : V} {v u : Value} {d1 d2 : D} {r : Bool} {pins : List (Addr × Obj)} {s : Shared} {σ : L2.St} (I : Inv X pins σ H s) (rx : RelV x v) (ry : RelV y u)
    (h1 : RepB b1 X.K M H x d1) (h2 : RepB b2 X.K M H y d2) (e : isD d1 d2 = .ok r) : (∀ Q : VK, Q (.bl r) H → wpAny (model X.prog X.w) X.A (compareOp .Is v u) (EP X pins σ Q) X.xe s) ∧ ∀ Q : VK, Q (.bl (!r)) H → wpAny (model X.prog X.w) X.A (compareOp .IsNot v u) (EP X pins σ Q) X.xe s := by
  unfold isD at e
  split at e
  · have hy := h2.none
    have key : decide (x = .non) = r := by
      cases e
      cases d1 with
      | none => rw [h1.none]; rfl
      | bool b => rw [h1.bool]; rfl
      | int i => rw [h1.int]; rfl
      | str i => rw [h1.str.1]; rfl
      | list ds => obtain ⟨a, vs, e1, _⟩ := h1.list; rw [e1]; rfl
      | tuple ds => obtain ⟨a, vs, e1, _⟩ := h1.tuple; rw [e1]; rfl
      | dict ds => obtain ⟨a, vs, e1, _⟩ := h1.dict; rw [e1]; rfl
    rw [hy] at ry
    exact ⟨fun Q q => op_isN pins s σ H _ _ v u Q I rx ry ⟨rfl, by rw [key]; exact q⟩, fun Q q => op_notN pins s σ H _ _ v u Q I rx ry ⟨rfl, by rw [key]; exact q⟩⟩
  · cases e
    rw [h1.bool] at rx
    rw [h2.bool] at ry
    exact ⟨fun Q q => op_isBl pins s σ H _ _ v u Q I rx ry ⟨_, _, rfl, rfl, q⟩, fun Q q => op_notBl pins s σ H _ _ v u Q I rx ry ⟨_, _, rfl, rfl, q⟩⟩
  · cases e
theorem neg_ok {r : Res Bool} {b : Bool} (h : (r >>= fun b => Res.ok (!b)) = .ok b) : ∃ c, r = .ok c ∧ b = !c := by
  cases r with
  | ok c => exact ⟨c, rfl, by cases h; rfl⟩
  | exc c => cases h
  | err => cases h
theorem op_cmp (op : CmpOp) (hu : X.A.units + 65 < cLine) : OpR X (compareOp op) (rCmp X.K op) := by
  intro pins s σ H x y v u Q I rx ry h
  obtain ⟨M, b1, b2, d1, d2, r, h1, h2, e, q⟩ := h
  cases op with
  | Eq =>
    have e : eqD d1 d2 = .ok r := e
    unfold eqD at e
    split at e
    · rename_i hs
      cases e
      exact op_eqD (by omega) pins s σ H _ _ v u Q I rx ry ⟨_, _, h1.dp (SeqAt.canLay_of_shaped hs.1), h2.dp (SeqAt.canLay_of_shaped hs.2), hs.1, hs.2, q⟩
    · cases e
  | NotEq =>
    have e' : (eqD d1 d2 >>= fun b => Res.ok (!b)) = .ok r := e
    obtain ⟨c, e2, rfl⟩ := neg_ok e'
    clear e
    have e := e2
    unfold eqD at e
    split at e
    · rename_i hs
      cases e
      exact op_neD (by omega) pins s σ H _ _ v u Q I rx ry ⟨_, _, h1.dp (SeqAt.canLay_of_shaped hs.1), h2.dp (SeqAt.canLay_of_shaped hs.2), hs.1, hs.2, q⟩
    · cases e
  | Lt =>
    unfold cmpD at e
    split at e
    all_goals first | (rename_i z; cases z; done) | skip
    all_goals first | (cases e; done) | skip
    · cases e
      rw [h1.int] at rx; rw [h2.int] at ry
      exact op_lt pins s σ H _ _ v u Q I rx ry ⟨_, _, rfl, rfl, q⟩
    · cases e
      rw [h1.str.1] at rx; rw [h2.str.1] at ry
      exact op_lt_str pins s σ H _ _ v u Q I rx ry ⟨_, _, rfl, rfl, q⟩
  | LtE =>
    unfold cmpD at e
    split at e
    all_goals first | (rename_i z; cases z; done) | skip
    all_goals first | (cases e; done) | skip
    · cases e
      rw [h1.int] at rx; rw [h2.int] at ry
      exact op_le pins s σ H _ _ v u Q I rx ry ⟨_, _, rfl, rfl, q⟩
  | Gt =>
    unfold cmpD at e
    split at e
    all_goals first | (rename_i z; cases z; done) | skip
    all_goals first | (cases e; done) | skip
    · cases e
      rw [h1.int] at rx; rw [h2.int] at ry
      exact op_gt pins s σ H _ _ v u Q I rx ry ⟨_, _, rfl, rfl, q⟩
  | GtE =>
    unfold cmpD at e
    split at e
    all_goals first | (rename_i z; cases z; done) | skip
    all_goals first | (cases e; done) | skip
    · cases e
      rw [h1.int] at rx; rw [h2.int] at ry
      exact op_ge pins s σ H _ _ v u Q I rx ry ⟨_, _, rfl, rfl, q⟩
  | In => exact (inD_ok (K := X.K) hu I rx ry h1 h2 e).1 Q q
  | NotIn =>
    have e' : (inD d1 d2 >>= fun b => Res.ok (!b)) = .ok r := e
    obtain ⟨c, e2, rfl⟩ := neg_ok e'
    clear e
    have e := e2
    exact (inD_ok (K := X.K) hu I rx ry h1 h2 e).2 Q q
  | Is => exact (isD_ok I rx ry h1 h2 e).1 Q q
  | IsNot =>
    have e' : (isD d1 d2 >>= fun b => Res.ok (!b)) = .ok r := e
    obtain ⟨c, e2, rfl⟩ := neg_ok e'
    clear e
    have e := e2
    exact (isD_ok I rx ry h1 h2 e).2 Q q
end
/-! ### items, slices -/
theorem atI_rep {K : PySem.W.Frag} {M : Addr → Prop} {H : Hp} {vs : List V} {ds : List D} {i : Int} {d : D} (r : RepL K M H vs ds) (h : atI ds i = some d) : ∃ v, atI vs i = some v ∧ Rep K M H v d := by
  unfold atI at h ⊢
  rw [r.length]
  cases e : ixN ds.length i with
  | none => rw [e] at h; cases h
  | some j =>
    rw [e] at h
    exact r.get (i := j) h
def rIdx (K : PySem.W.Frag) : R2 := fun x y H Q => ∃ M b1 b2 d1 d2 d, RepB b1 K M H x d1 ∧ RepB b2 K M H y d2 ∧ idxD d1 d2 = .ok d ∧ ∀ v, Rep K M H v d → Q v H
theorem must_ok {α : Type} {o : Option α} {a : α} (h : must o = .ok a) : o = some a := by
  cases o with
  | none => cases h
  | some b => cases h; rfl
section
variable {X : Cx}
theorem ix_idx (hu : X.A.units + 65 < cLine) : IxR X (rIdx X.K) := by
  intro value slice pins s σ H x y v u Q I rx ry h hsub
  obtain ⟨M, b1, b2, d1, d2, d, h1, h2, e, q⟩ := h
  unfold idxD at e
  split at e
  · obtain ⟨a, vs, e1, r1, z1, l1⟩ := h1.list
    obtain ⟨w, hw, rw'⟩ := atI_rep l1 (must_ok e)
    rw [e1] at rx; rw [h2.int] at ry
    exact ix_seq value slice pins s σ H _ _ v u Q I rx ry (.inl ⟨a, vs, _, w, rfl, rfl, .inl r1, hw, q w rw'⟩) hsub
  · obtain ⟨a, vs, e1, r1, z1, l1⟩ := h1.tuple
    obtain ⟨w, hw, rw'⟩ := atI_rep l1 (must_ok e)
    rw [e1] at rx; rw [h2.int] at ry
    exact ix_seq value slice pins s σ H _ _ v u Q I rx ry (.inr (.inl ⟨a, vs, _, w, rfl, rfl, r1, hw, q w rw'⟩)) hsub
  · obtain ⟨e1, z1⟩ := h1.str
    have e' := must_ok e
    rw [Option.map_eq_some_iff] at e'
    obtain ⟨c, hc, rfl⟩ := e'
    rw [e1] at rx; rw [h2.int] at ry
    exact ix_seq value slice pins s σ H _ _ v u Q I rx ry (.inr (.inr ⟨_, _, c, rfl, rfl, z1, hc, q _ (.str _ (by show 1 ≤ sizeLine; decide))⟩)) hsub
  · split at e
    · rename_i kvd k hk
      obtain ⟨c, rfl⟩ := isKey_of hk
      obtain ⟨a, kvs, rfl, hH, _, r⟩ := h1.dict
      cases rx
      have hx := key_v h2
      obtain ⟨w, hw, rw'⟩ := (r.get (k := c)).1 d (must_ok e)
      have hg : DGet H a y (some w) := by rw [hx, ← hw]; exact DGet.k hH
      exact tail_any (dict_typeIs I hg) PySem.F.slot_dict_getitem.lookup (d_getItem (by omega) I hg ry fun w' s' I' r' => ⟨w, H, I', r', q w rw'⟩) hsub
    · cases e
  · cases e
theorem cutD_rep {K : PySem.W.Frag} {M : Addr → Prop} {H : Hp} {vs : List V} {ds : List D} (r : RepL K M H vs ds) (lo hi : Option Int) : RepL K M H (cutV vs lo hi) (cutD ds lo hi) := by
  unfold cutV cutD
  rw [r.length]
  exact (r.drop _).take _
def rSlc (K : PySem.W.Frag) : V → Option Int → Option Int → Hp → VK → Prop := fun x lo hi H Q => ∃ M b1 d1 d, okM M H ∧ RepB b1 K M H x d1 ∧ slcD d1 lo hi = .ok d ∧ ∀ v H', Same H H' → Rep K M H' v d → Nu K M H H' v d → Q v H'
/-- a part of a plain tuple -/
theorem sl_tupP {pins : List (Addr × Obj)} {s : Shared} {σ : L2.St} {H : Hp} {a : Addr} {xs : List V} {vl vu : Value} {lo hi : Option Int} {sl : Addr} {Q : VK} (I : L2.Inv X pins σ H s) (hs : s.heap.IsSliceOf sl vl vu .none) (pl : IsPart vl lo) (pu : IsPart vu hi) (hx : SqP X.K H a xs)
    (n : ¬ (HT.sIx xs.length 0 lo = 0 ∧ HT.sIx xs.length xs.length hi = xs.length)) (q : ∀ p o, plO o → H p = none → Q (.ref p) (upd H p (.frz o (.tup (cutV xs lo hi))))) :
    wpAny (model X.prog X.w) X.A (getItem (.ref a) (.ref sl)) (EP X pins σ Q) X.xe s := by
  obtain ⟨us, ru, tu, hz⟩ := I.tuple hx.t
  have el : us.toArray.size = xs.length := by rw [List.size_toArray]; exact ru.length.symm
  have hcut := (ru.drop (HT.sIx xs.length 0 lo)).take (HT.sIx xs.length xs.length hi - HT.sIx xs.length 0 lo)
  refine HT.getItem_tuple_cut tu hs pl pu (by rw [el]; exact n) ?_ (by rw [el]; exact hz)
  rw [el]
  exact ⟨.ref _, _, inv_tup (t' := s.toks) I (ys := cutV xs lo hi) hcut (Nat.le_trans (cutV_length xs lo hi) hz) rfl, rfl, q _ _ ⟨rfl, rfl, rfl⟩ I.fresh⟩
theorem sl_slc : SlR X (rSlc X.K) := by
  intro pins s σ H x v vl vu lo hi sl Q I rx hs pl pu h
  obtain ⟨M, b1, d1, d, hM, h1, e, q⟩ := h
  unfold slcD at e
  split at e
  · cases e
    obtain ⟨a, vs, e1, r1, z1, l1⟩ := h1.list
    rw [e1] at rx
    exact sl_list pins s σ H _ v vl vu lo hi sl Q I rx hs pl pu ⟨a, vs, rfl, .inl r1, fun p hp => q _ _ (same_new hp) (new_lst hM hp (Nat.le_trans (cutV_length _ _ _) z1) (cutD_rep l1 lo hi)) (nu_lst hp (Nat.le_trans (cutV_length _ _ _) z1) (cutD_rep l1 lo hi))⟩
  · cases e
    obtain ⟨a, vs, e1, r1, z1, l1⟩ := h1.tupleP
    rw [e1] at rx
    by_cases hw : HT.sIx vs.length 0 lo = 0 ∧ HT.sIx vs.length vs.length hi = vs.length
    · refine sl_tupA pins s σ H _ v vl vu lo hi sl Q I rx hs pl pu ⟨a, vs, rfl, r1.t, fun w => ?_, fun n => absurd hw n⟩
      refine q _ _ (Same.refl _) ?_ (nu_no fun _ z => by cases z)
      have hcr := cutD_rep l1 lo hi
      have ev : cutV vs lo hi = vs := by
        unfold cutV
        rw [w.1, w.2]
        simp
      rw [ev] at hcr
      exact .tup r1 z1 hcr
    · cases rx
      obtain ⟨us, ru, tu, _⟩ := I.tuple r1.t
      exact ⟨"tuple", _, PyProof.Rows.slot_tuple_getitem.lookup, tu.typeIs, sl_tupP I hs pl pu r1 hw fun p o ho hp => q _ _ (same_new hp) (new_tup ho hp (Nat.le_trans (cutV_length _ _ _) z1) (cutD_rep l1 lo hi)) (nu_no fun _ z => by cases z)⟩
  · cases e
end
end Fp
set_option maxHeartbeats 1000000
namespace Fp
open PySem PySem.Spec PyProof.Rows L2
variable [TB]
/-! ### x[::-1] of a tuple -/
section
variable {prog : Program} {w : World} {A : Around} {E : Value → Shared → Prop} {s : Shared}
theorem adjust_rev (n : Nat) : Builtin.Slice.sliceAdjust none none (-1) (n : Int) = ((n : Int) - 1, -1) := by
  unfold Builtin.Slice.sliceAdjust
  simp
theorem places_rev (n : Nat) : Builtin.Slice.slicePlaces ((n : Int) - 1) (-1) (-1) = n := by
  unfold Builtin.Slice.slicePlaces
  simp
  omega
theorem filterMap_some {α β : Type} {f : α → Option β} {g : α → β} : ∀ {l : List α}, (∀ m ∈ l, f m = some (g m)) → l.filterMap f = l.map g
  | [], _ => rfl
  | x :: l, h => by
    rw [List.filterMap_cons, h x List.mem_cons_self, List.map_cons, filterMap_some fun m hm => h m (List.mem_cons_of_mem _ hm)]
theorem pick_rev (xs : Array Value) : ((List.range xs.size).filterMap fun (m : Nat) => xs[(((xs.size : Int) - 1) + (m : Int) * (-1)).toNat]?).toArray = xs.toList.reverse.toArray := by
  congr 1
  rw [filterMap_some (g := fun m => (xs.toList.reverse)[m]?.getD default)]
  · apply List.ext_getElem?
    intro i
    rw [List.getElem?_map]
    by_cases hi : i < xs.size
    · rw [List.getElem?_range hi]
      simp only [Option.map_some]
      have hl : i < xs.toList.reverse.length := by simpa using hi
      rw [List.getElem?_eq_getElem hl]
      rfl
    · rw [List.getElem?_eq_none (by simpa using hi), List.getElem?_eq_none (by simpa using hi)]
      rfl
  · intro m hm
    have hm := List.mem_range.mp hm
    have h2 : xs.size - 1 - m < xs.size := by omega
    have e : (((xs.size : Int) - 1) + (m : Int) * (-1)).toNat = xs.size - 1 - m := by omega
    rw [e, Array.getElem?_eq_getElem h2, List.getElem?_reverse (by simpa using hm)]
    simp only [Array.length_toList]
    rw [Array.getElem?_toList, Array.getElem?_eq_getElem h2]
    rfl
theorem sliceApplied_rev {sl : Addr} {vl vu vs : Value} {n : Nat} {Q : Int × Int × Nat → Shared → Prop} (hs : s.heap.IsSliceOf sl vl vu vs) (pl : IsPart vl none) (pu : IsPart vu none) (ps : IsPart vs (some (-1)))
    (h : Q ((n : Int) - 1, -1, n) s) : wpAny (model prog w) A (Builtin.Slice.sliceApplied (.ref sl) (pure (n : Int))) Q E s := by
  obtain ⟨os, hos, hcs, hds⟩ := id hs
  unfold Builtin.Slice.sliceApplied Builtin.Slice.sliceFields
  refine wpAny_bind (wpAny_bind (wpAny_field hos hds (x := vl) rfl (wpAny_bind (wpAny_field hos hds (x := vu) rfl (wpAny_bind (wpAny_field hos hds (x := vs) rfl (wpAny_pure ?_)))))))
  refine wpAny_bind (HT.slicePart_ ps ?_)
  show wpAny _ _ (if ((-1 : Int) == 0) = true then _ else _) _ _ s
  rw [if_neg (by decide)]
  refine wpAny_bind (HT.slicePart_ pl (wpAny_bind (HT.slicePart_ pu (wpAny_bind (wpAny_pure ?_)))))
  show wpAny _ _ (match Builtin.Slice.sliceAdjust none none (-1) (n : Int) with | (lo, hi) => pure (lo, (-1 : Int), Builtin.Slice.slicePlaces lo hi (-1))) _ _ s
  rw [adjust_rev n]
  show wpAny _ _ (pure ((n : Int) - 1, (-1 : Int), Builtin.Slice.slicePlaces ((n : Int) - 1) (-1) (-1))) _ _ s
  rw [places_rev]
  exact wpAny_pure h
theorem getItem_tuple_rev {t sl : Addr} {items : Array Value} {vl vu vs : Value} {Q : Value → Shared → Prop} (ht : IsTup s.heap t items) (hs : s.heap.IsSliceOf sl vl vu vs) (pl : IsPart vl none) (pu : IsPart vu none) (ps : IsPart vs (some (-1)))
    (h : Q (.ref s.heap.objs.size) { s with heap := s.heap.push { cls := .type "tuple", data := .seq items.toList.reverse.toArray } })
    (hsz : items.size ≤ sizeLine) : wpAny (model prog w) A (getItem (.ref t) (.ref sl)) Q E s := by
  have htake : sizeOk (.seq items.toList.reverse.toArray) := by
    show items.toList.reverse.toArray.size ≤ sizeLine
    rw [List.size_toArray, List.length_reverse, Array.length_toList]
    exact hsz
  obtain ⟨os, hos, hcs, hds⟩ := id hs
  have hTs : s.TypeIs (.ref sl) "slice" := ⟨os, hos, hcs⟩
  unfold getItem
  try with_reducible refine wpAny_holding ?_
  first | refine wpAny_bind (wpAny_pure ?_) | skip
  refine wpAny_bind (wpAny_sequenceKey ht.typeIs (by decide) ?_)
  refine wpAny_bind (wpAny_callSpecial?_slot (name := Str.ofString "__getitem__") ht.typeIs PyProof.Rows.slot_tuple_getitem
    (wpAny_call_entry PyProof.Rows.slot_tuple_getitem ht.typeIs entry_tuple_getitem ?_ (args_tuple_getitem _ _)))
  show wpAny _ _ (Builtin.Tuple.tupleItemsOf (.ref t) >>= _) _ _ s
  refine wpAny_bind (tupleItemsOf_ ht ?_)
  refine wpAny_bind (wpAny_typeOf hTs ?_)
  rw [if_pos (by decide)]
  refine wpAny_bind (sliceApplied_rev hs pl pu ps ?_)
  have hno : ¬ ((((items.size : Int) - 1) == 0 && (-1 : Int) == 1 && items.size == items.size) = true) := by
    intro q
    rw [Bool.and_eq_true, Bool.and_eq_true] at q
    exact absurd q.1.2 (by decide)
  show wpAny _ _ (if (((items.size : Int) - 1) == 0 && (-1 : Int) == 1 && items.size == items.size) = true then _ else _) _ _ s
  rw [if_neg hno, pick_rev]
  first
    | exact wpAny_bind (m := Builtin.Tuple.tupleExact _) (wpAny_newObj_type (wpAny_pure ⟨_, rfl, wpAny_pure h⟩) htake)
    | exact wpAny_bind (m := Builtin.Tuple.tupleExact _) (wpAny_newObj_type (wpAny_bind (wpAny_pure (wpAny_pure ⟨_, rfl, wpAny_pure h⟩))) htake)
    | exact wpAny_bind (wpAny_bind (m := Builtin.Tuple.tupleExact _) (wpAny_newObj_type (wpAny_pure (wpAny_pure ⟨_, rfl, wpAny_pure h⟩)) htake))
    | exact wpAny_bind (wpAny_bind (m := Builtin.Tuple.tupleExact _) (wpAny_newObj_type (wpAny_pure ⟨_, rfl, wpAny_pure h⟩) htake))
end
section
variable {X : Cx}
def rRev (K : PySem.W.Frag) : V → Hp → VK → Prop := fun x H Q => ∃ M b1 d1 d, okM M H ∧ RepB b1 K M H x d1 ∧ revD d1 = .ok d ∧ ∀ v H', Same H H' → Rep K M H' v d → Nu K M H H' v d → Q v H'
theorem pe_rev {e : Expr} {te : TE} {k : Nat} {p1 p2 p3 pos : Pos} (he : PE X e te) : PE X (.Subscript e (.Slice none none (some (.UnaryOp .USub (.Constant (.int 1) k p1) p2)) p3) pos) (tUn (rRev X.K) te) := by
  refine ⟨fun pins s σ H Q I h => ?_⟩
  refine Subscript_ (thn (he.run pins s σ H _ I h) fun v s1 ⟨x, H1, I1, r1, q1⟩ => ?_)
  have hst : PO X (some (.UnaryOp .USub (.Constant (.int 1) k p1) p2)) (tPart (tUn (rU fun i => .int (-i)) (tC (.int 1)))) := po_some (pe_un un_neg pe_int)
  refine wpAny_Slice (thn (po_none.run pins s1 σ H1 (fun o H2 => o = none ∧ H2 = H1) I1 ⟨rfl, rfl⟩) fun vl s2 ⟨l, H2, I2, pl, el, e2⟩ => ?_)
  subst el e2
  refine thn (po_none.run pins s2 σ H2 (fun o H3 => o = none ∧ H3 = H2) I2 ⟨rfl, rfl⟩) fun vu s3 ⟨u, H3, I3, pu, eu, e3⟩ => ?_
  subst eu e3
  refine thn (hst.run pins s3 σ H3 (fun o H4 => o = some (-1) ∧ H4 = H3) I3 ⟨1, rfl, -1, rfl, rfl, rfl⟩) fun vs s4 ⟨o, H4, I4, ps, eo, e4⟩ => ?_
  subst eo e4
  have I5 : Inv X pins σ H4 { s4 with heap := s4.heap.push { cls := .type "slice", data := .fields #[vl, vu, vs] } } := I4.kept (t' := s4.toks) fun b ob q => Heap.get?_push_of_some _ q
  obtain ⟨M, b1, d1, d, hM, h1, ed, q⟩ := q1
  unfold revD at ed
  split at ed
  · cases ed
    obtain ⟨a, xs, ex, hx, hz1, l1⟩ := h1.list
    subst ex
    cases r1
    obtain ⟨its, r, ht, hz⟩ := I5.list (sqL_of hx)
    have hlen := r.length
    show wpAny (model X.prog X.w) X.A (subscriptTail e (.Slice none none (some (.UnaryOp .USub (.Constant (.int 1) k p1) p2)) p3) (.ref a) (.ref s4.heap.objs.size)) (EP X pins σ Q) X.xe { s4 with heap := s4.heap.push { cls := .type "slice", data := .fields #[vl, vu, vs] } }
    refine tail_any (ops := [.ref a, .ref s4.heap.objs.size]) ht.isList.typeIs (PySem.slot_list_getitem.lookup) ?_ (by with_unfolding_all rfl)
    refine wpAny_getItem_list_slice ht.isList (Heap.IsSliceOf.new _ vl vu vs) pl pu ps (by decide) ?_ (by rw [List.size_toArray]; omega)
    rw [PySem.W.krv_pick]
    refine ⟨.ref _, _, I5.laid (t' := s4.toks) (o := .lst xs.reverse) (fun b ob q => Heap.get?_push_of_some _ q) (Nat.le_refl _) ?_, rfl, ?_⟩
    · exact ⟨by rw [List.length_reverse]; exact hz, _, 0, r.reverse, Heap.get?_push_size _ rfl⟩
    · have hp := I5.hok.fresh (Nat.le_refl _)
      exact q _ _ (same_new hp) (new_lst hM hp (by rw [List.length_reverse]; exact hz) l1.reverse) (nu_lst hp (by rw [List.length_reverse]; exact hz) l1.reverse)
  · cases ed
    obtain ⟨a, xs, ex, hx, hz1, l1⟩ := h1.tuple
    subst ex
    cases r1
    obtain ⟨its, r, ht, hz⟩ := I5.tuple hx
    have hlen := r.length
    show wpAny (model X.prog X.w) X.A (subscriptTail e (.Slice none none (some (.UnaryOp .USub (.Constant (.int 1) k p1) p2)) p3) (.ref a) (.ref s4.heap.objs.size)) (EP X pins σ Q) X.xe { s4 with heap := s4.heap.push { cls := .type "slice", data := .fields #[vl, vu, vs] } }
    refine tail_any (ops := [.ref a, .ref s4.heap.objs.size]) ht.typeIs (PyProof.Rows.slot_tuple_getitem.lookup) ?_ (by with_unfolding_all rfl)
    refine getItem_tuple_rev ht (Heap.IsSliceOf.new _ vl vu vs) pl pu ps ?_ (by rw [List.size_toArray]; omega)
    refine ⟨.ref _, _, inv_tup (t' := s4.toks) I5 (ys := xs.reverse) r.reverse (by rw [List.length_reverse]; exact hz) rfl, rfl, ?_⟩
    · have hp := I5.hok.fresh (Nat.le_refl _)
      exact q _ _ (same_new hp) (new_tup ⟨rfl, rfl, rfl⟩ hp (by rw [List.length_reverse]; exact hz) l1.reverse) (nu_no fun _ z => by cases z)
  · cases ed
end
end Fp
set_option maxHeartbeats 1000000
namespace Fp
open PySem PySem.Spec PyProof.Rows L2
variable [TB]
theorem boolsD_rep {K : PySem.W.Frag} {M : Addr → Prop} {H : Hp} : ∀ {vs : List V} {ds : List D} {bs : List Bool}, RepL K M H vs ds → boolsD ds = some bs → vs = bs.map V.bl
  | _, _, bs, .nil, h => by cases h; rfl
  | _, _, bs, .cons h r, e => by
    cases h with
    | bl b =>
      unfold boolsD at e
      rw [Option.map_eq_some_iff] at e
      obtain ⟨cs, h1, rfl⟩ := e
      rw [boolsD_rep r h1]
      rfl
    | _ => cases e
theorem intsD_rep {K : PySem.W.Frag} {M : Addr → Prop} {H : Hp} : ∀ {vs : List V} {ds : List D} {bs : List Int}, RepL K M H vs ds → intsD ds = some bs → vs = bs.map V.int
  | _, _, bs, .nil, h => by cases h; rfl
  | _, _, bs, .cons h r, e => by
    cases h with
    | int b =>
      unfold intsD at e
      rw [Option.map_eq_some_iff] at e
      obtain ⟨cs, h1, rfl⟩ := e
      rw [intsD_rep r h1]
      rfl
    | _ => cases e
def signsV (s : Str) : List V := s.cps.toList.map fun c => .str ⟨#[c]⟩
theorem signs_rep {K : PySem.W.Frag} {M : Addr → Prop} {H : Hp} (s : Str) : RepL K M H (signsV s) (signsD s) := by
  unfold signsV signsD
  induction s.cps.toList with
  | nil => exact .nil
  | cons c r ih => exact .cons (.str _ (by show 1 ≤ sizeLine; decide)) ih
theorem signs_vals {x : Str} {acc : Array Value} (h : ItemsOf (SignAt x) acc x.cps.size) : Vals (signsV x) acc.toList := by
  obtain ⟨h1, h2⟩ := h
  refine vals_of_at (by unfold signsV; simp [h1]) fun j v u e1 e2 => ?_
  unfold signsV at e1
  rw [List.getElem?_map, Option.map_eq_some_iff] at e1
  obtain ⟨c, hc, rfl⟩ := e1
  obtain ⟨c', t, hc', rfl⟩ := h2 j u (by rw [← Array.getElem?_toList]; exact e2)
  rw [← Array.getElem?_toList, hc] at hc'
  cases hc'
  exact ⟨t, rfl⟩
/-! ### calls of built-ins by data -/
def rBlt (K : PySem.W.Frag) (f : Bf) : List V → Hp → VK → Prop := fun vs H Q => ∃ M b x d0 d, okM M H ∧ vs = [x] ∧ RepB b K M H x d0 ∧ bltD f d0 = .ok d ∧ ∀ v H', Same H H' → Rep K M H' v d → Nu K M H H' v d → Q v H'
def rBlt2 (f : Bf) : List V → Hp → VK → Prop := fun vs H Q => ∃ K M b1 b2 x y d1 d2 d, vs = [x, y] ∧ RepB b1 K M H x d1 ∧ RepB b2 K M H y d2 ∧ blt2D f d1 d2 = .ok d ∧ ∀ v, Rep K M H v d → Q v H
section
variable {X : Cx}
theorem cr_len : CallR X (.builtin "len") (rBlt X.K .len) := by
  intro pins s σ H vs us Q I r h
  obtain ⟨M, b, x, d0, d, hM, rfl, h1, e, q⟩ := h
  unfold bltD at e
  split at e
  all_goals first | (rename_i z; cases z; done) | skip
  all_goals first | (cases e; done) | skip
  · cases e
    obtain ⟨a, ws, rfl, hr, hz, l⟩ := h1.list
    refine call_len_seq pins s σ H _ us Q I r ⟨a, ws, rfl, .inl (sqL_of hr), ?_⟩
    rw [l.length]
    exact q _ _ (Same.refl _) (.int _) (nu_no fun _ z => by cases z)
  · cases e
    obtain ⟨a, ws, rfl, hr, hz, l⟩ := h1.tuple
    refine call_len_seq pins s σ H _ us Q I r ⟨a, ws, rfl, .inr hr, ?_⟩
    rw [l.length]
    exact q _ _ (Same.refl _) (.int _) (nu_no fun _ z => by cases z)
  · cases e
    obtain ⟨rfl, hz⟩ := h1.str
    exact call_len_str pins s σ H _ us Q I r ⟨_, rfl, hz, q _ _ (Same.refl _) (.int _) (nu_no fun _ z => by cases z)⟩
theorem cr_allD (hc : X.calm = true) : CallR X (.builtin "all") (rBlt X.K .all) := by
  intro pins s σ H vs us Q I r h
  obtain ⟨M, b, x, d0, d, hM, rfl, h1, e, q⟩ := h
  unfold bltD at e
  split at e
  all_goals first | (rename_i z; cases z; done) | skip
  all_goals first | (cases e; done) | skip
  · have e' := must_ok e
    rw [Option.map_eq_some_iff] at e'
    obtain ⟨bs, hb, rfl⟩ := e'
    obtain ⟨a, ws, rfl, hr, hz, l⟩ := h1.list
    exact cr_all hc pins s σ H _ us Q I r ⟨a, bs, rfl, by rw [← boolsD_rep l hb]; exact sqL_of hr, q _ _ (Same.refl _) (.bl _) (nu_no fun _ z => by cases z)⟩
theorem cr_anyD (hc : X.calm = true) : CallR X (.builtin "any") (rBlt X.K .any) := by
  intro pins s σ H vs us Q I r h
  obtain ⟨M, b, x, d0, d, hM, rfl, h1, e, q⟩ := h
  unfold bltD at e
  split at e
  all_goals first | (rename_i z; cases z; done) | skip
  all_goals first | (cases e; done) | skip
  · have e' := must_ok e
    rw [Option.map_eq_some_iff] at e'
    obtain ⟨bs, hb, rfl⟩ := e'
    obtain ⟨a, ws, rfl, hr, hz, l⟩ := h1.list
    exact cr_any hc pins s σ H _ us Q I r ⟨a, bs, rfl, by rw [← boolsD_rep l hb]; exact sqL_of hr, q _ _ (Same.refl _) (.bl _) (nu_no fun _ z => by cases z)⟩
theorem cr_sumD (hc : X.calm = true) : CallR X (.builtin "sum") (rBlt X.K .sum) := by
  intro pins s σ H vs us Q I r h
  obtain ⟨M, b, x, d0, d, hM, rfl, h1, e, q⟩ := h
  unfold bltD at e
  split at e
  all_goals first | (rename_i z; cases z; done) | skip
  all_goals first | (cases e; done) | skip
  · have e' := must_ok e
    rw [Option.map_eq_some_iff] at e'
    obtain ⟨bs, hb, rfl⟩ := e'
    obtain ⟨a, ws, rfl, hr, hz, l⟩ := h1.list
    exact cr_sum hc pins s σ H _ us Q I r ⟨a, bs, rfl, by rw [← intsD_rep l hb]; exact sqL_of hr, q _ _ (Same.refl _) (.int _) (nu_no fun _ z => by cases z)⟩
theorem cr_tuple (hc : X.calm = true) : CallR X (.type "tuple") (rBlt X.K .tuple) := by
  intro pins s σ H vs us Q I r h
  obtain ⟨M, b, x, d0, d, hM, rfl, h1, e, q⟩ := h
  unfold bltD at e
  split at e
  all_goals first | (rename_i z; cases z; done) | skip
  all_goals first | (cases e; done) | skip
  · cases e
    obtain ⟨a, ws, rfl, hr, hz, l⟩ := h1.list
    obtain ⟨uv, rfl, ru⟩ := vals1 r
    cases ru
    obtain ⟨its, rv, pl, _⟩ := I.list (sqL_of hr)
    have hlen := rv.length
    refine call_tuple_list pl.isList (fun h' kp => ?_) (by rw [List.size_toArray]; omega)
    have J : Inv X pins σ H { s with heap := h' } := I.kept (t' := s.toks) kp
    exact ⟨.ref _, _, inv_tup (t' := s.toks) J rv hz rfl, rfl, q _ _ (same_new J.fresh) (new_tup ⟨rfl, rfl, rfl⟩ J.fresh hz l) (nu_no fun _ z => by cases z)⟩
  · cases e
    obtain ⟨a, ws, rfl, hr, hz, l⟩ := h1.tupleP
    exact call_tuple_of pins s σ H _ us Q I r ⟨a, ws, rfl, .inr ⟨hr.t, q _ _ (Same.refl _) (.tup hr hz l) (nu_no fun _ z => by cases z)⟩⟩
  · cases e
    obtain ⟨rfl, hz⟩ := h1.str
    obtain ⟨u, rfl, t, rfl⟩ := vals1 r
    refine call_tuple_str (I.ok.hd hc) _ t (fun h' tk acc hk ha => ?_) hz
    have hv := signs_vals ha
    have I1 : Inv X pins σ H { s with heap := h' } := I.kept (t' := s.toks) hk
    rename_i z _
    have hlen : (signsV z).length ≤ sizeLine := by unfold signsV; rw [List.length_map, Array.length_toList]; exact hz
    have hp := I1.hok.fresh (Nat.le_refl _)
    exact ⟨.ref h'.objs.size, _, inv_tup (its := acc.toList) (t' := tk) I1 hv hlen (by simp), rfl, q _ _ (same_new hp) (new_tup ⟨rfl, rfl, rfl⟩ hp hlen (signs_rep _)) (nu_no fun _ z => by cases z)⟩
theorem cr_list (hc : X.calm = true) : CallR X (.type "list") (rBlt X.K .list) := by
  intro pins s σ H vs us Q I r h
  obtain ⟨M, b, x, d0, d, hM, rfl, h1, e, q⟩ := h
  unfold bltD at e
  split at e
  all_goals first | (rename_i z; cases z; done) | skip
  all_goals first | (cases e; done) | skip
  · cases e
    obtain ⟨a, ws, rfl, hr, hz, l⟩ := h1.list
    exact call_list_of pins s σ H _ us Q I r ⟨a, ws, rfl, .inl (sqL_of hr), fun p hp => q _ _ (same_new hp) (new_lst hM hp hz l) (nu_lst hp hz l)⟩
  · cases e
    obtain ⟨a, ws, rfl, hr, hz, l⟩ := h1.tuple
    exact call_list_of pins s σ H _ us Q I r ⟨a, ws, rfl, .inr hr, fun p hp => q _ _ (same_new hp) (new_lst hM hp hz l) (nu_lst hp hz l)⟩
  · cases e
    rename_i z _
    obtain ⟨rfl, hz⟩ := h1.str
    obtain ⟨u, rfl, t, rfl⟩ := vals1 r
    refine call_list_str (I.ok.hd hc) _ t (fun h' tk acc c hk hS ha => ?_) hz
    have hv := signs_vals ha
    have hlen : (signsV z).length ≤ sizeLine := by unfold signsV; rw [List.length_map, Array.length_toList]; exact hz
    have I2 : Inv X pins σ (upd H s.heap.objs.size (.lst (signsV z))) { s with heap := h', toks := tk } :=
      I.laid (t' := tk) hk (Nat.le_refl _) (show ObjOk X.prog X.w _ _ _ (.lst _) from ⟨hlen, acc.toList, c, hv, by simpa using hS⟩)
    have hp := I.hok.fresh (Nat.le_refl _)
    exact ⟨.ref s.heap.objs.size, _, I2, rfl, q _ _ (same_new hp) (new_lst hM hp hlen (signs_rep _)) (nu_lst hp hlen (signs_rep _))⟩
theorem each_of {K : PySem.W.Frag} {M : Addr → Prop} {H : Hp} {R : Value → V × D → Prop} : ∀ {vs : List V} {us : List Value} {ds : List D}, RepL K M H vs ds → Vals vs us → (∀ v u d, Rep K M H v d → RelV v u → R u (v, d)) → PySem.W.EachIs R us (vs.zip ds)
  | _, _, _, .nil, .nil, _ => .nil
  | _, _, _, .cons h r, .cons hu ru, f => .cons (f _ _ _ h hu) (each_of r ru f)
theorem each_back {K : PySem.W.Frag} {M : Addr → Prop} {H : Hp} : ∀ {us : List Value} {bs : List (V × D)}, PySem.W.EachIs (fun u b => RelV b.1 u ∧ Rep K M H b.1 b.2) us bs → Vals (bs.map (·.1)) us ∧ RepL K M H (bs.map (·.1)) (bs.map (·.2))
  | _, _, .nil => ⟨.nil, .nil⟩
  | _, _, .cons h r => ⟨.cons h.1 (each_back r).1, .cons h.2 (each_back r).2⟩
theorem cr_sorted (hu : X.A.units + 65 < cLine) : CallR X (.builtin "sorted") (rBlt X.K .sorted) := by
  intro pins s σ H vs us Q I r h
  obtain ⟨M, b, x, d0, d, hM, rfl, h1, e, q⟩ := h
  cases d0 with
  | list xs =>
    have e : (if sortB xs = true then Res.ok (PyData.list (xs.mergeSort leD)) else .err) = .ok d := e
    split at e
    · rename_i hs
      cases e
      obtain ⟨a, ws, rfl, hr, hz, l⟩ := h1.list
      obtain ⟨u, rfl, ru⟩ := vals1 r
      cases ru
      obtain ⟨its, rv, pl, _⟩ := I.list (sqL_of hr)
      obtain ⟨o, n, k1, k2, k3, k4⟩ := pl
      unfold sortB at hs
      simp only [Bool.and_eq_true, Bool.or_eq_true, List.all_eq_true, decide_eq_true_eq] at hs
      obtain ⟨⟨hal, hso⟩, hd⟩ := hs
      have hl := l.length
      have e2 : (ws.zip xs).map (·.2) = xs := List.map_snd_zip (by omega)
      have hal' : PySem.W.AllAlike ((ws.zip xs).map (·.2)) := by rw [e2]; exact fun d hd' e he => hal d hd' e he
      have hso' : PySem.W.Sortable ((ws.zip xs).map (·.2)) := by
        rw [e2]
        rcases hso with hso | hso
        · refine .inl fun d hd' => ?_
          have := hso d hd'
          unfold isTupC at this
          split at this
          · exact ⟨_, _, rfl⟩
          · cases this
        · refine .inr fun d hd' => ?_
          have := hso d hd'
          unfold isFlat at this
          split at this
          · cases this
          · cases this
          · rename_i n1 n2
            exact ⟨fun z => n1 z, fun ys z => n2 ys z⟩
      refine PySem.W.sorted_data (bs := ws.zip xs) (enc := (·.2)) (R := fun u b => RelV b.1 u ∧ Rep X.K M H b.1 b.2) ⟨o, k1, k2, n, k4⟩ (each_of l rv fun v u d h hv => ⟨hv, h⟩) (each_of l rv fun v u d h hv => ?_) hal' hso' (by rw [List.length_zip]; omega) (fun b hb => ?_) fun out hlen hout => ?_
      · exact Dp.reads I _ v u h.dp hv
      · have := hd b.2 (List.of_mem_zip hb).2
        omega
      · obtain ⟨hv, hrep⟩ := each_back hout
        have hsort : ((ws.zip xs).mergeSort (PySem.W.dataLe false (·.2))).map (·.2) = xs.mergeSort leD := by
          have := List.map_mergeSort (r := PySem.W.dataLe false fun x : V × D => x.2) (s := leD) (f := fun x : V × D => x.2) (l := ws.zip xs) (fun a _ b _ => rfl)
          rw [this, e2]
        rw [hsort] at hrep
        have hlz : (((ws.zip xs).mergeSort (PySem.W.dataLe false (·.2))).map (·.1)).length ≤ sizeLine := by
          rw [List.length_map, List.length_mergeSort, List.length_zip]
          omega
        obtain ⟨c, hat⟩ := PyProof.Rows.sortedAll_at s.heap its out.toArray
        have hp : H (s.heap.objs.size + 1) = none := I.hok.fresh (Nat.le_succ _)
        have I2 : Inv X pins σ (upd H (s.heap.objs.size + 1) (.lst (((ws.zip xs).mergeSort (PySem.W.dataLe false (·.2))).map (·.1)))) { s with heap := PyProof.Rows.sortedAll s.heap its out.toArray, toks := s.toks } :=
          I.laid (t' := s.toks) (fun b o q => PyProof.Rows.sortedAll_old q) (Nat.le_succ _) (show ObjOk X.prog X.w _ _ _ (.lst _) from ⟨hlz, out, c, hv, hat⟩)
        exact ⟨.ref _, _, I2, rfl, q _ _ (same_new hp) (new_lst hM hp hlz hrep) (nu_lst hp hlz hrep)⟩
    · cases e
  | _ => cases e
theorem cr_min (hc : X.calm = true) : CallR X (.builtin "min") (rBlt2 .min) := by
  intro pins s σ H vs us Q I r h
  obtain ⟨K, M, b1, b2, x, y, d1, d2, d, rfl, h1, h2, e, q⟩ := h
  unfold blt2D at e
  split at e
  all_goals first | (rename_i z; cases z; done) | skip
  all_goals first | (cases e; done) | skip
  · cases e
    rw [h1.int, h2.int] at r
    exact call_min2 hc pins s σ H _ us Q I r ⟨_, _, rfl, q _ (.int _)⟩
theorem cr_max (hc : X.calm = true) : CallR X (.builtin "max") (rBlt2 .max) := by
  intro pins s σ H vs us Q I r h
  obtain ⟨K, M, b1, b2, x, y, d1, d2, d, rfl, h1, h2, e, q⟩ := h
  unfold blt2D at e
  split at e
  all_goals first | (rename_i z; cases z; done) | skip
  all_goals first | (cases e; done) | skip
  · cases e
    rw [h1.int, h2.int] at r
    exact call_max2 hc pins s σ H _ us Q I r ⟨_, _, rfl, q _ (.int _)⟩
/-! ### isinstance -/
def tyD : D → String
  | .none => "NoneType"
  | .bool _ => "bool"
  | .int _ => "int"
  | .str _ => "str"
  | .list _ => "list"
  | .tuple _ => "tuple"
  | .dict _ => "dict"
theorem rep_ty {K : PySem.W.Frag} {M : Addr → Prop} {b : Bool} {H : Hp} {v : V} {d : D} (h : RepB b K M H v d) : TyX K H v (.type (tyD d)) := by
  cases d with
  | none => rw [h.none]; exact .base .non
  | bool c => rw [h.bool]; exact .base (.bl c)
  | int i => rw [h.int]; exact .base (.int i)
  | str x => rw [h.str.1]; exact .base (.str x)
  | list ds =>
    obtain ⟨a, vs, rfl, hr, _⟩ := h.list
    rcases hr with hr | ⟨o, hr⟩
    · exact .base (.lst hr)
    · exact .base (.frz hr)
  | tuple ds =>
    obtain ⟨a, vs, rfl, hr, _⟩ := h.tuple
    rcases hr with (hr | ⟨o, hr⟩) | ⟨o, its, n, hr, hc, _⟩
    · exact .base (.tup hr)
    · exact .fTuple hr
    · exact .kTuple hr hc
  | dict ds =>
    obtain ⟨a, kvs, rfl, hr, _⟩ := h.dict
    exact .base (.dK hr)
def rIsiD (K : PySem.W.Frag) (t : Ty) : List V → Hp → VK → Prop := fun vs H Q => ∃ M b x d, vs = [x, .ty t.name] ∧ RepB b K M H x d ∧ Q (.bl (isiD d t)) H
theorem kit_d (d : D) (t : Ty) : kitB (tyD d) t.name = some (isiD d t) := by
  cases d with
  | dict kvs => cases t <;> (show kitB "dict" _ = some false; decide +kernel)
  | none => cases t <;> decide +kernel
  | bool _ => cases t <;> first | (show kitB "bool" _ = some true; decide +kernel) | (show kitB "bool" _ = some false; decide +kernel)
  | int _ => cases t <;> first | (show kitB "int" _ = some true; decide +kernel) | (show kitB "int" _ = some false; decide +kernel)
  | str _ => cases t <;> first | (show kitB "str" _ = some true; decide +kernel) | (show kitB "str" _ = some false; decide +kernel)
  | list _ => cases t <;> first | (show kitB "list" _ = some true; decide +kernel) | (show kitB "list" _ = some false; decide +kernel)
  | tuple _ => cases t <;> first | (show kitB "tuple" _ = some true; decide +kernel) | (show kitB "tuple" _ = some false; decide +kernel)
theorem cr_isi (t : Ty) : CallR X (.builtin "isinstance") (rIsiD X.K t) := by
  intro pins s σ H vs us Q I r h
  obtain ⟨M, b, x, d, rfl, h1, q⟩ := h
  have ty := rep_ty h1
  exact call_isi pins s σ H _ us Q I r ⟨x, .ty t.name, .type (tyD d), .type t.name, _, rfl, .ty _, ty, kit_ty (kit_d d t), q⟩
/-! ### methods -/
def rMth (K : PySem.W.Frag) (m : Mf) : V → List V → Hp → VK → Prop := fun x vs H Q => ∃ M b1 b2 y d1 d2 d, vs = [y] ∧ RepB b1 K M H x d1 ∧ RepB b2 K M H y d2 ∧ mthD m d1 d2 = .ok d ∧ ∀ v, Rep K M H v d → Q v H
theorem find_first {p : D → Bool} : ∀ {xs : List D} {j : Nat}, xs.findIdx? p = some j → (∃ z, xs[j]? = some z ∧ p z = true) ∧ ∀ (m : Nat) z', m < j → xs[m]? = some z' → p z' = false
  | xs, j, h => by
    rw [List.findIdx?_eq_some_iff_getElem] at h
    obtain ⟨hj, h1, h2⟩ := h
    refine ⟨⟨xs[j], List.getElem?_eq_getElem hj, h1⟩, fun m z' hm e => ?_⟩
    obtain ⟨hm', e⟩ := List.getElem?_eq_some_iff.mp e
    have := h2 m hm
    rw [← e]
    simpa using this
theorem room_min {A : Around} {xs : List D} {d : D} (hd : SeqAt.shaped d = true) (hu : A.units + 65 < cLine) : A.units + 1 + min (PyData.depthAll xs) d.depth < cLine := by
  have h1 := SeqAt.depth_of_shaped hd
  have h2 := Nat.min_le_right (PyData.depthAll xs) d.depth
  omega
theorem at_reads {h : Heap} {ds : List D} {its : List Value} {as : List Addr} (hl : PyData.canLayAll0 ds = true) (hr : ReadsAll h its ds as) : ∀ (m : Nat) (hm : m < its.toArray.size) (z' : D), ds[m]? = some z' → SeqAt.readOf h its.toArray[m] = z' := by
  intro m hm z' hz'
  have hmap : its.map (SeqAt.readOf h) = ds := SeqAt.readsAll_map ds its as hl hr
  have hml : m < its.length := by simpa using hm
  rw [← hmap, List.getElem?_map, List.getElem?_eq_getElem hml] at hz'
  have e1 : SeqAt.readOf h its[m] = z' := Option.some.inj (show some (SeqAt.readOf h its[m]) = some z' from hz')
  simpa using e1
theorem mt_indexL (hu : X.A.units + 65 < cLine) : MtR X "list.index" (fun x vs H Q => ∃ M b1 b2 y xs d2 d, vs = [y] ∧ RepB b1 X.K M H x (.list xs) ∧ RepB b2 X.K M H y d2 ∧ findD xs d2 = .ok d ∧ ∀ v, Rep X.K M H v d → Q v H) := by
  intro pins s σ H x vs v us Q I rx rs h
  obtain ⟨M, b1, b2, y, xs, d2, d, rfl, h1, h2, e, q⟩ := h
  unfold findD at e
  split at e
  · rename_i hs
    have e' := must_ok e
    rw [Option.map_eq_some_iff] at e'
    obtain ⟨j, hj, rfl⟩ := e'
    obtain ⟨⟨z, hz, hp⟩, hno⟩ := find_first hj
    obtain ⟨a, ws, rfl, hr, hz', l⟩ := h1.list
    cases rx
    obtain ⟨uy, rfl, ry⟩ := vals1 rs
    obtain ⟨bs, r1⟩ := Dp.reads I d2 y uy (h2.dp (SeqAt.canLay_of_shaped hs.1)) ry
    obtain ⟨hzz, its, n, rv, hlen, ho⟩ := lstR I hr
    obtain ⟨as, h4⟩ := Dp.readsAll I xs _ its l.dp rv
    have hjl : j < its.length := by
      have := (List.getElem?_eq_some_iff.mp hz).1
      rw [← hlen, l.length]
      exact this
    have hj' : j < its.toArray.size := by simpa using hjl
    have at_ := at_reads hs.2 h4
    refine call_meets PySem.F.slot_list_index ⟨_, ho, rfl⟩ PySem.F.entry_list_index (PySem.F.args_list_index_2 _ _)
      (SeqAt.list_indexAt a its.toArray n none #[] uy (fun u => PyData.eqv (SeqAt.readOf s.heap u) d2) j hj' (by rw [sizeLine_eq] at hzz; omega) ?_ ?_) ⟨ho, SeqAt.items_eqAt (vs := its.toArray) (show ReadsAll s.heap its.toArray.toList xs as from h4) r1 hs.2 (SeqAt.canLay_of_shaped hs.1) (room_min hs.1 hu), ?_⟩
    · rw [at_ j hj' z hz]; exact hp
    · intro m hm hmj
      have hmx : m < xs.length := by rw [← l.length, hlen]; simpa using hm
      rw [at_ m hm xs[m] (List.getElem?_eq_getElem hmx)]
      exact hno m _ hmj (List.getElem?_eq_getElem hmx)
    · exact ⟨.int (j : Nat), H, I.tok _, ⟨_, rfl⟩, q _ (.int _)⟩
  · cases e
theorem mt_indexT (hu : X.A.units + 65 < cLine) : MtR X "tuple.index" (fun x vs H Q => ∃ M b1 b2 y xs d2 d, vs = [y] ∧ RepB b1 X.K M H x (.tuple xs) ∧ RepB b2 X.K M H y d2 ∧ findD xs d2 = .ok d ∧ ∀ v, Rep X.K M H v d → Q v H) := by
  intro pins s σ H x vs v us Q I rx rs h
  obtain ⟨M, b1, b2, y, xs, d2, d, rfl, h1, h2, e, q⟩ := h
  unfold findD at e
  split at e
  · rename_i hs
    have e' := must_ok e
    rw [Option.map_eq_some_iff] at e'
    obtain ⟨j, hj, rfl⟩ := e'
    obtain ⟨⟨z, hz, hp⟩, hno⟩ := find_first hj
    obtain ⟨a, ws, rfl, hr, hz', l⟩ := h1.tuple
    cases rx
    obtain ⟨uy, rfl, ry⟩ := vals1 rs
    obtain ⟨bs, r1⟩ := Dp.reads I d2 y uy (h2.dp (SeqAt.canLay_of_shaped hs.1)) ry
    obtain ⟨its, rv, pl, hzz⟩ := I.tuple hr
    obtain ⟨⟨cls, dd, dt, sl⟩, ho, hc, n, hd⟩ := pl
    simp only at hc hd
    subst hc
    subst hd
    obtain ⟨as, h4⟩ := Dp.readsAll I xs _ its l.dp rv
    have hlen := rv.length
    have hjl : j < its.length := by
      have := (List.getElem?_eq_some_iff.mp hz).1
      rw [← hlen, l.length]
      exact this
    have hj' : j < its.toArray.size := by simpa using hjl
    have at_ := at_reads hs.2 h4
    refine call_meets PySem.F.slot_tuple_index ⟨_, ho, rfl⟩ PySem.F.entry_tuple_index (PySem.F.args_tuple_index_2 _ _) (TI.tuple_indexAt a its.toArray n dd sl uy (fun u => PyData.eqv (SeqAt.readOf s.heap u) d2) j hj' ?_ ?_)
      ⟨ho, SeqAt.items_eqAt (vs := its.toArray) (show ReadsAll s.heap its.toArray.toList xs as from h4) r1 hs.2 (SeqAt.canLay_of_shaped hs.1) (room_min hs.1 hu), ?_⟩
    · rw [at_ j hj' z hz]; exact hp
    · intro m hm hmj
      have hmx : m < xs.length := by rw [← l.length, hlen]; simpa using hm
      rw [at_ m hm xs[m] (List.getElem?_eq_getElem hmx)]
      exact hno m _ hmj (List.getElem?_eq_getElem hmx)
    · exact ⟨.int (j : Nat), H, I.tok _, ⟨_, rfl⟩, q _ (.int _)⟩
  · cases e
theorem mt_countL (hu : X.A.units + 65 < cLine) : MtR X "list.count" (fun x vs H Q => ∃ M b1 b2 y xs d2 d, vs = [y] ∧ RepB b1 X.K M H x (.list xs) ∧ RepB b2 X.K M H y d2 ∧ countD xs d2 = .ok d ∧ ∀ v, Rep X.K M H v d → Q v H) := by
  intro pins s σ H x vs v us Q I rx rs h
  obtain ⟨M, b1, b2, y, xs, d2, d, rfl, h1, h2, e, q⟩ := h
  unfold countD at e
  split at e
  · rename_i hs
    cases e
    obtain ⟨a, ws, rfl, hr, hz', l⟩ := h1.list
    cases rx
    obtain ⟨uy, rfl, ry⟩ := vals1 rs
    obtain ⟨bs, r1⟩ := Dp.reads I d2 y uy (h2.dp (SeqAt.canLay_of_shaped hs.1)) ry
    obtain ⟨hzz, its, n, rv, hlen, ho⟩ := lstR I hr
    obtain ⟨as, h4⟩ := Dp.readsAll I xs _ its l.dp rv
    have hmap : its.map (SeqAt.readOf s.heap) = xs := SeqAt.readsAll_map xs its as hs.2 h4
    refine call_meets PySem.F.slot_list_count ⟨_, ho, rfl⟩ PySem.F.entry_list_count (PySem.F.args_list_count_2 _ _)
      (SeqAt.list_countAt a its.toArray n none #[] uy (fun u => PyData.eqv (SeqAt.readOf s.heap u) d2)) ⟨ho, SeqAt.items_eqAt (vs := its.toArray) (show ReadsAll s.heap its.toArray.toList xs as from h4) r1 hs.2 (SeqAt.canLay_of_shaped hs.1) (room_min hs.1 hu), ?_⟩
    have ec : List.countP (fun u => PyData.eqv (SeqAt.readOf s.heap u) d2) its = List.countP (fun z => PyData.eqv z d2) xs := by
      rw [← hmap, List.countP_map]
      rfl
    have ec' : List.countP (fun u => PyData.eqv (SeqAt.readOf s.heap u) d2) its.toArray.toList = List.countP (fun z => PyData.eqv z d2) xs := ec
    rw [ec']
    exact ⟨.int _, H, I.tok _, ⟨_, rfl⟩, q _ (.int _)⟩
  · cases e
end
end Fp
set_option maxHeartbeats 1000000
namespace Fp
open PySem PySem.Spec PyProof.Rows L2
variable [TB]
/-! ### dict(xs), xs a list or a tuple of pairs -/
/-- what the pairs are, by values -/
structure PairV (X : Cx) (M : Addr → Prop) (H : Hp) (h : Heap) (u : Value) (p : D × D) (kv : Key × V) (q : Value × Value) : Prop where
  at_ : ∃ T, u = .ref T ∧ PairAt h T q.1 q.2
  key : p.1 = keyD kv.1
  is_ : (mixKind X.prog X.w).is kv.1 q.1 = true
  rel : RelV kv.2 q.2
  rep : Rep X.K M H kv.2 p.2
theorem pair_v {X : Cx} {pins : List (Addr × Obj)} {σ : L2.St} {H : Hp} {s : Shared} {M : Addr → Prop} {v : V} {u : Value} {d : D} {p : D × D} (I : L2.Inv X pins σ H s) (r : Rep X.K M H v d) (ru : RelV v u) (e : pairD d = some p) : ∃ kv q, PairV X M H s.heap u p kv q := by
  unfold pairD at e
  split at e
  · rename_i k w
    split at e
    · rename_i hk
      cases e
      cases r with
      | tup hq hz hl =>
        cases ru
        cases hl with
        | cons h1 hl =>
          cases hl with
          | cons h2 hl =>
            cases hl
            rename_i T vk vw
            obtain ⟨its, ri, ti, _⟩ := I.tuple hq.t
            cases ri with
            | cons r1 ri =>
              cases ri with
              | cons r2 ri =>
                cases ri
                rename_i uk uw
                cases k with
                | int i =>
                  cases h1
                  obtain ⟨t, rfl⟩ := r1
                  exact ⟨(.inl i, vw), (.int i t, uw), ⟨T, rfl, .inl ti⟩, rfl, kV_is (k := .inl i) ⟨t, rfl⟩, r2, h2⟩
                | str x =>
                  cases h1
                  obtain ⟨t, rfl⟩ := r1
                  exact ⟨(.inr x, vw), (.str x t, uw), ⟨T, rfl, .inl ti⟩, rfl, kV_is (k := .inr x) ⟨t, rfl⟩, r2, h2⟩
                | _ => cases hk
    · cases e
  · cases e
inductive PairVs (X : Cx) (M : Addr → Prop) (H : Hp) (h : Heap) : List Value → List (D × D) → List (Key × V) → List (Value × Value) → Prop
  | nil : PairVs X M H h [] [] [] []
  | cons {u : Value} {p : D × D} {kv : Key × V} {q : Value × Value} {us : List Value} {ps : List (D × D)} {kvs : List (Key × V)} {qs : List (Value × Value)} : PairV X M H h u p kv q → PairVs X M H h us ps kvs qs → PairVs X M H h (u :: us) (p :: ps) (kv :: kvs) (q :: qs)
theorem pairs_v {X : Cx} {pins : List (Addr × Obj)} {σ : L2.St} {H : Hp} {s : Shared} {M : Addr → Prop} (I : L2.Inv X pins σ H s) : ∀ {vs : List V} {us : List Value} {xs : List D} {ps : List (D × D)}, RepL X.K M H vs xs → Vals vs us → pairsK xs = some ps → ∃ kvs qs, PairVs X M H s.heap us ps kvs qs
  | _, _, _, ps, .nil, .nil, e => by
    cases e
    exact ⟨[], [], .nil⟩
  | _, _, _, ps, .cons h r, .cons hu ru, e => by
    unfold pairsK at e
    rw [Option.bind_eq_some_iff] at e
    obtain ⟨p, e1, e⟩ := e
    rw [Option.map_eq_some_iff] at e
    obtain ⟨ps', e2, rfl⟩ := e
    obtain ⟨kv, q, hp⟩ := pair_v I h hu e1
    obtain ⟨kvs, qs, hps⟩ := pairs_v I r ru e2
    exact ⟨kv :: kvs, q :: qs, .cons hp hps⟩
section
variable {X : Cx} {M : Addr → Prop} {H : Hp} {h : Heap}
theorem PairVs.len {us : List Value} {ps : List (D × D)} {kvs : List (Key × V)} {qs : List (Value × Value)} (t : PairVs X M H h us ps kvs qs) : us.length = qs.length ∧ ps.length = qs.length ∧ kvs.length = qs.length := by
  induction t with
  | nil => exact ⟨rfl, rfl, rfl⟩
  | cons _ _ ih => simp [ih.1, ih.2.1, ih.2.2]
theorem PairVs.at {us : List Value} {ps : List (D × D)} {kvs : List (Key × V)} {qs : List (Value × Value)} (t : PairVs X M H h us ps kvs qs) : ∀ (j : Nat) q, qs[j]? = some q → ∃ u p kv, us[j]? = some u ∧ ps[j]? = some p ∧ kvs[j]? = some kv ∧ PairV X M H h u p kv q := by
  induction t with
  | nil => intro j q e; simp at e
  | cons hp t ih =>
    intro j q e
    cases j with
    | zero =>
      simp only [List.getElem?_cons_zero, Option.some.injEq] at e
      subst e
      exact ⟨_, _, _, rfl, rfl, rfl, hp⟩
    | succ j => exact ih j q (by simpa using e)
/-- the keys with the values -/
def kvVal (kvs : List (Key × V)) (qs : List (Value × Value)) : List (Key × Value) := (kvs.zip qs).map fun p => (p.1.1, p.2.2)
theorem PairVs.fold {us : List Value} {ps : List (D × D)} {kvs : List (Key × V)} {qs : List (Value × Value)} (t : PairVs X M H h us ps kvs qs) : ∀ {a : List (Key × V)} {b : List (Key × Value)} {c : List (D × D)}, L2.KV a b → RepKV X.K M H a c →
    L2.KV (kvs.foldl (fun acc p => putK acc p.1 p.2) a) (merged b (kvVal kvs qs)) ∧ RepKV X.K M H (kvs.foldl (fun acc p => putK acc p.1 p.2) a) (ps.foldl (fun acc p => dputD acc p.1 p.2) c) := by
  induction t with
  | nil => intro a b c h1 h2; exact ⟨h1, h2⟩
  | cons hp t ih =>
    rename_i u p kv q us ps kvs qs
    intro a b c h1 h2
    have k1 := KV.put h1 kv.1 hp.rel
    have k2 : RepKV X.K M H (putK a kv.1 kv.2) (dputD c p.1 p.2) := by rw [hp.key]; exact h2.put hp.rep
    exact ih k1 k2
end
theorem fold_len : ∀ (kvs : List (Key × V)) (a : List (Key × V)), (kvs.foldl (fun acc p => putK acc p.1 p.2) a).length ≤ a.length + kvs.length
  | [], a => Nat.le_refl _
  | p :: kvs, a => by
    have h1 := fold_len kvs (putK a p.1 p.2)
    have h2 := length_putK a p.1 p.2
    rw [List.foldl_cons, List.length_cons]
    omega
def tsOf (us : List Value) (j : Nat) : Addr := match us[j]? with
  | some (.ref T) => T
  | _ => 0
section
variable {X : Cx}
theorem dict_go {T : String} {pins : List (Addr × Obj)} {s : Shared} {σ : L2.St} {H : Hp} {M : Addr → Prop} {a : Addr} {us : List Value} {ps : List (D × D)} {kvs : List (Key × V)} {qs : List (Value × Value)} {Q : VK} (hc : X.calm = true) (I : L2.Inv X pins σ H s) (t : PairVs X M H s.heap us ps kvs qs) (hz : us.length ≤ sizeLine)
    (P : PairArg X.prog X.w T a (a :: (List.range qs.length).map (tsOf us)) [] qs.length (PairRel qs) (fun h => PlainSeq T h a us.toArray ∧ PairItems h us.toArray (tsOf us) qs)) (hp : PlainSeq T s.heap a us.toArray)
    (q : ∀ p es, H p = none → es.length ≤ sizeLine → RepKV X.K M H es (ps.foldl (fun acc p => dputD acc p.1 p.2) []) → Q (.ref p) (upd H p (.dK es))) : wpAny (model X.prog X.w) X.A (call (.type "dict") [.ref a]) (EP X pins σ Q) X.xe s := by
  obtain ⟨l1, l2, l3⟩ := t.len
  obtain ⟨f1, f2⟩ := t.fold (a := []) (b := []) (c := []) .nil .nil
  have hl := fold_len kvs []
  rw [List.length_nil] at hl
  have items : PairItems s.heap us.toArray (tsOf us) qs := ⟨by rw [List.size_toArray]; exact l1, fun j k v hj => by
    obtain ⟨u, p, kv, h1, _, _, h4⟩ := t.at j (k, v) hj
    obtain ⟨T', rfl, h5⟩ := h4.at_
    have e : tsOf us j = T' := by unfold tsOf; rw [h1]
    rw [e]
    exact ⟨by simpa using h1, h5⟩⟩
  refine call_dict_pairs (knd := mixKind X.prog X.w) (kvs := kvVal kvs qs) P (I.ok.hd hc) ⟨hp, items⟩ ⟨by unfold kvVal; simp [l3], fun i key v hr => ?_⟩ (by omega) fun h' tk hd hk => ?_
  · obtain ⟨u, p, kv, _, _, h3, h4⟩ := t.at i (key, v) hr
    refine ⟨kv.1, ?_, h4.is_⟩
    unfold kvVal
    rw [List.getElem?_map, (List.getElem?_zip_eq_some (z := (kv, (key, v)))).mpr ⟨h3, hr⟩]
    rfl
  · have hlen : (kvs.foldl (fun acc p => putK acc p.1 p.2) []).length ≤ sizeLine := by omega
    have nm : (s.heap.objs.size == sysModules) = false := by
      have := I.big
      exact beq_eq_false_iff_ne.mpr (Nat.ne_of_gt this)
    exact ⟨.ref _, _, I.laid (t' := tk) (o := .dK (kvs.foldl (fun acc p => putK acc p.1 p.2) [])) (fun b o e => hk b o (by simp) e) (Nat.le_refl _) ⟨hlen, nm, _, f1, hd⟩, rfl, q _ _ I.fresh hlen f2⟩
def rDict (K : PySem.W.Frag) : List V → Hp → VK → Prop := fun vs H Q => ∃ M b x d0 d, vs = [x] ∧ RepB b K M H x d0 ∧ dictD d0 = .ok d ∧ ∀ p es ds, d = .dict ds → H p = none → es.length ≤ sizeLine → RepKV K M H es ds → Q (.ref p) (upd H p (.dK es))
theorem cr_dict (hc : X.calm = true) : CallR X (.type "dict") (rDict X.K) := by
  intro pins s σ H vs us Q I r h
  obtain ⟨M, b, x, d0, d, rfl, h1, e, q⟩ := h
  obtain ⟨u, rfl, ru⟩ := vals1 r
  unfold dictD at e
  have e' : ∃ xs ps, seqD d0 = .ok xs ∧ pairsK xs = some ps ∧ d = .dict (ps.foldl (fun acc p => dputD acc p.1 p.2) []) := by
    cases hs : seqD d0 with
    | ok xs =>
      rw [hs] at e
      cases hp : pairsK xs with
      | some ps =>
        have e : must ((pairsK xs).map fun ps => PyData.dict (ps.foldl (fun acc p => dputD acc p.1 p.2) [])) = .ok d := e
        rw [hp] at e
        cases e
        exact ⟨xs, ps, rfl, hp, rfl⟩
      | none =>
        have e : must ((pairsK xs).map fun ps => PyData.dict (ps.foldl (fun acc p => dputD acc p.1 p.2) [])) = .ok d := e
        rw [hp] at e
        cases e
    | exc c => rw [hs] at e; cases e
    | err => rw [hs] at e; cases e
  obtain ⟨xs, ps, hs, hp, rfl⟩ := e'
  cases d0 with
  | list ys =>
    cases hs
    obtain ⟨a, ws, rfl, hr, hz, l⟩ := h1.list
    cases ru
    obtain ⟨its, rv, pl, _⟩ := I.list (sqL_of hr)
    obtain ⟨kvs, qs, t⟩ := pairs_v I l rv hp
    obtain ⟨o, n, k1, k2, k3, k4⟩ := pl
    exact dict_go hc I t (by rw [← rv.length]; exact hz) (PairArg.list a its.toArray (tsOf its) qs) ⟨o, n, k1, k2, k3, k4⟩ fun p es h2 h3 h4 => q p es _ rfl h2 h3 h4
  | tuple ys =>
    cases hs
    obtain ⟨a, ws, rfl, hr, hz, l⟩ := h1.tupleP
    cases ru
    obtain ⟨its, rv, pt, _⟩ := I.tuple hr.t
    obtain ⟨kvs, qs, t⟩ := pairs_v I l rv hp
    obtain ⟨o, k1, k2, n, k3⟩ := pt
    have hdn : o.dict = none := by
      rcases hr with ⟨o', h, _, h5, _⟩ | ⟨o', _, _, h, ⟨_, h5, _⟩, _⟩
      · have z : s.heap.get? a = some o' := (I.hok a _ h).1
        rw [k1] at z
        cases z
        exact h5
      · have z : s.heap.get? a = some o' := I.kIn a o' h
        rw [k1] at z
        cases z
        exact h5
    exact dict_go hc I t (by rw [← rv.length]; exact hz) (PairArg.tuple a its.toArray (tsOf its) qs) ⟨o, n, k1, k2, hdn, k3⟩ fun p es h2 h3 h4 => q p es _ rfl h2 h3 h4
  | _ => cases hs
end
end Fp
set_option maxHeartbeats 1000000
namespace Fp
open PySem PySem.Spec PyProof.Rows L2
variable [TB]
/-! ### dict(xs)[k], keys that are tuples -/
section
variable {X : Cx} {pins : List (Addr × Obj)} {σ : L2.St} {H : Hp} {s : Shared} {M : Addr → Prop}
mutual
theorem nest_is (I : L2.Inv X pins σ H s) : ∀ {v : V} {d : D} {u : Value} {k : NestedKey}, Rep X.K M H v d → RelV v u → nkOf d = some k → NestedIs s.heap k u
  | _, _, _, _, .non, ru, e => by
    cases e; cases ru; exact .none
  | _, _, _, _, .bl b, ru, e => by
    cases e; cases ru; exact .bool rfl
  | _, _, _, _, .int i, ru, e => by
    obtain ⟨t, rfl⟩ := ru
    cases e; exact .int i t
  | _, _, _, _, .str x h, ru, e => by
    obtain ⟨t, rfl⟩ := ru
    cases e; exact .text x t
  | _, _, _, _, .lst h n z r, ru, e => by cases e
  | _, _, _, k, .tup (ds := ds) h z r, ru, e => by
    cases ru
    have e : (nkAll ds).map NestedKey.tup = some k := e
    rw [Option.map_eq_some_iff] at e
    obtain ⟨ks, e2, rfl⟩ := e
    obtain ⟨its, rv, ⟨o, h1, h2, n, h3⟩, _⟩ := I.tuple h.t
    exact .tup h1 h2 h3 (by simpa using nest_all I r rv e2)
theorem nest_all (I : L2.Inv X pins σ H s) : ∀ {vs : List V} {ds : List D} {us : List Value} {ks : List NestedKey}, RepL X.K M H vs ds → Vals vs us → nkAll ds = some ks → NestedAll s.heap ks us
  | _, _, _, _, .nil, .nil, e => by
    cases e; exact .nil
  | _, _, _, ks, .cons (d := d) (ds := ds) h r, .cons hu ru, e => by
    have e : (nkOf d).bind (fun k => (nkAll ds).map (k :: ·)) = some ks := e
    rw [Option.bind_eq_some_iff] at e
    obtain ⟨k, e1, e⟩ := e
    rw [Option.map_eq_some_iff] at e
    obtain ⟨ks', e2, rfl⟩ := e
    exact .cons (nest_is I h hu e1) (nest_all I r ru e2)
end
end
/-- an entry: its key, where its key lies, its value -/
abbrev NE := NestedKey × Addr × V
inductive NRel : List NE → List (NestedKey × Addr × Value) → Prop
  | nil : NRel [] []
  | cons {k : NestedKey} {b : Addr} {v : V} {u : Value} {es : List NE} {xs : List (NestedKey × Addr × Value)} : RelV v u → NRel es xs → NRel ((k, b, v) :: es) ((k, b, u) :: xs)
def DnO (P : Program) (w : World) (a : Addr) (es : List NE) : HO := .ext fun h => ∃ xs, NRel es xs ∧ ∃ o eb ep, h.get? a = some o ∧ o.ExactDict ∧ o.data = .dict eb ep ∧ eb.toList = xs.map (entryOfKey (nestedKind P w)) ∧ (xs.map (·.1)).Nodup
/-- the entries, by data -/
inductive NRep (K : PySem.W.Frag) (M : Addr → Prop) (H : Hp) : List NE → List (NestedKey × D) → Prop
  | nil : NRep K M H [] []
  | cons {k : NestedKey} {b : Addr} {v : V} {kd d : D} {es : List NE} {ps : List (NestedKey × D)} : nkOf kd = some k → k.depth ≤ 8 → Rep K M H (.ref b) kd → Rep K M H v d → NRep K M H es ps → NRep K M H ((k, b, v) :: es) ((k, d) :: ps)
section
variable {K : PySem.W.Frag} {M : Addr → Prop} {H H' : Hp}
theorem NRep.mono (e : Same H H') : ∀ {es : List NE} {ps : List (NestedKey × D)}, NRep K M H es ps → NRep K M H' es ps
  | _, _, .nil => .nil
  | _, _, .cons h1 h2 h3 h4 r => .cons h1 h2 (h3.mono e) (h4.mono e) (NRep.mono e r)
theorem NRep.get {k : NestedKey} : ∀ {es : List NE} {ps : List (NestedKey × D)} {xs : List (NestedKey × Addr × Value)} {d : D}, NRep K M H es ps → NRel es xs → getN ps k = some d → ∃ v p, atKey xs k = some p ∧ RelV v p.2 ∧ Rep K M H v d
  | _, _, _, _, .nil, .nil, e => by cases e
  | _, _, _, d, .cons (k := k') (b := b) (v := v') (d := d') (ps := ps) h1 h2 h3 h4 r, .cons (u := u) (xs := xs) hu ru, e => by
    by_cases q : k' = k
    · subst q
      have e1 : getN ((k', d') :: ps) k' = some d' := by simp [getN]
      rw [e1] at e
      cases e
      exact ⟨v', (b, u), by simp [atKey], hu, h4⟩
    · have e1 : getN ((k', d') :: ps) k = getN ps k := by simp [getN, q]
      rw [e1] at e
      obtain ⟨v, p, z1, z2⟩ := NRep.get r ru e
      exact ⟨v, p, by rw [← z1]; simp [atKey, q], z2⟩
end
theorem NRep.is {X : Cx} {pins : List (Addr × Obj)} {σ : L2.St} {H : Hp} {s : Shared} {M : Addr → Prop} (I : L2.Inv X pins σ H s) : ∀ {es : List NE} {ps : List (NestedKey × D)} {xs : List (NestedKey × Addr × Value)}, NRep X.K M H es ps → NRel es xs → ∀ x ∈ xs, (nestedKind X.prog X.w).is s.heap x.1 x.2.1
  | _, _, _, .nil, .nil, x, hx => by cases hx
  | _, _, _, .cons h1 h2 h3 h4 r, .cons hu ru, x, hx => by
    rcases List.mem_cons.mp hx with rfl | hx
    · exact ⟨nest_is I h3 rfl h1, h2⟩
    · exact NRep.is I r ru x hx
/-- the pairs, by values -/
theorem npairs_v {X : Cx} {pins : List (Addr × Obj)} {σ : L2.St} {H : Hp} {s : Shared} {M : Addr → Prop} (I : L2.Inv X pins σ H s) : ∀ {vs : List V} {us : List Value} {xs : List D} {ps : List (NestedKey × D)}, RepL X.K M H vs xs → Vals vs us → pairsN xs = some ps →
    ∃ (es : List NE) (hs : List (NestedKey × Addr × Value)), NRep X.K M H es ps ∧ NRel es hs ∧ us.length = hs.length ∧ ∀ (j : Nat) (q : NestedKey × Addr × Value), hs[j]? = some q → ∃ T, us[j]? = some (.ref T) ∧ PairAt s.heap T (.ref q.2.1) q.2.2
  | _, _, _, ps, .nil, .nil, e => by
    cases e
    exact ⟨[], [], .nil, .nil, rfl, fun j q z => by simp at z⟩
  | _, _, _, ps, .cons (d := d) (ds := ds) h r, .cons hu ru, e => by
    have e : (pairN d).bind (fun p => (pairsN ds).map (p :: ·)) = some ps := e
    rw [Option.bind_eq_some_iff] at e
    obtain ⟨p, e1, e⟩ := e
    rw [Option.map_eq_some_iff] at e
    obtain ⟨ps', e2, rfl⟩ := e
    obtain ⟨es, hs, r1, r2, r3, r4⟩ := npairs_v I r ru e2
    unfold pairN at e1
    split at e1
    · rename_i kd vd
      rw [Option.map_eq_some_iff] at e1
      obtain ⟨c, e1, rfl⟩ := e1
      cases h with
      | tup hq hz hl =>
        cases hu
        cases hl with
        | cons g1 hl =>
          cases hl with
          | cons g2 hl =>
            cases hl
            rename_i T vk vw
            obtain ⟨its, ri, ti, _⟩ := I.tuple hq.t
            cases ri with
            | cons q1 ri =>
              cases ri with
              | cons q2 ri =>
                cases ri
                rename_i uk uw
                unfold nkT at e1
                split at e1
                · rw [Option.bind_eq_some_iff] at e1
                  obtain ⟨c', e1, e3⟩ := e1
                  split at e3
                  · rename_i hd
                    cases e3
                    cases g1 with
                    | tup gq gz gl =>
                      rename_i b _ _
                      cases q1
                      refine ⟨(c, b, vw) :: es, (c, b, uw) :: hs, .cons e1 hd (.tup gq gz gl) g2 r1, .cons q2 r2, by simp [r3], fun j q z => ?_⟩
                      cases j with
                      | zero =>
                        simp only [List.getElem?_cons_zero, Option.some.injEq] at z
                        subst z
                        exact ⟨T, rfl, .inl ti⟩
                      | succ j => exact r4 j q (by simpa using z)
                  · cases e3
                · cases e1
    · cases e1
theorem NRel.keys : ∀ {es : List NE} {xs : List (NestedKey × Addr × Value)}, NRel es xs → xs.map (·.1) = es.map (·.1)
  | _, _, .nil => rfl
  | _, _, .cons _ r => by simp [NRel.keys r]
theorem NRep.keys {K : PySem.W.Frag} {M : Addr → Prop} {H : Hp} : ∀ {es : List NE} {ps : List (NestedKey × D)}, NRep K M H es ps → es.map (·.1) = ps.map (·.1)
  | _, _, .nil => rfl
  | _, _, .cons _ _ _ _ r => by simp [NRep.keys r]
theorem atKey_none {xs : List (NestedKey × Addr × Value)} {k : NestedKey} (h : k ∉ xs.map (·.1)) : atKey xs k = none := by
  unfold atKey
  rw [Option.map_eq_none_iff, List.find?_eq_none]
  intro x hx
  simp only [decide_eq_true_eq]
  exact fun e => h (by rw [← e]; exact List.mem_map_of_mem hx)
theorem stored_nd : ∀ (ps acc : List (NestedKey × Addr × Value)), ((acc ++ ps).map (·.1)).Nodup → storedAllH acc ps = acc ++ ps
  | [], acc, _ => by simp [storedAllH]
  | p :: ps, acc, h => by
    have hp : p.1 ∉ acc.map (·.1) := by
      rw [List.map_append, List.nodup_append] at h
      exact fun q => h.2.2 _ q _ (by simp) rfl
    have ih := stored_nd ps (acc ++ [p]) (by simpa using h)
    unfold storedAllH at ih ⊢
    rw [List.foldl_cons, storedH_new (atKey_none hp)]
    simpa using ih
section
variable {X : Cx}
def rDictN (X : Cx) : List V → Hp → VK → Prop := fun vs H Q => ∃ M b x d0 ps, vs = [x] ∧ RepB b X.K M H x d0 ∧ dictN d0 = .ok ps ∧ ∀ p es, H p = none → NRep X.K M H es ps → Q (.ref p) (upd H p (DnO X.prog X.w p es))
theorem dictN_go {T : String} {pins : List (Addr × Obj)} {s : Shared} {σ : L2.St} {H : Hp} {M : Addr → Prop} {a : Addr} {us : List Value} {ps : List (NestedKey × D)} {es : List NE} {hs : List (NestedKey × Addr × Value)} {Q : VK} (hc : X.calm = true) (hu : X.A.units + 65 < cLine) (I : L2.Inv X pins σ H s) (r1 : NRep X.K M H es ps) (r2 : NRel es hs) (r3 : us.length = hs.length)
    (r4 : ∀ (j : Nat) (q : NestedKey × Addr × Value), hs[j]? = some q → ∃ T, us[j]? = some (.ref T) ∧ PairAt s.heap T (.ref q.2.1) q.2.2) (hn : (ps.map (·.1)).Nodup) (hz : us.length ≤ sizeLine)
    (P : PairArg X.prog X.w T a (a :: (List.range (hs.map fun q => (Value.ref q.2.1, q.2.2)).length).map (tsOf us)) [] (hs.map fun q => (Value.ref q.2.1, q.2.2)).length (PairRel (hs.map fun q => (Value.ref q.2.1, q.2.2))) (fun h => PlainSeq T h a us.toArray ∧ PairItems h us.toArray (tsOf us) (hs.map fun q => (Value.ref q.2.1, q.2.2)))) (hp : PlainSeq T s.heap a us.toArray)
    (q : ∀ p es, H p = none → NRep X.K M H es ps → Q (.ref p) (upd H p (DnO X.prog X.w p es))) : wpAny (model X.prog X.w) X.A (call (.type "dict") [.ref a]) (EP X pins σ Q) X.xe s := by
  have items : PairItems s.heap us.toArray (tsOf us) (hs.map fun q => (Value.ref q.2.1, q.2.2)) := ⟨by rw [List.size_toArray, List.length_map]; exact r3, fun j k v hj => by
    rw [List.getElem?_map, Option.map_eq_some_iff] at hj
    obtain ⟨q', hq, e⟩ := hj
    cases e
    obtain ⟨T', h1, h5⟩ := r4 j q' hq
    have e : tsOf us j = T' := by unfold tsOf; rw [h1]
    rw [e]
    exact ⟨by simpa using h1, h5⟩⟩
  have his := r1.is I r2
  have hks : (hs.map (·.1)).Nodup := by rw [r2.keys, r1.keys]; exact hn
  refine call_dict_pairsH (knd := nestedKind X.prog X.w) (ps := hs) P (I.ok.hd hc) (by show X.A.in1.in1.units + 8 < cLine; have : X.A.in1.in1.units ≤ X.A.units + 2 := Nat.le_refl _; omega) ⟨hp, items⟩ ⟨by simp, fun i key v hr => ?_⟩ (fun h' hk x hx => (nestedKind_stays (prog := X.prog) (w := X.w)).stays (fun b o vs n hb _ => hk b o (Nat.ne_of_lt (Heap.lt_size hb)) (by simp) hb) (his x hx)) (by rw [List.length_map]; omega) fun h' tk hd hk => ?_
  · have hr : (hs.map fun q => (Value.ref q.2.1, q.2.2))[i]? = some (key, v) := hr
    rw [List.getElem?_map, Option.map_eq_some_iff] at hr
    obtain ⟨q', hq, e⟩ := hr
    cases e
    exact ⟨q'.1, q'.2.1, hq, rfl⟩
  · rw [stored_nd hs [] (by simpa using hks), List.nil_append] at hd
    obtain ⟨o, eb, ep, g1, g2, g3, g4, g5, g6⟩ := hd
    have e0 : (some o).isSome = true := rfl
    refine ⟨.ref _, _, I.laid (t' := tk) (o := DnO X.prog X.w s.heap.objs.size es) (fun b o e => hk b o (by simp) e) (Nat.le_refl _) ⟨⟨hs, r2, o, eb, ep, g1, g2, g3, g4, g6⟩, ⟨o, g1⟩, fun h1 h2 f hk2 => ?_⟩, rfl, q _ _ I.fresh r1⟩
    obtain ⟨xs, f1, o', eb', ep', f2, f3⟩ := f
    exact ⟨xs, f1, o', eb', ep', hk2 _ f2, f3⟩
theorem cr_dictN (hc : X.calm = true) (hu : X.A.units + 65 < cLine) : CallR X (.type "dict") (rDictN X) := by
  intro pins s σ H vs us Q I r h
  obtain ⟨M, b, x, d0, ps, rfl, h1, e, q⟩ := h
  obtain ⟨u, rfl, ru⟩ := vals1 r
  have e' : ∃ xs, seqD d0 = .ok xs ∧ pairsN xs = some ps ∧ (ps.map (·.1)).Nodup := by
    unfold dictN at e
    cases hs : seqD d0 with
    | ok xs =>
      rw [hs] at e
      have e : (must (pairsN xs) >>= fun ps => if (ps.map (·.1)).Nodup then Res.ok ps else .err) = .ok ps := e
      cases hp : pairsN xs with
      | some ps' =>
        rw [hp] at e
        have e : (if (ps'.map (·.1)).Nodup then Res.ok ps' else .err) = .ok ps := e
        split at e
        · cases e
          exact ⟨xs, rfl, hp, by assumption⟩
        · cases e
      | none => rw [hp] at e; cases e
    | exc c => rw [hs] at e; cases e
    | err => rw [hs] at e; cases e
  obtain ⟨xs, hs, hp, hn⟩ := e'
  cases d0 with
  | list ys =>
    cases hs
    obtain ⟨a, ws, rfl, hr, hz, l⟩ := h1.list
    cases ru
    obtain ⟨its, rv, pl, _⟩ := I.list (sqL_of hr)
    obtain ⟨es, hs, r1, r2, r3, r4⟩ := npairs_v I l rv hp
    obtain ⟨o, n, k1, k2, k3, k4⟩ := pl
    exact dictN_go hc hu I r1 r2 r3 r4 hn (by rw [← rv.length]; exact hz) (PairArg.list a its.toArray (tsOf its) _) ⟨o, n, k1, k2, k3, k4⟩ q
  | tuple ys =>
    cases hs
    obtain ⟨a, ws, rfl, hr, hz, l⟩ := h1.tupleP
    cases ru
    obtain ⟨its, rv, pt, _⟩ := I.tuple hr.t
    obtain ⟨es, hs, r1, r2, r3, r4⟩ := npairs_v I l rv hp
    obtain ⟨o, k1, k2, n, k3⟩ := pt
    have hdn : o.dict = none := by
      rcases hr with ⟨o', h, _, h5, _⟩ | ⟨o', _, _, h, ⟨_, h5, _⟩, _⟩
      · have z : s.heap.get? a = some o' := (I.hok a _ h).1
        rw [k1] at z
        cases z
        exact h5
      · have z : s.heap.get? a = some o' := I.kIn a o' h
        rw [k1] at z
        cases z
        exact h5
    exact dictN_go hc hu I r1 r2 r3 r4 hn (by rw [← rv.length]; exact hz) (PairArg.tuple a its.toArray (tsOf its) _) ⟨o, n, k1, k2, hdn, k3⟩ q
  | _ => cases hs
def rDix (X : Cx) : R2 := fun x y H Q => ∃ M b p es ps kd d, x = .ref p ∧ H p = some (DnO X.prog X.w p es) ∧ NRep X.K M H es ps ∧ RepB b X.K M H y kd ∧ idxN ps kd = .ok d ∧ ∀ v, Rep X.K M H v d → Q v H
theorem ix_dix (hu : X.A.units + 65 < cLine) : IxR X (rDix X) := by
  intro value slice pins s σ H x y v u Q I rx ry h hsub
  obtain ⟨M, b, p, es, ps, kd, d, rfl, hH, hr, hy, e, q⟩ := h
  cases rx
  have e' : ∃ k, nkT kd = some k ∧ getN ps k = some d := by
    unfold idxN at e
    cases hk : nkT kd with
    | none => rw [hk] at e; cases e
    | some k =>
      rw [hk] at e
      have e : must (getN ps k) = .ok d := e
      exact ⟨k, rfl, must_ok e⟩
  obtain ⟨k, hk, hg⟩ := e'
  obtain ⟨⟨xs, rl, o, eb, ep, g1, g2, g3, g4, g5⟩, _, _⟩ := I.hok p _ hH
  have dh : s.heap.DictOfH (nestedKind X.prog X.w) p xs := ⟨o, eb, ep, g1, g2, g3, g4, hr.is I rl, g5⟩
  obtain ⟨w, pp, hat, rw', rep⟩ := hr.get rl hg
  unfold nkT at hk
  split at hk
  · rw [Option.bind_eq_some_iff] at hk
    obtain ⟨c, hc, e3⟩ := hk
    split at e3
    · rename_i hd
      cases e3
      obtain ⟨kb, vs, rfl, hq, hz, hl⟩ := hy.tupleP
      cases ry
      have hkey : (nestedKind X.prog X.w).is s.heap k kb := ⟨nest_is I (Rep.tup hq hz hl) rfl hc, hd⟩
      exact tail_any dh.typeIs PySem.F.slot_dict_getitem.lookup (wpAny_getItem_heap (by show X.A.in1.units + 8 < cLine; have : X.A.in1.units ≤ X.A.units + 1 := Nat.le_refl _; omega) hkey dh hat ⟨w, H, I.tok _, rw', q w rep⟩) hsub
    · cases e3
  · cases hk
end
end Fp
set_option maxHeartbeats 1000000
namespace Fp
open PySem PySem.Spec PyProof.Rows L2
variable [TB]
theorem ty_ne {a b : String} (h : a ≠ b) : Value.type a ≠ Value.type b := fun z => by injection z with z; exact h z
/-! ### a list or a tuple that is walked -/
def IterK (kd : Bool) (h : Heap) (it l : Addr) (i : Nat) : Prop := match kd with
  | true => h.IsListIter it l i
  | false => h.IsTupleIter it l i
def SeqK (kd : Bool) (h : Heap) (l : Addr) (items : Array Value) : Prop := match kd with
  | true => h.IsList l items
  | false => h.IsTuple l items
def SqK (kd : Bool) (K : PySem.W.Frag) (H : Hp) (a : Addr) (xs : List V) : Prop := match kd with
  | true => SqL K H a xs
  | false => SqT K H a xs
def iterO (kd : Bool) (l : Addr) : Obj := match kd with
  | true => { cls := .type "list_iterator", data := .fields #[.ref l, .int 0 0] }
  | false => { cls := .type "tuple_iterator", data := .fields #[.ref l, .int 0 0] }
theorem IterK.at {kd : Bool} {h h' : Heap} {it l : Addr} {i : Nat} (x : IterK kd h it l i) (e : ∀ o, h.get? it = some o → h'.get? it = some o) : IterK kd h' it l i := by
  cases kd with
  | true => exact Heap.IsListIter.at x e
  | false => exact Heap.IsTupleIter.at x e
theorem IterK.live {kd : Bool} {h : Heap} {it l : Addr} {i : Nat} (x : IterK kd h it l i) : ∃ o, h.get? it = some o ∧ ∀ v, o.data ≠ .cell v := by
  cases kd with
  | true =>
    obtain ⟨o, ho, _, hd⟩ := x
    exact ⟨o, ho, fun v q => by rw [hd] at q; cases q⟩
  | false =>
    obtain ⟨o, ho, _, hd⟩ := x
    exact ⟨o, ho, fun v q => by rw [hd] at q; cases q⟩
theorem IterK.ofO {kd : Bool} {h : Heap} {it l : Addr} (e : h.get? it = some (iterO kd l)) : IterK kd h it l 0 := by
  cases kd with
  | true => exact ⟨_, e, rfl, rfl⟩
  | false => exact ⟨_, e, rfl, rfl⟩
theorem drawsK {kd : Bool} {prog : Program} {w : World} {A : Around} (hh : A.handled = none) (it l : Addr) (hne : l ≠ it) (items : Array Value) :
    Draws prog w A it [it, l] items.size (fun i v => items[i]? = some v) (fun i h => IterK kd h it l i ∧ SeqK kd h l items) := by
  cases kd with
  | true => exact Draws.list hh it l hne items
  | false => exact Draws.tuple hh it l hne items
theorem beginsK (kd : Bool) (l : Addr) (items : Array Value) : Begins (.ref l) (iterO kd l) fun h => SeqK kd h l items := by
  cases kd with
  | true => exact begins_list l items
  | false => exact begins_tuple l items
theorem SeqK.lt {kd : Bool} {h : Heap} {l : Addr} {items : Array Value} (x : SeqK kd h l items) : l < h.objs.size := by
  cases kd with
  | true => obtain ⟨o, ho, _⟩ := x; exact Heap.lt_size ho
  | false => obtain ⟨o, ho, _⟩ := x; exact Heap.lt_size ho
section
variable {X : Cx} {pins : List (Addr × Obj)} {σ : L2.St} {H : Hp} {s : Shared} {a : Addr} {xs ys : List V} {kd : Bool}
theorem seqK_of (I : Inv X pins σ H s) (h : SqK kd X.K H a xs) : ∃ its : List Value, Vals xs its ∧ SeqK kd s.heap a its.toArray ∧ xs.length ≤ sizeLine := by
  cases kd with
  | true =>
    obtain ⟨its, r, p, z⟩ := I.list h
    exact ⟨its, r, p.isList, z⟩
  | false =>
    obtain ⟨its, r, p, z⟩ := I.tuple h
    exact ⟨its, r, p, z⟩
theorem sqK_inj (I : Inv X pins σ H s) (h : SqK kd X.K H a xs) (h' : SqK kd X.K H a ys) : xs = ys := by
  cases kd with
  | true => exact I.list_inj h h'
  | false => exact I.tuple_inj h h'
theorem seqK_tracked (I : Inv X pins σ H s) (h : SqK kd X.K H a xs) {b : Addr} (hb : FpOk X pins H b) (hy : X.s_0.heap.objs.size ≤ b ∨ b ∈ X.ex) (hk : ∀ o, s.heap.get? b = some o → o.cls ≠ .type "list" ∧ o.cls ≠ .type "tuple") : a ≠ b := by
  obtain ⟨its, r, q, z⟩ := seqK_of I h
  rintro rfl
  cases kd with
  | true => obtain ⟨o, ho, hc, _⟩ := q; exact (hk o ho).1 hc
  | false => obtain ⟨o, ho, hc, _⟩ := q; exact (hk o ho).2 hc
theorem iterK_ne (h : SeqK kd s.heap a its) {kd' : Bool} {it l : Addr} {i : Nat} (x : IterK kd' s.heap it l i) : a ≠ it := by
  rintro rfl
  have e : ∃ o, s.heap.get? a = some o ∧ (o.cls = .type "list" ∨ o.cls = .type "tuple") := by
    cases kd with
    | true => obtain ⟨o, ho, hc, _⟩ := h; exact ⟨o, ho, .inl hc⟩
    | false => obtain ⟨o, ho, hc, _⟩ := h; exact ⟨o, ho, .inr hc⟩
  obtain ⟨o, ho, hc⟩ := e
  cases kd' with
  | true =>
    obtain ⟨o', ho', hc', _⟩ := x
    rw [ho] at ho'; cases ho'
    rcases hc with hc | hc <;> (rw [hc] at hc'; exact ty_ne (by decide) hc')
  | false =>
    obtain ⟨o', ho', hc', _⟩ := x
    rw [ho] at ho'; cases ho'
    rcases hc with hc | hc <;> (rw [hc] at hc'; exact ty_ne (by decide) hc')
theorem seqK_ne (h : SeqK kd s.heap a its) {b : Addr} {o : Obj} (ho : s.heap.get? b = some o) (h1 : o.cls ≠ .type "list") (h2 : o.cls ≠ .type "tuple") : a ≠ b := by
  rintro rfl
  cases kd with
  | true => obtain ⟨o', ho', hc, _⟩ := h; rw [ho] at ho'; cases ho'; exact h1 hc
  | false => obtain ⟨o', ho', hc, _⟩ := h; rw [ho] at ho'; cases ho'; exact h2 hc
end
/-! ### enumerate -/
set_option maxHeartbeats 2000000 in
theorem meets_enum1 {v : Value} {o : Obj} {H : Heap → Prop} (B : Begins v o H) :
    Meets (Builtin.«enumerate.__new__» ⟨[.type "enumerate", v], []⟩) (fun _ R s => H s.heap ∧
      R (.ok (.ret (.ref (s.heap.push o).objs.size))) { s with heap := (s.heap.push o).push { cls := .type "enumerate", data := .fields #[.none, .bool false, .ref s.heap.objs.size, rawInt 0, .none, .none] } }) :=
  .of_wp fun prog w A R s h => by
    obtain ⟨hp, g, d, tk, os⟩ := s; obtain ⟨h1, h⟩ := h
    have hsub := sub_enumerate
    have q1 : ∀ {A' : Around} {E : Value → Shared → Prop} {Q : Value → Shared → Prop}, Q (.ref hp.objs.size) ⟨hp.push o, g, d, tk, os⟩ → wpAny (model prog w) A' (pyIter v) Q E ⟨hp, g, d, tk, os⟩ :=
      fun q => B.iter prog w _ _ ⟨hp, g, d, tk, os⟩ _ h1 q
    wp_walk using q1
    refine wpAny_stack_any fun st => wpAny_pure ?_
    split
    · rename_i c _ _ _ _ _
      cases (c == Value.type "enumerate")
      · wp_walk using q1
        exact ⟨_, rfl, h⟩
      · wp_walk using q1
        exact ⟨_, rfl, h⟩
    · wp_walk using q1
      exact ⟨_, rfl, h⟩
theorem enum_begins1 {prog : Program} {w : World} {A : Around} {E : Value → Shared → Prop} {s : Shared} {v : Value} {o : Obj} {H : Heap → Prop} {Q : Value → Shared → Prop} (B : Begins v o H) (h1 : H s.heap)
    (h : ∀ h', IsEnum h' (s.heap.objs.size + 1) s.heap.objs.size 0 .none → h'.get? s.heap.objs.size = some o → h'.objs.size = s.heap.objs.size + 2 →
      (∀ b o, s.heap.get? b = some o → h'.get? b = some o) → Q (.ref (s.heap.objs.size + 1)) { s with heap := h' }) :
    wpAny (model prog w) A (call (.type "enumerate") [v]) Q E s := by
  refine callType_new F.called_enumerate (by decide) (F.typeCall_enumerate_1 _) (F.newCall_enumerate_1 _) (fun obj => F.args_object_init_2 obj _) F.entry_enumerate_new
    (meets_enum1 B) ⟨h1, ?_⟩
  have hz : (s.heap.push o).objs.size = s.heap.objs.size + 1 := Heap.size_push ..
  show _ ∧ _
  rw [hz]
  have he : IsEnum ((s.heap.push o).push { cls := .type "enumerate", data := .fields #[.none, .bool false, .ref s.heap.objs.size, rawInt 0, .none, .none] }) (s.heap.objs.size + 1) s.heap.objs.size 0 .none := by
    have := Heap.get?_push_size (s.heap.push o) (o := { cls := .type "enumerate", data := .fields #[.none, .bool false, .ref s.heap.objs.size, rawInt 0, .none, .none] }) rfl
    rw [hz] at this; exact this
  refine ⟨⟨_, he, rfl⟩, h _ he (Heap.get?_push_of_some _ (Heap.get?_push_size _ B.free)) (by rw [Heap.size_push, hz]) fun b o x => Heap.get?_push_of_some _ (Heap.get?_push_of_some _ x)⟩
def IteK (kd : Bool) (K : PySem.W.Frag) (a : Addr) : L2.It :=
  ⟨fun i H => ∃ (xs : List V) (x : V), SqK kd K H a xs ∧ xs[i]? = some x, fun i H v H' => ∃ T x o, plO o ∧ v = .ref T ∧ H T = none ∧ H' = upd H T (.frz o (.tup [.int (i : Nat), x])) ∧ ∀ xs, SqK kd K H a xs → xs[i]? = some x, fun i H => ∃ xs : List V, SqK kd K H a xs ∧ xs.length = i⟩
theorem turn_enumK {kd : Bool} {P : Program} {w : World} {K : PySem.W.Frag} {elts : List Expr} {kk : Nat} {tpos : Pos} (a e it : Addr) :
    Turn P w K (.Tuple elts kk tpos) (IteK kd K a) [e, it] e (fun i h => (∃ old, IsEnum h e it ((i : Nat) : Int) old) ∧ IterK kd h it a i ∧ e ≠ it) where
  mem := by simp
  obj := fun i h st b hb => by
    obtain ⟨⟨old, he⟩, hi, _⟩ := st
    have e' : b = e ∨ b = it := by simpa using hb
    rcases e' with z | z
    · rw [z]; exact ⟨_, he, fun v q => nomatch q⟩
    · rw [z]; exact hi.live
  keep := fun i h h' st k => let ⟨⟨old, he⟩, hi, hne⟩ := st; ⟨⟨old, k e (by simp) _ he⟩, hi.at fun o q => k it (by simp) o q, hne⟩
  item := by
    intro X hP hw hK hc i pins s σ H E I hf st hg
    subst hP hw hK
    obtain ⟨⟨old, he⟩, hit, hne⟩ := st
    obtain ⟨xs, x, hq, hx⟩ := hg
    obtain ⟨its, rv, p, hz⟩ := seqK_of I hq
    obtain ⟨u, hu, ru⟩ := rv.get hx
    have hel : e < s.heap.objs.size := Heap.lt_size he
    have hil : it < s.heap.objs.size := by obtain ⟨_, q, _⟩ := hit.live; exact Heap.lt_size q
    have hlt : i < its.toArray.size := by
      have := (List.getElem?_eq_some_iff.mp hu).1
      simpa using this
    have nae : a ≠ e := seqK_ne p he (ty_ne (by decide)) (ty_ne (by decide))
    have nai : a ≠ it := iterK_ne p hit
    refine wpAny_pyNext_enum_itemD (drawsK (A := X.A.in1) (I.ok.hd hc) it a nai its.toArray) he ⟨hit, p⟩ hlt hne (by simp [hne, Ne.symm nae]) fun x1 h' tk hP ho hst hT hsz hk => ?_
    have ex1 : x1 = u := by
      have e1 : its.toArray[i]? = some x1 := hP
      have e2 : its.toArray[i]? = some u := by simpa using hu
      rw [e1] at e2
      exact Option.some.inj e2
    subst ex1
    refine ⟨_, rfl, wpAny_letOwnedTupleGo_enum (s := { s with heap := h', toks := tk + 1 }) ho fun h'' he' sb => ?_⟩
    have hT2 : h''.get? s.heap.objs.size = some { cls := .type "tuple", data := .seq #[.int i tk, x1] } := (sb.2 _ (Nat.ne_of_gt hel)).trans hT
    have new : ObjOk X.prog X.w (upd H s.heap.objs.size (.frz { cls := .type "tuple", data := .seq #[.int i tk, x1] } (.tup [.int (i : Nat), x]))) h'' s.heap.objs.size (.frz { cls := .type "tuple", data := .seq #[.int i tk, x1] } (.tup [.int (i : Nat), x])) :=
      ⟨hT2, by show 2 ≤ sizeLine; decide, [.int i tk, x1], .cons ⟨_, rfl⟩ (.cons ru .nil), ⟨_, hT2, rfl, _, rfl⟩⟩
    have I1 : Inv X pins σ (upd H s.heap.objs.size (.frz { cls := .type "tuple", data := .seq #[.int i tk, x1] } (.tup [.int (i : Nat), x]))) { s with heap := h'', toks := tk + 1 } :=
      I.turnedNew (ch := [e, it]) (fun b ob hb q => (sb.2 b (fun z => hb (by simp [z]))).trans (hk b ob (fun z => hb (by simp [z])) (fun z => hb (by simp [z])) q)) hf (Nat.le_refl _) new
    refine ⟨.ref s.heap.objs.size, _, I1, rfl, ⟨_, x, _, ⟨rfl, rfl, rfl⟩, rfl, I.hok.fresh (Nat.le_refl _), rfl, fun ys hy => by rw [sqK_inj I hy hq]; exact hx⟩, ⟨⟨x1, ?_⟩, hst.1.at fun o q => (sb.2 it (Ne.symm hne)).trans q, hne⟩, fun b hb => ?_⟩
    · have e1 : ((i + 1 : Nat) : Int) = (i : Int) + 1 := by omega
      rw [e1]; exact he'
    · have hb' : b < s.heap.objs.size := by
        have e' : b = e ∨ b = it := by simpa using hb
        rcases e' with z | z
        · rw [z]; exact hel
        · rw [z]; exact hil
      rw [upd_ne (Nat.ne_of_lt hb')]
      exact (hf b hb).1
  done := by
    intro X hP hw hK hc i pins s σ H E I hf st hg
    subst hP hw hK
    obtain ⟨⟨old, he⟩, hit, hne⟩ := st
    obtain ⟨xs, hq, hx⟩ := hg
    obtain ⟨its, rv, p, hz⟩ := seqK_of I hq
    obtain ⟨f0, f1, f2, f3, f4, f5⟩ := hf it (by simp)
    have nai : a ≠ it := iterK_ne p hit
    have hl : i = its.toArray.size := by rw [List.size_toArray, ← rv.length]; exact hx.symm
    refine wpAny_pyNext_enum_endD (drawsK (kd := kd) (A := X.A.in1) (I.ok.hd hc) it a nai its.toArray) he ?_ fun h' eb => ⟨rfl, I.turned (t' := s.toks) (fun b o hb q => eb b o hb q) f0 f1 f3 f4 f5⟩
    rw [← hl]
    exact ⟨hit, p⟩
  self := fun A i s Q E st h => let ⟨⟨_, he⟩, _⟩ := st; wpAny_pyIter_enum he h
def iEnumK (K : PySem.W.Frag) (ta : TA) : TI := fun σ H R => ta σ H fun vs H1 => ∃ kd a xs, vs = [.ref a] ∧ SqK kd K H1 a xs ∧ R (IteK kd K a) H1
theorem pi_enumK {X : Cx} {e : Expr} {ta : TA} {p pos tpos : Pos} {elts : List Expr} {kk : Nat} (hg : Gl X "enumerate") (hm : X.mg "enumerate" = none) (ha : PA X [e] ta) (hs : starEach [e] X.env = [(false, eval e X.env)]) :
    PI X (.Tuple elts kk tpos) (.Call (.Name "enumerate" p) [e] [] pos) (iEnumK X.K ta) := by
  refine ⟨fun pins s σ H R I h => ?_⟩
  refine Call_ (ld_blt I hg hm boot_enumerate (PyProof.Rows.callWith_type1 (thn (ha.run pos pins s σ H _ I h) fun us s1 ⟨vs, H1, I1, r1, q1⟩ => ?_) hs rfl))
  obtain ⟨kd, a, xs, ex, hq, q⟩ := q1
  subst ex
  cases r1 with
  | cons r rr =>
    cases rr
    cases r
    obtain ⟨its, rv, p', hz⟩ := seqK_of I1 hq
    refine enum_begins1 (beginsK kd a its.toArray) p' fun h' he hit hsz hk => wpAny_pyIter_enum he ?_
    have I2 : Inv X pins σ H1 { s1 with heap := h' } := I1.kept (t' := s1.toks) hk
    refine ⟨s1.heap.objs.size + 1, [s1.heap.objs.size + 1, s1.heap.objs.size], _, _, H1, rfl, I2, turn_enumK a (s1.heap.objs.size + 1) s1.heap.objs.size, ⟨⟨.none, he⟩, .ofO hit, Nat.succ_ne_self _⟩, fun b hb => ?_, q⟩
    have e' : b = s1.heap.objs.size + 1 ∨ b = s1.heap.objs.size := by simpa using hb
    have hle : s1.heap.objs.size ≤ b := by
      rcases e' with z | z
      · rw [z]; exact Nat.le_add_right _ _
      · rw [z]; exact Nat.le_refl _
    exact I1.fpOk hle (I1.hok.fresh hle)
end Fp
set_option maxHeartbeats 1000000
namespace Fp
open PySem PySem.Spec PyProof.Rows L2
variable [TB]
theorem fp_ne {X : Cx} {pins : List (Addr × Obj)} {σ : L2.St} {H : Hp} {s : Shared} {a b : Addr} {xs : List V} {kd : Bool} (I : Inv X pins σ H s) (h : SqK kd X.K H a xs) (hb : FpOk X pins H b) : a ≠ b := by
  obtain ⟨f0, f1, f2, f3, f4, f5⟩ := hb
  have inK : ∀ o, X.K.lookup a = some o → a ≠ b := fun o hk e => by
    have h1 := I.ok.mod.kin a o hk
    have h2 := (I.ok.bs a o h1).1
    rcases f3 with z | z
    · exact I.ok.noex a o h1 (e ▸ z)
    · have := Heap.lt_size h2
      rw [e] at this
      exact absurd (Nat.lt_of_lt_of_le this z) (Nat.lt_irrefl _)
  have inH : ∀ u, Rd H a u → a ≠ b := fun u hr e => by
    obtain ⟨o, ho⟩ := rd_some hr
    rw [e, f0] at ho
    cases ho
  cases kd with
  | true =>
    rcases h with h | ⟨o, _, _, hk, _⟩
    · exact inH _ h
    · exact inK o hk
  | false =>
    rcases h with h | ⟨o, _, _, hk, _⟩
    · exact inH _ h
    · exact inK o hk
/-! ### zip of two -/
def ItzK (k1 k2 : Bool) (K : PySem.W.Frag) (a b : Addr) : L2.It :=
  ⟨fun i H => ∃ (xs ys : List V) (x y : V), SqK k1 K H a xs ∧ SqK k2 K H b ys ∧ xs[i]? = some x ∧ ys[i]? = some y,
    fun i H v H' => ∃ T x y o, plO o ∧ v = .ref T ∧ H T = none ∧ H' = upd H T (.frz o (.tup [x, y])) ∧ (∀ xs, SqK k1 K H a xs → xs[i]? = some x) ∧ ∀ ys, SqK k2 K H b ys → ys[i]? = some y,
    fun i H => ∃ xs ys : List V, SqK k1 K H a xs ∧ SqK k2 K H b ys ∧ i = min xs.length ys.length⟩
structure ZD (z TI TO i1 i2 : Addr) : Prop where
  a : TI ≠ z
  b : TO ≠ z
  c : TI ≠ TO
  d : TI ≠ i1
  e : TI ≠ i2
  f : z ≠ i1
  g : z ≠ i2
  h : TO ≠ i1
  i : TO ≠ i2
  j : i1 ≠ i2
theorem zd_new (N : Nat) : ZD (N + 4) (N + 2) (N + 3) N (N + 1) := by
  constructor <;> (show (_ : Nat) ≠ _) <;> omega
theorem turn_zipK {k1 k2 : Bool} {P : Program} {w : World} {K : PySem.W.Frag} {elts : List Expr} {kk : Nat} {tpos : Pos} {a b z TI TO i1 i2 : Addr} (D : ZD z TI TO i1 i2) :
    Turn P w K (.Tuple elts kk tpos) (ItzK k1 k2 K a b) [z, TI, TO, i1, i2] z (fun i h => IsZip h z TI TO .none ∧ IsTupOf2 h TI (.ref i1) (.ref i2) ∧ (∃ x y, IsTupOf2 h TO x y) ∧ IterK k1 h i1 a i ∧ IterK k2 h i2 b i) where
  mem := by simp
  obj := fun i h st c hc => by
    obtain ⟨hz, hTI, ⟨x, y, hTO⟩, h1, h2⟩ := st
    have e' : c = z ∨ c = TI ∨ c = TO ∨ c = i1 ∨ c = i2 := by simpa using hc
    rcases e' with q | q | q | q | q
    · rw [q]; exact ⟨_, hz, fun v q => nomatch q⟩
    · rw [q]; exact ⟨_, hTI, fun v q => nomatch q⟩
    · rw [q]; exact ⟨_, hTO, fun v q => nomatch q⟩
    · rw [q]; exact h1.live
    · rw [q]; exact h2.live
  keep := fun i h h' st k => by
    obtain ⟨hz, hTI, ⟨x, y, hTO⟩, h1, h2⟩ := st
    exact ⟨k z (by simp) _ hz, k TI (by simp) _ hTI, ⟨x, y, k TO (by simp) _ hTO⟩, h1.at fun o q => k i1 (by simp) o q, h2.at fun o q => k i2 (by simp) o q⟩
  item := by
    intro X hP hw hK hc i pins s σ H E I hf st hg
    subst hP hw hK
    obtain ⟨hz, hTI, ⟨x0, y0, hTO⟩, h1, h2⟩ := st
    obtain ⟨xs, ys, x, y, hqx, hqy, hx, hy⟩ := hg
    obtain ⟨its, rv, p, _⟩ := seqK_of I hqx
    obtain ⟨its2, rv2, p2, _⟩ := seqK_of I hqy
    obtain ⟨u, hu, ru⟩ := rv.get hx
    obtain ⟨u2, hu2, ru2⟩ := rv2.get hy
    have na : ∀ c ∈ [z, TI, TO, i1, i2], a ≠ c := fun c hcm => fp_ne I hqx (hf c hcm)
    have nb : ∀ c ∈ [z, TI, TO, i1, i2], b ≠ c := fun c hcm => fp_ne I hqy (hf c hcm)
    have S : ZipSep2 z TI TO i1 i2 [i1, a] [i2, b] :=
      { TIz := D.a, TOz := D.b, TITO := D.c, TIi1 := D.d, mem1 := by simp, zf1 := by simp [D.f, Ne.symm (na z (by simp))], Tf1 := by simp [D.h, Ne.symm (na TO (by simp))],
        TIi2 := D.e, mem2 := by simp, zf2 := by simp [D.g, Ne.symm (nb z (by simp))], Tf2 := by simp [D.i, Ne.symm (nb TO (by simp))],
        sep1_2 := by simp [D.j, Ne.symm (nb i1 (by simp))], sep2_1 := by simp [Ne.symm D.j, Ne.symm (na i2 (by simp))] }
    have hzl : z < s.heap.objs.size := Heap.lt_size hz
    have hlt1 : i < its.toArray.size := by simpa using (List.getElem?_eq_some_iff.mp hu).1
    have hlt2 : i < its2.toArray.size := by simpa using (List.getElem?_eq_some_iff.mp hu2).1
    refine wpAny_pyNext_zipD2_item S (drawsK (A := X.A.in1) (I.ok.hd hc) i1 a (na i1 (by simp)) its.toArray) (drawsK (A := X.A.in1) (I.ok.hd hc) i2 b (nb i2 (by simp)) its2.toArray) hz hTI hTO ⟨h1, p⟩ ⟨h2, p2⟩ hlt1 hlt2 fun x1 x2 h' tk hP1 hP2 z' TO' h1' h2' hT hsz hk => ?_
    have ex1 : x1 = u := by
      have e1 : its.toArray[i]? = some x1 := hP1
      have e2 : its.toArray[i]? = some u := by simpa using hu
      rw [e1] at e2; exact Option.some.inj e2
    have ex2 : x2 = u2 := by
      have e1 : its2.toArray[i]? = some x2 := hP2
      have e2 : its2.toArray[i]? = some u2 := by simpa using hu2
      rw [e1] at e2; exact Option.some.inj e2
    subst ex1 ex2
    refine ⟨_, rfl, wpAny_letOwnedTupleGo_zip (s := { s with heap := h', toks := tk }) z' fun h'' z'' sb => ?_⟩
    have hT2 : h''.get? s.heap.objs.size = some { cls := .type "tuple", data := .seq #[x1, x2] } := (sb.2 _ (Nat.ne_of_gt hzl)).trans hT
    have new : ObjOk X.prog X.w (upd H s.heap.objs.size (.frz { cls := .type "tuple", data := .seq #[x1, x2] } (.tup [x, y]))) h'' s.heap.objs.size (.frz { cls := .type "tuple", data := .seq #[x1, x2] } (.tup [x, y])) :=
      ⟨hT2, by show 2 ≤ sizeLine; decide, [x1, x2], .cons ru (.cons ru2 .nil), ⟨_, hT2, rfl, _, rfl⟩⟩
    have I1 : Inv X pins σ (upd H s.heap.objs.size (.frz { cls := .type "tuple", data := .seq #[x1, x2] } (.tup [x, y]))) { s with heap := h'', toks := tk } :=
      I.turnedNew (t' := tk) (ch := [z, TI, TO, i1, i2]) (fun c o hb q => (sb.2 c (fun q' => hb (by simp [q']))).trans (hk c o (fun q' => hb (by simp [q'])) (fun q' => hb (by simp [q'])) (fun q' => hb (by simp [q'])) (fun q' => hb (by simp [q'])) q)) hf (Nat.le_refl _) new
    refine ⟨.ref s.heap.objs.size, _, I1, rfl, ⟨_, x, y, _, ⟨rfl, rfl, rfl⟩, rfl, I.hok.fresh (Nat.le_refl _), rfl, fun l hl => by rw [sqK_inj I hl hqx]; exact hx, fun l hl => by rw [sqK_inj I hl hqy]; exact hy⟩, ⟨z'', ?_, ⟨x1, x2, ?_⟩, ?_, ?_⟩, fun c hcm => ?_⟩
    · exact (sb.2 _ D.a).trans (hk _ _ D.a D.c D.d D.e hTI)
    · exact (sb.2 _ D.b).trans TO'
    · exact h1'.1.at fun o q => (sb.2 _ (Ne.symm D.f)).trans q
    · exact h2'.1.at fun o q => (sb.2 _ (Ne.symm D.g)).trans q
    · have hlt : c < s.heap.objs.size := by
        have e' : c = z ∨ c = TI ∨ c = TO ∨ c = i1 ∨ c = i2 := by simpa using hcm
        rcases e' with q | q | q | q | q
        · rw [q]; exact hzl
        · rw [q]; exact Heap.lt_size hTI
        · rw [q]; exact Heap.lt_size hTO
        · rw [q]; obtain ⟨_, e1, _⟩ := h1.live; exact Heap.lt_size e1
        · rw [q]; obtain ⟨_, e2, _⟩ := h2.live; exact Heap.lt_size e2
      rw [upd_ne (Nat.ne_of_lt hlt)]
      exact (hf c hcm).1
  done := by
    intro X hP hw hK hc i pins s σ H E I hf st hg
    subst hP hw hK
    obtain ⟨hz, hTI, ⟨x0, y0, hTO⟩, h1, h2⟩ := st
    obtain ⟨xs, ys, hqx, hqy, hend⟩ := hg
    obtain ⟨its, rv, p, _⟩ := seqK_of I hqx
    obtain ⟨its2, rv2, p2, _⟩ := seqK_of I hqy
    have l1 := rv.length
    have l2 := rv2.length
    have na : ∀ c ∈ [z, TI, TO, i1, i2], a ≠ c := fun c hcm => fp_ne I hqx (hf c hcm)
    have nb : ∀ c ∈ [z, TI, TO, i1, i2], b ≠ c := fun c hcm => fp_ne I hqy (hf c hcm)
    have S : ZipSep2 z TI TO i1 i2 [i1, a] [i2, b] :=
      { TIz := D.a, TOz := D.b, TITO := D.c, TIi1 := D.d, mem1 := by simp, zf1 := by simp [D.f, Ne.symm (na z (by simp))], Tf1 := by simp [D.h, Ne.symm (na TO (by simp))],
        TIi2 := D.e, mem2 := by simp, zf2 := by simp [D.g, Ne.symm (nb z (by simp))], Tf2 := by simp [D.i, Ne.symm (nb TO (by simp))],
        sep1_2 := by simp [D.j, Ne.symm (nb i1 (by simp))], sep2_1 := by simp [Ne.symm D.j, Ne.symm (na i2 (by simp))] }
    have s1 : its.toArray.size = xs.length := by rw [List.size_toArray, l1]
    have s2 : its2.toArray.size = ys.length := by rw [List.size_toArray, l2]
    exact wpAny_pyNext_zipD2_end S (drawsK (kd := k1) (A := X.A.in1) (I.ok.hd hc) i1 a (na i1 (by simp)) its.toArray) (drawsK (kd := k2) (A := X.A.in1) (I.ok.hd hc) i2 b (nb i2 (by simp)) its2.toArray) hz hTI hTO ⟨h1, p⟩ ⟨h2, p2⟩ (by omega) (by omega) (by omega)
      fun h' tk hk => ⟨rfl, I.turnedL (t' := tk) (ch := [z, TI, TO, i1, i2]) (fun c o hb q =>
      hk c o (fun q' => hb (by simp [q'])) (fun q' => hb (by simp [q'])) (fun q' => hb (by simp [q'])) (fun q' => hb (by simp [q'])) q) hf⟩
  self := fun A i s Q E st h => wpAny_pyIter_zip st.1 h
def iZipK (K : PySem.W.Frag) (ta : TA) : TI := fun σ H R => ta σ H fun vs H1 => ∃ k1 k2 a b xs ys, vs = [.ref a, .ref b] ∧ SqK k1 K H1 a xs ∧ SqK k2 K H1 b ys ∧ R (ItzK k1 k2 K a b) H1
theorem pi_zipK {X : Cx} {e e2 : Expr} {ta : TA} {p pos tpos : Pos} {elts : List Expr} {kk : Nat} (hg : Gl X "zip") (hm : X.mg "zip" = none) (ha : PA X [e, e2] ta)
    (hs : starEach [e, e2] X.env = (false, eval e X.env) :: starEach [e2] X.env) (hpl : (backTo pos (starEach [e2] X.env)).any (·.1) = false) :
    PI X (.Tuple elts kk tpos) (.Call (.Name "zip" p) [e, e2] [] pos) (iZipK X.K ta) := by
  refine ⟨fun pins s σ H R I h => ?_⟩
  refine Call_ (ld_blt I hg hm PyProof.Rows.boot_zip (PyProof.Rows.callWith_type1 (thn (ha.run pos pins s σ H _ I h) fun us s1 ⟨vs, H1, I1, r1, q1⟩ => ?_) hs hpl))
  obtain ⟨k1, k2, a, b, xs, ys, ex, hqx, hqy, q⟩ := q1
  subst ex
  cases r1 with
  | cons r rr =>
    cases rr with
    | cons r' rr =>
      cases rr
      cases r
      cases r'
      obtain ⟨its, rv, p1, _⟩ := seqK_of I1 hqx
      obtain ⟨its2, rv2, p2, _⟩ := seqK_of I1 hqy
      refine zip_begins2 (beginsK k1 a its.toArray) (beginsK k2 b its2.toArray) p1 p2 fun h' hz hTI hTO h1 h2 hsz hk => wpAny_pyIter_zip hz ?_
      have I2 : Inv X pins σ H1 { s1 with heap := h' } := I1.kept (t' := s1.toks) hk
      refine ⟨s1.heap.objs.size + 4, [s1.heap.objs.size + 4, s1.heap.objs.size + 2, s1.heap.objs.size + 3, s1.heap.objs.size, s1.heap.objs.size + 1], _, _, H1, rfl, I2, turn_zipK (zd_new _), ⟨hz, hTI, ⟨_, _, hTO⟩, .ofO h1, .ofO h2⟩, fun c hcm => ?_, q⟩
      have e' : c = s1.heap.objs.size + 4 ∨ c = s1.heap.objs.size + 2 ∨ c = s1.heap.objs.size + 3 ∨ c = s1.heap.objs.size ∨ c = s1.heap.objs.size + 1 := by simpa using hcm
      have hle : s1.heap.objs.size ≤ c := by
        rcases e' with z | z | z | z | z
        · rw [z]; exact Nat.le_add_right _ _
        · rw [z]; exact Nat.le_add_right _ _
        · rw [z]; exact Nat.le_add_right _ _
        · rw [z]; exact Nat.le_refl _
        · rw [z]; exact Nat.le_add_right _ _
      exact I1.fpOk hle (I1.hok.fresh hle)
/-! ### a list, a tuple, a text -/
def iSeq (K : PySem.W.Frag) (tl : TE) : TI := fun σ H R => tl σ H fun x H1 => (∃ a xs, x = .ref a ∧ SqL K H1 a xs ∧ R (Itl K a) H1) ∨ (∃ a xs, x = .ref a ∧ SqT K H1 a xs ∧ R (Itt K a) H1) ∨ ∃ z, x = .str z ∧ R (Its z) H1
theorem pi_seq {X : Cx} {tg l : Expr} {tl : TE} (hl : PE X l tl) : PI X tg l (iSeq X.K tl) := by
  refine ⟨fun pins s σ H R I h => ?_⟩
  refine thn (hl.run pins s σ H _ I h) fun v s1 ⟨x, H1, I1, r1, q1⟩ => ?_
  rcases q1 with ⟨a, xs, e, hq, q⟩ | ⟨a, xs, e, hq, q⟩ | ⟨z, e, q⟩
  · subst e
    cases r1
    obtain ⟨its, rv, p, hz⟩ := I1.list hq
    refine wpAny_pyIter_list p.isList ?_
    refine ⟨s1.heap.objs.size, [s1.heap.objs.size], _, _, H1, rfl, I1.kept (t' := s1.toks) fun b o e => Heap.get?_push_of_some _ e, turn_list a _, ⟨_, Heap.get?_push_size _ rfl, rfl, rfl⟩, fun b hb => ?_, q⟩
    have e : b = s1.heap.objs.size := by simpa using hb
    subst e
    exact I1.fpOk (Nat.le_refl _) (I1.hok.fresh (Nat.le_refl _))
  · subst e
    cases r1
    obtain ⟨its, rv, p, hz⟩ := I1.tuple hq
    refine wpAny_pyIter_tuple (show s1.heap.IsTuple a its.toArray from p) ?_
    refine ⟨s1.heap.objs.size, [s1.heap.objs.size], _, _, H1, rfl, I1.kept (t' := s1.toks) fun b o e => Heap.get?_push_of_some _ e, turn_tuple a _, ⟨_, Heap.get?_push_size _ rfl, rfl, rfl⟩, fun b hb => ?_, q⟩
    have e : b = s1.heap.objs.size := by simpa using hb
    subst e
    exact I1.fpOk (Nat.le_refl _) (I1.hok.fresh (Nat.le_refl _))
  · subst e
    obtain ⟨t, rfl⟩ := r1
    cases ha : z.cps.all (· < 128)
    · exact wpAny_pyIter_wide ha (pi_one (tk := s1.toks) I1 _ (turn_str _ z t "str_iterator" (.inr rfl)) ⟨_, Heap.get?_push_size _ rfl, rfl, rfl⟩ q)
    · exact wpAny_pyIter_ascii ha (pi_one (tk := s1.toks) I1 _ (turn_str _ z t "str_ascii_iterator" (.inl rfl)) ⟨_, Heap.get?_push_size _ rfl, rfl, rfl⟩ q)
end Fp
set_option maxHeartbeats 1000000
namespace Fp
open PySem PySem.Spec PyProof.Rows L2
variable [TB]
/-! ### zip of three -/
def ItzT (k1 k2 k3 : Bool) (K : PySem.W.Frag) (a b c : Addr) : L2.It :=
  ⟨fun i H => ∃ (xs ys zs : List V) (x y z : V), SqK k1 K H a xs ∧ SqK k2 K H b ys ∧ SqK k3 K H c zs ∧ xs[i]? = some x ∧ ys[i]? = some y ∧ zs[i]? = some z,
    fun i H v H' => ∃ T x y z o, plO o ∧ v = .ref T ∧ H T = none ∧ H' = upd H T (.frz o (.tup [x, y, z])) ∧ (∀ xs, SqK k1 K H a xs → xs[i]? = some x) ∧ (∀ ys, SqK k2 K H b ys → ys[i]? = some y) ∧ ∀ zs, SqK k3 K H c zs → zs[i]? = some z,
    fun i H => ∃ xs ys zs : List V, SqK k1 K H a xs ∧ SqK k2 K H b ys ∧ SqK k3 K H c zs ∧ i = min xs.length (min ys.length zs.length)⟩
structure ZT (z TI TO i1 i2 i3 : Addr) : Prop where
  a : TI ≠ z
  b : TO ≠ z
  c : TI ≠ TO
  d1 : TI ≠ i1
  d2 : TI ≠ i2
  d3 : TI ≠ i3
  f1 : z ≠ i1
  f2 : z ≠ i2
  f3 : z ≠ i3
  h1 : TO ≠ i1
  h2 : TO ≠ i2
  h3 : TO ≠ i3
  j12 : i1 ≠ i2
  j13 : i1 ≠ i3
  j23 : i2 ≠ i3
theorem zt_new (N : Nat) : ZT (N + 5) (N + 3) (N + 4) N (N + 1) (N + 2) := by
  constructor <;> (show (_ : Nat) ≠ _) <;> omega
theorem zt_sep {z TI TO i1 i2 i3 a b c : Addr} (D : ZT z TI TO i1 i2 i3) (na : ∀ q ∈ [z, TI, TO, i1, i2, i3], a ≠ q) (nb : ∀ q ∈ [z, TI, TO, i1, i2, i3], b ≠ q) (nc : ∀ q ∈ [z, TI, TO, i1, i2, i3], c ≠ q) : ZipSep3 z TI TO i1 i2 i3 [i1, a] [i2, b] [i3, c] :=
  { TIz := D.a, TOz := D.b, TITO := D.c,
    TIi1 := D.d1, mem1 := by simp, zf1 := by simp [D.f1, Ne.symm (na z (by simp))], Tf1 := by simp [D.h1, Ne.symm (na TO (by simp))],
    TIi2 := D.d2, mem2 := by simp, zf2 := by simp [D.f2, Ne.symm (nb z (by simp))], Tf2 := by simp [D.h2, Ne.symm (nb TO (by simp))],
    TIi3 := D.d3, mem3 := by simp, zf3 := by simp [D.f3, Ne.symm (nc z (by simp))], Tf3 := by simp [D.h3, Ne.symm (nc TO (by simp))],
    sep1_2 := by simp [D.j12, Ne.symm (nb i1 (by simp))], sep1_3 := by simp [D.j13, Ne.symm (nc i1 (by simp))], sep2_1 := by simp [Ne.symm D.j12, Ne.symm (na i2 (by simp))],
    sep2_3 := by simp [D.j23, Ne.symm (nc i2 (by simp))], sep3_1 := by simp [Ne.symm D.j13, Ne.symm (na i3 (by simp))], sep3_2 := by simp [Ne.symm D.j23, Ne.symm (nb i3 (by simp))] }
theorem turn_zipT3 {k1 k2 k3 : Bool} {P : Program} {w : World} {K : PySem.W.Frag} {elts : List Expr} {kk : Nat} {tpos : Pos} {a b c z TI TO i1 i2 i3 : Addr} (D : ZT z TI TO i1 i2 i3) :
    Turn P w K (.Tuple elts kk tpos) (ItzT k1 k2 k3 K a b c) [z, TI, TO, i1, i2, i3] z (fun i h => IsZip h z TI TO .none ∧ IsTupOf3 h TI (.ref i1) (.ref i2) (.ref i3) ∧ (∃ x y w, IsTupOf3 h TO x y w) ∧ IterK k1 h i1 a i ∧ IterK k2 h i2 b i ∧ IterK k3 h i3 c i) where
  mem := by simp
  obj := fun i h st q hq => by
    obtain ⟨hz, hTI, ⟨x, y, w', hTO⟩, h1, h2, h3⟩ := st
    have e' : q = z ∨ q = TI ∨ q = TO ∨ q = i1 ∨ q = i2 ∨ q = i3 := by simpa using hq
    rcases e' with q | q | q | q | q | q
    · rw [q]; exact ⟨_, hz, fun v q => nomatch q⟩
    · rw [q]; exact ⟨_, hTI, fun v q => nomatch q⟩
    · rw [q]; exact ⟨_, hTO, fun v q => nomatch q⟩
    · rw [q]; exact h1.live
    · rw [q]; exact h2.live
    · rw [q]; exact h3.live
  keep := fun i h h' st k => by
    obtain ⟨hz, hTI, ⟨x, y, w', hTO⟩, h1, h2, h3⟩ := st
    exact ⟨k z (by simp) _ hz, k TI (by simp) _ hTI, ⟨x, y, w', k TO (by simp) _ hTO⟩, h1.at fun o q => k i1 (by simp) o q, h2.at fun o q => k i2 (by simp) o q, h3.at fun o q => k i3 (by simp) o q⟩
  item := by
    intro X hP hw hK hc i pins s σ H E I hf st hg
    subst hP hw hK
    obtain ⟨hz, hTI, ⟨x0, y0, w0, hTO⟩, h1, h2, h3⟩ := st
    obtain ⟨xs, ys, zs, x, y, w, hqx, hqy, hqz, hx, hy, hw⟩ := hg
    obtain ⟨its, rv, p, _⟩ := seqK_of I hqx
    obtain ⟨its2, rv2, p2, _⟩ := seqK_of I hqy
    obtain ⟨its3, rv3, p3, _⟩ := seqK_of I hqz
    obtain ⟨u, hu, ru⟩ := rv.get hx
    obtain ⟨u2, hu2, ru2⟩ := rv2.get hy
    obtain ⟨u3, hu3, ru3⟩ := rv3.get hw
    have na : ∀ q ∈ [z, TI, TO, i1, i2, i3], a ≠ q := fun q hq => fp_ne I hqx (hf q hq)
    have nb : ∀ q ∈ [z, TI, TO, i1, i2, i3], b ≠ q := fun q hq => fp_ne I hqy (hf q hq)
    have nc : ∀ q ∈ [z, TI, TO, i1, i2, i3], c ≠ q := fun q hq => fp_ne I hqz (hf q hq)
    have hzl : z < s.heap.objs.size := Heap.lt_size hz
    have hlt1 : i < its.toArray.size := by simpa using (List.getElem?_eq_some_iff.mp hu).1
    have hlt2 : i < its2.toArray.size := by simpa using (List.getElem?_eq_some_iff.mp hu2).1
    have hlt3 : i < its3.toArray.size := by simpa using (List.getElem?_eq_some_iff.mp hu3).1
    refine wpAny_pyNext_zipD3_item (zt_sep D na nb nc) (drawsK (A := X.A.in1) (I.ok.hd hc) i1 a (na i1 (by simp)) its.toArray) (drawsK (A := X.A.in1) (I.ok.hd hc) i2 b (nb i2 (by simp)) its2.toArray) (drawsK (A := X.A.in1) (I.ok.hd hc) i3 c (nc i3 (by simp)) its3.toArray) hz hTI hTO ⟨h1, p⟩ ⟨h2, p2⟩ ⟨h3, p3⟩ hlt1 hlt2 hlt3 fun x1 x2 x3 h' tk hP1 hP2 hP3 z' TO' h1' h2' h3' hT hsz hk => ?_
    have ex1 : x1 = u := by
      have e1 : its.toArray[i]? = some x1 := hP1
      have e2 : its.toArray[i]? = some u := by simpa using hu
      rw [e1] at e2; exact Option.some.inj e2
    have ex2 : x2 = u2 := by
      have e1 : its2.toArray[i]? = some x2 := hP2
      have e2 : its2.toArray[i]? = some u2 := by simpa using hu2
      rw [e1] at e2; exact Option.some.inj e2
    have ex3 : x3 = u3 := by
      have e1 : its3.toArray[i]? = some x3 := hP3
      have e2 : its3.toArray[i]? = some u3 := by simpa using hu3
      rw [e1] at e2; exact Option.some.inj e2
    subst ex1 ex2 ex3
    refine ⟨_, rfl, wpAny_letOwnedTupleGo_zip (s := { s with heap := h', toks := tk }) z' fun h'' z'' sb => ?_⟩
    have hT2 : h''.get? s.heap.objs.size = some { cls := .type "tuple", data := .seq #[x1, x2, x3] } := (sb.2 _ (Nat.ne_of_gt hzl)).trans hT
    have new : ObjOk X.prog X.w (upd H s.heap.objs.size (.frz { cls := .type "tuple", data := .seq #[x1, x2, x3] } (.tup [x, y, w]))) h'' s.heap.objs.size (.frz { cls := .type "tuple", data := .seq #[x1, x2, x3] } (.tup [x, y, w])) :=
      ⟨hT2, by show 3 ≤ sizeLine; decide, [x1, x2, x3], .cons ru (.cons ru2 (.cons ru3 .nil)), ⟨_, hT2, rfl, _, rfl⟩⟩
    have I1 : Inv X pins σ (upd H s.heap.objs.size (.frz { cls := .type "tuple", data := .seq #[x1, x2, x3] } (.tup [x, y, w]))) { s with heap := h'', toks := tk } :=
      I.turnedNew (t' := tk) (ch := [z, TI, TO, i1, i2, i3]) (fun c o hb q => (sb.2 c (fun q' => hb (by simp [q']))).trans (hk c o (fun q' => hb (by simp [q'])) (fun q' => hb (by simp [q'])) (fun q' => hb (by simp [q'])) (fun q' => hb (by simp [q'])) (fun q' => hb (by simp [q'])) q)) hf (Nat.le_refl _) new
    refine ⟨.ref s.heap.objs.size, _, I1, rfl, ⟨_, x, y, w, _, ⟨rfl, rfl, rfl⟩, rfl, I.hok.fresh (Nat.le_refl _), rfl, fun l hl => by rw [sqK_inj I hl hqx]; exact hx, fun l hl => by rw [sqK_inj I hl hqy]; exact hy, fun l hl => by rw [sqK_inj I hl hqz]; exact hw⟩, ⟨z'', ?_, ⟨x1, x2, x3, ?_⟩, ?_, ?_, ?_⟩, fun c hcm => ?_⟩
    · exact (sb.2 _ D.a).trans (hk _ _ D.a D.c D.d1 D.d2 D.d3 hTI)
    · exact (sb.2 _ D.b).trans TO'
    · exact h1'.1.at fun o q => (sb.2 _ (Ne.symm D.f1)).trans q
    · exact h2'.1.at fun o q => (sb.2 _ (Ne.symm D.f2)).trans q
    · exact h3'.1.at fun o q => (sb.2 _ (Ne.symm D.f3)).trans q
    · have hlt : c < s.heap.objs.size := by
        have e' : c = z ∨ c = TI ∨ c = TO ∨ c = i1 ∨ c = i2 ∨ c = i3 := by simpa using hcm
        rcases e' with q | q | q | q | q | q
        · rw [q]; exact hzl
        · rw [q]; exact Heap.lt_size hTI
        · rw [q]; exact Heap.lt_size hTO
        · rw [q]; obtain ⟨_, e1, _⟩ := h1.live; exact Heap.lt_size e1
        · rw [q]; obtain ⟨_, e2, _⟩ := h2.live; exact Heap.lt_size e2
        · rw [q]; obtain ⟨_, e3, _⟩ := h3.live; exact Heap.lt_size e3
      rw [upd_ne (Nat.ne_of_lt hlt)]
      exact (hf c hcm).1
  done := by
    intro X hP hw hK hc i pins s σ H E I hf st hg
    subst hP hw hK
    obtain ⟨hz, hTI, ⟨x0, y0, w0, hTO⟩, h1, h2, h3⟩ := st
    obtain ⟨xs, ys, zs, hqx, hqy, hqz, hend⟩ := hg
    obtain ⟨its, rv, p, _⟩ := seqK_of I hqx
    obtain ⟨its2, rv2, p2, _⟩ := seqK_of I hqy
    obtain ⟨its3, rv3, p3, _⟩ := seqK_of I hqz
    have l1 := rv.length
    have l2 := rv2.length
    have l3 := rv3.length
    have na : ∀ q ∈ [z, TI, TO, i1, i2, i3], a ≠ q := fun q hq => fp_ne I hqx (hf q hq)
    have nb : ∀ q ∈ [z, TI, TO, i1, i2, i3], b ≠ q := fun q hq => fp_ne I hqy (hf q hq)
    have nc : ∀ q ∈ [z, TI, TO, i1, i2, i3], c ≠ q := fun q hq => fp_ne I hqz (hf q hq)
    have s1 : its.toArray.size = xs.length := by rw [List.size_toArray, l1]
    have s2 : its2.toArray.size = ys.length := by rw [List.size_toArray, l2]
    have s3 : its3.toArray.size = zs.length := by rw [List.size_toArray, l3]
    exact wpAny_pyNext_zipD3_end (zt_sep D na nb nc) (drawsK (kd := k1) (A := X.A.in1) (I.ok.hd hc) i1 a (na i1 (by simp)) its.toArray) (drawsK (kd := k2) (A := X.A.in1) (I.ok.hd hc) i2 b (nb i2 (by simp)) its2.toArray) (drawsK (kd := k3) (A := X.A.in1) (I.ok.hd hc) i3 c (nc i3 (by simp)) its3.toArray) hz hTI hTO ⟨h1, p⟩ ⟨h2, p2⟩ ⟨h3, p3⟩ (by omega) (by omega) (by omega) (by omega)
      fun h' tk hk => ⟨rfl, I.turnedL (t' := tk) (ch := [z, TI, TO, i1, i2, i3]) (fun c o hb q =>
      hk c o (fun q' => hb (by simp [q'])) (fun q' => hb (by simp [q'])) (fun q' => hb (by simp [q'])) (fun q' => hb (by simp [q'])) (fun q' => hb (by simp [q'])) q) hf⟩
  self := fun A i s Q E st h => wpAny_pyIter_zip st.1 h
def iZipT (K : PySem.W.Frag) (ta : TA) : TI := fun σ H R => ta σ H fun vs H1 => ∃ k1 k2 k3 a b c xs ys zs, vs = [.ref a, .ref b, .ref c] ∧ SqK k1 K H1 a xs ∧ SqK k2 K H1 b ys ∧ SqK k3 K H1 c zs ∧ R (ItzT k1 k2 k3 K a b c) H1
theorem pi_zipT3 {X : Cx} {e e2 e3 : Expr} {ta : TA} {p pos tpos : Pos} {elts : List Expr} {kk : Nat} (hg : Gl X "zip") (hm : X.mg "zip" = none) (ha : PA X [e, e2, e3] ta)
    (hs : starEach [e, e2, e3] X.env = (false, eval e X.env) :: starEach [e2, e3] X.env) (hpl : (backTo pos (starEach [e2, e3] X.env)).any (·.1) = false) :
    PI X (.Tuple elts kk tpos) (.Call (.Name "zip" p) [e, e2, e3] [] pos) (iZipT X.K ta) := by
  refine ⟨fun pins s σ H R I h => ?_⟩
  refine Call_ (ld_blt I hg hm PyProof.Rows.boot_zip (PyProof.Rows.callWith_type1 (thn (ha.run pos pins s σ H _ I h) fun us s1 ⟨vs, H1, I1, r1, q1⟩ => ?_) hs hpl))
  obtain ⟨k1, k2, k3, a, b, c, xs, ys, zs, ex, hqx, hqy, hqz, q⟩ := q1
  subst ex
  cases r1 with
  | cons r rr =>
    cases rr with
    | cons r' rr =>
      cases rr with
      | cons r'' rr =>
        cases rr
        cases r
        cases r'
        cases r''
        obtain ⟨its, rv, p1, _⟩ := seqK_of I1 hqx
        obtain ⟨its2, rv2, p2, _⟩ := seqK_of I1 hqy
        obtain ⟨its3, rv3, p3, _⟩ := seqK_of I1 hqz
        refine zip_begins3 (beginsK k1 a its.toArray) (beginsK k2 b its2.toArray) (beginsK k3 c its3.toArray) p1 p2 p3 fun h' hz hTI hTO h1 h2 h3 hsz hk => wpAny_pyIter_zip hz ?_
        have I2 : Inv X pins σ H1 { s1 with heap := h' } := I1.kept (t' := s1.toks) hk
        refine ⟨s1.heap.objs.size + 5, [s1.heap.objs.size + 5, s1.heap.objs.size + 3, s1.heap.objs.size + 4, s1.heap.objs.size, s1.heap.objs.size + 1, s1.heap.objs.size + 2], _, _, H1, rfl, I2, turn_zipT3 (zt_new _), ⟨hz, hTI, ⟨_, _, _, hTO⟩, .ofO h1, .ofO h2, .ofO h3⟩, fun c hcm => ?_, q⟩
        have e' : c = s1.heap.objs.size + 5 ∨ c = s1.heap.objs.size + 3 ∨ c = s1.heap.objs.size + 4 ∨ c = s1.heap.objs.size ∨ c = s1.heap.objs.size + 1 ∨ c = s1.heap.objs.size + 2 := by simpa using hcm
        have hle : s1.heap.objs.size ≤ c := by
          rcases e' with z | z | z | z | z | z
          · rw [z]; exact Nat.le_add_right _ _
          · rw [z]; exact Nat.le_add_right _ _
          · rw [z]; exact Nat.le_add_right _ _
          · rw [z]; exact Nat.le_refl _
          · rw [z]; exact Nat.le_add_right _ _
          · rw [z]; exact Nat.le_add_right _ _
        exact I1.fpOk hle (I1.hok.fresh hle)
end Fp
set_option maxHeartbeats 1000000
namespace Fp
open PySem PySem.Spec PyProof.Rows L2
variable [TB]
/-! ### a zip whose tuple is still out -/
section
variable {prog : Program} {w : World} {A : Around} {E : Value → Shared → Prop} {s : Shared} {z TI TO T i1 i2 : Addr} {fp1 fp2 : List Addr} {n1 n2 i : Nat} {P1 P2 : Nat → Value → Prop} {St1 St2 : Nat → Heap → Prop} {f : Bool} {oT : Obj}
theorem zipH_next {Q : Value → Shared → Prop} (S : ZipSep2 z TI TO i1 i2 fp1 fp2) (D1 : Draws prog w A i1 fp1 n1 P1 St1) (D2 : Draws prog w A i2 fp2 n2 P2 St2) (hz : IsZipHeld s.heap z TI TO T f) (hT : s.heap.get? T = some oT) (hTI : IsTupOf2 s.heap TI (.ref i1) (.ref i2))
    (st1 : St1 i s.heap) (st2 : St2 i s.heap) (l1 : i < n1) (l2 : i < n2)
    (hQ : ∀ x1 x2 h' tk, P1 i x1 → P2 i x2 → IsZipHeld h' z TI TO T true → St1 (i + 1) h' → St2 (i + 1) h' → IsTupOf2 h' s.heap.objs.size x1 x2 → (∀ c o, c ≠ z → c ≠ i1 → c ≠ i2 → s.heap.get? c = some o → h'.get? c = some o) → Q (.ref s.heap.objs.size) { s with heap := h', toks := tk }) :
    wpAny (model prog w) A (Builtin.«zip.__next__» ⟨[.ref z], []⟩) (fun fin s' => ∃ v, fin = .done (.ret v) ∧ Q v s') E s := by
  obtain ⟨hp, g, d, tk0, os⟩ := s
  show wpAny _ _ (field (.ref z) 2 >>= _) _ _ _
  refine wpAny_bind (wpAny_field hz rfl (x := .bool false) rfl ?_)
  show wpAny _ _ (field (.ref z) 3 >>= _) _ _ _
  refine wpAny_bind (wpAny_field hz rfl (x := .ref TI) rfl ?_)
  refine wpAny_bind (wpAny_seqItems hTI rfl ?_)
  show wpAny _ _ (Builtin.SmallTypes.ownedTupleIsFree (.ref z) >>= _) _ _ _
  refine wpAny_bind (wpAny_tupleHeld_zip hz hT fun g1 z1 s1 => ?_)
  replace s1 : Heap.SameBut z hp g1 := s1
  simp only [Bool.false_eq_true, if_false]
  refine wpAny_bind ?_
  rw [← Array.forIn_toList]
  simp only [List.forIn_cons, List.forIn_nil]
  refine wpAny_bind (wpAny_bind (wpAny_holding ?_))
  show wpAny _ _ (Builtin.SmallTypes.nextOf (.ref i1) >>= _) _ _ ⟨g1, g, d, tk0, os⟩
  refine wpAny_bind (D1.item i _ _ _ l1 (D1.over st1 s1 S.zf1) fun x1 g2 tk1 e1 m1 s2 => wpAny_pure (wpAny_pure ?_))
  replace s2 : Heap.SameBut i1 g1 g2 := s2
  refine wpAny_bind (wpAny_bind (wpAny_holding ?_))
  show wpAny _ _ (Builtin.SmallTypes.nextOf (.ref i2) >>= _) _ _ ⟨g2, g, d, tk1, os⟩
  refine wpAny_bind (D2.item i _ _ _ l2 (D2.over (D2.over st2 s1 S.zf2) s2 S.sep1_2) fun x2 g3 tk2 e2 m2 s3 => wpAny_pure (wpAny_pure (wpAny_pure ?_)))
  replace s3 : Heap.SameBut i2 g2 g3 := s3
  show wpAny _ _ (newTuple [x1, x2] >>= _) _ _ ⟨g3, g, d, tk2, os⟩
  refine wpAny_bind (wpAny_newTuple ?_)
  have hsz : g3.objs.size = hp.objs.size := by rw [s3.1, s2.1, s1.1]
  have z3 : IsZipHeld g3 z TI TO T true := s3.extBut _ _ S.zi2 (s2.extBut _ _ S.zi1 z1)
  have kk : ∀ c o, c ≠ z → c ≠ i1 → c ≠ i2 → hp.get? c = some o → g3.get? c = some o := fun c o c1 c2 c3 e => s3.extBut _ _ c3 (s2.extBut _ _ c2 (s1.extBut _ _ c1 e))
  have up : ∀ c o, g3.get? c = some o → (g3.push { cls := .type "tuple", data := .seq #[x1, x2] }).get? c = some o := fun c o e => Heap.get?_push_of_some _ e
  have tn : IsTupOf2 (g3.push { cls := .type "tuple", data := .seq #[x1, x2] }) g3.objs.size x1 x2 := Heap.get?_push_size _ rfl
  refine wpAny_pure ⟨_, rfl, ?_⟩
  show Q (.ref g3.objs.size) ⟨_, g, d, tk2, os⟩
  rw [hsz] at tn ⊢
  exact hQ x1 x2 _ tk2 e1 e2 (up _ _ z3) (D1.frame _ _ _ (D1.over m1 s3 S.sep2_1) fun b _ o e => up b o e) (D2.frame _ _ _ m2 fun b _ o e => up b o e) tn fun c o c1 c2 c3 e => up c o (kk c o c1 c2 c3 e)
theorem zipH_end {Q : Fin → Shared → Prop} (S : ZipSep2 z TI TO i1 i2 fp1 fp2) (D1 : Draws prog w A i1 fp1 n1 P1 St1) (D2 : Draws prog w A i2 fp2 n2 P2 St2) (hz : IsZipHeld s.heap z TI TO T f) (hT : s.heap.get? T = some oT) (hTI : IsTupOf2 s.heap TI (.ref i1) (.ref i2))
    (st1 : St1 i s.heap) (st2 : St2 i s.heap) (l1 : i ≤ n1) (l2 : i ≤ n2) (hend : i = n1 ∨ i = n2)
    (hE : ∀ h' tk e, (∀ c o, c ≠ z → c ≠ i1 → c ≠ i2 → s.heap.get? c = some o → h'.get? c = some o) → (∃ o, h'.get? e = some o ∧ o.cls = .type "StopIteration") → E (.ref e) { s with heap := h', toks := tk }) :
    wpAny (model prog w) A (Builtin.«zip.__next__» ⟨[.ref z], []⟩) Q E s := by
  obtain ⟨hp, g, d, tk0, os⟩ := s
  show wpAny _ _ (field (.ref z) 2 >>= _) _ _ _
  refine wpAny_bind (wpAny_field hz rfl (x := .bool false) rfl ?_)
  show wpAny _ _ (field (.ref z) 3 >>= _) _ _ _
  refine wpAny_bind (wpAny_field hz rfl (x := .ref TI) rfl ?_)
  refine wpAny_bind (wpAny_seqItems hTI rfl ?_)
  show wpAny _ _ (Builtin.SmallTypes.ownedTupleIsFree (.ref z) >>= _) _ _ _
  refine wpAny_bind (wpAny_tupleHeld_zip hz hT fun g1 z1 s1 => ?_)
  replace s1 : Heap.SameBut z hp g1 := s1
  simp only [Bool.false_eq_true, if_false]
  refine wpAny_bind ?_
  rw [← Array.forIn_toList]
  simp only [List.forIn_cons, List.forIn_nil]
  refine wpAny_bind (wpAny_bind (wpAny_holding ?_))
  show wpAny _ _ (Builtin.SmallTypes.nextOf (.ref i1) >>= _) _ _ ⟨g1, g, d, tk0, os⟩
  by_cases hlt : i < n1
  · refine wpAny_bind (D1.item i _ _ _ hlt (D1.over st1 s1 S.zf1) fun x1 g2 tk1 e1 m1 s2 => wpAny_pure (wpAny_pure ?_))
    replace s2 : Heap.SameBut i1 g1 g2 := s2
    have e2 : i = n2 := by omega
    refine wpAny_bind (wpAny_bind (wpAny_holding ?_))
    show wpAny _ _ (Builtin.SmallTypes.nextOf (.ref i2) >>= _) _ _ ⟨g2, g, d, tk1, os⟩
    refine wpAny_bind (D2.done ⟨g2, g, d, tk1, os⟩ _ _ (by rw [← e2]; exact D2.over (D2.over st2 s1 S.zf2) s2 S.sep1_2) fun q e hq he => ?_)
    exact hE q tk1 e (fun c o c1 c2 c3 x => hq _ _ c3 (s2.extBut _ _ c2 (s1.extBut _ _ c1 x))) he
  · have e1 : i = n1 := by omega
    refine wpAny_bind (D1.done ⟨g1, g, d, tk0, os⟩ _ _ (by rw [← e1]; exact D1.over st1 s1 S.zf1) fun q e hq he => ?_)
    exact hE q tk0 e (fun c o c1 c2 c3 x => hq _ _ c2 (s1.extBut _ _ c1 x)) he
theorem zipH_item {Q : Option Value → Shared → Prop} (S : ZipSep2 z TI TO i1 i2 fp1 fp2) (D1 : Draws prog w A.in1 i1 fp1 n1 P1 St1) (D2 : Draws prog w A.in1 i2 fp2 n2 P2 St2) (hz : IsZipHeld s.heap z TI TO T f) (hT : s.heap.get? T = some oT) (hTI : IsTupOf2 s.heap TI (.ref i1) (.ref i2))
    (st1 : St1 i s.heap) (st2 : St2 i s.heap) (l1 : i < n1) (l2 : i < n2)
    (hQ : ∀ x1 x2 h' tk, P1 i x1 → P2 i x2 → IsZipHeld h' z TI TO T true → St1 (i + 1) h' → St2 (i + 1) h' → IsTupOf2 h' s.heap.objs.size x1 x2 → (∀ c o, c ≠ z → c ≠ i1 → c ≠ i2 → s.heap.get? c = some o → h'.get? c = some o) → Q (some (.ref s.heap.objs.size)) { s with heap := h', toks := tk }) :
    wpAny (model prog w) A (pyNext (.ref z)) Q E s := by
  have ty : s.TypeIs (.ref z) "zip" := ⟨_, hz, rfl⟩
  unfold pyNext
  exact wpAny_bind (wpAny_attempt (wpAny_callSpecial?_slot (name := Str.ofString "__next__") ty F.slot_zip_next (wpAny_call_entry F.slot_zip_next ty F.entry_zip_next
    (zipH_next S D1 D2 hz hT hTI st1 st2 l1 l2 fun x1 x2 h' tk y1 y2 b1 b2 b3 b4 b5 => wpAny_pure (hQ x1 x2 h' tk y1 y2 b1 b2 b3 b4 b5)) (F.args_zip_next_1 _))))
theorem zipH_done {Q : Option Value → Shared → Prop} (S : ZipSep2 z TI TO i1 i2 fp1 fp2) (D1 : Draws prog w A.in1 i1 fp1 n1 P1 St1) (D2 : Draws prog w A.in1 i2 fp2 n2 P2 St2) (hz : IsZipHeld s.heap z TI TO T f) (hT : s.heap.get? T = some oT) (hTI : IsTupOf2 s.heap TI (.ref i1) (.ref i2))
    (st1 : St1 i s.heap) (st2 : St2 i s.heap) (l1 : i ≤ n1) (l2 : i ≤ n2) (hend : i = n1 ∨ i = n2) (hQ : ∀ h' tk, (∀ c o, c ≠ z → c ≠ i1 → c ≠ i2 → s.heap.get? c = some o → h'.get? c = some o) → Q none { s with heap := h', toks := tk }) : wpAny (model prog w) A (pyNext (.ref z)) Q E s := by
  have ty : s.TypeIs (.ref z) "zip" := ⟨_, hz, rfl⟩
  unfold pyNext
  refine wpAny_bind (wpAny_attempt (wpAny_callSpecial?_slot (name := Str.ofString "__next__") ty F.slot_zip_next (wpAny_call_entry F.slot_zip_next ty F.entry_zip_next (zipH_end S D1 D2 hz hT hTI st1 st2 l1 l2 hend fun h' tk e hk he => ?_) (F.args_zip_next_1 _))))
  obtain ⟨o, ho, hc⟩ := he
  exact wpAny_bind (wpAny_isInstance (T := "StopIteration") (b := true) ⟨o, ho, hc⟩ isSubtype_stop (wpAny_pure (hQ _ _ hk)))
end
theorem SeqK.at {kd : Bool} {h h' : Heap} {l : Addr} {items : Array Value} (x : SeqK kd h l items) (e : ∀ o, h.get? l = some o → h'.get? l = some o) : SeqK kd h' l items := by
  cases kd with
  | true => exact Heap.IsList.at x e
  | false => exact Heap.IsTuple.at x e
theorem SeqK.there {kd : Bool} {h : Heap} {l : Addr} {items : Array Value} (x : SeqK kd h l items) : ∃ o, h.get? l = some o := by
  cases kd with
  | true => obtain ⟨o, ho, _⟩ := x; exact ⟨o, ho⟩
  | false => obtain ⟨o, ho, _⟩ := x; exact ⟨o, ho⟩
theorem sep_of {z TI TO i1 i2 a b : Addr} (D : ZD z TI TO i1 i2) (na : ∀ c ∈ [z, TI, TO, i1, i2], a ≠ c) (nb : ∀ c ∈ [z, TI, TO, i1, i2], b ≠ c) : ZipSep2 z TI TO i1 i2 [i1, a] [i2, b] :=
  { TIz := D.a, TOz := D.b, TITO := D.c, TIi1 := D.d, mem1 := by simp, zf1 := by simp [D.f, Ne.symm (na z (by simp))], Tf1 := by simp [D.h, Ne.symm (na TO (by simp))],
    TIi2 := D.e, mem2 := by simp, zf2 := by simp [D.g, Ne.symm (nb z (by simp))], Tf2 := by simp [D.i, Ne.symm (nb TO (by simp))],
    sep1_2 := by simp [D.j, Ne.symm (nb i1 (by simp))], sep2_1 := by simp [Ne.symm D.j, Ne.symm (na i2 (by simp))] }
/-- zip(xs, ys), each a list or a tuple, as what dict() takes -/
theorem pairZ {prog : Program} {w : World} (k1 k2 : Bool) {z TI TO i1 i2 a b : Addr} (D : ZD z TI TO i1 i2) (na : ∀ c ∈ [z, TI, TO, i1, i2], a ≠ c) (nb : ∀ c ∈ [z, TI, TO, i1, i2], b ≠ c) (xs ys : Array Value) :
    PairArg prog w "zip" z [z, TI, TO, i1, i2, a, b] [z, TO, i1, i2] (min xs.size ys.size) (fun i k v => xs[i]? = some k ∧ ys[i]? = some v)
      (fun h => IsZip h z TI TO .none ∧ IsTupOf2 h TI (.ref i1) (.ref i2) ∧ (∃ x y, IsTupOf2 h TO x y) ∧ IterK k1 h i1 a 0 ∧ IterK k2 h i2 b 0 ∧ SeqK k1 h a xs ∧ SeqK k2 h b ys) where
  type := fun s ok => ⟨_, ok.1, rfl⟩
  notDict := by decide
  keep := fun h h' ok k => by
    obtain ⟨g1, g2, ⟨x, y, g3⟩, g4, g5, g6, g7⟩ := ok
    exact ⟨k _ _ g1, k _ _ g2, ⟨x, y, k _ _ g3⟩, g4.at fun o => k _ o, g5.at fun o => k _ o, g6.at fun o => k _ o, g7.at fun o => k _ o⟩
  there := fun h ok c hc => by
    obtain ⟨g1, g2, ⟨x, y, g3⟩, g4, g5, g6, g7⟩ := ok
    simp only [List.mem_cons, List.not_mem_nil, or_false] at hc
    obtain ⟨o4, h4, _⟩ := g4.live
    obtain ⟨o5, h5, _⟩ := g5.live
    obtain ⟨o6, h6⟩ := g6.there
    obtain ⟨o7, h7⟩ := g7.there
    rcases hc with e | e | e | e | e | e | e <;> rw [e]
    · exact ⟨_, g1⟩
    · exact ⟨_, g2⟩
    · exact ⟨_, g3⟩
    · exact ⟨_, h4⟩
    · exact ⟨_, h5⟩
    · exact ⟨_, h6⟩
    · exact ⟨_, h7⟩
  sub := fun c hc => by
    simp only [List.mem_cons, List.not_mem_nil, or_false] at hc ⊢
    rcases hc with e | e | e | e <;> simp [e]
  noKeys := fun A s Q E hA ok h => getAttrOr_miss_zip ok.1 rfl rfl rfl zip_no_keys (by decide +kernel) hA h
  iter := fun A s d Q E hA ok hd hdf h => by
    obtain ⟨g1, g2, ⟨x, y, g3⟩, g4, g5, g6, g7⟩ := ok
    simp only [List.mem_cons, List.not_mem_nil, or_false, not_or] at hdf
    obtain ⟨dz, dTI, dTO, d1, d2, da, db⟩ := hdf
    have S := sep_of D na nb
    refine wpAny_pyIter_zip g1 (h z [z, TO, i1, i2] (fun i h => IsTupOf2 h TI (.ref i1) (.ref i2) ∧ (IterK k1 h i1 a i ∧ SeqK k1 h a xs) ∧ (IterK k2 h i2 b i ∧ SeqK k2 h b ys) ∧
      ((IsZip h z TI TO .none ∧ ∃ x y, IsTupOf2 h TO x y) ∨ ∃ T f oT, IsZipHeld h z TI TO T f ∧ h.get? T = some oT ∧ T ≠ z ∧ T ≠ i1 ∧ T ≠ i2 ∧ T ≠ d)) s.heap s.toks ?_ ⟨g2, ⟨g4, g6⟩, ⟨g5, g7⟩, .inl ⟨g1, x, y, g3⟩⟩ (fun _ _ e => e) fun b hb => .inl hb)
    refine ⟨?_, fun i h₁ h₂ st k => ?_, fun i s₁ Q₁ E₁ hi st hds hQ => ?_, fun s₁ Q₁ E₁ st hQ => ?_⟩
    · intro hm
      simp only [List.mem_cons, List.not_mem_nil, or_false] at hm
      rcases hm with e | e | e | e
      · exact dz e
      · exact dTO e
      · exact d1 e
      · exact d2 e
    · obtain ⟨j1, ⟨j2, j3⟩, ⟨j4, j5⟩, j6⟩ := st
      refine ⟨k _ _ (Ne.symm dTI) j1, ⟨j2.at fun o => k _ o (Ne.symm d1), j3.at fun o => k _ o (Ne.symm da)⟩, ⟨j4.at fun o => k _ o (Ne.symm d2), j5.at fun o => k _ o (Ne.symm db)⟩, ?_⟩
      rcases j6 with ⟨j6, x, y, j7⟩ | ⟨T, f, oT, j6, j7, r1, r2, r3, r4⟩
      · exact .inl ⟨k _ _ (Ne.symm dz) j6, x, y, k _ _ (Ne.symm dTO) j7⟩
      · exact .inr ⟨T, f, oT, k _ _ (Ne.symm dz) j6, k _ _ r4 j7, r1, r2, r3, r4⟩
    · obtain ⟨j1, j2, j4, j6⟩ := st
      have l1 : i < xs.size := Nat.lt_of_lt_of_le hi (Nat.min_le_left ..)
      have l2 : i < ys.size := Nat.lt_of_lt_of_le hi (Nat.min_le_right ..)
      have D1 := drawsK (kd := k1) (prog := prog) (w := w) (A := A.in1) hA i1 a (na i1 (by simp)) xs
      have D2 := drawsK (kd := k2) (prog := prog) (w := w) (A := A.in1) hA i2 b (nb i2 (by simp)) ys
      have lt : ∀ {c o}, s₁.heap.get? c = some o → s₁.heap.objs.size ≠ c := fun e => Nat.ne_of_gt (Heap.lt_size e)
      obtain ⟨_, o1, _⟩ := j2.1.live
      obtain ⟨_, o2, _⟩ := j4.1.live
      rcases j6 with ⟨j6, x, y, j7⟩ | ⟨T, f, oT, j6, j7, r1, r2, r3, r4⟩
      · refine wpAny_pyNext_zipD2_item S D1 D2 j6 j1 j7 j2 j4 l1 l2 fun x1 x2 h' tk p1 p2 z' to' m1 m2 t' hsz hk => ?_
        exact hQ s₁.heap.objs.size _ _ h' tk ⟨p1, p2⟩ (.inl ⟨_, t', rfl, _, rfl⟩) ⟨hk _ _ D.a D.c D.d D.e j1, m1, m2, .inr ⟨s₁.heap.objs.size, false, _, z', t', lt j6, lt o1, lt o2, Nat.ne_of_gt hds⟩⟩
          fun c o hc e => hk c o (fun q => hc (by simp [q])) (fun q => hc (by simp [q])) (fun q => hc (by simp [q])) (fun q => hc (by simp [q])) e
      · refine zipH_item S D1 D2 j6 j7 j1 j2 j4 l1 l2 fun x1 x2 h' tk p1 p2 z' m1 m2 t' hk => ?_
        exact hQ s₁.heap.objs.size _ _ h' tk ⟨p1, p2⟩ (.inl ⟨_, t', rfl, _, rfl⟩) ⟨hk _ _ D.a D.d D.e j1, m1, m2, .inr ⟨T, true, oT, z', hk _ _ r1 r2 r3 j7, r1, r2, r3, r4⟩⟩
          fun c o hc e => hk c o (fun q => hc (by simp [q])) (fun q => hc (by simp [q])) (fun q => hc (by simp [q])) e
    · obtain ⟨j1, j2, j4, j6⟩ := st
      have D1 := drawsK (kd := k1) (prog := prog) (w := w) (A := A.in1) hA i1 a (na i1 (by simp)) xs
      have D2 := drawsK (kd := k2) (prog := prog) (w := w) (A := A.in1) hA i2 b (nb i2 (by simp)) ys
      have e : min xs.size ys.size = xs.size ∨ min xs.size ys.size = ys.size := by omega
      rcases j6 with ⟨j6, x, y, j7⟩ | ⟨T, f, oT, j6, j7, r1, r2, r3, r4⟩
      · exact wpAny_pyNext_zipD2_end S D1 D2 j6 j1 j7 j2 j4 (by omega) (by omega) e fun h' tk hk => hQ h' tk fun c o hc q => hk c o (fun q => hc (by simp [q])) (fun q => hc (by simp [q])) (fun q => hc (by simp [q])) (fun q => hc (by simp [q])) q
      · exact zipH_done S D1 D2 j6 j7 j1 j2 j4 (by omega) (by omega) e fun h' tk hk => hQ h' tk fun c o hc q => hk c o (fun q => hc (by simp [q])) (fun q => hc (by simp [q])) (fun q => hc (by simp [q])) q
/-! ### dict(zip(xs, ys)) -/
structure ZV (X : Cx) (M : Addr → Prop) (H : Hp) (p : D × D) (kv : Key × V) (q : Value × Value) : Prop where
  key : p.1 = keyD kv.1
  is_ : (mixKind X.prog X.w).is kv.1 q.1 = true
  rel : RelV kv.2 q.2
  rep : Rep X.K M H kv.2 p.2
inductive ZVs (X : Cx) (M : Addr → Prop) (H : Hp) : List (D × D) → List (Key × V) → List (Value × Value) → Prop
  | nil : ZVs X M H [] [] []
  | cons {p : D × D} {kv : Key × V} {q : Value × Value} {ps : List (D × D)} {kvs : List (Key × V)} {qs : List (Value × Value)} : ZV X M H p kv q → ZVs X M H ps kvs qs → ZVs X M H (p :: ps) (kv :: kvs) (q :: qs)
section
variable {X : Cx} {M : Addr → Prop} {H : Hp}
theorem zv_of : ∀ {vs ws : List V} {us us2 : List Value} {ds es : List D} {ps : List (D × D)}, RepL X.K M H vs ds → Vals vs us → RepL X.K M H ws es → Vals ws us2 → pairsK (pairsD ds es) = some ps → ∃ kvs, ZVs X M H ps kvs (us.zip us2)
  | _, _, _, _, _, _, ps, .nil, .nil, _, _, e => by
    have e : some [] = some ps := e
    cases e
    exact ⟨[], .nil⟩
  | _, _, _, _, _, _, ps, .cons h r, .cons hu ru, .nil, .nil, e => by
    have e : some [] = some ps := e
    cases e
    exact ⟨[], .nil⟩
  | v :: vs, w :: ws, u :: us, u2 :: us2, d :: ds, d2 :: ds2, ps, .cons h r, .cons hu ru, .cons h2 r2, .cons hu2 ru2, e => by
    have e : ((pairD (.tuple [d, d2])).bind fun p => (pairsK (pairsD ds ds2)).map (p :: ·)) = some ps := e
    rw [Option.bind_eq_some_iff] at e
    obtain ⟨p, e1, e⟩ := e
    rw [Option.map_eq_some_iff] at e
    obtain ⟨ps', e2, rfl⟩ := e
    obtain ⟨kvs, t⟩ := zv_of r ru r2 ru2 e2
    have e1 : (if isKey d then some (d, d2) else none) = some p := e1
    split at e1
    · rename_i hk
      cases e1
      cases d with
      | int i =>
        cases h
        obtain ⟨t', rfl⟩ := hu
        exact ⟨(.inl i, _) :: kvs, .cons ⟨rfl, kV_is (k := .inl i) ⟨t', rfl⟩, hu2, h2⟩ t⟩
      | str x =>
        cases h
        obtain ⟨t', rfl⟩ := hu
        exact ⟨(.inr x, _) :: kvs, .cons ⟨rfl, kV_is (k := .inr x) ⟨t', rfl⟩, hu2, h2⟩ t⟩
      | _ => cases hk
    · cases e1
theorem ZVs.len {ps : List (D × D)} {kvs : List (Key × V)} {qs : List (Value × Value)} (t : ZVs X M H ps kvs qs) : kvs.length = qs.length := by
  induction t with
  | nil => rfl
  | cons _ _ ih => simp [ih]
theorem ZVs.at {ps : List (D × D)} {kvs : List (Key × V)} {qs : List (Value × Value)} (t : ZVs X M H ps kvs qs) : ∀ (j : Nat) q, qs[j]? = some q → ∃ p kv, kvs[j]? = some kv ∧ ZV X M H p kv q := by
  induction t with
  | nil => intro j q e; simp at e
  | cons hp t ih =>
    intro j q e
    cases j with
    | zero =>
      simp only [List.getElem?_cons_zero, Option.some.injEq] at e
      subst e
      exact ⟨_, _, rfl, hp⟩
    | succ j => exact ih j q (by simpa using e)
theorem ZVs.fold {ps : List (D × D)} {kvs : List (Key × V)} {qs : List (Value × Value)} (t : ZVs X M H ps kvs qs) : ∀ {a : List (Key × V)} {b : List (Key × Value)} {c : List (D × D)}, L2.KV a b → RepKV X.K M H a c →
    L2.KV (kvs.foldl (fun acc p => putK acc p.1 p.2) a) (merged b (kvVal kvs qs)) ∧ RepKV X.K M H (kvs.foldl (fun acc p => putK acc p.1 p.2) a) (ps.foldl (fun acc p => dputD acc p.1 p.2) c) := by
  induction t with
  | nil => intro a b c h1 h2; exact ⟨h1, h2⟩
  | cons hp t ih =>
    rename_i p kv q ps kvs qs
    intro a b c h1 h2
    have k1 := KV.put h1 kv.1 hp.rel
    have k2 : RepKV X.K M H (putK a kv.1 kv.2) (dputD c p.1 p.2) := by rw [hp.key]; exact h2.put hp.rep
    exact ih k1 k2
/-- dict(zip(a, b)): what is asked behind both -/
def tDz (K : PySem.W.Frag) (ta : TA) : TE := fun σ H Q => ta σ H fun vs H1 => ∃ M k1 k2 a b xs ys ds es ps, vs = [.ref a, .ref b] ∧ SqK k1 K H1 a xs ∧ SqK k2 K H1 b ys ∧ RepL K M H1 xs ds ∧ RepL K M H1 ys es ∧ pairsK (pairsD ds es) = some ps ∧
  ∀ p kvs, H1 p = none → kvs.length ≤ sizeLine → RepKV K M H1 kvs (ps.foldl (fun acc p => dputD acc p.1 p.2) []) → Q (.ref p) (upd H1 p (.dK kvs))
theorem boot_dictT : bootBuiltins "dict" = some (.type "dict") := by decide +kernel
theorem pe_dzip {e e2 : Expr} {ta : TA} {p1 p2 pos pos2 : Pos} (hc : X.calm = true) (hg : Gl X "dict") (hm : X.mg "dict" = none) (hg2 : Gl X "zip") (hm2 : X.mg "zip" = none) (ha : PA X [e, e2] ta) (hs : starEach [e, e2] X.env = (false, eval e X.env) :: starEach [e2] X.env) (hpl : (backTo pos2 (starEach [e2] X.env)).any (·.1) = false) :
    PE X (.Call (.Name "dict" p1) [.Call (.Name "zip" p2) [e, e2] [] pos2] [] pos) (tDz X.K ta) := by
  refine ⟨fun pins s σ H Q I h => ?_⟩
  refine Call_ (ld_blt I hg hm boot_dictT (PyProof.Rows.callWith_type1 ?_ (by rfl) (by rfl)))
  show wpAny _ _ (spliced ((false, eval (.Call (.Name "zip" p2) [e, e2] [] pos2) X.env) :: backTo pos (starEach [] X.env))) _ _ s
  refine Calls.spliced_cons ?_
  refine Call_ (ld_blt I hg2 hm2 PyProof.Rows.boot_zip (PyProof.Rows.callWith_type1 (thn (ha.run pos2 pins s σ H _ I h) fun us s1 ⟨vs, H1, I1, r1, q1⟩ => ?_) hs hpl))
  obtain ⟨M, k1, k2, a, b, xs, ys, ds, es, ps, rfl, hx, hy, rx, ry, ep, q⟩ := q1
  cases r1 with
  | cons ra rr =>
    cases rr with
    | cons rb rr =>
      cases rr
      cases ra
      cases rb
      obtain ⟨its, rv, g1, z1⟩ := seqK_of I1 hx
      obtain ⟨its2, rv2, g2, z2⟩ := seqK_of I1 hy
      obtain ⟨kvs, t⟩ := zv_of rx rv ry rv2 ep
      obtain ⟨f1, f2⟩ := t.fold (a := []) (b := []) (c := []) .nil .nil
      have hl := fold_len kvs []
      have l0 := t.len
      have lx := rv.length
      have ly := rv2.length
      rw [List.length_zip] at l0
      rw [List.length_nil] at hl
      refine zip_begins2 (beginsK k1 a its.toArray) (beginsK k2 b its2.toArray) g1 g2 fun h' hz hTI hTO j1 j2 hsz hk => Calls.spliced_nil ?_
      have la := g1.lt
      have lb := g2.lt
      have ne : ∀ {c : Addr}, c < s1.heap.objs.size → ∀ y ∈ [s1.heap.objs.size + 4, s1.heap.objs.size + 2, s1.heap.objs.size + 3, s1.heap.objs.size, s1.heap.objs.size + 1], c ≠ y := fun {c} hc y hy => by
        simp only [List.mem_cons, List.not_mem_nil, or_false] at hy
        rcases hy with e | e | e | e | e <;> rw [e] <;> first | exact Nat.ne_of_lt hc | exact Nat.ne_of_lt (Nat.lt_of_lt_of_le hc (Nat.le_add_right _ _))
      have P := pairZ (prog := X.prog) (w := X.w) k1 k2 (zd_new s1.heap.objs.size) (ne la) (ne lb) its.toArray its2.toArray
      refine call_dict_pairs (knd := mixKind X.prog X.w) (kvs := kvVal kvs (its.zip its2)) P (I1.ok.hd hc) ⟨hz, hTI, ⟨_, _, hTO⟩, .ofO j1, .ofO j2, g1.at fun o => hk _ o, g2.at fun o => hk _ o⟩ ⟨by unfold kvVal; simp; omega, fun i key v hr => ?_⟩ (by simp; omega) fun h2 tk hd hk2 => ?_
      · obtain ⟨hr1, hr2⟩ := hr
        have hq : (its.zip its2)[i]? = some (key, v) := (List.getElem?_zip_eq_some (z := (key, v))).mpr ⟨by simpa using hr1, by simpa using hr2⟩
        obtain ⟨p, kv, h3, h4⟩ := t.at i (key, v) hq
        refine ⟨kv.1, ?_, h4.is_⟩
        unfold kvVal
        rw [List.getElem?_map, (List.getElem?_zip_eq_some (z := (kv, (key, v)))).mpr ⟨h3, hq⟩]
        rfl
      · have hlen : (kvs.foldl (fun acc p => putK acc p.1 p.2) []).length ≤ sizeLine := by omega
        have hle : s1.heap.objs.size ≤ h'.objs.size := by omega
        have nm : (h'.objs.size == sysModules) = false := by
          have := I1.big
          exact beq_eq_false_iff_ne.mpr (Nat.ne_of_gt (Nat.lt_of_lt_of_le this hle))
        refine ⟨.ref _, _, I1.laid (t' := tk) (o := .dK (kvs.foldl (fun acc p => putK acc p.1 p.2) [])) (fun c o e => hk2 c o (fun hm => ?_) (hk c o e)) hle ⟨hlen, nm, _, f1, hd⟩, rfl, q _ _ (I1.hok.fresh hle) hlen f2⟩
        have hlt := Heap.lt_size e
        simp only [List.mem_cons, List.not_mem_nil, or_false] at hm
        rcases hm with e | e | e | e <;> (rw [e] at hlt; first | exact Nat.lt_irrefl _ hlt | exact Nat.not_lt.mpr (Nat.le_add_right _ _) hlt)
end
end Fp
set_option maxHeartbeats 1000000
namespace Fp
open PySem PySem.Spec PyProof.Rows L2
variable [TB]
/-- what stands off M stays -/
structure Kp (M : Addr → Prop) (H H' : Hp) : Prop where
  k : ∀ b o, H b = some o → ntb o = true → ¬ M b → H' b = some o
  t : ∀ b xs, H b = some (.tup xs) → H' b = some (.tup xs)
  f : ∀ b o u, H b = some (.frz o u) → H' b = some (.frz o u)
  free : ∀ {b}, H' b = none → H b = none
  tb : LamX.Tabs TB.T H → LamX.Tabs TB.T H'
theorem Kp.same {M : Addr → Prop} {H H' : Hp} (e : Same H H') : Kp M H H' := ⟨fun b o h n _ => e.k b o h n, fun b xs h => e.k b _ h rfl, fun b o u h => e.k b _ h rfl, e.free, e.t⟩
theorem kp_upd {M : Addr → Prop} {H : Hp} {a : Addr} {u0 u1 : HO} (ma : M a) (h : H a = some u0) (nt : noTb u0 = true) : Kp M H (upd H a u1) :=
  ⟨fun b o q _ n => by rw [upd_ne (fun e => n (by rw [e]; exact ma))]; exact q, fun b xs q => by
    rw [upd_ne (fun e => by rw [e, h] at q; cases q; cases nt)]; exact q, fun b o u q => by
    rw [upd_ne (fun e => by rw [e, h] at q; cases q; cases nt)]; exact q, fun q => upd_free ⟨_, h⟩ q, fun t => tabs_upd h nt t⟩
theorem Kp.okM {M M0 : Addr → Prop} {H H' : Hp} (k : Kp M H H') (h : okM M0 H) : okM M0 H' := by
  refine ⟨fun a m => ?_, k.tb h.t⟩
  obtain ⟨o, q⟩ := h.s a m
  cases z : H' a with
  | some o => exact ⟨_, rfl⟩
  | none => rw [k.free z] at q; cases q
theorem Kp.refl (M : Addr → Prop) (H : Hp) : Kp M H H := .same (Same.refl H)
section
variable {K : PySem.W.Frag} {M M' : Addr → Prop} {H1 H : Hp}
theorem Kp.rd {a : Addr} {xs : List V} (k : Kp M H1 H) (h : Rd H1 a (.lst xs)) (n : ¬ M a) : Rd H a (.lst xs) := by
  rcases h with h | ⟨o, h⟩
  · exact .inl (k.k _ _ h rfl n)
  · exact .inr ⟨o, k.f _ _ _ h⟩
theorem Kp.sqp {a : Addr} {xs : List V} (k : Kp M H1 H) (h : SqP K H1 a xs) : SqP K H a xs := by
  rcases h with ⟨o, h, q⟩ | h
  · exact .inl ⟨o, k.f _ _ _ h, q⟩
  · exact .inr h
theorem Kp.sqt {a : Addr} {xs : List V} (k : Kp M H1 H) (h : SqT K H1 a xs) : SqT K H a xs := by
  rcases h with (h | ⟨o, h⟩) | h
  · exact .inl (.inl (k.t _ _ h))
  · exact .inl (.inr ⟨o, k.f _ _ _ h⟩)
  · exact .inr h
mutual
theorem Rep.move (k : Kp M H1 H) (e : ∀ a, M' a → M a ∨ H1 a = none) : ∀ {v : V} {d : D}, Rep K M H1 v d → Rep K M' H v d
  | _, _, .non => .non
  | _, _, .bl b => .bl b
  | _, _, .int i => .int i
  | _, _, .str x h => .str x h
  | _, _, .lst h n z r => .lst (k.rd h n) (fun q => by
      rcases e _ q with q | q
      · exact n q
      · obtain ⟨o, ho⟩ := rd_some h
        rw [q] at ho
        cases ho) z (RepL.move k e r)
  | _, _, .tup h z r => .tup (k.sqp h) z (RepL.move k e r)
theorem RepL.move (k : Kp M H1 H) (e : ∀ a, M' a → M a ∨ H1 a = none) : ∀ {vs : List V} {ds : List D}, RepL K M H1 vs ds → RepL K M' H vs ds
  | _, _, .nil => .nil
  | _, _, .cons h r => .cons (Rep.move k e h) (RepL.move k e r)
end
end
theorem own_move {K : PySem.W.Frag} {M M' : Addr → Prop} {H1 H : Hp} {a : Addr} {d : D} (k : Kp M H1 H) (e : ∀ a, M' a → M a ∨ H1 a = none) (hs : ∀ o, H1 a = some o → ntb o = true → H a = some o) (h : Own K M H1 a d) : Own K M' H a d := own_imp hs (fun _ _ r => r.move k e) (fun _ _ r => r.move k e) h
/-! ### what is walked, by data -/
/-- P: while it holds of the heap the walk goes on; v stands for the i-th -/
def WalkD (K : PySem.W.Frag) (M : Addr → Prop) (H1 : Hp) (P : Hp → Prop) (J : L2.It) (ds : List D) : Prop :=
  Walk J ds.length P (fun i H v H' => Same H H' ∧ ∃ d, ds[i]? = some d ∧ ∀ M' : Addr → Prop, (∀ a, M' a → M a ∨ H1 a = none) → Rep K M' H' v d)
/-- what stays while it is walked: all (a comprehension), or what is off M (a for) -/
def stays (b : Bool) (M : Addr → Prop) (H1 : Hp) : Hp → Prop := match b with
  | true => fun H => Same H1 H
  | false => fun H => Kp M H1 H
theorem stays_kp {b : Bool} {M : Addr → Prop} {H1 H : Hp} (h : stays b M H1 H) : Kp M H1 H := by
  cases b with
  | true => exact Kp.same h
  | false => exact h
section
variable {K : PySem.W.Frag} {M : Addr → Prop} {H1 : Hp} {P : Hp → Prop}
theorem wd_list {a : Addr} {vs : List V} {ds : List D} (hP : ∀ H, P H → Kp M H1 H) (h : ∀ H, P H → SqL K H a vs) (r : RepL K M H1 vs ds) : WalkD K M H1 P (Itl K a) ds := by
  unfold WalkD
  rw [← r.length]
  refine (walk_list (K := K) (a := a) (xs := vs)).mono h fun i H x H' hi k y => ?_
  obtain ⟨rfl, hx⟩ := y
  obtain ⟨d, hd, rd⟩ := r.getV hx
  exact ⟨Same.refl _, d, hd, fun M' e => rd.move (hP _ k) e⟩
theorem wd_tup {a : Addr} {vs : List V} {ds : List D} (hP : ∀ H, P H → Kp M H1 H) (h : SqT K H1 a vs) (r : RepL K M H1 vs ds) : WalkD K M H1 P (Itt K a) ds := by
  unfold WalkD
  rw [← r.length]
  refine (walk_tup (K := K) (a := a) (xs := vs)).mono (fun H k => (hP H k).sqt h) fun i H x H' hi k y => ?_
  obtain ⟨rfl, hx⟩ := y
  obtain ⟨d, hd, rd⟩ := r.getV hx
  exact ⟨Same.refl _, d, hd, fun M' e => rd.move (hP _ k) e⟩
theorem wd_str (z : Str) : WalkD K M H1 P (Its z) (signsD z) := by
  unfold WalkD
  have hl : (signsD z).length = z.cps.size := by unfold signsD; simp
  rw [hl]
  refine (walk_str (z := z)).mono (fun H k => trivial) fun i H x H' hi k y => ?_
  obtain ⟨rfl, c, hc, rfl⟩ := y
  refine ⟨Same.refl _, .str ⟨#[c]⟩, ?_, fun M' e => .str _ (by show 1 ≤ sizeLine; decide)⟩
  unfold signsD
  rw [List.getElem?_map, Array.getElem?_toList, hc]
  rfl
theorem wd_range (lo : Int) (n : Nat) : WalkD K M H1 P (Itr lo n) ((List.range n).map fun i => .int (lo + (i : Nat))) := by
  unfold WalkD
  have hl : ((List.range n).map fun i => (PyData.int (lo + (i : Nat)))).length = n := by simp
  rw [hl]
  refine (walk_range (lo := lo) (n := n)).mono (fun H k => trivial) fun i H x H' hi k y => ?_
  obtain ⟨rfl, rfl⟩ := y
  refine ⟨Same.refl _, _, ?_, fun M' e => .int _⟩
  rw [List.getElem?_map, List.getElem?_range hi]
  rfl
/-- a list or a tuple of data -/
structure SrcD (K : PySem.W.Frag) (M : Addr → Prop) (H1 : Hp) (P : Hp → Prop) (kd : Bool) (a : Addr) (vs : List V) (ds : List D) : Prop where
  stay : ∀ H, P H → SqK kd K H a vs
  rep : RepL K M H1 vs ds
theorem wd_enum {kd : Bool} {a : Addr} {vs : List V} {ds : List D} (hP : ∀ H, P H → Kp M H1 H) (h : SrcD K M H1 P kd a vs ds) : WalkD K M H1 P (IteK kd K a) (numbD ds) := by
  have hl : (numbD ds).length = vs.length := by unfold numbD; simp [h.rep.length]
  unfold WalkD
  rw [hl]
  refine ⟨fun i H hi k => ⟨vs, vs[i], h.stay H k, by simp [hi]⟩, fun H k => ⟨vs, h.stay H k, rfl⟩, fun i H v H' hi k y => ?_⟩
  obtain ⟨T, x, o, ho, rfl, hT, rfl, hx⟩ := y
  have hx := hx vs (h.stay H k)
  obtain ⟨d, hd, rd⟩ := h.rep.getV hx
  refine ⟨same_new hT, .tuple [.int (i : Nat), d], ?_, fun M' e => new_tup ho hT (by show 2 ≤ sizeLine; decide) (.cons (.int _) (.cons (rd.move (hP _ k) e) .nil))⟩
  unfold numbD
  have hi' : i < ds.length := by rw [← h.rep.length]; exact hi
  rw [List.getElem?_map, (List.getElem?_zip_eq_some (z := (i, d))).mpr ⟨List.getElem?_range hi', hd⟩]
  rfl
theorem wd_zip {k1 k2 : Bool} {a b : Addr} {vs ws : List V} {ds es : List D} (hP : ∀ H, P H → Kp M H1 H) (h1 : SrcD K M H1 P k1 a vs ds) (h2 : SrcD K M H1 P k2 b ws es) : WalkD K M H1 P (ItzK k1 k2 K a b) (pairsD ds es) := by
  have hl : (pairsD ds es).length = min vs.length ws.length := by unfold pairsD; simp [h1.rep.length, h2.rep.length]
  unfold WalkD
  rw [hl]
  refine ⟨fun i H hi k => ⟨vs, ws, vs[i], ws[i], h1.stay H k, h2.stay H k, by simp, by simp⟩, fun H k => ⟨vs, ws, h1.stay H k, h2.stay H k, rfl⟩, fun i H v H' hi k y => ?_⟩
  obtain ⟨T, x, y, o, ho, rfl, hT, rfl, hx, hy⟩ := y
  have hx := hx vs (h1.stay H k)
  have hy := hy ws (h2.stay H k)
  obtain ⟨d, hd, rd⟩ := h1.rep.getV hx
  obtain ⟨d', hd', rd'⟩ := h2.rep.getV hy
  refine ⟨same_new hT, .tuple [d, d'], ?_, fun M' e => new_tup ho hT (by show 2 ≤ sizeLine; decide) (.cons (rd.move (hP _ k) e) (.cons (rd'.move (hP _ k) e) .nil))⟩
  unfold pairsD
  rw [List.getElem?_map, (List.getElem?_zip_eq_some (z := (d, d'))).mpr ⟨hd, hd'⟩]
  rfl
theorem wd_zipT {k1 k2 k3 : Bool} {a b c : Addr} {vs ws us : List V} {ds es fs : List D} (hP : ∀ H, P H → Kp M H1 H) (h1 : SrcD K M H1 P k1 a vs ds) (h2 : SrcD K M H1 P k2 b ws es) (h3 : SrcD K M H1 P k3 c us fs) : WalkD K M H1 P (ItzT k1 k2 k3 K a b c) (trisD ds es fs) := by
  have hl : (trisD ds es fs).length = min vs.length (min ws.length us.length) := by unfold trisD; simp [h1.rep.length, h2.rep.length, h3.rep.length]
  unfold WalkD
  rw [hl]
  refine ⟨fun i H hi k => ⟨vs, ws, us, vs[i], ws[i], us[i], h1.stay H k, h2.stay H k, h3.stay H k, by simp, by simp, by simp⟩, fun H k => ⟨vs, ws, us, h1.stay H k, h2.stay H k, h3.stay H k, rfl⟩, fun i H v H' hi k y => ?_⟩
  obtain ⟨T, x, y, z, o, ho, rfl, hT, rfl, hx, hy, hz⟩ := y
  have hx := hx vs (h1.stay H k)
  have hy := hy ws (h2.stay H k)
  have hz := hz us (h3.stay H k)
  obtain ⟨d, hd, rd⟩ := h1.rep.getV hx
  obtain ⟨d', hd', rd'⟩ := h2.rep.getV hy
  obtain ⟨d2, hd2, rd2⟩ := h3.rep.getV hz
  refine ⟨same_new hT, .tuple [d, d', d2], ?_, fun M' e => new_tup ho hT (by show 3 ≤ sizeLine; decide) (.cons (rd.move (hP _ k) e) (.cons (rd'.move (hP _ k) e) (.cons (rd2.move (hP _ k) e) .nil)))⟩
  unfold trisD
  rw [List.getElem?_map, (List.getElem?_zip_eq_some (z := (d, (d', d2)))).mpr ⟨hd, (List.getElem?_zip_eq_some (z := (d', d2))).mpr ⟨hd', hd2⟩⟩]
  rfl
/-- a list or a tuple, one's own or not -/
theorem src_list {b cp : Bool} {v : V} {ds : List D} (hb : b = true → cp = true) (h : RepB b K M H1 v (.list ds)) : ∃ a vs, v = .ref a ∧ SqL K H1 a vs ∧ (∀ H, stays cp M H1 H → SqL K H a vs) ∧ vs.length ≤ sizeLine ∧ RepL K M H1 vs ds := by
  cases b with
  | false =>
    cases h with
    | lst h n z r => exact ⟨_, _, rfl, .inl h, fun H k => .inl ((stays_kp k).rd h n), z, r⟩
  | true =>
    obtain ⟨a, rfl, h⟩ := h
    obtain ⟨vs, h2, h4, h5⟩ := own_lst h
    refine ⟨a, vs, rfl, .inl (.inl h2), fun H k => ?_, h4, h5⟩
    rw [hb rfl] at k
    exact .inl (.inl (Same.k k _ _ h2 rfl))
theorem src_seq {b cp : Bool} {v : V} {d : D} {ds : List D} (hb : b = true → cp = true) (h : RepB b K M H1 v d) (e : seqD d = .ok ds) : ∃ kd a vs, v = .ref a ∧ SqK kd K H1 a vs ∧ SrcD K M H1 (stays cp M H1) kd a vs ds ∧ vs.length ≤ sizeLine := by
  cases d with
  | list xs =>
    cases e
    obtain ⟨a, vs, rfl, h1, h2, h3, h4⟩ := src_list hb h
    exact ⟨true, a, vs, rfl, h1, ⟨h2, h4⟩, h3⟩
  | tuple xs =>
    cases e
    obtain ⟨a, vs, rfl, h1, h2, h3⟩ := h.tuple
    exact ⟨false, a, vs, rfl, h1, ⟨fun H k => (stays_kp k).sqt h1, h3⟩, h2⟩
  | _ => cases e
end
/-! ### contexts -/
def spOf (K : PySem.W.Frag) (n : Nat) (g : List D → Res D) : Sp := fun vs H Q E => vs.length = n ∧ ∃ ds M, RepL K M H vs ds ∧ okM M H ∧ (match g ds with
  | .ok d => ∀ v H', Same H H' → Rep K M H' v d → Q v H'
  | .exc c => ∀ H', Same H H' → E (.ref (He.ga K c)) none H'
  | .err => False)
structure FnGood (P : Program) (w : World) (K : PySem.W.Frag) (mg : Str → Option Value) (base : Heap) (k : Nat) (f : Str) (g : List D → Res D) : Prop where
  at_ : mg f = some (.ref (He.ga K f))
  kp : PySem.W.keepIn K (.ref (He.ga K f)) = true
  ok : ∃ fd ps, FnOk P w K mg base (CX P w) k (He.ga K f) fd ps (spOf K ps.length g) ∧ Binds K fd ps [] ∧ ∀ ds, ds.length ≠ ps.length → g ds = .err
/-- what is known of a program: what its defs are worth, its constants, its refusals -/
structure Pg where
  G : Str → List D → Res D
  cs : List (Str × D)
  xs : List Str
  fs : List Str
  tl : List Str
  lm : Bool
  ts : List Str
def bltNames : List String := ["len", "all", "any", "sum", "sorted", "min", "max", "tuple", "list", "dict", "str", "int", "bool", "isinstance", "range", "zip", "enumerate", "set", "ValueError"]
/-- what is known of a class of exceptions -/
structure XOk (K : PySem.W.Frag) (mg : Str → Option Value) (xs : List Str) (t : Str) : Prop where
  at_ : mg t = some (.ref (He.ga K t))
  exc : (He.Fa.exc t).ok K = true
  is_ : ExcC K (He.ga K t)
  kit : ∀ c ∈ xs, PySem.W.kitOne K (.ref (He.ga K c)) (.ref (He.ga K t)) = some (subX c t)
  exm : ∀ c ∈ xs, PySem.W.exmOne K (.ref (He.ga K c)) (.ref (He.ga K t)) = some (subX c t)
/-- what the def that is handed a lambda makes of it -/
def TTold (K : PySem.W.Frag) : (XK → Hp → VK → Prop) → Hp → VK → Prop := fun tl H Q =>
  tl (fun cls d H' => ∃ c ∈ toldNames, cls = .ref (He.ga K c) ∧ d = none ∧ LamX.Tabs TB.T H' ∧ ∀ v H'', Same H' H'' → (∀ M, Rep K M H'' v (.tuple [.str "refused", .str c])) → Q v H'') H Q
structure ToldGood (P : Program) (w : World) (K : PySem.W.Frag) (mg : Str → Option Value) (base : Heap) (k : Nat) (x : Str) : Prop where
  ex : ∃ (g : Addr) (pg : Arguments) (bg : List Stmt) (sg : Scope) (dV kV doc pm cdv ct oc : Value) (an od : Option Addr) (osl : Array (Option Value)) (Ng : List Str) (a : Str),
    mg x = some (.ref g) ∧ PySem.W.keepIn K (.ref g) = true ∧ K.lookup g = some ⟨oc, od, .func (PySem.W.fnOf x x pg bg sg dV kV doc pm an cdv ct), osl⟩ ∧ PySem.W.codeIn K cdv x = true ∧ L2.Binds K (PySem.W.fnOf x x pg bg sg dV kV doc pm an cdv ct) [a] [] ∧ FnScope Ng [a] sg ∧ Ng[0]? = some a ∧ Vis sg a ∧
    (a == ("__debug__" : Str)) = false ∧ (a == ("__classdict__" : Str)) = false ∧ ∀ (X : Cx) (q : Str), X.prog = P → X.w = w → X.K = K → X.mg = mg → X.base = base → Room k X.A → LamX.GivesTo X Ng x sg g cdv bg a q (TTold K)
structure Cok (X : Cx) (xa : Addr → Str → Prop) (W : WX) (p : Pg) (cm : Bool) (k : Nat) : Prop where
  calm : cm = true → X.calm = true ∧ ∀ a c, ¬ xa a c
  nd : X.N.Nodup
  tk : Takes X W
  units : X.A.units + 65 < cLine
  room : cm = true → Room k X.A
  fns : ∀ f ∈ p.fs, FnGood X.prog X.w X.K X.mg X.base k f (p.G f)
  blt : ∀ x ∈ bltNames, X.mg (Str.ofString x) = none
  cst : ∀ x d, (x, d) ∈ p.cs → (∃ i t, d = .int i ∧ X.mg x = some (.int i t)) ∨ ∃ z t, d = .str z ∧ z.length ≤ sizeLine ∧ X.mg x = some (.str z t)
  isx : ∀ a c, xa a c → c ∈ p.xs ∧ CallR X (.builtin "isinstance") (rIsE X.K (He.ga X.K c) a)
  xok : ∀ t ∈ p.xs, XOk X.K X.mg p.xs t
  tps : ∀ x ∈ p.ts, X.mg x = some (.ref (He.ga X.K x)) ∧ ∃ o n, X.K.lookup (He.ga X.K x) = some o ∧ plO o ∧ o.data = .seq #[] n
  vok : ∀ c ∈ p.xs, PySem.W.kitOne X.K (.ref (He.ga X.K c)) (.type "ValueError") = some true
  told : ∀ x ∈ p.tl, ToldGood X.prog X.w X.K X.mg X.base (k + 2) x
  lam : cm = true → p.lm = true → Room (k + 2) X.A ∧ ∃ c T, X.env.code = .ref c ∧ LamX.TabB X.base X.mg c T ∧ (T, X.env.qual ++ "<lambda>") ∈ TB.T ∧ ∀ q ∈ TB.T, q.1 = T → q.2 = X.env.qual ++ "<lambda>"
section
variable {X : Cx} {W : WX} {xa : Addr → Str → Prop} {p : Pg} {cm : Bool} {k : Nat}
abbrev noX : Addr → Str → Prop := fun _ _ => False
abbrev noW : WX := fun _ _ _ _ => False
/-- the block of a comprehension -/
theorem Cok.blk (c : Cok X xa W p true k) (s : Shared) (H : Hp) (scope : Scope) (env : PySem.Env) (fp : List Addr) (hq : env.qual = X.env.qual := by rfl) (hcd : env.code = X.env.code := by rfl) : Cok (X.blk s H scope env fp) noX noW p true k :=
  ⟨fun _ => ⟨(c.calm rfl).1, fun _ _ z => z⟩, c.nd, fun _ _ x => by
    obtain ⟨_, _, _, _, _, _, _, _, _, _, _, _, _, _, _, _, z⟩ := x
    exact z.elim, c.units, c.room, c.fns, c.blt, c.cst, fun _ _ z => z.elim, c.xok, c.tps, c.vok, c.told, fun _ z => by
      have := c.lam rfl z
      rw [← hq, ← hcd] at this
      exact this⟩
theorem RelS.okM {K : PySem.W.Frag} {M0 : Addr → Prop} {ρ : Slots} {σ : L2.St} {H : Hp} (r : RelS K xa M0 ρ σ H) : okM (Mx M0 ρ σ) H := ⟨fun a m => by
  rcases m with m | ⟨i, d, h1, h2⟩
  · exact r.m0.s a m
  · obtain ⟨a', h3, h4⟩ := r.ow i d h1
    rw [h2] at h3
    cases h3
    exact own_some h4, r.m0.t⟩
end
end Fp
set_option maxHeartbeats 1000000
namespace Fp
open PySem PySem.Spec PyProof.Rows L2
variable [TB]
/-! ### slots are stored -/
section
variable {K : PySem.W.Frag} {xa : Addr → Str → Prop} {M0 : Addr → Prop} {ρ : Slots} {σ : L2.St} {H : Hp}
theorem own_set {i : Nat} {s : Slot} {v : V} (hs : ∀ d, s ≠ .ow d) {a : Addr} (h : OwnA (ρ.set i s) (σ.set i (some v)) a) : OwnA ρ σ a := by
  obtain ⟨j, d, h1, h2⟩ := h
  by_cases e : i = j
  · subst e
    by_cases hi : i < ρ.length
    · rw [List.getElem?_set_self hi] at h1
      exact absurd (Option.some.inj h1) (hs d)
    · rw [List.getElem?_eq_none (by simpa using hi)] at h1
      cases h1
  · rw [List.getElem?_set_ne e] at h1 h2
    exact ⟨j, d, h1, h2⟩
theorem mx_set {i : Nat} {s : Slot} {v : V} (hs : ∀ d, s ≠ .ow d) {a : Addr} (h : Mx M0 (ρ.set i s) (σ.set i (some v)) a) : Mx M0 ρ σ a := by
  rcases h with h | h
  · exact .inl h
  · exact .inr (own_set hs h)
/-- a slot takes data -/
theorem RelS.setN {i : Nat} {v : V} {d : D} (r : RelS K xa M0 ρ σ H) (h : Rep K (Mx M0 ρ σ) H v d) (hi : i < ρ.length) : RelS K xa M0 (ρ.set i (.fz d)) (σ.set i (some v)) H := by
  have nw : ∀ e, Slot.fz d ≠ .ow e := fun e z => by cases z
  have off : ∀ {u : V} {e : D}, Rep K (Mx M0 ρ σ) H u e → Rep K (Mx M0 (ρ.set i (.fz d)) (σ.set i (some v))) H u e := fun x => x.off fun a m => .inl (mx_set nw m)
  have offL : ∀ {u : List V} {e : List D}, RepL K (Mx M0 ρ σ) H u e → RepL K (Mx M0 (ρ.set i (.fz d)) (σ.set i (some v))) H u e := fun x => x.off fun a m => .inl (mx_set nw m)
  have hl := r.len
  refine ⟨by simp [hl], r.m0, fun j e q => ?_, fun j e q => ?_, fun j c q => ?_, fun j k e e' a q1 q2 q3 q4 => ?_⟩
  · by_cases hj : i = j
    · subst hj
      rw [List.getElem?_set_self hi] at q
      cases q
      exact ⟨v, List.getElem?_set_self (by omega), off h⟩
    · rw [List.getElem?_set_ne hj] at q ⊢
      obtain ⟨u, h1, h2⟩ := r.fz j e q
      exact ⟨u, h1, off h2⟩
  · by_cases hj : i = j
    · subst hj
      rw [List.getElem?_set_self hi] at q
      cases q
    · rw [List.getElem?_set_ne hj] at q
      obtain ⟨a, h1, h2⟩ := r.ow j e q
      have h1' : (σ.set i (some v))[j]? = some (some (.ref a)) := by rw [List.getElem?_set_ne hj]; exact h1
      exact ⟨a, h1', own_off (fun a m => .inl (mx_set nw m)) h2⟩
  · by_cases hj : i = j
    · subst hj
      rw [List.getElem?_set_self hi] at q
      cases q
    · rw [List.getElem?_set_ne hj] at q ⊢
      exact r.ex j c q
  · by_cases hj : i = j
    · subst hj
      rw [List.getElem?_set_self hi] at q1
      cases q1
    · by_cases hk : i = k
      · subst hk
        rw [List.getElem?_set_self hi] at q2
        cases q2
      · rw [List.getElem?_set_ne hj] at q1 q3
        rw [List.getElem?_set_ne hk] at q2 q4
        exact r.dj j k e e' a q1 q2 q3 q4
/-- slots are forgotten -/
theorem RelS.drop {ρ' : Slots} {σ' : L2.St} (r : RelS K xa M0 ρ σ H) (hl : ρ'.length = σ'.length) (h : ∀ (j : Nat) s, ρ'[j]? = some s → s = .no ∨ (ρ[j]? = some s ∧ σ'[j]? = σ[j]?)) : RelS K xa M0 ρ' σ' H := by
  have mx : ∀ {a : Addr}, Mx M0 ρ' σ' a → Mx M0 ρ σ a := fun {a} m => by
    rcases m with m | ⟨j, d, h1, h2⟩
    · exact .inl m
    · rcases h j _ h1 with z | ⟨z, e⟩
      · cases z
      · exact .inr ⟨j, d, z, by rw [← e]; exact h2⟩
  refine ⟨hl, r.m0, fun j e q => ?_, fun j e q => ?_, fun j c q => ?_, fun j k e e' a q1 q2 q3 q4 => ?_⟩
  · rcases h j _ q with z | ⟨z, w⟩
    · cases z
    · obtain ⟨u, h1, h2⟩ := r.fz j e z
      exact ⟨u, by rw [w]; exact h1, h2.off fun a m => .inl (mx m)⟩
  · rcases h j _ q with z | ⟨z, w⟩
    · cases z
    · obtain ⟨a, h1, h2⟩ := r.ow j e z
      have h1' : σ'[j]? = some (some (.ref a)) := by rw [w]; exact h1
      exact ⟨a, h1', own_off (fun a m => .inl (mx m)) h2⟩
  · rcases h j _ q with z | ⟨z, w⟩
    · cases z
    · obtain ⟨a, h1, h2⟩ := r.ex j c z
      exact ⟨a, by rw [w]; exact h1, h2⟩
  · rcases h j _ q1 with z | ⟨z, w⟩
    · cases z
    · rcases h k _ q2 with z' | ⟨z', w'⟩
      · cases z'
      · rw [w] at q3; rw [w'] at q4
        exact r.dj j k e e' a z z' q3 q4
theorem wipeE_length (ρ : Slots) : ∀ vs : List Nat, (wipeE ρ vs).length = ρ.length
  | [] => rfl
  | v :: vs => by unfold wipeE; rw [List.length_set, wipeE_length ρ vs]
theorem wipeE_get {ρ : Slots} {j : Nat} {s : Slot} : ∀ {vs : List Nat}, (wipeE ρ vs)[j]? = some s → s = .no ∨ (ρ[j]? = some s ∧ j ∉ vs)
  | [], h => .inr ⟨h, by simp⟩
  | v :: vs, h => by
    unfold wipeE at h
    by_cases e : v = j
    · subst e
      by_cases hv : v < (wipeE ρ vs).length
      · rw [List.getElem?_set_self hv] at h
        exact .inl (Option.some.inj h).symm
      · rw [List.getElem?_eq_none (by simpa using hv)] at h
        cases h
    · rw [List.getElem?_set_ne e] at h
      rcases wipeE_get h with z | ⟨z, w⟩
      · exact .inl z
      · exact .inr ⟨z, by simp only [List.mem_cons, not_or]; exact ⟨fun q => e q.symm, w⟩⟩
theorem wipe_get {σ : L2.St} {j : Nat} : ∀ {vs : List Nat}, j ∉ vs → (wipe σ vs)[j]? = σ[j]?
  | [], _ => rfl
  | v :: vs, h => by
    simp only [List.mem_cons, not_or] at h
    unfold wipe
    rw [List.getElem?_set_ne (fun e => h.1 e.symm)]
    exact wipe_get h.2
theorem wipe_in {σ : L2.St} {j : Nat} : ∀ {vs : List Nat}, j ∈ vs → j < σ.length → (wipe σ vs)[j]? = some none
  | v :: vs, h, hl => by
    unfold wipe
    by_cases e : v = j
    · subst e
      rw [List.getElem?_set_self (by rw [wipe_length]; exact hl)]
    · rw [List.getElem?_set_ne e]
      exact wipe_in (by rcases List.mem_cons.mp h with z | z; exact absurd z.symm e; exact z) hl
theorem wipe_eq {σ τ : L2.St} {vs : List Nat} (hl : σ.length = τ.length) (h : ∀ j, j ∉ vs → σ[j]? = τ[j]?) : wipe σ vs = wipe τ vs := by
  apply List.ext_getElem?
  intro j
  by_cases hj : j ∈ vs
  · by_cases hlt : j < σ.length
    · rw [wipe_in hj hlt, wipe_in hj (by omega)]
    · rw [List.getElem?_eq_none (by rw [wipe_length]; omega), List.getElem?_eq_none (by rw [wipe_length]; omega)]
  · rw [wipe_get hj, wipe_get hj]
    exact h j hj
theorem RelS.wipe (r : RelS K xa M0 ρ σ H) (vs : List Nat) : RelS K xa M0 (wipeE ρ vs) (L2.wipe σ vs) H :=
  r.drop (by rw [wipeE_length, wipe_length]; exact r.len) fun j s h => by
    rcases wipeE_get h with z | ⟨z, w⟩
    · exact .inl z
    · exact .inr ⟨z, wipe_get w⟩
end
/-! ### targets -/
def canG (K : PySem.W.Frag) (xa : Addr → Str → Prop) (t : Tg) : TG := fun v σ H Q => ∃ M0 ρ d ρ', RelS K xa M0 ρ σ H ∧ Rep K (Mx M0 ρ σ) H v d ∧ bindT t d ρ = .ok ρ' ∧
  ∀ σ', RelS K xa M0 ρ' σ' H → σ'.length = σ.length → (∀ j, j ∉ tgIx t → σ'[j]? = σ[j]?) → (∀ a, OwnA ρ' σ' a → OwnA ρ σ a) → Q σ' H
def canGs (K : PySem.W.Frag) (xa : Addr → Str → Prop) (ts : Tgs) : TGs := fun vs σ H Q => ∃ M0 ρ ds ρ', RelS K xa M0 ρ σ H ∧ RepL K (Mx M0 ρ σ) H vs ds ∧ bindTs ts ds ρ = .ok ρ' ∧
  ∀ σ', RelS K xa M0 ρ' σ' H → σ'.length = σ.length → (∀ j, j ∉ tgsIx ts → σ'[j]? = σ[j]?) → (∀ a, OwnA ρ' σ' a → OwnA ρ σ a) → Q σ' H
theorem PG.of {X : Cx} {e : Expr} {t t' : TG} (h : PG X e t) (f : ∀ v σ H Q, t' v σ H Q → t v σ H Q) : PG X e t' := ⟨fun pins s σ H v u Q I r q => h.run pins s σ H v u Q I r (f v σ H Q q)⟩
theorem PGs.of {X : Cx} {e : List Expr} {t t' : TGs} (h : PGs X e t) (f : ∀ v σ H Q, t' v σ H Q → t v σ H Q) : PGs X e t' := ⟨fun pins s σ H v u Q I r q => h.run pins s σ H v u Q I r (f v σ H Q q)⟩
def locB (sc : Scope) (x : Str) : Bool := match sc.names.lookup x with
  | some .local => true
  | some .cell => true
  | _ => false
def visB (sc : Scope) (x : Str) : Bool := match sc.names.lookup x with
  | some .local => true
  | some .cell => true
  | some .free => true
  | _ => false
def glB (sc : Scope) (x : Str) : Bool := decide (sc.names.lookup x = some .globalImplicit)
theorem locB_ok {sc : Scope} {x : Str} (h : locB sc x = true) : Loc sc x := by
  unfold locB at h
  split at h
  · exact .inl (by assumption)
  · exact .inr (by assumption)
  · cases h
theorem visB_ok {sc : Scope} {x : Str} (h : visB sc x = true) : Vis sc x := by
  unfold visB at h
  split at h
  · exact .inl (by assumption)
  · exact .inr (.inl (by assumption))
  · exact .inr (.inr (by assumption))
  · cases h
def plainX : Expr → Bool
  | .Starred _ _ => false
  | .Slice _ _ _ _ => false
  | .Set _ _ _ => false
  | _ => true
mutual
/-- does a target's code read so? fb: the cells that may be written -/
def chkG (N : List Str) (fb : Str → Bool) (sc : Scope) : Tg → Expr → Bool
  | .nm i, .Name x _ => decide (N[i]? = some x) && locB sc x && (fb x || decide (sc.names.lookup x = some .local))
  | .tp ts, .Tuple es _ _ => chkGs N fb sc ts es
  | _, _ => false
def chkGs (N : List Str) (fb : Str → Bool) (sc : Scope) : Tgs → List Expr → Bool
  | .nil, [] => true
  | .cons t ts, e :: es => chkG N fb sc t e && chkGs N fb sc ts es
  | _, _ => false
end
theorem chkG_plain {N : List Str} {fb : Str → Bool} {sc : Scope} {t : Tg} {e : Expr} (h : chkG N fb sc t e = true) : (∃ x p, e = .Name x p) ∨ ∃ es k p, e = .Tuple es k p := by
  cases t <;> cases e <;> first | exact .inl ⟨_, _, rfl⟩ | exact .inr ⟨_, _, _, rfl⟩ | (unfold chkG at h; cases h)
theorem assignEach_len {N : List Str} {fb : Str → Bool} {sc : Scope} {env : PySem.Env} : ∀ {ts : Tgs} {es : List Expr}, chkGs N fb sc ts es = true → (assignEach es env).length = es.length ∧ (assignEach es env).findIdx? (·.1) = none
  | .nil, [], _ => ⟨rfl, rfl⟩
  | .nil, _ :: _, h => by unfold chkGs at h; cases h
  | .cons _ _, [], h => by unfold chkGs at h; cases h
  | .cons t ts, e :: es, h => by
    unfold chkGs at h
    obtain ⟨h1, h2⟩ := Bool.and_eq_true_iff.mp h
    obtain ⟨l1, l2⟩ := assignEach_len (env := env) h2
    rcases chkG_plain h1 with ⟨x, p, rfl⟩ | ⟨es', k, p, rfl⟩
    · have e : assignEach (.Name x p :: es) env = (false, assign (.Name x p) env) :: assignEach es env := rfl
      rw [e]
      exact ⟨by simp [l1], by simp [List.findIdx?_cons, l2]⟩
    · have e : assignEach (.Tuple es' k p :: es) env = (false, assign (.Tuple es' k p) env) :: assignEach es env := rfl
      rw [e]
      exact ⟨by simp [l1], by simp [List.findIdx?_cons, l2]⟩
theorem bindTs_len : ∀ {ts : Tgs} {ds : List D} {ρ ρ' : Slots} {N : List Str} {fb : Str → Bool} {sc : Scope} {es : List Expr}, bindTs ts ds ρ = .ok ρ' → chkGs N fb sc ts es = true → ds.length = es.length
  | .nil, [], _, _, _, _, _, [], _, _ => rfl
  | .nil, [], _, _, _, _, _, _ :: _, _, h => by unfold chkGs at h; cases h
  | .nil, _ :: _, _, _, _, _, _, _, h, _ => by unfold bindTs at h; cases h
  | .cons _ _, [], _, _, _, _, _, _, h, _ => by unfold bindTs at h; cases h
  | .cons _ _, _ :: _, _, _, _, _, _, [], _, h => by unfold chkGs at h; cases h
  | .cons t ts, d :: ds, ρ, ρ', N, fb, sc, e :: es, h, g => by
    unfold bindTs at h
    unfold chkGs at g
    obtain ⟨g1, g2⟩ := Bool.and_eq_true_iff.mp g
    cases hb : bindT t d ρ with
    | ok ρ1 =>
      rw [hb] at h
      rw [List.length_cons, List.length_cons, bindTs_len (ρ := ρ1) h g2]
    | exc c => rw [hb] at h; cases h
    | err => rw [hb] at h; cases h
section
variable {X : Cx} {xa : Addr → Str → Prop} {fb : Str → Bool}
mutual
theorem pg_can (hc : X.calm = true) (hN : X.N.Nodup) (hf : ∀ x, fb x = true → X.fn x = true) : ∀ {t : Tg} {e : Expr}, chkG X.N fb X.env.scope t e = true → PG X e (canG X.K xa t)
  | .nm i, e, h => by
    cases e <;> first | (unfold chkG at h; cases h; done) | skip
    rename_i x p
    unfold chkG at h
    simp only [Bool.and_eq_true, Bool.or_eq_true, decide_eq_true_eq] at h
    obtain ⟨⟨h1, h2⟩, h3⟩ := h
    refine PG.of (pg_name hN h1 (locB_ok h2) (h3.imp (hf x) id)) fun v σ H Q q => ?_
    obtain ⟨M0, ρ, d, ρ', hr, hd, hb, q⟩ := q
    unfold bindT at hb
    split at hb
    · rename_i hi
      cases hb
      refine q _ (hr.setN hd hi) (by simp) (fun j hj => ?_) fun a => own_set fun d z => by cases z
      rw [List.getElem?_set_ne (fun e => hj (by unfold tgIx; simp [e]))]
    · cases hb
  | .tp ts, e, h => by
    cases e <;> first | (unfold chkG at h; cases h; done) | skip
    rename_i es k p
    unfold chkG at h
    obtain ⟨l1, l2⟩ := assignEach_len (env := X.env) h
    have hs := pgs_can hc hN hf (ts := ts) (es := es) h
    refine ⟨fun pins s σ H v u Q I r q => ?_⟩
    obtain ⟨M0, ρ, d, ρ', hr, hd, hb, q⟩ := q
    cases d with
    | tuple ds =>
      obtain ⟨a, vs, rfl, hq, hz, hl⟩ := RepB.tuple (b := false) hd
      refine (pg_tup hc hs l1 l2).run pins s σ H _ u Q I r ⟨a, vs, rfl, hq, ?_, M0, ρ, ds, ρ', hr, hl, hb, q⟩
      rw [hl.length]
      exact bindTs_len hb h
    | list ds =>
      obtain ⟨a, vs, rfl, hq, hz, hl⟩ := RepB.list (b := false) hd
      refine (pg_lst hc hs l1 l2).run pins s σ H _ u Q I r ⟨a, vs, rfl, sqL_of hq, ?_, M0, ρ, ds, ρ', hr, hl, hb, q⟩
      rw [hl.length]
      exact bindTs_len hb h
    | _ => unfold bindT at hb; cases hb
theorem pgs_can (hc : X.calm = true) (hN : X.N.Nodup) (hf : ∀ x, fb x = true → X.fn x = true) : ∀ {ts : Tgs} {es : List Expr}, chkGs X.N fb X.env.scope ts es = true → PGs X es (canGs X.K xa ts)
  | .nil, [], _ => PGs.of pgs_nil fun vs σ H Q q => by
    obtain ⟨M0, ρ, ds, ρ', hr, hd, hb, q⟩ := q
    cases hd with
    | nil =>
      unfold bindTs at hb
      cases hb
      exact ⟨rfl, q σ hr rfl (fun _ _ => rfl) fun _ h => h⟩
    | cons _ _ => unfold bindTs at hb; cases hb
  | .nil, _ :: _, h => by unfold chkGs at h; cases h
  | .cons _ _, [], h => by unfold chkGs at h; cases h
  | .cons t ts, e :: es, h => by
    unfold chkGs at h
    obtain ⟨h1, h2⟩ := Bool.and_eq_true_iff.mp h
    have p1 := pg_can hc hN hf (t := t) (e := e) h1
    have p2 := pgs_can hc hN hf (ts := ts) (es := es) h2
    have hs : (assignEach (e :: es) X.env).map (·.2) = assign e X.env :: (assignEach es X.env).map (·.2) := by
      rcases chkG_plain h1 with ⟨x, p, rfl⟩ | ⟨es', k, p, rfl⟩ <;> rfl
    refine PGs.of (pgs_cons p1 p2 hs) fun vs σ H Q q => ?_
    obtain ⟨M0, ρ, ds, ρ', hr, hd, hb, q⟩ := q
    cases hd with
    | nil => unfold bindTs at hb; cases hb
    | @cons v vs d ds hv hvs =>
      unfold bindTs at hb
      cases hb1 : bindT t d ρ with
      | ok ρ1 =>
        rw [hb1] at hb
        refine ⟨v, vs, rfl, M0, ρ, d, ρ1, hr, hv, hb1, fun σ1 r1 e1 k1 o1 => ⟨M0, ρ1, ds, ρ', r1, hvs.off fun a m => ?_, hb, fun σ2 r2 e2 k2 o2 => q σ2 r2 (e2.trans e1) (fun j hj => ?_) fun a m => o1 a (o2 a m)⟩⟩
        · rcases m with m | m
          · exact .inl (.inl m)
          · exact .inl (.inr (o1 a m))
        · unfold tgsIx at hj
          simp only [List.mem_append, not_or] at hj
          rw [k2 j hj.2, k1 j hj.1]
      | exc c => rw [hb1] at hb; cases hb
      | err => rw [hb1] at hb; cases hb
end
end
end Fp
set_option maxHeartbeats 1000000
namespace Fp
open PySem PySem.Spec PyProof.Rows L2
variable [TB]
/-! ### the checker of expressions -/
def Es.len : Es → Nat
  | .nil => 0
  | .cons _ es => es.len + 1
def nmB (N : List Str) (sc : Scope) (i : Nat) (x : Str) : Bool := decide (N[i]? = some x) && visB sc x && !(x == ("__debug__" : Str)) && !(x == ("__classdict__" : Str))
def dbB (x : Str) : Bool := !(x == ("__debug__" : Str))
def glbD (cs : List (Str × D)) (x : Str) (d : D) : Bool := cs.any fun p => decide (p.1 = x) && (match p.2, d with
  | .int i, .int j => decide (i = j)
  | .str a, .str b => decide (a = b)
  | _, _ => false)
def isUnit : D → Bool
  | .tuple [] => true
  | _ => false
def Bf.nm : Bf → String
  | .len => "len" | .all => "all" | .any => "any" | .sum => "sum" | .sorted => "sorted" | .min => "min" | .max => "max" | .tuple => "tuple" | .list => "list" | .dict => "dict" | .str => "str" | .int => "int"
def Mf.nm : Mf → String
  | .index => "index" | .indexT => "index" | .count => "count" | .join => "join" | .split => "split" | .get => "get"
def bfOk : Bf → Bool
  | .len => true | .all => true | .any => true | .sum => true | .sorted => true | .tuple => true | .list => true | _ => false
def bf2Ok : Bf → Bool
  | .min => true | .max => true | _ => false
def mfOk : Mf → Bool
  | .index => true | .count => true | _ => false
def calmBf : Bf → Bool
  | .len => false
  | _ => true
def ownP (N : List Str) (own : List Nat) : List (Str × Nat) := own.map fun i => (N.getD i "", i)
/-- no call without arguments stands ahead of a dot -/
def baseX : Expr → Bool
  | .Call _ [] _ _ => false
  | _ => true
def tstX : Expr → Bool
  | .IfExp _ _ _ _ => false
  | _ => true
def notLc : Expr → Bool
  | .ListComp _ _ _ _ => false
  | .SetComp _ _ _ _ => false
  | .DictComp _ _ _ _ _ => false
  | _ => true
/-- no parameters -/
def noPs (a : Arguments) : Bool := a.posonlyargs.isEmpty && a.args.isEmpty && a.vararg.isNone && a.kwonlyargs.isEmpty && a.kw_defaults.isEmpty && a.kwarg.isNone && a.defaults.isEmpty
/-- names of defs -/
def chkF (p : Pg) (sc : Scope) : List Str → List Expr → Bool
  | [], [] => true
  | f :: fs, .Name x _ :: l => decide (f = x) && decide (f ∈ p.fs) && glB sc x && dbB x && chkF p sc fs l
  | _, _ => false
mutual
def chkE (N : List Str) (p : Pg) (cm : Bool) (sc : Scope) : E → Expr → Bool
  | .var i, e => match e with
    | .Name x _ => nmB N sc i x
    | _ => false
  | .own i, e => match e with
    | .Name x _ => nmB N sc i x
    | _ => false
  | .cst d, e => match e with
    | .Constant (.int j) _ _ => (match d with
      | .int i => decide (i = j)
      | _ => false)
    | .Constant (.str b) _ _ => (match d with
      | .str a => decide (a = b) && decide (a.length ≤ 100000)
      | _ => false)
    | .Constant (.bool b) _ _ => (match d with
      | .bool a => decide (a = b)
      | _ => false)
    | .Constant .none _ _ => (match d with
      | .none => true
      | _ => false)
    | _ => false
  | .glb d, e => match e with
    | .Name x _ => glB sc x && dbB x && (glbD p.cs x d || (decide (x ∈ p.ts) && isUnit d))
    | _ => false
  | .tup es, e => match e with
    | .Tuple l _ _ => chkEs N p cm sc es l && decide (es.len ≤ 1000)
    | _ => false
  | .lst es, e => match e with
    | .List l _ => chkEs N p cm sc es l && decide (es.len ≤ 1000)
    | _ => false
  | .bin op a b, e => match e with
    | .BinOp x o y _ => decide (op = o) && chkE N p cm sc a x && chkE N p cm sc b y
    | _ => false
  | .neg a, e => match e with
    | .UnaryOp .USub x _ => chkE N p cm sc a x
    | _ => false
  | .cmp op a b, e => match e with
    | .Compare x [o] [y] _ => decide (op = o) && plainX y && chkE N p cm sc a x && chkE N p cm sc b y
    | _ => false
  | .chn op op' a b c, e => match e with
    | .Compare x [o, o'] [y, z] _ => decide (op = o) && decide (op' = o') && plainX y && plainX z && chkE N p cm sc a x && chkE N p cm sc b y && chkE N p cm sc c z
    | _ => false
  | .bop op es, e => match e with
    | .BoolOp o l _ => decide (op = o) && chkB N p cm sc es l
    | _ => false
  | .not a, e => match e with
    | .UnaryOp .Not x _ => tstX x && !brw a && chkE N p cm sc a x
    | _ => false
  | .ite t a b, e => match e with
    | .IfExp x y z _ => tstX x && !brw t && !brw a && !brw b && chkE N p cm sc t x && chkE N p cm sc a y && chkE N p cm sc b z
    | _ => false
  | .idx a b, e => match e with
    | .Subscript x y _ => plainX y && chkE N p cm sc a x && chkE N p cm sc b y
    | _ => false
  | .slc a lo hi, e => match e with
    | .Subscript x (.Slice l h none _) _ => chkE N p cm sc a x && chkO N p cm sc lo l && chkO N p cm sc hi h
    | _ => false
  | .rev a, e => match e with
    | .Subscript x (.Slice none none (some (.UnaryOp .USub (.Constant (.int j) _ _) _)) _) _ => decide (j = 1) && chkE N p cm sc a x
    | _ => false
  | .call f es, e => match e with
    | .Call (.Name x _) l [] _ => cm && decide (f = x) && decide (f ∈ p.fs) && glB sc x && dbB x && decide (0 < l.length) && l.all plainX && chkEs N p cm sc es l
    | _ => false
  | .sel fs i es, e => match e with
    | .Call (.Subscript (.List l _) y _) as [] _ => cm && plainX y && decide (fs.length ≤ 1000) && chkF p sc fs l && decide (0 < as.length) && as.all plainX && chkE N p cm sc i y && chkEs N p cm sc es as
    | _ => false
  | .nay, e => notLc e
  | .told f b, e => match e with
    | .Call (.Name x _) [.Lambda ps y scope _] [] _ => cm && p.lm && decide (f = x) && decide (f ∈ p.tl) && glB sc x && dbB x && noPs ps && LamX.lamSB sc scope && !brw b && chkE N { p with lm := false } true scope b y
    | _ => false
  | .dix a b, e => match e with
    | .Subscript (.Call (.Name x _) [y] [] _) z _ => cm && decide (x = Str.ofString "dict") && glB sc x && plainX y && plainX z && chkE N p cm sc a y && chkE N p cm sc b z
    | _ => false
  | .dcz a b, e => match e with
    | .Call (.Name x _) [.Call (.Name z _) [y1, y2] [] _] [] _ => cm && decide (x = Str.ofString "dict") && glB sc x && decide (z = Str.ofString "zip") && glB sc z && plainX y1 && plainX y2 && chkE N p cm sc a y1 && chkE N p cm sc b y2
    | _ => false
  | .dct a, e => match e with
    | .Call (.Name x _) [y] [] _ => cm && decide (x = Str.ofString "dict") && glB sc x && plainX y && chkE N p cm sc a y
    | _ => false
  | .blt f a, e => match e with
    | .Call (.Name x _) [y] [] _ => bfOk f && (cm || !calmBf f) && decide (x = Str.ofString f.nm) && glB sc x && plainX y && chkE N p cm sc a y
    | _ => false
  | .blt2 f a b, e => match e with
    | .Call (.Name x _) [y, z] [] _ => bf2Ok f && cm && decide (x = Str.ofString f.nm) && glB sc x && plainX y && plainX z && chkE N p cm sc a y && chkE N p cm sc b z
    | _ => false
  | .isi a t, e => match e with
    | .Call (.Name x _) [y, .Name z _] [] _ => decide (x = "isinstance") && glB sc x && plainX y && decide (z = Str.ofString t.name) && glB sc z && chkE N p cm sc a y
    | _ => false
  | .isx i t, e => match e with
    | .Call (.Name x _) [.Name y _, .Name z _] [] _ => decide (x = "isinstance") && glB sc x && nmB N sc i y && decide (t = z) && glB sc z && dbB z && (decide (t ∈ p.xs) || decide (t = "ValueError"))
    | _ => false
  | .mth m o a, e => match e with
    | .Call (.Attribute x n p1) [y] [] q => mfOk m && decide (n = Str.ofString m.nm) && decide (p1.endLine = q.line) && baseX x && plainX y && chkE N p cm sc o x && chkE N p cm sc a y
    | _ => false
  | .lc own elt tg it cnd, e => match e with
    | .ListComp x [⟨t, i, fs, as⟩] scope _ => cm && decide (as = 0) && blkC N sc scope (ownP N own) && (tgIx tg).all (fun j => own.contains j) && plainX i && !brw elt
      && chkG N (fun y => scope.names.lookup y == some .cell) (relS scope sc) tg t && chkI N p cm true sc it t i && chkC N p cm (relS scope sc) cnd fs && chkE N p cm (relS scope sc) elt x
    | _ => false
  | .lc2 own elt tg it tg2 it2 cnd, e => match e with
    | .ListComp x [⟨t, i, [], as⟩, ⟨t2, i2, fs, as2⟩] scope _ => cm && decide (as = 0) && decide (as2 = 0) && blkC N sc scope (ownP N own) && (tgIx tg).all (fun j => own.contains j) && (tgIx tg2).all (fun j => own.contains j)
      && plainX i && plainX i2 && !brw elt && chkG N (fun y => scope.names.lookup y == some .cell) (relS scope sc) tg t && chkG N (fun y => scope.names.lookup y == some .cell) (relS scope sc) tg2 t2
      && chkI N p cm true sc it t i && chkI N p cm false (relS scope sc) it2 t2 i2 && chkC N p cm (relS scope sc) cnd fs && chkE N p cm (relS scope sc) elt x
    | _ => false
def chkEs (N : List Str) (p : Pg) (cm : Bool) (sc : Scope) : Es → List Expr → Bool
  | .nil, l => match l with
    | [] => true
    | _ => false
  | .cons c es, l => match l with
    | e :: l => plainX e && !brw c && chkE N p cm sc c e && chkEs N p cm sc es l
    | _ => false
def chkB (N : List Str) (p : Pg) (cm : Bool) (sc : Scope) : Es → List Expr → Bool
  | .nil, _ => false
  | .cons c es, l => match l with
    | [] => false
    | e :: l => tstX e && !brw c && chkE N p cm sc c e && (match l with
      | [] => decide (es.len = 0)
      | _ => chkB N p cm sc es l)
def chkO (N : List Str) (p : Pg) (cm : Bool) (sc : Scope) : Eo → Option Expr → Bool
  | .no, o => o.isNone
  | .so c, o => match o with
    | some e => chkE N p cm sc c e
    | none => false
def chkC (N : List Str) (p : Pg) (cm : Bool) (sc : Scope) : Eo → List Expr → Bool
  | .no, l => l.isEmpty
  | .so c, l => match l with
    | [e] => tstX e && !brw c && chkE N p cm sc c e
    | _ => false
def chkI (N : List Str) (p : Pg) (cm : Bool) (cp : Bool) (sc : Scope) : It → Expr → Expr → Bool
  | .seq c, _, e => (cp || !brw c) && chkE N p cm sc c e
  | .rng a, _, e => match e with
    | .Call (.Name x _) [y] [] _ => decide (x = "range") && glB sc x && plainX y && chkE N p cm sc a y
    | _ => false
  | .rng2 a b, _, e => match e with
    | .Call (.Name x _) [y, z] [] _ => decide (x = "range") && glB sc x && plainX y && plainX z && chkE N p cm sc a y && chkE N p cm sc b z
    | _ => false
  | .zip a b, t, e => match t, e with
    | .Tuple _ _ _, .Call (.Name x _) [y, z] [] _ => decide (x = "zip") && glB sc x && plainX y && plainX z && (cp || !brw a) && (cp || !brw b) && chkE N p cm sc a y && chkE N p cm sc b z
    | _, _ => false
  | .zip3 a b c, t, e => match t, e with
    | .Tuple _ _ _, .Call (.Name x _) [y, z, w] [] _ => decide (x = "zip") && glB sc x && plainX y && plainX z && plainX w && (cp || !brw a) && (cp || !brw b) && (cp || !brw c) && chkE N p cm sc a y && chkE N p cm sc b z && chkE N p cm sc c w
    | _, _ => false
  | .enm a, t, e => match t, e with
    | .Tuple _ _ _, .Call (.Name x _) [y] [] _ => decide (x = "enumerate") && glB sc x && plainX y && (cp || !brw a) && chkE N p cm sc a y
    | _, _ => false
end
/-! ### readings -/
def canF (K : PySem.W.Frag) (xa : Addr → Str → Prop) (W : WX) (G : Str → List D → Res D) (c : E) : TE := fun σ H Q => ∃ M0 ρ, RelS K xa M0 ρ σ H ∧ PostR K W σ (fun d H' => ∀ v, Rep K (Mx M0 ρ σ) H' v d → Nu K (Mx M0 ρ σ) H H' v d → Q v H') H (ev G c ρ)
theorem PE.weak {X : Cx} {e : Expr} {K : PySem.W.Frag} {xa : Addr → Str → Prop} {W : WX} {G : Str → List D → Res D} {c : E} (hb : brw c = false) (h : PE X e (canF K xa W G c)) : PE X e (canE K xa W G c) :=
  PE.of h fun σ H Q q => by
    obtain ⟨M0, ρ, hr, hp⟩ := q
    refine ⟨M0, ρ, hr, hp.imp fun d H' s k v r _ => k v ?_⟩
    rw [hb]
    exact r
def canO (K : PySem.W.Frag) (xa : Addr → Str → Prop) (W : WX) (G : Str → List D → Res D) (c : Eo) : TO := fun σ H Q => ∃ M0 ρ, RelS K xa M0 ρ σ H ∧ PostR K W σ (fun o H' => Q o H') H (evo G c ρ >>= partD)
def canC (K : PySem.W.Frag) (xa : Addr → Str → Prop) (W : WX) (G : Str → List D → Res D) (c : Eo) : TT := fun σ H Q => ∃ M0 ρ, RelS K xa M0 ρ σ H ∧ PostR K W σ (fun o H' => Q o H') H (evc G c ρ)
def canB (K : PySem.W.Frag) (xa : Addr → Str → Prop) (W : WX) (G : Str → List D → Res D) (op : BoolOp) (cs : Es) : TE := fun σ H Q => ∃ M0 ρ, RelS K xa M0 ρ σ H ∧ PostR K W σ (fun d H' => ∀ v, Rep K (Mx M0 ρ σ) H' v d → Q v H') H (evb G op cs ρ)
def canBT (K : PySem.W.Frag) (xa : Addr → Str → Prop) (W : WX) (G : Str → List D → Res D) (op : BoolOp) (cs : Es) : TT := fun σ H Q => ∃ M0 ρ, RelS K xa M0 ρ σ H ∧ PostR K W σ (fun b H' => Q b H') H (evb G op cs ρ >>= asBool)
def canI (K : PySem.W.Frag) (xa : Addr → Str → Prop) (W : WX) (G : Str → List D → Res D) (cp : Bool) (c : It) : TI := fun σ H R => ∃ M0 ρ, RelS K xa M0 ρ σ H ∧ PostR K W σ (fun ds H' => ds.length ≤ sizeLine → ∀ J, WalkD K (Mx M0 ρ σ) H' (stays cp (Mx M0 ρ σ) H') J ds → R J H') H (evi G c ρ)
theorem PI.of {X : Cx} {tg e : Expr} {t t' : TI} (h : PI X tg e t) (f : ∀ σ H R, t' σ H R → t σ H R) : PI X tg e t' := ⟨fun pins s σ H R I q => h.run pins s σ H R I (f σ H R q)⟩
theorem PO.of {X : Cx} {e : Option Expr} {t t' : TO} (h : PO X e t) (f : ∀ σ H R, t' σ H R → t σ H R) : PO X e t' := ⟨fun pins s σ H R I q => h.run pins s σ H R I (f σ H R q)⟩
theorem PTs.of {X : Cx} {e : List Expr} {t t' : TT} (h : PTs X e t) (f : ∀ σ H R, t' σ H R → t σ H R) : PTs X e t' := ⟨fun pins s σ H R I q => h.run pins s σ H R I (f σ H R q)⟩
theorem PW.of {X : Cx} {e : Expr} {t t' : TT} (h : PW X e t) (f : ∀ σ H R, t' σ H R → t σ H R) : PW X e t' := ⟨fun wh pins s σ H R I q => h.run wh pins s σ H R I (f σ H R q)⟩
/-! ### the look of expressions -/
theorem star_cons {e : Expr} {es : List Expr} {env : PySem.Env} (h : plainX e = true) : starEach (e :: es) env = (false, eval e env) :: starEach es env := by
  cases e <;> first | rfl | cases h
theorem star_any {env : PySem.Env} {pos : Pos} : ∀ {es : List Expr}, es.all plainX = true → (backTo pos (starEach es env)).any (·.1) = false
  | [], _ => rfl
  | e :: es, h => by
    simp only [List.all_cons, Bool.and_eq_true] at h
    rw [star_cons h.1]
    show (false || (backTo pos (starEach es env)).any (·.1)) = false
    rw [star_any h.2]
    rfl
theorem star_all {env : PySem.Env} {pos : Pos} : ∀ {es : List Expr}, es.all plainX = true → (backTo pos (starEach es env)).all (fun x => !x.1) = true
  | [], _ => rfl
  | e :: es, h => by
    simp only [List.all_cons, Bool.and_eq_true] at h
    rw [star_cons h.1]
    show (true && (backTo pos (starEach es env)).all (fun x => !x.1)) = true
    rw [star_all h.2]
    rfl
theorem plain_ix {b : Expr} (h : plainX b = true) : PlainIx b := by
  intro o i
  cases b <;> first | rfl | cases h
theorem plain_fold {b : Expr} {env : PySem.Env} (h : plainX b = true) : ∀ x, foldedSetIterable b env x = pure x := by
  intro x
  cases b <;> first | rfl | cases h
theorem plain_mark {b : Expr} {op : CmpOp} (h : plainX b = true) : behindInMarks op b = false := by
  cases b <;> first | rfl | cases h
theorem base_ok {o : Expr} {n : Str} {env : PySem.Env} (h : baseX o = true) : attributeBase o n env (eval o env) = eval o env := by
  cases o <;> first | rfl | skip
  rename_i f args kws pos
  cases f <;> first | rfl | skip
  cases args <;> first | rfl | cases h
theorem plain_test {e : Expr} {env : PySem.Env} (h1 : ∀ op l p, e ≠ .BoolOp op l p) (h2 : ∀ x p, e ≠ .UnaryOp .Not x p) (h3 : ∀ a b c p, e ≠ .IfExp a b c p) (h4 : ∀ a b c p, e ≠ .Compare a b c p) :
    ∀ whole, isTrue e env whole = (do let v ← whole; standAt e.pos; holding [v] (truthy v)) := by
  intro whole
  cases e <;> first | rfl | (exact absurd rfl (h1 _ _ _)) | (exact absurd rfl (h3 _ _ _ _)) | (exact absurd rfl (h4 _ _ _ _)) | skip
  rename_i op x p
  cases op <;> first | rfl | exact absurd rfl (h2 _ _)
end Fp
set_option maxHeartbeats 1000000
namespace Fp
open PySem PySem.Spec PyProof.Rows L2
variable [TB]
/-! ### what never raises -/
theorem must_ne {α : Type} {o : Option α} {c : Str} : must o ≠ .exc c := by cases o <;> (intro z; cases z)
theorem eqD_ne {x y : D} {c : Str} : eqD x y ≠ .exc c := by unfold eqD; split <;> (intro z; cases z)
theorem bind_ne {α β : Type} {r : Res α} {f : α → Res β} {c : Str} (h : ∀ c, r ≠ .exc c) (hf : ∀ a c, f a ≠ .exc c) : (r >>= f) ≠ .exc c := by
  cases r with
  | ok a => exact hf a c
  | exc e => exact absurd rfl (h e)
  | err => intro z; cases z
theorem binD_ne {op : Operator} {x y : D} {c : Str} : binD op x y ≠ .exc c := by
  unfold binD
  split <;> first | (intro z; cases z; done) | (split <;> (intro z; cases z))
theorem inD_ne {x y : D} {c : Str} : inD x y ≠ .exc c := by
  unfold inD
  split
  · split <;> (intro z; cases z)
  · split <;> (intro z; cases z)
  · split
    · split <;> (intro z; cases z)
    · intro z; cases z
  · split <;> (intro z; cases z)
  · intro z; cases z
theorem isD_ne {x y : D} {c : Str} : isD x y ≠ .exc c := by
  unfold isD
  split <;> (intro z; cases z)
theorem cmpD_ne {op : CmpOp} {x y : D} {c : Str} : cmpD op x y ≠ .exc c := by
  unfold cmpD
  split <;> first | exact eqD_ne | exact inD_ne | exact isD_ne | exact bind_ne (fun _ => eqD_ne) (fun _ _ z => by cases z) | exact bind_ne (fun _ => inD_ne) (fun _ _ z => by cases z) | exact bind_ne (fun _ => isD_ne) (fun _ _ z => by cases z) | (intro z; cases z)
theorem idxD_ne {x y : D} {c : Str} : idxD x y ≠ .exc c := by unfold idxD; split <;> first | exact must_ne | (intro z; cases z; done) | (split <;> first | exact must_ne | (intro z; cases z))
theorem slcD_ne {x : D} {l h : Option Int} {c : Str} : slcD x l h ≠ .exc c := by unfold slcD; split <;> (intro z; cases z)
theorem revD_ne {x : D} {c : Str} : revD x ≠ .exc c := by unfold revD; split <;> (intro z; cases z)
theorem bltD_ne {f : Bf} {x : D} {c : Str} : bltD f x ≠ .exc c := by unfold bltD; split <;> first | exact must_ne | (intro z; cases z; done) | (split <;> (intro z; cases z))
theorem blt2D_ne {f : Bf} {x y : D} {c : Str} : blt2D f x y ≠ .exc c := by unfold blt2D; split <;> (intro z; cases z)
theorem findD_ne {xs : List D} {y : D} {c : Str} : findD xs y ≠ .exc c := by unfold findD; split <;> first | exact must_ne | (intro z; cases z)
theorem countD_ne {xs : List D} {y : D} {c : Str} : countD xs y ≠ .exc c := by unfold countD; split <;> (intro z; cases z)
theorem mthD_ne {m : Mf} {x y : D} {c : Str} : mthD m x y ≠ .exc c := by unfold mthD; split <;> first | exact findD_ne | exact countD_ne | (intro z; cases z)
theorem asBool_ne {x : D} {c : Str} : asBool x ≠ .exc c := by unfold asBool; split <;> (intro z; cases z)
theorem partD_ne {x : Option D} {c : Str} : partD x ≠ .exc c := by unfold partD; split <;> (intro z; cases z)
theorem itemsD_ne {x : D} {c : Str} : itemsD x ≠ .exc c := by unfold itemsD; split <;> (intro z; cases z)
theorem seqD_ne {x : D} {c : Str} : seqD x ≠ .exc c := by unfold seqD; split <;> (intro z; cases z)
theorem dictD_ne {x : D} {c : Str} : dictD x ≠ .exc c := by unfold dictD; exact bind_ne (fun _ => seqD_ne) fun _ _ => must_ne
theorem dictZ_ne {x y : D} {c : Str} : dictZ x y ≠ .exc c := by unfold dictZ; exact bind_ne (fun _ => seqD_ne) fun _ _ => bind_ne (fun _ => seqD_ne) fun _ _ => must_ne
theorem dictN_ne {x : D} {c : Str} : dictN x ≠ .exc c := by
  unfold dictN
  exact bind_ne (fun _ => seqD_ne) fun _ _ => bind_ne (fun _ => must_ne) fun _ _ => by split <;> (intro z; cases z)
theorem idxN_ne {ps : List (NestedKey × D)} {x : D} {c : Str} : idxN ps x ≠ .exc c := by
  unfold idxN
  exact bind_ne (fun _ => must_ne) fun _ _ => must_ne
theorem rangeD_ne {x y : Int} {c : Str} : rangeD x y ≠ .exc c := by unfold rangeD; split <;> (intro z; cases z)
theorem tame_ne {α : Type} {r : Res α} {c : Str} : r.tame ≠ .exc c := by cases r <;> (intro z; cases z)
theorem slotD_ne {ρ : Slots} {i : Nat} {c : Str} : slotD ρ i ≠ .exc c := by unfold slotD; split <;> (intro z; cases z)
theorem slotO_ne {ρ : Slots} {i : Nat} {c : Str} : slotO ρ i ≠ .exc c := by unfold slotO; split <;> (intro z; cases z)
theorem isxD_ne {ρ : Slots} {i : Nat} {t c : Str} : isxD ρ i t ≠ .exc c := by unfold isxD; split <;> (intro z; cases z)
theorem lcGo_ne {tg : Tg} {ρ : Slots} {cnd : Slots → Res Bool} {elt : Slots → Res D} {c : Str} : ∀ {xs : List D}, lcGo tg ρ cnd elt xs ≠ .exc c
  | [] => by intro z; cases z
  | x :: xs => by
    unfold lcGo
    refine bind_ne (fun _ => tame_ne) fun a c => bind_ne (fun _ => tame_ne) fun b c => ?_
    cases b with
    | true => exact bind_ne (fun _ => tame_ne) fun y c => bind_ne (fun _ => lcGo_ne) fun ys c z => by cases z
    | false => exact lcGo_ne
theorem lc2Go_ne {tg : Tg} {ρ : Slots} {inner : Slots → Res (List D)} {c : Str} (h : ∀ ρ c, inner ρ ≠ .exc c) : ∀ {xs : List D}, lc2Go tg ρ inner xs ≠ .exc c
  | [] => by intro z; cases z
  | x :: xs => by
    unfold lc2Go
    exact bind_ne (fun _ => tame_ne) fun a c => bind_ne (fun _ => h _ _) fun ys c => bind_ne (fun _ => lc2Go_ne h) fun zs c z => by cases z
theorem PostR.out {K : PySem.W.Frag} {W : WX} {σ : L2.St} {α : Type} {k : α → Hp → Prop} {H : Hp} {r : Res α} (h : PostR K W σ k H r) (hn : ∀ c, r ≠ .exc c) : ∃ a, r = .ok a ∧ ∀ H', Same H H' → k a H' := by
  cases r with
  | ok a => exact ⟨a, rfl, h⟩
  | exc c => exact absurd rfl (hn c)
  | err => exact h.elim
theorem tame_some {α : Type} {r : Res α} {β : Type} {f : α → Res β} {b : β} (h : (r.tame >>= f) = .ok b) : ∃ a, r = .ok a ∧ f a = .ok b := by
  cases r with
  | ok a => exact ⟨a, rfl, h⟩
  | exc c => cases h
  | err => cases h
theorem bind_some {α β : Type} {r : Res α} {f : α → Res β} {b : β} (h : (r >>= f) = .ok b) : ∃ a, r = .ok a ∧ f a = .ok b := by
  cases r with
  | ok a => exact ⟨a, rfl, h⟩
  | exc c => cases h
  | err => cases h
section
variable {X : Cx} {xa : Addr → Str → Prop} {W : WX} {p : Pg} {cm : Bool} {k : Nat} {a b e : Expr} {ca cb cc : E} {pos : Pos}
/-- one part, then what is done with it -/
theorem can1 {M0 : Addr → Prop} {ρ : Slots} {σ : L2.St} {H : Hp} {β : Type} {f : D → Res β} {kk : β → Hp → Prop} {G : Str → List D → Res D} {R : V → Hp → Prop} (hr : RelS X.K xa M0 ρ σ H) (hp : PostR X.K W σ kk H (ev G ca ρ >>= f))
    (hf : ∀ x H1 v, Same H H1 → RelS X.K xa M0 ρ σ H1 → RepB (brw ca) X.K (Mx M0 ρ σ) H1 v x → PostR X.K W σ kk H1 (f x) → R v H1) : canE X.K xa W G ca σ H R :=
  ⟨M0, ρ, hr, (PostR.bind hp).imp fun x H1 s1 hp1 v rv => hf x H1 v s1 (hr.mono s1) rv hp1⟩
theorem ce_bin {op : Operator} (ha : PE X a (canE X.K xa W p.G ca)) (hb : PE X b (canE X.K xa W p.G cb)) : PE X (.BinOp a op b pos) (canF X.K xa W p.G (.bin op ca cb)) :=
  PE.of (pe_op (op_bin op) ha hb) fun σ H Q q => by
    obtain ⟨M0, ρ, hr, hp⟩ := q
    refine can1 hr hp fun x H1 v s1 r1 rv hp1 => can1 r1 hp1 fun y H2 u s2 r2 ru hp2 => ?_
    obtain ⟨d, e, q⟩ := hp2.out fun _ => binD_ne
    exact ⟨Mx M0 ρ σ, _, _, x, y, d, r2.okM, rv.mono s2, ru, e, fun w H' s' rw' nu => q H' s' w rw' (nu.back (s1.trans s2))⟩
theorem ce_neg (ha : PE X a (canE X.K xa W p.G ca)) : PE X (.UnaryOp .USub a pos) (canE X.K xa W p.G (.neg ca)) :=
  PE.of (pe_un un_neg ha) fun σ H Q q => by
    obtain ⟨M0, ρ, hr, hp⟩ := q
    refine can1 hr hp fun x H1 v s1 r1 rv hp1 => ?_
    cases x with
    | int i => exact ⟨i, rv.int, hp1.ok _ (Rep.int _)⟩
    | _ => exact hp1.elim
theorem cmp_rd {op : CmpOp} (ha : PE X a (canE X.K xa W p.G ca)) (hb : PE X b (canE X.K xa W p.G cb)) {σ : L2.St} {H : Hp} {Q : VK} (q : canE X.K xa W p.G (.cmp op ca cb) σ H Q) : tOp (rCmp X.K op) (canE X.K xa W p.G ca) (canE X.K xa W p.G cb) σ H Q := by
  obtain ⟨M0, ρ, hr, hp⟩ := q
  refine can1 hr hp fun x H1 v s1 r1 rv hp1 => can1 r1 hp1 fun y H2 u s2 r2 ru hp2 => ?_
  obtain ⟨r, e, q⟩ := (PostR.bind hp2).out fun _ => cmpD_ne
  exact ⟨Mx M0 ρ σ, _, _, x, y, r, rv.mono s2, ru, e, (q H2 (Same.refl _)).ok _ (.bl _)⟩
theorem ce_cmp {op : CmpOp} (hu : X.A.units + 65 < cLine) (hm : plainX b = true) (ha : PE X a (canE X.K xa W p.G ca)) (hb : PE X b (canE X.K xa W p.G cb)) : PE X (.Compare a [op] [b] pos) (canE X.K xa W p.G (.cmp op ca cb)) :=
  PE.of (pe_cmpR (op_cmp op hu) ha hb (plain_mark hm)) fun σ H Q q => cmp_rd ha hb q
theorem ct_cmp {op : CmpOp} (hu : X.A.units + 65 < cLine) (hm : plainX b = true) (ha : PE X a (canE X.K xa W p.G ca)) (hb : PE X b (canE X.K xa W p.G cb)) : PT X (.Compare a [op] [b] pos) (canT X.K xa W p.G (.cmp op ca cb)) :=
  PT.of (pt_cmpR (op_cmp op hu) ha hb (plain_mark hm)) fun σ H Q q => cmp_rd ha hb (by
    obtain ⟨M0, ρ, hr, hp⟩ := q
    refine ⟨M0, ρ, hr, (PostR.bind hp).imp fun d H' s hp1 v rv => ?_⟩
    cases d with
    | bool c => exact ⟨c, RepB.bool rv, hp1.ok⟩
    | _ => exact hp1.elim)
theorem chn_rd {c : Expr} {o o' : CmpOp} (ha : PE X a (canE X.K xa W p.G ca)) (hb : PE X b (canE X.K xa W p.G cb)) (hc : PE X c (canE X.K xa W p.G cc)) {σ : L2.St} {H : Hp} {Q : VK} (q : canE X.K xa W p.G (.chn o o' ca cb cc) σ H Q) :
    tChain (rCmp X.K o) (rCmp X.K o') (canE X.K xa W p.G ca) (canE X.K xa W p.G cb) (canE X.K xa W p.G cc) σ H Q := by
  obtain ⟨M0, ρ, hr, hp⟩ := q
  refine can1 hr hp fun x H1 v s1 r1 rv hp1 => can1 r1 hp1 fun y H2 u s2 r2 ru hp2 => ?_
  obtain ⟨r, e, q⟩ := (PostR.bind hp2).out fun _ => cmpD_ne
  refine ⟨Mx M0 ρ σ, _, _, x, y, r, rv.mono s2, ru, e, r, rfl, ?_⟩
  have q2 := q H2 (Same.refl _)
  cases r with
  | true =>
    rw [if_pos rfl]
    refine can1 r2 q2 fun z H3 w s3 r3 rw' hp3 => ?_
    obtain ⟨t, e3, q3⟩ := (PostR.bind hp3).out fun _ => cmpD_ne
    exact ⟨Mx M0 ρ σ, _, _, y, z, t, ru.mono s3, rw', e3, (q3 H3 (Same.refl _)).ok _ (.bl _)⟩
  | false => exact (show Q (.bl false) H2 from q2.ok _ (.bl _))
end
end Fp
set_option maxHeartbeats 1000000
namespace Fp
open PySem PySem.Spec PyProof.Rows L2
variable [TB]
section
variable {X : Cx} {xa : Addr → Str → Prop} {W : WX} {p : Pg} {cm : Bool} {k : Nat} {a b e : Expr} {ca cb cc : E} {pos : Pos}
theorem marks2 {o o' : CmpOp} {b c : Expr} (h : plainX c = true) : lastMarks [o, o'] [b, c] = false := plain_mark h
theorem ce_chn {c : Expr} {o o' : CmpOp} (hu : X.A.units + 65 < cLine) (hm : plainX c = true) (ha : PE X a (canE X.K xa W p.G ca)) (hb : PE X b (canE X.K xa W p.G cb)) (hc : PE X c (canE X.K xa W p.G cc)) : PE X (.Compare a [o, o'] [b, c] pos) (canE X.K xa W p.G (.chn o o' ca cb cc)) :=
  PE.of (pe_chain (op_cmp o hu) (op_cmp o' hu) ha hb hc (marks2 hm)) fun σ H Q q => chn_rd ha hb hc q
/-- what is asked of a value as a test -/
theorem tst_rd {c : E} (hb : brw c = false) {σ : L2.St} {H : Hp} {Q : Bool → Hp → Prop} (q : canT X.K xa W p.G c σ H Q) : canE X.K xa W p.G c σ H fun v H' => ∃ k, v = .bl k ∧ Q k H' := by
  obtain ⟨M0, ρ, hr, hp⟩ := q
  refine ⟨M0, ρ, hr, (PostR.bind hp).imp fun d H' s hp1 v rv => ?_⟩
  rw [hb] at rv
  cases d with
  | bool c => exact ⟨c, RepB.bool rv, hp1.ok⟩
  | _ => exact hp1.elim
theorem ct_chn {c : Expr} {o o' : CmpOp} (hu : X.A.units + 65 < cLine) (hm : plainX c = true) (ha : PE X a (canE X.K xa W p.G ca)) (hb : PE X b (canE X.K xa W p.G cb)) (hc : PE X c (canE X.K xa W p.G cc)) : PT X (.Compare a [o, o'] [b, c] pos) (canT X.K xa W p.G (.chn o o' ca cb cc)) :=
  PT.of (pt_chain (op_cmp o hu) (op_cmp o' hu) ha hb hc (marks2 hm)) fun σ H Q q => chn_rd ha hb hc (tst_rd rfl q)
theorem ct_val {c : E} (hb : brw c = false) (h : PE X e (canE X.K xa W p.G c)) (he : ∀ whole, isTrue e X.env whole = (do let v ← whole; standAt e.pos; holding [v] (truthy v))) : PT X e (canT X.K xa W p.G c) :=
  PT.of (pt_val h he) fun σ H Q q => tst_rd hb q
theorem ce_not (ha : PE X a (canE X.K xa W p.G ca)) (hb : brw ca = false) : PE X (.UnaryOp .Not a pos) (canE X.K xa W p.G (.not ca)) :=
  PE.of (pe_not ha) fun σ H Q q => by
    obtain ⟨M0, ρ, hr, hp⟩ := q
    refine can1 hr hp fun x H1 v s1 r1 rv hp1 => ?_
    rw [hb] at rv
    cases x with
    | bool c => exact ⟨c, RepB.bool rv, hp1.ok _ (Rep.bl _)⟩
    | _ => exact hp1.elim
theorem ct_not (ha : PT X a (canT X.K xa W p.G ca)) : PT X (.UnaryOp .Not a pos) (canT X.K xa W p.G (.not ca)) :=
  PT.of (pt_not ha) fun σ H Q q => by
    obtain ⟨M0, ρ, hr, hp⟩ := q
    refine ⟨M0, ρ, hr, ?_⟩
    show PostR _ _ _ _ _ (ev p.G ca ρ >>= asBool)
    have e : (ev p.G (.not ca) ρ >>= asBool) = ((ev p.G ca ρ >>= asBool) >>= fun b => Res.ok (!b)) := by
      show ((ev p.G ca ρ >>= fun x => asBool x >>= fun b => Res.ok (.bool (!b))) >>= asBool) = _
      cases ev p.G ca ρ with
      | ok d =>
        show ((asBool d >>= fun b => Res.ok (.bool (!b))) >>= asBool) = (asBool d >>= fun b => Res.ok (!b))
        cases asBool d <;> rfl
      | exc c => rfl
      | err => rfl
    rw [e] at hp
    exact (PostR.bind hp).imp fun b H' s q => q.ok
theorem ce_ite {c : Expr} {ct : E} (ht : PT X c (canT X.K xa W p.G ct)) (ha : PE X a (canE X.K xa W p.G ca)) (hb : PE X b (canE X.K xa W p.G cb)) (h1 : brw ca = false) (h2 : brw cb = false) : PE X (.IfExp c a b pos) (canE X.K xa W p.G (.ite ct ca cb)) :=
  PE.of (pe_ifExp ht ha hb) fun σ H Q q => by
    obtain ⟨M0, ρ, hr, hp⟩ := q
    have e : ev p.G (.ite ct ca cb) ρ = ((ev p.G ct ρ >>= asBool) >>= fun c => if c then ev p.G ca ρ else ev p.G cb ρ) := by
      show (ev p.G ct ρ >>= fun x => asBool x >>= fun c => if c then ev p.G ca ρ else ev p.G cb ρ) = _
      cases ev p.G ct ρ with
      | ok d => show (asBool d >>= _) = (asBool d >>= _); rfl
      | exc c => rfl
      | err => rfl
    rw [e] at hp
    refine ⟨M0, ρ, hr, (PostR.bind hp).imp fun c H1 s1 hp1 => ?_⟩
    cases c with
    | true =>
      rw [if_pos rfl]
      refine ⟨M0, ρ, hr.mono s1, hp1.imp fun d H' s' q v rv => q v ?_⟩
      rw [h1] at rv
      exact rv
    | false =>
      rw [if_neg Bool.false_ne_true]
      refine ⟨M0, ρ, hr.mono s1, hp1.imp fun d H' s' q v rv => q v ?_⟩
      rw [h2] at rv
      exact rv
theorem ce_idx (hu : X.A.units + 65 < cLine) (hp : plainX b = true) (ha : PE X a (canE X.K xa W p.G ca)) (hb : PE X b (canE X.K xa W p.G cb)) : PE X (.Subscript a b pos) (canE X.K xa W p.G (.idx ca cb)) :=
  PE.of (pe_ix (ix_idx hu) ha hb (plain_ix hp)) fun σ H Q q => by
    obtain ⟨M0, ρ, hr, hp⟩ := q
    refine can1 hr hp fun x H1 v s1 r1 rv hp1 => can1 r1 hp1 fun y H2 u s2 r2 ru hp2 => ?_
    obtain ⟨d, e, q⟩ := hp2.out fun _ => idxD_ne
    exact ⟨Mx M0 ρ σ, _, _, x, y, d, rv.mono s2, ru, e, fun w rw' => q H2 (Same.refl _) w rw'⟩
theorem co_no : PO X none (canO X.K xa W p.G .no) :=
  PO.of po_none fun σ H Q q => by
    obtain ⟨M0, ρ, hr, hp⟩ := q
    exact (show PostR X.K W σ (fun o H' => Q o H') H (.ok none) from hp).ok
theorem co_so (ha : PE X a (canE X.K xa W p.G ca)) : PO X (some a) (canO X.K xa W p.G (.so ca)) :=
  PO.of (po_some ha) fun σ H Q q => by
    obtain ⟨M0, ρ, hr, hp⟩ := q
    have e : (evo p.G (.so ca) ρ >>= partD) = (ev p.G ca ρ >>= fun d => partD (some d)) := by
      show ((ev p.G ca ρ >>= fun d => Res.ok (some d)) >>= partD) = _
      cases ev p.G ca ρ <;> rfl
    rw [e] at hp
    refine can1 hr hp fun x H1 v s1 r1 rv hp1 => ?_
    cases x with
    | int i => exact ⟨i, rv.int, hp1.ok⟩
    | _ => exact hp1.elim
theorem ce_slc {lo hi : Option Expr} {cl ch : Eo} {p2 : Pos} (ha : PE X a (canE X.K xa W p.G ca)) (hl : PO X lo (canO X.K xa W p.G cl)) (hh : PO X hi (canO X.K xa W p.G ch)) : PE X (.Subscript a (.Slice lo hi none p2) pos) (canF X.K xa W p.G (.slc ca cl ch)) :=
  PE.of (pe_slice sl_slc ha hl hh) fun σ H Q q => by
    obtain ⟨M0, ρ, hr, hp⟩ := q
    refine can1 hr hp fun x H1 v s1 r1 rv hp1 => ?_
    have e : ∀ {β : Type} (c : Eo) (f : Option Int → Res β), (evo p.G c ρ >>= fun l => partD l >>= f) = ((evo p.G c ρ >>= partD) >>= f) := fun c f => by
      cases evo p.G c ρ <;> rfl
    rw [e] at hp1
    refine ⟨M0, ρ, r1, (PostR.bind hp1).imp fun l H2 s2 hp2 => ?_⟩
    rw [e] at hp2
    refine ⟨M0, ρ, r1.mono s2, (PostR.bind hp2).imp fun h H3 s3 hp3 => ?_⟩
    obtain ⟨d, e, q⟩ := hp3.out fun _ => slcD_ne
    exact ⟨Mx M0 ρ σ, _, x, d, (r1.mono (s2.trans s3)).okM, rv.mono (s2.trans s3), e, fun w H' s' rw' nu => q H' s' w rw' (nu.back (s1.trans (s2.trans s3)))⟩
theorem ce_rev {j : Nat} {p1 p2 p3 : Pos} (ha : PE X a (canE X.K xa W p.G ca)) : PE X (.Subscript a (.Slice none none (some (.UnaryOp .USub (.Constant (.int 1) j p1) p2)) p3) pos) (canF X.K xa W p.G (.rev ca)) :=
  PE.of (pe_rev ha) fun σ H Q q => by
    obtain ⟨M0, ρ, hr, hp⟩ := q
    refine can1 hr hp fun x H1 v s1 r1 rv hp1 => ?_
    obtain ⟨d, e, q⟩ := hp1.out fun _ => revD_ne
    exact ⟨Mx M0 ρ σ, _, x, d, r1.okM, rv, e, fun w H' s' rw' nu => q H' s' w rw' (nu.back s1)⟩
/-! ### names, constants -/
theorem gl_ok {x : Str} (h : glB X.env.scope x = true) : Gl X x := by
  unfold glB at h
  have h' : X.env.scope.names.lookup x = some .globalImplicit := of_decide_eq_true h
  exact h'
theorem nm_ok {N : List Str} {sc : Scope} {i : Nat} {x : Str} (h : nmB N sc i x = true) : N[i]? = some x ∧ Vis sc x ∧ (x == ("__debug__" : Str)) = false ∧ (x == ("__classdict__" : Str)) = false := by
  unfold nmB at h
  simp only [Bool.and_eq_true, decide_eq_true_eq, Bool.not_eq_true'] at h
  exact ⟨h.1.1.1, visB_ok h.1.1.2, h.1.2, h.2⟩
theorem ce_var {i : Nat} {x : Str} (h : nmB X.N X.env.scope i x = true) : PE X (.Name x pos) (canE X.K xa W p.G (.var i)) := by
  obtain ⟨h1, h2, h3, h4⟩ := nm_ok h
  refine PE.of (pe_var h1 h2 h3 h4) fun σ H Q q => ?_
  obtain ⟨M0, ρ, hr, hp⟩ := q
  obtain ⟨d, e, q⟩ := hp.out fun _ => slotD_ne
  have e' : slotD ρ i = .ok d := e
  unfold slotD at e'
  split at e'
  · rename_i d' hd
    cases e'
    obtain ⟨v, h1, h2⟩ := hr.fz i d hd
    exact ⟨v, h1, q H (Same.refl _) v h2⟩
  · cases e'
theorem ce_own {i : Nat} {x : Str} (h : nmB X.N X.env.scope i x = true) : PE X (.Name x pos) (canE X.K xa W p.G (.own i)) := by
  obtain ⟨h1, h2, h3, h4⟩ := nm_ok h
  refine PE.of (pe_var h1 h2 h3 h4) fun σ H Q q => ?_
  obtain ⟨M0, ρ, hr, hp⟩ := q
  obtain ⟨d, e, q⟩ := hp.out fun _ => slotO_ne
  have e' : slotO ρ i = .ok d := e
  unfold slotO at e'
  split at e'
  · rename_i d' hd
    cases e'
    obtain ⟨a, h1, h2⟩ := hr.ow i d hd
    exact ⟨.ref a, h1, q H (Same.refl _) (.ref a) ⟨a, rfl, h2⟩⟩
  · cases e'
theorem ce_c {d : D} {v : V} (h : PE X e (tC v)) (hd : ∀ (M : Addr → Prop) (H : Hp), Rep X.K M H v d) : PE X e (canE X.K xa W p.G (.cst d)) :=
  PE.of h fun σ H Q q => by
    obtain ⟨M0, ρ, hr, hp⟩ := q
    exact (show PostR X.K W σ _ H (.ok d) from hp).ok v (hd _ _)
theorem ce_glbT {d : D} {x : Str} (C : Cok X xa W p cm k) (hg : glB X.env.scope x = true) (hd : dbB x = true) (hx : x ∈ p.ts) (h : isUnit d = true) : PE X (.Name x pos) (canE X.K xa W p.G (.glb d)) := by
  unfold isUnit at h
  split at h
  · have hdb : (x == ("__debug__" : Str)) = false := by
      unfold dbB at hd
      simpa using hd
    obtain ⟨e, o, n, h1, h2, h3⟩ := C.tps x hx
    refine PE.of (pe_glob (gl_ok hg) e rfl hdb : PE X (.Name x pos) (tC (.ref (He.ga X.K x)))) fun σ H Q q => ?_
    obtain ⟨M0, ρ, hr, hp⟩ := q
    exact (show PostR X.K W σ _ H (.ok _) from hp).ok _ (Rep.tup (vs := []) (.inr ⟨o, #[], n, h1, h2, h3, by decide, .nil⟩) (by decide) .nil)
  · cases h
theorem ce_glb {d : D} {x : Str} (C : Cok X xa W p cm k) (hg : glB X.env.scope x = true) (hd : dbB x = true) (h : glbD p.cs x d = true) : PE X (.Name x pos) (canE X.K xa W p.G (.glb d)) := by
  unfold glbD at h
  rw [List.any_eq_true] at h
  obtain ⟨⟨y, d'⟩, hm, h⟩ := h
  simp only [Bool.and_eq_true, decide_eq_true_eq] at h
  obtain ⟨rfl, h⟩ := h
  have hg' : Gl X y := gl_ok hg
  have hdb : (y == ("__debug__" : Str)) = false := by
    unfold dbB at hd
    simpa using hd
  rcases C.cst y d' hm with ⟨i, t, rfl, e⟩ | ⟨z, t, rfl, hz, e⟩
  · cases d with
    | int j =>
      have h : i = j := of_decide_eq_true h
      subst h
      refine PE.of (pe_glob hg' e ⟨t, rfl⟩ hdb : PE X (.Name y pos) (tC (.int i))) fun σ H Q q => ?_
      obtain ⟨M0, ρ, hr, hp⟩ := q
      exact (show PostR X.K W σ _ H (.ok _) from hp).ok (.int i) (Rep.int i)
    | _ => cases h
  · cases d with
    | str j =>
      have h : z = j := of_decide_eq_true h
      subst h
      refine PE.of (pe_glob hg' e ⟨t, rfl⟩ hdb : PE X (.Name y pos) (tC (.str z))) fun σ H Q q => ?_
      obtain ⟨M0, ρ, hr, hp⟩ := q
      exact (show PostR X.K W σ _ H (.ok _) from hp).ok (.str z) (Rep.str z hz)
    | _ => cases h
/-! ### arguments, displays -/
theorem ca_nil : PA X [] (canA X.K xa W p.G .nil) :=
  PA.of pa_nil fun σ H Q q => by
    obtain ⟨M0, ρ, hr, hp⟩ := q
    exact (show PostR X.K W σ _ H (.ok []) from hp).ok [] .nil
theorem ca_cons {es : List Expr} {cs : Es} (hx : plainX e = true) (hb : brw ca = false) (ha : PE X e (canE X.K xa W p.G ca)) (hs : PA X es (canA X.K xa W p.G cs)) : PA X (e :: es) (canA X.K xa W p.G (.cons ca cs)) :=
  PA.of (pa_cons ha hs (star_cons hx)) fun σ H Q q => by
    obtain ⟨M0, ρ, hr, hp⟩ := q
    refine can1 hr hp fun x H1 v s1 r1 rv hp1 => ⟨M0, ρ, r1, (PostR.bind hp1).imp fun ds H2 s2 hp2 vs rvs => ?_⟩
    rw [hb] at rv
    exact hp2.ok (v :: vs) (.cons (Rep.mono s2 rv) rvs)
theorem evs_len {G : Str → List D → Res D} {ρ : Slots} : ∀ {es : Es} {ds : List D}, evs G es ρ = .ok ds → ds.length = es.len
  | .nil, ds, h => by
    have h : Res.ok [] = Res.ok ds := h
    cases h; rfl
  | .cons e es, ds, h => by
    have h : (ev G e ρ >>= fun d => evs G es ρ >>= fun ds => Res.ok (d :: ds)) = .ok ds := h
    obtain ⟨d, _, h⟩ := bind_some h
    obtain ⟨ds', h1, h⟩ := bind_some h
    cases h
    rw [List.length_cons, evs_len h1]
    rfl
/-- (e, ..): a plain tuple -/
def tTupP (t : TA) : TE := fun σ H Q => t σ H fun vs H1 => vs.length ≤ sizeLine ∧ ∀ p o, plO o → H1 p = none → Q (.ref p) (upd H1 p (.frz o (.tup vs)))
theorem pe_tupP {es : List Expr} {x1 : Nat} {t : TA} (h : PA X es t) : PE X (.Tuple es x1 pos) (tTupP t) :=
  ⟨fun pins s σ H Q I hq => wpAny_Tuple_spliced (thn (h.run pos pins s σ H _ I hq) fun us s1 ⟨xs, H1, I1, r, z, q⟩ => ⟨by rw [← r.length]; exact z, .ref _, _, inv_tup (t' := s1.toks) I1 r z rfl, rfl, q _ _ ⟨rfl, rfl, rfl⟩ I1.fresh⟩)⟩
theorem ce_tup {es : List Expr} {cs : Es} {x1 : Nat} (hs : PA X es (canA X.K xa W p.G cs)) (hl : cs.len ≤ 1000) : PE X (.Tuple es x1 pos) (canE X.K xa W p.G (.tup cs)) :=
  PE.of (pe_tupP hs) fun σ H Q q => by
    obtain ⟨M0, ρ, hr, hp⟩ := q
    refine ⟨M0, ρ, hr, ?_⟩
    have hp : PostR X.K W σ (fun d H' => ∀ v, Rep X.K (Mx M0 ρ σ) H' v d → Q v H') H (evs p.G cs ρ >>= fun ds => .ok (.tuple ds)) := hp
    cases h : evs p.G cs ρ with
    | ok ds =>
      rw [h] at hp
      intro H1 s1 vs rvs
      have hz : vs.length ≤ sizeLine := by rw [rvs.length, evs_len h, sizeLine_eq]; omega
      exact ⟨hz, fun q o ho hq => hp _ (s1.trans (same_new hq)) (.ref q) (new_tup ho hq hz rvs)⟩
    | exc c => rw [h] at hp; exact hp
    | err => rw [h] at hp; exact hp
theorem ce_lst {es : List Expr} {cs : Es} (hs : PA X es (canA X.K xa W p.G cs)) (hl : cs.len ≤ 1000) : PE X (.List es pos) (canF X.K xa W p.G (.lst cs)) :=
  PE.of (pe_lst hs) fun σ H Q q => by
    obtain ⟨M0, ρ, hr, hp⟩ := q
    refine ⟨M0, ρ, hr, ?_⟩
    have hp : PostR X.K W σ (fun d H' => ∀ v, Rep X.K (Mx M0 ρ σ) H' v d → Nu X.K (Mx M0 ρ σ) H H' v d → Q v H') H (evs p.G cs ρ >>= fun ds => .ok (.list ds)) := hp
    cases h : evs p.G cs ρ with
    | ok ds =>
      rw [h] at hp
      intro H1 s1 vs rvs
      have hz : vs.length ≤ sizeLine := by rw [rvs.length, evs_len h, sizeLine_eq]; omega
      exact ⟨hz, fun q hq => hp _ (s1.trans (same_new hq)) (.ref q) (new_lst (hr.okM.mono s1) hq hz rvs) ((nu_lst hq hz rvs).back s1)⟩
    | exc c => rw [h] at hp; exact hp
    | err => rw [h] at hp; exact hp
/-! ### calls -/
theorem ce_call {f x : Str} {es : List Expr} {cs : Es} {p1 : Pos} (C : Cok X xa W p true k) (hf : f = x) (hfs : f ∈ p.fs) (hg : glB X.env.scope x = true) (hd : dbB x = true) (hl : es.all plainX = true) (hne : 0 < es.length) (hs : PA X es (canA X.K xa W p.G cs)) : PE X (.Call (.Name x p1) es [] pos) (canE X.K xa W p.G (.call f cs)) := by
  subst hf
  have hdb : (f == ("__debug__" : Str)) = false := by
    unfold dbB at hd
    simpa using hd
  cases es with
  | nil => cases hne
  | cons e es =>
    simp only [List.all_cons, Bool.and_eq_true] at hl
    have F := C.fns f hfs
    obtain ⟨fd, ps, F1, F2, F3⟩ := F.ok
    refine PE.of (pe_callS F1 (C.room rfl) (gl_ok hg) F.at_ F.kp F2 (fun σ => passAt C.tk σ) hs hdb (star_cons hl.1) (star_any hl.2)) fun σ H Q q => ?_
    obtain ⟨M0, ρ, hr, hp⟩ := q
    refine ⟨M0, ρ, hr, (PostR.bind hp).imp fun ds H1 s1 hp1 vs rvs => ?_⟩
    by_cases hn : ds.length = ps.length
    · refine ⟨by rw [rvs.length]; exact hn, ds, Mx M0 ρ σ, rvs, hr.okM.mono s1, ?_⟩
      cases hG : p.G f ds with
      | ok d => rw [hG] at hp1; exact fun v H' s' rv => hp1 H' s' v rv
      | exc c => rw [hG] at hp1; exact fun H' s' => hp1 H' s'
      | err => rw [hG] at hp1; exact hp1
    · rw [F3 ds hn] at hp1
      exact hp1.elim
end
end Fp
set_option maxHeartbeats 1000000
namespace Fp
open PySem PySem.Spec PyProof.Rows L2
variable [TB]
theorem bb_all : bootBuiltins (Str.ofString "all") = some (.builtin "all") := by decide +kernel
theorem bb_any : bootBuiltins (Str.ofString "any") = some (.builtin "any") := by decide +kernel
theorem bb_sum : bootBuiltins (Str.ofString "sum") = some (.builtin "sum") := by decide +kernel
theorem bb_min : bootBuiltins (Str.ofString "min") = some (.builtin "min") := by decide +kernel
theorem bb_max : bootBuiltins (Str.ofString "max") = some (.builtin "max") := by decide +kernel
theorem bb_sorted : bootBuiltins (Str.ofString "sorted") = some (.builtin "sorted") := by decide +kernel
theorem bb_list : bootBuiltins (Str.ofString "list") = some (.type "list") := by decide +kernel
theorem bb_isi : bootBuiltins (Str.ofString "isinstance") = some (.builtin "isinstance") := by decide +kernel
theorem bb_ty (t : Ty) : bootBuiltins (Str.ofString t.name) = some (.type t.name) := by cases t <;> decide +kernel
section
variable {X : Cx} {xa : Addr → Str → Prop} {W : WX} {p : Pg} {cm : Bool} {k : Nat} {a b e : Expr} {ca cb cc : E} {pos : Pos}
/-- one argument -/
theorem one_rd {f : Bf} {σ : L2.St} {H : Hp} {Q : VK} (q : canF X.K xa W p.G (.blt f ca) σ H Q) : tCB (rBlt X.K f) (tCons (canE X.K xa W p.G ca) tNil) σ H Q := by
  obtain ⟨M0, ρ, hr, hp⟩ := q
  refine can1 hr hp fun x H1 v s1 r1 rv hp1 => ?_
  obtain ⟨d, e, q⟩ := hp1.out fun _ => bltD_ne
  exact ⟨Mx M0 ρ σ, _, v, x, d, r1.okM, rfl, rv, e, fun w H' s' rw' nu => q H' s' w rw' (nu.back s1)⟩
theorem ce_blt {f : Bf} {x : Str} {p1 : Pos} (hok : bfOk f = true) (C : Cok X xa W p cm k) (hcm : (cm || !calmBf f) = true) (hx : x = Str.ofString f.nm) (hg : glB X.env.scope x = true) (hpl : plainX a = true) (ha : PE X a (canE X.K xa W p.G ca)) : PE X (.Call (.Name x p1) [a] [] pos) (canF X.K xa W p.G (.blt f ca)) := by
  subst hx
  have hA : PA X [a] (tCons (canE X.K xa W p.G ca) tNil) := pa_cons ha pa_nil (star_cons hpl)
  have hc : calmBf f = true → X.calm = true := fun h => by
    rw [h] at hcm
    exact (C.calm (by simpa using hcm)).1
  cases f with
  | len => exact PE.of (pe_callB cr_len (gl_ok hg) (C.blt "len" (by decide)) PySem.boot_len hA (by decide) (by decide) (star_cons hpl) rfl) fun σ H Q q => one_rd q
  | all => exact PE.of (pe_callB (cr_allD (hc rfl)) (gl_ok hg) (C.blt "all" (by decide)) bb_all hA (by decide) (by decide) (star_cons hpl) rfl) fun σ H Q q => one_rd q
  | any => exact PE.of (pe_callB (cr_anyD (hc rfl)) (gl_ok hg) (C.blt "any" (by decide)) bb_any hA (by decide) (by decide) (star_cons hpl) rfl) fun σ H Q q => one_rd q
  | sum => exact PE.of (pe_callB (cr_sumD (hc rfl)) (gl_ok hg) (C.blt "sum" (by decide)) bb_sum hA (by decide) (by decide) (star_cons hpl) rfl) fun σ H Q q => one_rd q
  | sorted => exact PE.of (pe_callB (cr_sorted C.units) (gl_ok hg) (C.blt "sorted" (by decide)) bb_sorted hA (by decide) (by decide) (star_cons hpl) rfl) fun σ H Q q => one_rd q
  | tuple => exact PE.of (pe_callTy (cr_tuple (hc rfl)) (gl_ok hg) (C.blt "tuple" (by decide)) boot_tuple hA (by decide) (by decide) (star_cons hpl) rfl) fun σ H Q q => one_rd q
  | list => exact PE.of (pe_callTy (cr_list (hc rfl)) (gl_ok hg) (C.blt "list" (by decide)) bb_list hA (by decide) (by decide) (star_cons hpl) rfl) fun σ H Q q => one_rd q
  | _ => cases hok
theorem ce_blt2 {f : Bf} {x : Str} {p1 : Pos} (hok : bf2Ok f = true) (C : Cok X xa W p true k) (hx : x = Str.ofString f.nm) (hg : glB X.env.scope x = true) (h1 : plainX a = true) (h2 : plainX b = true) (ha : PE X a (canE X.K xa W p.G ca)) (hb : PE X b (canE X.K xa W p.G cb)) : PE X (.Call (.Name x p1) [a, b] [] pos) (canE X.K xa W p.G (.blt2 f ca cb)) := by
  subst hx
  have hA : PA X [a, b] (tCons (canE X.K xa W p.G ca) (tCons (canE X.K xa W p.G cb) tNil)) := pa_cons ha (pa_cons hb pa_nil (star_cons h2)) (star_cons h1)
  have rd : ∀ {f : Bf} {σ : L2.St} {H : Hp} {Q : VK}, canE X.K xa W p.G (.blt2 f ca cb) σ H Q → tCB (rBlt2 f) (tCons (canE X.K xa W p.G ca) (tCons (canE X.K xa W p.G cb) tNil)) σ H Q := fun {f σ H Q} q => by
    obtain ⟨M0, ρ, hr, hp⟩ := q
    refine can1 hr hp fun x H1 v s1 r1 rv hp1 => can1 r1 hp1 fun y H2 u s2 r2 ru hp2 => ?_
    obtain ⟨d, e, q⟩ := hp2.out fun _ => blt2D_ne
    exact ⟨X.K, Mx M0 ρ σ, _, _, v, u, x, y, d, rfl, rv.mono s2, ru, e, fun w rw' => q H2 (Same.refl _) w rw'⟩
  have hpl : (backTo pos (starEach [b] X.env)).any (·.1) = false := star_any (by simp [h2])
  cases f with
  | min => exact PE.of (pe_callB (cr_min (C.calm rfl).1) (gl_ok hg) (C.blt "min" (by decide)) bb_min hA (by decide) (by decide) (star_cons h1) hpl) fun σ H Q q => rd q
  | max => exact PE.of (pe_callB (cr_max (C.calm rfl).1) (gl_ok hg) (C.blt "max" (by decide)) bb_max hA (by decide) (by decide) (star_cons h1) hpl) fun σ H Q q => rd q
  | _ => cases hok
theorem ce_isi {t : Ty} {x z : Str} {p1 p2 : Pos} (C : Cok X xa W p cm k) (hx : x = "isinstance") (hg : glB X.env.scope x = true) (hz : z = Str.ofString t.name) (hg2 : glB X.env.scope z = true) (h1 : plainX a = true) (ha : PE X a (canE X.K xa W p.G ca)) :
    PE X (.Call (.Name x p1) [a, .Name z p2] [] pos) (canE X.K xa W p.G (.isi ca t)) := by
  subst hx hz
  have ht : PE X (.Name (Str.ofString t.name) p2) (tC (.ty t.name)) := by
    have hm : X.mg (Str.ofString t.name) = none := C.blt t.name (by cases t <;> decide)
    exact pe_bltn (gl_ok hg2) hm (bb_ty t) rfl (by cases t <;> decide) (by cases t <;> decide)
  have hA : PA X [a, .Name (Str.ofString t.name) p2] (tCons (canE X.K xa W p.G ca) (tCons (tC (.ty t.name)) tNil)) := pa_cons ha (pa_cons ht pa_nil rfl) (star_cons h1)
  refine PE.of (pe_callB (cr_isi t) (gl_ok hg) (C.blt "isinstance" (by decide)) bb_isi hA (by decide) (by decide) (star_cons h1) rfl) fun σ H Q q => ?_
  obtain ⟨M0, ρ, hr, hp⟩ := q
  refine can1 hr hp fun x H1 v s1 r1 rv hp1 => ?_
  exact ⟨Mx M0 ρ σ, _, v, x, rfl, rv, hp1.ok _ (Rep.bl _)⟩
theorem bb_ve : bootBuiltins (Str.ofString "ValueError") = some (.type "ValueError") := by decide +kernel
/-- the class that an own exception is asked for -/
theorem pe_cls {t : Str} {p3 : Pos} (C : Cok X xa W p cm k) (hg2 : glB X.env.scope t = true) (hd : dbB t = true) (ht : t ∈ p.xs ∨ t = "ValueError") : ∃ cv, PE X (.Name t p3) (tC cv) ∧ ∃ u, (∀ u', RelV cv u' → u' = u) ∧ ∀ c ∈ p.xs, PySem.W.kitOne X.K (.ref (He.ga X.K c)) u = some (subX c t) := by
  have hdb : (t == ("__debug__" : Str)) = false := by
    unfold dbB at hd
    simpa using hd
  rcases ht with ht | rfl
  · exact ⟨.ref (He.ga X.K t), pe_glob (gl_ok hg2) (C.xok t ht).at_ rfl hdb, .ref (He.ga X.K t), fun u r => r, (C.xok t ht).kit⟩
  · refine ⟨.ty "ValueError", pe_bltn (gl_ok hg2) (C.blt "ValueError" (by decide)) bb_ve rfl (by decide) (by decide), .type "ValueError", fun u r => r, fun c hc => ?_⟩
    rw [C.vok c hc]
    have : subX c "ValueError" = true := by
      unfold subX
      simp
    rw [this]
theorem ce_isx {i : Nat} {t x y z : Str} {p1 p2 p3 : Pos} (C : Cok X xa W p cm k) (hx : x = "isinstance") (hg : glB X.env.scope x = true) (hy : nmB X.N X.env.scope i y = true) (hz : t = z) (hg2 : glB X.env.scope z = true) (hd : dbB z = true) (ht : t ∈ p.xs ∨ t = "ValueError") :
    PE X (.Call (.Name x p1) [.Name y p2, .Name z p3] [] pos) (canE X.K xa W p.G (.isx i t)) := by
  subst hx hz
  obtain ⟨h1, h2, h3, h4⟩ := nm_ok hy
  obtain ⟨cv, hT, u0, hu, hk⟩ := pe_cls (p3 := p3) C hg2 hd ht
  have hA : PA X [.Name y p2, .Name t p3] (tCons (tVar i) (tCons (tC cv) tNil)) := pa_cons (pe_var h1 h2 h3 h4) (pa_cons hT pa_nil rfl) rfl
  refine ⟨fun pins s σ H Q I q => ?_⟩
  obtain ⟨M0, ρ, hr, hp⟩ := q
  obtain ⟨d, e, q⟩ := hp.out fun _ => isxD_ne
  have e' : isxD ρ i t = .ok d := e
  unfold isxD at e'
  split at e'
  · rename_i c hc
    cases e'
    obtain ⟨a, h5, h6⟩ := hr.ex i c hc
    obtain ⟨hc', R⟩ := C.isx a c h6
    refine (pe_callB R (gl_ok hg) (C.blt "isinstance" (by decide)) bb_isi hA (by decide) (by decide) rfl rfl : PE X _ (tCB _ _)).run pins s σ H Q I ⟨.ref a, h5, cv, u0, subX c t, rfl, hu, hk c hc', q H (Same.refl _) _ (Rep.bl _)⟩
  · cases e'
theorem tup_is {pins : List (Addr × Obj)} {σ : L2.St} {H : Hp} {s : Shared} {a : Addr} {vs : List V} (I : L2.Inv X pins σ H s) (h : SqP X.K H a vs) : s.TypeIs (.ref a) "tuple" ∧ ∃ ob, s.heap.get? a = some ob ∧ ob.dict = none := by
  rcases h with ⟨o, h, h1, h2, _⟩ | ⟨o, _, _, h, ⟨h1, h2, _⟩, _⟩
  · have q : s.heap.get? a = some o := (I.hok a _ h).1
    exact ⟨⟨o, q, h1⟩, o, q, h2⟩
  · have q : s.heap.get? a = some o := I.kIn a o h
    exact ⟨⟨o, q, h1⟩, o, q, h2⟩
/-- x.index(..), x a list or a tuple -/
def tMix (K : PySem.W.Frag) (rL rT : V → List V → Hp → VK → Prop) (to : TE) (t : TA) : TE := fun σ H Q => to σ H fun x H1 => (tyV K "list" x H1 ∧ t σ H1 fun xs H2 => rL x xs H2 Q) ∨ ((∃ c vs, x = .ref c ∧ SqP K H1 c vs) ∧ t σ H1 fun xs H2 => rT x xs H2 Q)
theorem pe_mix {rL rT : V → List V → Hp → VK → Prop} {to : TE} {t : TA} {apos : Pos} (hL : MtR X "list.index" rL) (hT : MtR X "tuple.index" rT) (ho : PE X a to) (ht : PA X [b] t) (hpl : plainX b = true) (hbase : attributeBase a "index" X.env (eval a X.env) = eval a X.env) (hline : (apos.endLine == pos.line) = true)
    (hfew : ((backTo pos (starEach [b] X.env)).all (fun x => !x.1) && (backToKw pos (keywordEach [] X.env)).all (fun x => x.1.isSome)
      && decide (([b] : List Expr).length + ([] : List Keyword).length + (if ([] : List Keyword).isEmpty then 0 else 1) < 30)) = true) : PE X (.Call (.Attribute a "index" apos) [b] [] pos) (tMix X.K rL rT to t) := by
  refine ⟨fun pins s σ H Q I h => wpAny_Call_method_late hbase hfew hline rfl (thn (ho.run pins s σ H _ I h) fun v s1 hv => ?_)⟩
  obtain ⟨x, H1, I1, r1, hx⟩ := hv
  have go : ∀ {r : V → List V → Hp → VK → Prop} {id : String}, MtR X id r → t σ H1 (fun xs H2 => r x xs H2 Q) → wpAny (model X.prog X.w) X.A (callWith pos (.builtin id) [v] (backTo pos (starEach [b] X.env)) []) (EP X pins σ Q) X.xe s1 := fun {r id} hm q => by
    have hA := ht.run pos pins s1 σ H1 _ I1 q
    rw [star_cons hpl] at hA ⊢
    exact Calls.callWith_builtin rfl (Calls.evalArgs_plain (thn hA fun us s2 ⟨vs, H2, I2, r2, q2⟩ => hm pins s2 σ H2 x vs v us Q I2 r1 r2 q2))
  rcases hx with ⟨ty, q⟩ | ⟨⟨c, vs, rfl, hc⟩, q⟩
  · obtain ⟨h1, h2⟩ := tyV_is I1 r1 ty
    exact ⟨"list", "list.index", PySem.F.plainAttrs_list, PySem.F.slot_list_index, PySem.F.type_list_index, h1, h2, go hL q⟩
  · cases r1
    obtain ⟨h1, ob, h2, h3⟩ := tup_is I1 hc
    exact ⟨"tuple", "tuple.index", PySem.F.plainAttrs_tuple, PySem.F.slot_tuple_index, PySem.F.type_tuple_index, h1, fun c' e => by cases e; exact ⟨ob, h2, h3⟩, go hT q⟩
theorem ce_mth {m : Mf} {n : Str} {p1 : Pos} (hok : mfOk m = true) (C : Cok X xa W p cm k) (hn : n = Str.ofString m.nm) (hl : p1.endLine = pos.line) (hbx : baseX a = true) (hpl : plainX b = true) (ha : PE X a (canE X.K xa W p.G ca)) (hb : PE X b (canE X.K xa W p.G cb)) :
    PE X (.Call (.Attribute a n p1) [b] [] pos) (canE X.K xa W p.G (.mth m ca cb)) := by
  subst hn
  have hA : PA X [b] (tCons (canE X.K xa W p.G cb) tNil) := pa_cons hb pa_nil (star_cons hpl)
  have hfew : ((backTo pos (starEach [b] X.env)).all (fun x => !x.1) && (backToKw pos (keywordEach [] X.env)).all (fun x => x.1.isSome)
      && decide (([b] : List Expr).length + ([] : List Keyword).length + (if ([] : List Keyword).isEmpty then 0 else 1) < 30)) = true := by
    rw [star_all (by simp [hpl])]
    rfl
  have hline : (p1.endLine == pos.line) = true := by rw [hl]; exact beq_self_eq_true _
  cases m with
  | index =>
    refine PE.of (pe_mix (mt_indexL C.units) (mt_indexT C.units) ha hA hpl (base_ok hbx) hline hfew) fun σ H Q q => ?_
    obtain ⟨M0, ρ, hr, hp⟩ := q
    refine can1 hr hp fun x H1 v s1 r1 rv hp1 => ?_
    cases x with
    | list xs =>
      obtain ⟨a', vs, e1, h1, _⟩ := rv.list
      refine .inl ⟨by rw [e1]; exact .inl ⟨rfl, _, sqL_of h1⟩, ?_⟩
      refine can1 r1 hp1 fun y H2 u s2 r2 ru hp2 => ?_
      obtain ⟨d, e, q⟩ := hp2.out fun _ => mthD_ne
      exact ⟨Mx M0 ρ σ, _, _, u, xs, y, d, rfl, rv.mono s2, ru, e, fun w rw' => q H2 (Same.refl _) w rw'⟩
    | tuple xs =>
      obtain ⟨a', vs, e1, h1, _⟩ := rv.tupleP
      refine .inr ⟨⟨a', vs, e1, h1⟩, ?_⟩
      refine can1 r1 hp1 fun y H2 u s2 r2 ru hp2 => ?_
      obtain ⟨d, e, q⟩ := hp2.out fun _ => mthD_ne
      exact ⟨Mx M0 ρ σ, _, _, u, xs, y, d, rfl, rv.mono s2, ru, e, fun w rw' => q H2 (Same.refl _) w rw'⟩
    | _ => exact hp1.elim
  | count =>
    refine PE.of (pe_bm PySem.F.plainAttrs_list PySem.F.slot_list_count PySem.F.type_list_count (mt_countL C.units) ha hA (base_ok hbx) hfew hline (star_cons hpl) rfl) fun σ H Q q => ?_
    obtain ⟨M0, ρ, hr, hp⟩ := q
    refine can1 hr hp fun x H1 v s1 r1 rv hp1 => ?_
    cases x with
    | list xs =>
      obtain ⟨a', vs, e1, h1, _⟩ := rv.list
      refine ⟨by rw [e1]; exact .inl ⟨rfl, _, sqL_of h1⟩, ?_⟩
      refine can1 r1 hp1 fun y H2 u s2 r2 ru hp2 => ?_
      obtain ⟨d, e, q⟩ := hp2.out fun _ => mthD_ne
      exact ⟨Mx M0 ρ σ, _, _, u, xs, y, d, rfl, rv.mono s2, ru, e, fun w rw' => q H2 (Same.refl _) w rw'⟩
    | _ => exact hp1.elim
  | _ => cases hok
end
end Fp
set_option maxHeartbeats 1000000
namespace Fp
open PySem PySem.Spec PyProof.Rows L2
variable [TB]
theorem bb_dict : bootBuiltins (Str.ofString "dict") = some (.type "dict") := by decide +kernel
/-- a new dict -/
def NuD (K : PySem.W.Frag) (M : Addr → Prop) (H H' : Hp) (v : V) (d : D) : Prop := ∃ p es ds, d = .dict ds ∧ v = .ref p ∧ H p = none ∧ H' p = some (.dK es) ∧ es.length ≤ sizeLine ∧ RepKV K (MD M p) H' es ds
def canND (K : PySem.W.Frag) (xa : Addr → Str → Prop) (W : WX) (r : Slots → Res D) : TE := fun σ H Q => ∃ M0 ρ, RelS K xa M0 ρ σ H ∧ PostR K W σ (fun d H' => ∀ v, NuD K (Mx M0 ρ σ) H H' v d → Q v H') H (r ρ)
def canFD (K : PySem.W.Frag) (xa : Addr → Str → Prop) (W : WX) (G : Str → List D → Res D) (c : E) : TE := fun σ H Q => ∃ M0 ρ, RelS K xa M0 ρ σ H ∧ PostR K W σ (fun d H' => ∀ v, NuD K (Mx M0 ρ σ) H H' v d → Q v H') H (ev G c ρ >>= dictD)
section
variable {X : Cx} {xa : Addr → Str → Prop} {W : WX} {p : Pg} {cm : Bool} {k : Nat} {a b e : Expr} {ca cb cc : E} {pos : Pos}
theorem ce_dctF {x : Str} {p1 : Pos} (C : Cok X xa W p true k) (hx : x = Str.ofString "dict") (hg : glB X.env.scope x = true) (hpl : plainX a = true) (ha : PE X a (canE X.K xa W p.G ca)) : PE X (.Call (.Name x p1) [a] [] pos) (canFD X.K xa W p.G ca) := by
  subst hx
  have hA : PA X [a] (tCons (canE X.K xa W p.G ca) tNil) := pa_cons ha pa_nil (star_cons hpl)
  refine PE.of (pe_callTy (cr_dict (C.calm rfl).1) (gl_ok hg) (C.blt "dict" (by decide)) bb_dict hA (by decide) (by decide) (star_cons hpl) rfl) fun σ H Q q => ?_
  obtain ⟨M0, ρ, hr, hp⟩ := q
  refine can1 hr hp fun x H1 v s1 r1 rv hp1 => ?_
  obtain ⟨d, e, q⟩ := hp1.out fun _ => dictD_ne
  refine ⟨Mx M0 ρ σ, _, v, x, d, rfl, rv, e, fun p' es ds hd hn hz hkv => q _ (same_new hn) (.ref p') ⟨p', es, ds, hd, rfl, s1.free hn, upd_same, hz, hkv.imp fun _ _ r => (r.off fun a m => ?_).mono (same_new hn)⟩⟩
  rcases m with m | m
  · exact .inl m
  · exact .inr (by rw [m]; exact hn)
theorem ce_dct {x : Str} {p1 : Pos} (C : Cok X xa W p true k) (hx : x = Str.ofString "dict") (hg : glB X.env.scope x = true) (hpl : plainX a = true) (ha : PE X a (canE X.K xa W p.G ca)) : PE X (.Call (.Name x p1) [a] [] pos) (canE X.K xa W p.G (.dct ca)) :=
  PE.of (ce_dctF C hx hg hpl ha) fun σ H Q q => by
    obtain ⟨M0, ρ, hr, hp⟩ := q
    refine ⟨M0, ρ, hr, PostR.imp hp fun d H' s q v nu => q v ?_⟩
    obtain ⟨p', es, ds, h1, rfl, h3, h4, h5, h6⟩ := nu
    exact ⟨p', rfl, .inr ⟨es, ds, h1, h4, h5, h6.imp fun _ _ r => r.off fun a m => .inl (.inl m)⟩⟩
def dzR (G : Str → List D → Res D) (ca cb : E) (ρ : Slots) : Res D := ev G ca ρ >>= fun x => ev G cb ρ >>= fun y => dictZ x y
theorem seq_sq {K : PySem.W.Frag} {b : Bool} {M : Addr → Prop} {H : Hp} {v : V} {d : D} {ds : List D} (h : RepB b K M H v d) (e : seqD d = .ok ds) : ∃ kd a vs, v = .ref a ∧ SqK kd K H a vs ∧ RepL K M H vs ds := by
  cases d with
  | list xs =>
    cases e
    obtain ⟨a, vs, rfl, h1, h2, h3⟩ := h.list
    exact ⟨true, a, vs, rfl, sqL_of h1, h3⟩
  | tuple xs =>
    cases e
    obtain ⟨a, vs, rfl, h1, h2, h3⟩ := h.tuple
    exact ⟨false, a, vs, rfl, h1, h3⟩
  | _ => cases e
theorem ce_dczF {x z : Str} {p1 p2 pos2 : Pos} (C : Cok X xa W p true k) (hx : x = Str.ofString "dict") (hg : glB X.env.scope x = true) (hz : z = Str.ofString "zip") (hg2 : glB X.env.scope z = true) (h1 : plainX a = true) (h2 : plainX b = true) (ha : PE X a (canE X.K xa W p.G ca)) (hb : PE X b (canE X.K xa W p.G cb)) :
    PE X (.Call (.Name x p1) [.Call (.Name z p2) [a, b] [] pos2] [] pos) (canND X.K xa W (dzR p.G ca cb)) := by
  subst hx hz
  have hA : PA X [a, b] (tCons (canE X.K xa W p.G ca) (tCons (canE X.K xa W p.G cb) tNil)) := pa_cons ha (pa_cons hb pa_nil (star_cons h2)) (star_cons h1)
  refine PE.of (pe_dzip (C.calm rfl).1 (gl_ok hg) (C.blt "dict" (by decide)) (gl_ok hg2) (C.blt "zip" (by decide)) hA (star_cons h1) (star_any (by simp [h2]))) fun σ H Q q => ?_
  obtain ⟨M0, ρ, hr, hp⟩ := q
  refine can1 hr hp fun x H1 v s1 r1 rv hp1 => can1 r1 hp1 fun y H2 u s2 r2 ru hp2 => ?_
  obtain ⟨d, e, q⟩ := hp2.out fun _ => dictZ_ne
  unfold dictZ at e
  obtain ⟨xs, e1, e⟩ := bind_some e
  obtain ⟨ys, e2, e⟩ := bind_some e
  have e := must_ok e
  rw [Option.map_eq_some_iff] at e
  obtain ⟨ps, e3, rfl⟩ := e
  obtain ⟨k1, a1, vs, rfl, q1, q2⟩ := seq_sq (rv.mono s2) e1
  obtain ⟨k2, a2, ws, rfl, q3, q4⟩ := seq_sq ru e2
  refine ⟨Mx M0 ρ σ, k1, k2, a1, a2, vs, ws, xs, ys, ps, rfl, q1, q3, q2, q4, e3, fun p' es hn hz hkv => q _ (same_new hn) (.ref p') ⟨p', es, _, rfl, rfl, (s1.trans s2).free hn, upd_same, hz, hkv.imp fun _ _ r => (r.off fun a m => ?_).mono (same_new hn)⟩⟩
  rcases m with m | m
  · exact .inl m
  · exact .inr (by rw [m]; exact hn)
theorem ce_dcz {x z : Str} {p1 p2 pos2 : Pos} (C : Cok X xa W p true k) (hx : x = Str.ofString "dict") (hg : glB X.env.scope x = true) (hz : z = Str.ofString "zip") (hg2 : glB X.env.scope z = true) (h1 : plainX a = true) (h2 : plainX b = true) (ha : PE X a (canE X.K xa W p.G ca)) (hb : PE X b (canE X.K xa W p.G cb)) :
    PE X (.Call (.Name x p1) [.Call (.Name z p2) [a, b] [] pos2] [] pos) (canE X.K xa W p.G (.dcz ca cb)) :=
  PE.of (ce_dczF C hx hg hz hg2 h1 h2 ha hb) fun σ H Q q => by
    obtain ⟨M0, ρ, hr, hp⟩ := q
    refine ⟨M0, ρ, hr, PostR.imp hp fun d H' s q v nu => q v ?_⟩
    obtain ⟨p', es, ds, h1, rfl, h3, h4, h5, h6⟩ := nu
    exact ⟨p', rfl, .inr ⟨es, ds, h1, h4, h5, h6.imp fun _ _ r => r.off fun a m => .inl (.inl m)⟩⟩
theorem ce_dix {x : Str} {p1 p2 : Pos} (C : Cok X xa W p true k) (hx : x = Str.ofString "dict") (hg : glB X.env.scope x = true) (hpl : plainX a = true) (hpb : plainX b = true) (ha : PE X a (canE X.K xa W p.G ca)) (hb : PE X b (canE X.K xa W p.G cb)) : PE X (.Subscript (.Call (.Name x p1) [a] [] p2) b pos) (canE X.K xa W p.G (.dix ca cb)) := by
  subst hx
  have hA : PA X [a] (tCons (canE X.K xa W p.G ca) tNil) := pa_cons ha pa_nil (star_cons hpl)
  refine PE.of (pe_ix (ix_dix C.units) (pe_callTy (cr_dictN (C.calm rfl).1 C.units) (gl_ok hg) (C.blt "dict" (by decide)) bb_dict hA (by decide) (by decide) (star_cons hpl) rfl) hb (plain_ix hpb)) fun σ H Q q => ?_
  obtain ⟨M0, ρ, hr, hp⟩ := q
  refine can1 hr hp fun x H1 v s1 r1 rv hp1 => ?_
  obtain ⟨ps, e, q⟩ := (PostR.bind hp1).out fun _ => dictN_ne
  refine ⟨Mx M0 ρ σ, _, v, x, ps, rfl, rv, e, fun p' es hn hre => ?_⟩
  have s2 : Same H1 (upd H1 p' (DnO X.prog X.w p' es)) := same_new hn
  refine can1 (r1.mono s2) (q _ s2) fun y H3 u s3 r3 ru hp3 => ?_
  obtain ⟨d, e3, q3⟩ := hp3.out fun _ => idxN_ne
  exact ⟨Mx M0 ρ σ, _, p', es, ps, y, d, rfl, s3.k _ _ upd_same rfl, (hre.mono s2).mono s3, ru, e3, fun w rw' => q3 H3 (Same.refl _) w rw'⟩
/-! ### [f, g][i](..) -/
def fnVs (K : PySem.W.Frag) (fs : List Str) : List V := fs.map fun f => .ref (He.ga K f)
theorem pa_fns (C : Cok X xa W p cm k) : ∀ {fs : List Str} {l : List Expr}, chkF p X.env.scope fs l = true → PA X l (fun σ H Q => Q (fnVs X.K fs) H) ∧ ∀ f ∈ fs, f ∈ p.fs
  | [], [], _ => ⟨PA.of pa_nil fun σ H Q q => q, fun _ z => by cases z⟩
  | [], _ :: _, h => by cases h
  | _ :: _, [], h => by cases h
  | f :: fs, e :: l, h => by
    cases e <;> first | (cases h; done) | skip
    rename_i x px
    unfold chkF at h
    simp only [Bool.and_eq_true, decide_eq_true_eq] at h
    obtain ⟨⟨⟨⟨rfl, h1⟩, h2⟩, h3⟩, h4⟩ := h
    obtain ⟨q1, q2⟩ := pa_fns C h4
    have hdb : (f == ("__debug__" : Str)) = false := by
      unfold dbB at h3
      simpa using h3
    have hT : PE X (.Name f px) (tC (.ref (He.ga X.K f))) := pe_glob (gl_ok h2) (C.fns f h1).at_ rfl hdb
    refine ⟨PA.of (pa_cons hT q1 rfl) fun σ H Q q => q, fun g hg => ?_⟩
    rcases List.mem_cons.mp hg with rfl | hg
    · exact h1
    · exact q2 g hg
theorem selD_ne {fs : List Str} {d : D} {c : Str} : selD fs d ≠ .exc c := by unfold selD; split <;> first | exact must_ne | (intro z; cases z)
theorem atI_map {α β : Type} {g : α → β} {l : List α} {i : Int} {x : α} (h : atI l i = some x) : atI (l.map g) i = some (g x) := by
  unfold atI at h ⊢
  rw [List.length_map]
  cases e : ixN l.length i with
  | none => rw [e] at h; cases h
  | some j =>
    rw [e] at h
    show (l.map g)[j]? = _
    have h : l[j]? = some x := h
    rw [List.getElem?_map, h]
    rfl
theorem atI_mem {α : Type} {l : List α} {i : Int} {x : α} (h : atI l i = some x) : x ∈ l := by
  unfold atI at h
  cases e : ixN l.length i with
  | none => rw [e] at h; cases h
  | some j =>
    rw [e] at h
    exact List.mem_of_getElem? h
theorem ce_sel {fs : List Str} {l es : List Expr} {cs : Es} {p1 p2 : Pos} (C : Cok X xa W p true k) (hb : plainX b = true) (hfl : fs.length ≤ 1000) (hF : chkF p X.env.scope fs l = true) (hne : 0 < es.length) (hl : es.all plainX = true) (hi : PE X b (canE X.K xa W p.G cb)) (hs : PA X es (canA X.K xa W p.G cs)) :
    PE X (.Call (.Subscript (.List l p1) b p2) es [] pos) (canE X.K xa W p.G (.sel fs cb cs)) := by
  obtain ⟨q1, q2⟩ := pa_fns C hF
  cases es with
  | nil => cases hne
  | cons e es =>
    simp only [List.all_cons, Bool.and_eq_true] at hl
    have hf : PE X (.Subscript (.List l p1) b p2) _ := pe_ix (pos := p2) ix_seq (pe_lst (pos := p1) q1) hi (plain_ix hb)
    refine ⟨fun pins s σ H Q I h => ?_⟩
    obtain ⟨M0, ρ, hr, hp⟩ := h
    have hp : PostR X.K W σ (fun d H' => ∀ v, Rep X.K (Mx M0 ρ σ) H' v d → Q v H') H (ev p.G cb ρ >>= fun k' => selD fs k' >>= fun f => evs p.G cs ρ >>= fun ds => p.G f ds) := by
      have hp : PostR X.K W σ (fun d H' => ∀ v, Rep X.K (Mx M0 ρ σ) H' v d → Q v H') H (ev p.G (.sel fs cb cs) ρ) := hp
      rw [sel_eq] at hp
      exact hp
    have hlen : (fnVs X.K fs).length ≤ sizeLine := by
      unfold fnVs
      rw [List.length_map, sizeLine_eq]
      omega
    refine Call_ (thn (hf.run pins s σ H (fun y H1 => ∃ f ∈ fs, y = .ref (He.ga X.K f) ∧ RelS X.K xa M0 ρ σ H1 ∧ PostR X.K W σ (fun d H' => ∀ v, Rep X.K (Mx M0 ρ σ) H' v d → Q v H') H1 (evs p.G cs ρ >>= fun ds => p.G f ds)) I ?_) fun u s1 hu => ?_) rfl
    · show (fnVs X.K fs).length ≤ sizeLine ∧ _
      refine ⟨hlen, fun q hq => ⟨M0, ρ, hr.mono (same_new hq), (PostR.mono (same_new hq) (PostR.bind hp)).imp fun d H1 s1 hp1 v rv => ?_⟩⟩
      obtain ⟨f, e1, q3⟩ := (PostR.bind hp1).out fun _ => selD_ne
      unfold selD at e1
      split at e1
      · rename_i i
        have e1 := must_ok e1
        have hat : atI (fnVs X.K fs) i = some (.ref (He.ga X.K f)) := atI_map e1
        refine .inl ⟨q, fnVs X.K fs, i, .ref (He.ga X.K f), rfl, RepB.int rv, .inl (.inl (s1.k _ _ upd_same rfl)), hat, f, atI_mem e1, rfl, (hr.mono (same_new hq)).mono s1, q3 H1 (Same.refl _)⟩
      · cases e1
    · obtain ⟨y, H1, I1, ry, f, hfm, rfl, hr1, hp1⟩ := hu
      obtain rfl : u = Value.ref (He.ga X.K f) := ry
      have F := C.fns f (q2 f hfm)
      obtain ⟨fd, ps, F1, F2, F3⟩ := F.ok
      refine PySem.W.callWith_K (h₀ := X.base) I1.ok.mod.kin F.kp (thn (hs.run pos pins s1 σ H1 (fun vs H2 => spOf X.K ps.length (p.G f) vs H2 Q (WE W σ)) I1 ?_) fun us s2 ⟨vs, H2, I2, r, q⟩ => ⟨I2.kIn, run_fnS (E := WE W) F1 (C.room rfl) F2 (passAt C.tk σ) I2 r q⟩) (star_cons hl.1) (star_any hl.2)
      refine ⟨M0, ρ, hr1, (PostR.bind hp1).imp fun ds H2 s2 hp2 vs rvs => ?_⟩
      by_cases hn : ds.length = ps.length
      · refine ⟨by rw [rvs.length]; exact hn, ds, Mx M0 ρ σ, rvs, hr1.okM.mono s2, ?_⟩
        cases hG : p.G f ds with
        | ok d => rw [hG] at hp2; exact fun v H' s' rv => hp2 H' s' v rv
        | exc c => rw [hG] at hp2; exact fun H' s' => hp2 H' s'
        | err => rw [hG] at hp2; exact hp2
      · rw [F3 ds hn] at hp2
        exact hp2.elim
end
end Fp
set_option maxHeartbeats 1000000
namespace Fp
open PySem PySem.Spec PyProof.Rows L2 LamX
variable [TB]
/-! ### f(lambda: ..) -/
section
variable {X : Cx} {pins : List (Addr × Obj)} {σ : L2.St} {H : Hp} {s : Shared}
abbrev lamQ (X : Cx) : Str := X.env.qual ++ "<lambda>"
abbrev lamO (X : Cx) (ps : Arguments) (b : Expr) (sc : Scope) (pm : Value) (c' : Addr) (ct : Value) : Obj := PySem.W.kla_obj "<lambda>" (lamQ X) ps b sc (cloFrom X.env.cells sc.names []) pm c' ct
/-- what is told of a lambda that is made -/
def MadeK (X : Cx) (pins : List (Addr × Obj)) (σ : L2.St) (H : Hp) (ps : Arguments) (b : Expr) (sc : Scope) (Q : Value → Shared → Prop) : Prop :=
  ∀ (f c' : Addr) (pm ct : Value) (H1 : Hp) (s1 : Shared), Inv X pins σ H1 s1 → Same H H1 → s1.heap.get? f = some (lamO X ps b sc pm c' ct) → H1 f = none → f ∉ frs X.stack → H1 c' = some (CodeO c' (lamQ X)) → Q (.ref f) s1
theorem lam_made {c P : Addr} {ps : Arguments} {b : Expr} {sc : Scope} {at_ : Pos} {E : Value → Shared → Prop} {Q : Value → Shared → Prop} (I : Inv X pins σ H s) (B : TabB X.base X.mg c P) (ec : X.env.code = .ref c) (mT : (P, lamQ X) ∈ TB.T) (uT : ∀ q ∈ TB.T, q.1 = P → q.2 = lamQ X)
    (tH : Tabs TB.T H) (ed : defaultsOf ps X.env = ([], [])) (ef : ∀ y ∈ sc.names, y.2 = .free → ∃ c, X.env.cells.lookup y.1 = some c) (k : MadeK X pins σ H ps b sc Q) : wpAny (model X.prog X.w) X.A (eval (.Lambda ps b sc at_) X.env) Q E s := by
  obtain ⟨vs, g1, g2, g3⟩ := tH _ mT
  refine PySem.W.kla_eval ed ?_
  have gP : s.heap.get? P = some { cls := .none, data := .fields vs } := I.hok P _ g1
  have out : ∀ f, s.heap.objs.size ≤ f → f ∉ frs X.stack := fun f hf z => by
    rcases List.mem_cons.mp (I.stkSub _ z) with e | e
    · exact absurd (by rw [e]; exact I.lt) (Nat.not_lt.mpr hf)
    · exact I.nofs hf e
  cases hc : codeAmong at_ vs.toList with
  | some cv =>
    obtain ⟨c', rfl, hco⟩ := g3 at_ cv hc
    refine PySem.W.kla_makeFunctionHit (mg := X.mg) (c := c) (P := P) (ps := vs) (closure_ok ef) I.ok.glob (I.mod.glob.keeps I.bk) ec (B.code.keeps I.bk) gP g2 hc (B.bm.keeps I.bk) fun ct h' tk hx hz => ?_
    exact k h'.objs.size c' _ ct H _ (I.kept (t' := tk) fun b o e => Heap.get?_push_of_some _ (hx b o e)) (Same.refl _) (Heap.get?_push_size _ rfl) (I.hok.fresh hz) (out _ hz) hco
  | none =>
    refine PySem.W.kla_makeFunction (mg := X.mg) (c := c) (P := P) (ps := vs) (closure_ok ef) I.ok.glob (I.mod.glob.keeps I.bk) ec (B.code.keeps I.bk) gP g2 hc B.gP (B.bm.keeps I.bk) fun c' ct h' tk hx hge hlt hrec htb => ?_
    obtain ⟨_, oc, ws, t, e2, hoc, hd, hv⟩ := hrec
    cases e2
    have hz : s.heap.objs.size ≤ h'.objs.size := Nat.le_trans hge (Nat.le_of_lt hlt)
    have nC : H c' = none := I.hok.fresh hge
    let more : Array Value := #[rawInt at_.line, rawInt at_.col, .ref c']
    let H1 : Hp := upd (upd H P (.tbl (vs ++ more))) c' (CodeO c' (lamQ X))
    have st : ∀ b o, H b = some o → ntb o = true → H1 b = some o := fun b o e n => by
      have n1 : b ≠ c' := ne_of_none e nC
      have n2 : b ≠ P := fun z => by
        rw [z, g1] at e
        cases e
        cases n
      show upd (upd H P _) c' _ b = _
      rw [upd_ne n1, upd_ne n2]
      exact e
    have eL : (vs ++ more).toList = vs.toList ++ [rawInt at_.line, rawInt at_.col, .ref c'] := by simp [more]
    have tb : Tabs TB.T H1 := fun q hq => by
      by_cases hb : q.1 = P
      · rw [uT q hq hb, hb]
        refine ⟨vs ++ more, by show upd (upd H P _) c' _ P = _; rw [upd_ne (ne_of_none g1 nC), upd_same], by rw [eL]; exact PySem.TriplesOk_snoc _ _ _ _ g2, fun p' cv hcv => ?_⟩
        rw [eL] at hcv
        rcases among_app _ g2 hcv with z | z
        · obtain ⟨c0, e1, e2⟩ := g3 p' cv z
          exact ⟨c0, e1, st _ _ e2 rfl⟩
        · exact ⟨c', z, upd_same⟩
      · obtain ⟨ws', a1, a2, a3⟩ := tH q hq
        refine ⟨ws', by show upd (upd H P _) c' _ q.1 = _; rw [upd_ne (ne_of_none a1 nC), upd_ne hb]; exact a1, a2, fun p' cv hcv => ?_⟩
        obtain ⟨c0, e1, e2⟩ := a3 p' cv hcv
        exact ⟨c0, e1, st _ _ e2 rfl⟩
    have fr : ∀ {b : Addr}, H1 b = none → H b = none := fun {b} q => upd_free ⟨_, g1⟩ (by
      by_cases e : b = c'
      · rw [e] at q
        have : H1 c' = some _ := upd_same
        rw [this] at q
        cases q
      · have q' : upd (upd H P (.tbl (vs ++ more))) c' (CodeO c' (lamQ X)) b = none := q
        rw [upd_ne e] at q'
        exact q')
    have I1 := inv_table (t' := tk) (more := more) (h' := h'.push (lamO X ps b sc ((X.mg "__name__").getD .none) c' ct)) I g1 (fun b o hb e => Heap.get?_push_of_some _ (hx b o hb e)) (Heap.get?_push_of_some _ htb) hge ⟨oc, ws, t, Heap.get?_push_of_some _ hoc, hd, hv⟩
    refine k h'.objs.size c' _ ct H1 _ I1 ⟨st, fr, fun _ => tb⟩ (Heap.get?_push_size _ rfl) ?_ (out _ hz) upd_same
    have n1 : h'.objs.size ≠ c' := Nat.ne_of_gt hlt
    have n2 : h'.objs.size ≠ P := Nat.ne_of_gt (Nat.lt_of_lt_of_le (Heap.lt_size gP) hz)
    show upd (upd H P _) c' _ _ = none
    rw [upd_ne n1, upd_ne n2]
    exact I.hok.fresh hz
end
theorem no_dfl {ps : Arguments} {env : PySem.Env} (h : noPs ps = true) : defaultsOf ps env = ([], []) := by
  obtain ⟨po, as, va, ko, kd, kw, df⟩ := ps
  unfold noPs at h
  simp only [Bool.and_eq_true, List.isEmpty_iff, Option.isNone_iff_eq_none] at h
  obtain ⟨⟨⟨⟨⟨⟨rfl, rfl⟩, rfl⟩, rfl⟩, rfl⟩, rfl⟩, rfl⟩ := h
  rfl
theorem no_bind {ps : Arguments} {b : Expr} {sc : Scope} (h : noPs ps = true) (q : Str) (cl : List (Str × Addr)) (pm cv ct : Value) : bindArgs (PySem.W.kla_fn "<lambda>" q ps b sc cl pm cv ct) ⟨[], []⟩ = pure [] := by
  obtain ⟨po, as, va, ko, kd, kw, df⟩ := ps
  unfold noPs at h
  simp only [Bool.and_eq_true, List.isEmpty_iff, Option.isNone_iff_eq_none] at h
  obtain ⟨⟨⟨⟨⟨⟨rfl, rfl⟩, rfl⟩, rfl⟩, rfl⟩, rfl⟩, rfl⟩ := h
  rfl
section
variable {X : Cx} {xa : Addr → Str → Prop} {W : WX} {p : Pg} {k : Nat} {pos : Pos}
/-- the context of a lambda's body -/
theorem Cok.lamb (C : Cok X xa W p true k) {A : Around} {outer : List PySem.Env} {s : Shared} {H : Hp} {E : XK} {sc : Scope} {f c' : Addr} (hr : Room k (A.deeper (lamEnv X sc s.heap.objs.size f c'))) : Cok (lamCx X A outer s H E sc f c') noX (fun cls d _ H => E cls d H) { p with lm := false } true k :=
  ⟨fun _ => ⟨rfl, fun _ _ z => z⟩, C.nd, takes_of rfl rfl rfl rfl, by have := hr.un; show (A.deeper _).units + 65 < cLine; omega, fun _ => hr, C.fns, C.blt, C.cst, fun _ _ z => z.elim, C.xok, C.tps, C.vok, C.told, fun _ z => (by cases z)⟩
theorem ce_told {f x : Str} {ps : Arguments} {y : Expr} {sc : Scope} {b : E} {p1 lp : Pos} (C : Cok X xa W p true k) (hl : p.lm = true) (hf : f = x) (hft : f ∈ p.tl) (hg : glB X.env.scope x = true) (hd : dbB x = true) (hps : noPs ps = true) (hsc : lamSB X.env.scope sc = true) (hb : brw b = false)
    (hbody : ∀ (A : Around) (outer : List PySem.Env) (s : Shared) (H : Hp) (E : XK) (f c' : Addr), Room k (A.deeper (lamEnv X sc s.heap.objs.size f c')) → PE (lamCx X A outer s H E sc f c') y (canE X.K noX (fun cls d _ H => E cls d H) p.G b)) :
    PE X (.Call (.Name x p1) [.Lambda ps y sc lp] [] pos) (canE X.K xa W p.G (.told f b)) := by
  subst hf
  have hdb : (f == ("__debug__" : Str)) = false := by
    unfold dbB at hd
    simpa using hd
  obtain ⟨hr, c, P, ec, B, mT, uT⟩ := C.lam rfl hl
  obtain ⟨g, pg, bg, sg, dV, kV, doc, pm, cdv, ct, oc, an, od, osl, Ng, a, t1, t2, t3, t4, t5, t6, t7, t8, t9, t10, t11⟩ := (C.told f hft).ex
  have L := lamS_by hsc
  have G := t11 X (lamQ X) rfl rfl rfl rfl rfl hr
  refine ⟨fun pins s σ H Q I h => ?_⟩
  obtain ⟨M0, ρ, hrel, hp⟩ := h
  refine wpAny_Call_Name_kw (ld_glob I (gl_ok hg) t1 ?_ hdb)
  refine PySem.W.callWith_K (h₀ := X.base) I.ok.mod.kin t2 ?_ (by rfl) (by rfl)
  refine Calls.spliced_cons (lam_made I B ec mT uT hrel.m0.t (no_dfl hps) (L.has I.ok) fun fl c' pm' ctv H1 s1 I1 sm hfl hfn hfr hco => Calls.spliced_nil ⟨I1.kIn, ?_⟩)
  have rel1 : RelS X.K noX M0 ρ σ H1 := by
    have r := hrel.mono sm
    exact ⟨r.len, r.m0, r.fz, r.ow, fun i c q => by
      obtain ⟨a', _, z⟩ := r.ex i c q
      exact absurd z ((C.calm rfl).2 _ _), r.dj⟩
  have tt : TTold X.K (fun E H' Q' => canE X.K noX (fun cls d _ H => E cls d H) p.G b σ H' Q') H1 Q := by
    refine ⟨M0, ρ, rel1, ?_⟩
    have hp : PostR X.K W σ (fun d H' => ∀ v, Rep X.K (Mx M0 ρ σ) H' v d → Q v H') H (toldD (ev p.G b ρ)) := hp
    rw [hb]
    cases he : ev p.G b ρ with
    | ok d =>
      rw [he] at hp
      exact fun H' s' v rv => hp H' (sm.trans s') v rv
    | exc c0 =>
      rw [he] at hp
      have hp : PostR X.K W σ (fun d H' => ∀ v, Rep X.K (Mx M0 ρ σ) H' v d → Q v H') H (if c0 ∈ toldNames then .ok (.tuple [.str "refused", .str c0]) else .err) := hp
      split at hp
      · rename_i hm
        exact fun H' s' => ⟨c0, hm, rfl, rfl, s'.t rel1.m0.t, fun v H2 s2 rv => hp H2 (sm.trans (s'.trans s2)) v (rv _)⟩
      · exact hp.elim
    | err =>
      rw [he] at hp
      exact hp.elim
  have rc : codeAny (model X.prog X.w) X.A (.call (.ref g) ⟨[.ref fl], []⟩) (CR C8.CX0 X.stack X.prog X.w H1 s1 Q C8.E0) s1 := by
    refine run_ofS (N := Ng) (ps := [a]) (us := [.ref fl]) (vs := [.ref fl]) t3 t4 t6 hr I1.env0 (t5 s1 [.ref fl] I1.kIn rfl) (.cons rfl .nil) rfl fun hr' => ?_
    obtain ⟨t', ht', hq'⟩ := G fl c' s1 H1 Q (fun E H' Q' => canE X.K noX (fun cls d _ H => E cls d H) p.G b σ H' Q') (fun W' pn xe E q1 q2 tk hW => pe_act (i := 0) I1 L hfl hfn hfr (no_bind hps _ _ _ _ _) tk hW hr' (fun A outer s H hr2 => hbody A outer s H E fl c' hr2) t7 t8 t9 t10) hco tt
    exact ⟨t', ht'.nox, hq'⟩
  refine wpAny_call (codeAny_mono rc fun r s2 hq => ?_)
  cases r with
  | error e => exact (show False from hq).elim
  | ok fw =>
    cases fw with
    | ret u => exact I1.after hq
    | next => exact False.elim hq
    | brk => exact False.elim hq
    | cont => exact False.elim hq
end
end Fp
set_option maxHeartbeats 1000000
namespace Fp
open PySem PySem.Spec PyProof.Rows L2
variable [TB]
theorem rangeD_ok {i j : Int} {ds : List D} (h : rangeD i j = .ok ds) : -(2 ^ 62) ≤ i ∧ i < 2 ^ 62 ∧ -(2 ^ 62) ≤ j ∧ j < 2 ^ 62 ∧ (j - i).toNat ≤ sizeLine ∧ ds = (List.range (j - i).toNat).map fun n => .int (i + (n : Nat)) := by
  unfold rangeD at h
  split at h
  · rename_i q
    injection h with h
    exact ⟨q.1, q.2.1, q.2.2.1, q.2.2.2.1, q.2.2.2.2, h.symm⟩
  · cases h
section
variable {X : Cx} {xa : Addr → Str → Prop} {W : WX} {p : Pg} {cm : Bool} {k : Nat} {a b e tg : Expr} {ca cb cc : E} {pos : Pos} {cp : Bool}
/-! ### what is walked -/
theorem brw_ok {c : E} (h : (cp || !brw c) = true) : brw c = true → cp = true := fun hb => by
  rw [hb] at h
  simpa using h
theorem ci_seq (hb : (cp || !brw ca) = true) (ha : PE X a (canE X.K xa W p.G ca)) : PI X tg a (canI X.K xa W p.G cp (.seq ca)) :=
  PI.of (pi_seq ha) fun σ H R q => by
    obtain ⟨M0, ρ, hr, hp⟩ := q
    refine can1 hr hp fun x H1 v s1 r1 rv hp1 => ?_
    cases x with
    | list xs =>
      obtain ⟨a, vs, rfl, h1, h2, h3, h4⟩ := src_list (brw_ok hb) rv
      refine .inl ⟨a, vs, rfl, h1, PostR.ok hp1 (by rw [← h4.length]; exact h3) _ (wd_list (fun _ => stays_kp) h2 h4)⟩
    | tuple xs =>
      obtain ⟨a, vs, rfl, h1, h2, h3⟩ := rv.tuple
      exact .inr (.inl ⟨a, vs, rfl, h1, PostR.ok hp1 (by rw [← h3.length]; exact h2) _ (wd_tup (fun _ => stays_kp) h1 h3)⟩)
    | str z =>
      obtain ⟨rfl, hz⟩ := rv.str
      exact .inr (.inr ⟨z, rfl, PostR.ok hp1 (by have : z.cps.size ≤ sizeLine := hz; unfold signsD; simpa using this) _ (wd_str z)⟩)
    | _ => exact hp1.elim
theorem ci_rng {x : Str} {p1 : Pos} (C : Cok X xa W p cm k) (hx : x = "range") (hg : glB X.env.scope x = true) (h1 : plainX a = true) (ha : PE X a (canE X.K xa W p.G ca)) : PI X tg (.Call (.Name x p1) [a] [] pos) (canI X.K xa W p.G cp (.rng ca)) := by
  subst hx
  have hA : PA X [a] (tCons (canE X.K xa W p.G ca) tNil) := pa_cons ha pa_nil (star_cons h1)
  refine PI.of (pi_range1 (gl_ok hg) (C.blt "range" (by decide)) hA (star_cons h1)) fun σ H R q => ?_
  obtain ⟨M0, ρ, hr, hp⟩ := q
  refine can1 hr hp fun x H1 v s1 r1 rv hp1 => ?_
  cases x with
  | int j =>
    obtain ⟨ds, e, q⟩ := hp1.out fun _ => rangeD_ne
    obtain ⟨_, _, h3, h4, h5, rfl⟩ := rangeD_ok e
    refine ⟨j, by rw [rv.int], h3, h4, q H1 (Same.refl _) (by simpa using h5) _ ?_⟩
    have := wd_range (K := X.K) (M := Mx M0 ρ σ) (H1 := H1) (P := stays cp (Mx M0 ρ σ) H1) 0 (j - 0).toNat
    rw [Int.sub_zero] at this ⊢
    exact this
  | _ => exact hp1.elim
theorem ci_rng2 {x : Str} {p1 : Pos} (C : Cok X xa W p cm k) (hx : x = "range") (hg : glB X.env.scope x = true) (h1 : plainX a = true) (h2 : plainX b = true) (ha : PE X a (canE X.K xa W p.G ca)) (hb : PE X b (canE X.K xa W p.G cb)) : PI X tg (.Call (.Name x p1) [a, b] [] pos) (canI X.K xa W p.G cp (.rng2 ca cb)) := by
  subst hx
  have hA : PA X [a, b] (tCons (canE X.K xa W p.G ca) (tCons (canE X.K xa W p.G cb) tNil)) := pa_cons ha (pa_cons hb pa_nil (star_cons h2)) (star_cons h1)
  refine PI.of (pi_range2 (gl_ok hg) (C.blt "range" (by decide)) hA (by rw [star_cons h1, star_cons h2]; rfl) (star_cons h2)) fun σ H R q => ?_
  obtain ⟨M0, ρ, hr, hp⟩ := q
  refine can1 hr hp fun x H1 v s1 r1 rv hp1 => can1 r1 hp1 fun y H2 u s2 r2 ru hp2 => ?_
  cases x with
  | int i =>
    cases y with
    | int j =>
      obtain ⟨ds, e, q⟩ := hp2.out fun _ => rangeD_ne
      obtain ⟨h1, h2, h3, h4, h5, rfl⟩ := rangeD_ok e
      exact ⟨i, j, by rw [rv.int, ru.int], ⟨h1, h2, h3, h4⟩, q H2 (Same.refl _) (by simpa using h5) _ (wd_range i _)⟩
    | _ => exact hp2.elim
  | _ => exact hp2.elim
theorem ci_zip {x : Str} {p1 tpos : Pos} {elts : List Expr} {kk : Nat} (C : Cok X xa W p cm k) (hx : x = "zip") (hg : glB X.env.scope x = true) (h1 : plainX a = true) (h2 : plainX b = true) (hba : (cp || !brw ca) = true) (hbb : (cp || !brw cb) = true)
    (ha : PE X a (canE X.K xa W p.G ca)) (hb : PE X b (canE X.K xa W p.G cb)) : PI X (.Tuple elts kk tpos) (.Call (.Name x p1) [a, b] [] pos) (canI X.K xa W p.G cp (.zip ca cb)) := by
  subst hx
  have hA : PA X [a, b] (tCons (canE X.K xa W p.G ca) (tCons (canE X.K xa W p.G cb) tNil)) := pa_cons ha (pa_cons hb pa_nil (star_cons h2)) (star_cons h1)
  refine PI.of (pi_zipK (gl_ok hg) (C.blt "zip" (by decide)) hA (star_cons h1) (star_any (by simp [h2]))) fun σ H R q => ?_
  obtain ⟨M0, ρ, hr, hp⟩ := q
  refine can1 hr hp fun x H1 v s1 r1 rv hp1 => can1 r1 hp1 fun y H2 u s2 r2 ru hp2 => ?_
  obtain ⟨xs, e1, q⟩ := (PostR.bind hp2).out fun _ => seqD_ne
  obtain ⟨ys, e2, q⟩ := (PostR.bind (q H2 (Same.refl _))).out fun _ => seqD_ne
  obtain ⟨k1, a1, vs, rfl, h3, h4, h5⟩ := src_seq (cp := cp) (brw_ok hba) (rv.mono s2) e1
  obtain ⟨k2, a2, ws, rfl, h6, h7, h8⟩ := src_seq (cp := cp) (brw_ok hbb) ru e2
  refine ⟨k1, k2, a1, a2, vs, ws, rfl, h3, h6, PostR.ok (q H2 (Same.refl _)) ?_ _ (wd_zip (fun _ => stays_kp) h4 h7)⟩
  unfold pairsD
  rw [List.length_map, List.length_zip, ← h4.rep.length]
  omega
theorem ci_zip3 {c : Expr} {x : Str} {p1 tpos : Pos} {elts : List Expr} {kk : Nat} (C : Cok X xa W p cm k) (hx : x = "zip") (hg : glB X.env.scope x = true) (h1 : plainX a = true) (h2 : plainX b = true) (h0 : plainX c = true) (hba : (cp || !brw ca) = true) (hbb : (cp || !brw cb) = true) (hbc : (cp || !brw cc) = true)
    (ha : PE X a (canE X.K xa W p.G ca)) (hb : PE X b (canE X.K xa W p.G cb)) (hc : PE X c (canE X.K xa W p.G cc)) : PI X (.Tuple elts kk tpos) (.Call (.Name x p1) [a, b, c] [] pos) (canI X.K xa W p.G cp (.zip3 ca cb cc)) := by
  subst hx
  have hA : PA X [a, b, c] (tCons (canE X.K xa W p.G ca) (tCons (canE X.K xa W p.G cb) (tCons (canE X.K xa W p.G cc) tNil))) := pa_cons ha (pa_cons hb (pa_cons hc pa_nil (star_cons h0)) (star_cons h2)) (star_cons h1)
  refine PI.of (pi_zipT3 (gl_ok hg) (C.blt "zip" (by decide)) hA (star_cons h1) (star_any (by simp [h2, h0]))) fun σ H R q => ?_
  obtain ⟨M0, ρ, hr, hp⟩ := q
  refine can1 hr hp fun x H1 v s1 r1 rv hp1 => can1 r1 hp1 fun y H2 u s2 r2 ru hp2 => can1 r2 hp2 fun z H3 t s3 r3 rt hp3 => ?_
  obtain ⟨xs, e1, q⟩ := (PostR.bind hp3).out fun _ => seqD_ne
  obtain ⟨ys, e2, q⟩ := (PostR.bind (q H3 (Same.refl _))).out fun _ => seqD_ne
  obtain ⟨zs, e3, q⟩ := (PostR.bind (q H3 (Same.refl _))).out fun _ => seqD_ne
  obtain ⟨k1, a1, vs, rfl, h3, h4, h5⟩ := src_seq (cp := cp) (brw_ok hba) ((rv.mono s2).mono s3) e1
  obtain ⟨k2, a2, ws, rfl, h6, h7, h8⟩ := src_seq (cp := cp) (brw_ok hbb) (ru.mono s3) e2
  obtain ⟨k3, a3, us, rfl, h9, h10, h11⟩ := src_seq (cp := cp) (brw_ok hbc) rt e3
  refine ⟨k1, k2, k3, a1, a2, a3, vs, ws, us, rfl, h3, h6, h9, PostR.ok (q H3 (Same.refl _)) ?_ _ (wd_zipT (fun _ => stays_kp) h4 h7 h10)⟩
  unfold trisD
  rw [List.length_map, List.length_zip, ← h4.rep.length]
  omega
theorem ci_enm {x : Str} {p1 tpos : Pos} {elts : List Expr} {kk : Nat} (C : Cok X xa W p cm k) (hx : x = "enumerate") (hg : glB X.env.scope x = true) (h1 : plainX a = true) (hba : (cp || !brw ca) = true)
    (ha : PE X a (canE X.K xa W p.G ca)) : PI X (.Tuple elts kk tpos) (.Call (.Name x p1) [a] [] pos) (canI X.K xa W p.G cp (.enm ca)) := by
  subst hx
  have hA : PA X [a] (tCons (canE X.K xa W p.G ca) tNil) := pa_cons ha pa_nil (star_cons h1)
  refine PI.of (pi_enumK (gl_ok hg) (C.blt "enumerate" (by decide)) hA (star_cons h1)) fun σ H R q => ?_
  obtain ⟨M0, ρ, hr, hp⟩ := q
  refine can1 hr hp fun x H1 v s1 r1 rv hp1 => ?_
  obtain ⟨xs, e1, q⟩ := (PostR.bind hp1).out fun _ => seqD_ne
  obtain ⟨k1, a1, vs, rfl, h3, h4, h5⟩ := src_seq (cp := cp) (brw_ok hba) rv e1
  refine ⟨k1, a1, vs, rfl, h3, PostR.ok (q H1 (Same.refl _)) ?_ _ (wd_enum (fun _ => stays_kp) h4)⟩
  unfold numbD
  rw [List.length_map, List.length_zip, ← h4.rep.length]
  omega
/-! ### and, or -/
theorem cb_one {op : BoolOp} (hb : brw ca = false) (ha : PE X a (canE X.K xa W p.G ca)) : PE X (.BoolOp op [a] pos) (canB X.K xa W p.G op (.cons ca .nil)) :=
  PE.of (pe_one ha) fun σ H Q q => by
    obtain ⟨M0, ρ, hr, hp⟩ := q
    refine ⟨M0, ρ, hr, ?_⟩
    rw [hb]
    rw [evb_one] at hp
    exact hp
theorem cb_cons {op : BoolOp} {e2 : Expr} {l : List Expr} {c2 : E} {cs : Es} (hb : brw ca = false) (ha : PE X a (canE X.K xa W p.G ca)) (hs : PE X (.BoolOp op (e2 :: l) pos) (canB X.K xa W p.G op (.cons c2 cs))) : PE X (.BoolOp op (a :: e2 :: l) pos) (canB X.K xa W p.G op (.cons ca (.cons c2 cs))) := by
  cases op with
  | And =>
    refine PE.of (pe_and ha hs) fun σ H Q q => ?_
    obtain ⟨M0, ρ, hr, hp⟩ := q
    rw [evb_and] at hp
    refine can1 hr hp fun x H1 v s1 r1 rv hp1 => ?_
    rw [hb] at rv
    cases x with
    | bool c =>
      refine ⟨c, RepB.bool rv, ?_⟩
      cases c with
      | true => rw [if_pos rfl]; exact ⟨M0, ρ, r1, hp1⟩
      | false => rw [if_neg Bool.false_ne_true]; exact PostR.ok hp1 _ (Rep.bl _)
    | _ => exact hp1.elim
  | Or =>
    refine PE.of (pe_or ha hs) fun σ H Q q => ?_
    obtain ⟨M0, ρ, hr, hp⟩ := q
    rw [evb_or] at hp
    refine can1 hr hp fun x H1 v s1 r1 rv hp1 => ?_
    rw [hb] at rv
    cases x with
    | bool c =>
      refine ⟨c, RepB.bool rv, ?_⟩
      cases c with
      | true => rw [if_pos rfl]; exact PostR.ok hp1 _ (Rep.bl _)
      | false => rw [if_neg Bool.false_ne_true]; exact ⟨M0, ρ, r1, hp1⟩
    | _ => exact hp1.elim
theorem cw_one {op : BoolOp} (ha : PT X a (canT X.K xa W p.G ca)) : PW X (.BoolOp op [a] pos) (canBT X.K xa W p.G op (.cons ca .nil)) := by
  cases op with
  | And => exact PW.of (pw_and1 ha) fun σ H Q q => by unfold canBT at q; simp only [evb_one] at q; exact q
  | Or => exact PW.of (pw_or1 ha) fun σ H Q q => by unfold canBT at q; simp only [evb_one] at q; exact q
theorem cw_cons {op : BoolOp} {e2 : Expr} {l : List Expr} {c2 : E} {cs : Es} (ha : PT X a (canT X.K xa W p.G ca)) (hs : PW X (.BoolOp op (e2 :: l) pos) (canBT X.K xa W p.G op (.cons c2 cs))) : PW X (.BoolOp op (a :: e2 :: l) pos) (canBT X.K xa W p.G op (.cons ca (.cons c2 cs))) := by
  cases op with
  | And =>
    refine PW.of (pw_and ha hs) fun σ H Q q => ?_
    obtain ⟨M0, ρ, hr, hp⟩ := q
    have e : (evb p.G .And (.cons ca (.cons c2 cs)) ρ >>= asBool) = ((ev p.G ca ρ >>= asBool) >>= fun b => match b with
      | true => evb p.G .And (.cons c2 cs) ρ >>= asBool
      | false => .ok false) := by
      rw [evb_and]
      cases ev p.G ca ρ with
      | ok d =>
        show ((asBool d >>= fun b => _) >>= asBool) = (asBool d >>= fun b => _)
        cases asBool d with
        | ok b => cases b <;> rfl
        | exc c => rfl
        | err => rfl
      | exc c => rfl
      | err => rfl
    rw [e] at hp
    refine ⟨M0, ρ, hr, (PostR.bind hp).imp fun b H1 s1 hp1 => ?_⟩
    cases b with
    | true => rw [if_pos rfl]; exact ⟨M0, ρ, hr.mono s1, hp1⟩
    | false => rw [if_neg Bool.false_ne_true]; exact PostR.ok hp1
  | Or =>
    refine PW.of (pw_or ha hs) fun σ H Q q => ?_
    obtain ⟨M0, ρ, hr, hp⟩ := q
    have e : (evb p.G .Or (.cons ca (.cons c2 cs)) ρ >>= asBool) = ((ev p.G ca ρ >>= asBool) >>= fun b => match b with
      | true => .ok true
      | false => evb p.G .Or (.cons c2 cs) ρ >>= asBool) := by
      rw [evb_or]
      cases ev p.G ca ρ with
      | ok d =>
        show ((asBool d >>= fun b => _) >>= asBool) = (asBool d >>= fun b => _)
        cases asBool d with
        | ok b => cases b <;> rfl
        | exc c => rfl
        | err => rfl
      | exc c => rfl
      | err => rfl
    rw [e] at hp
    refine ⟨M0, ρ, hr, (PostR.bind hp).imp fun b H1 s1 hp1 => ?_⟩
    cases b with
    | true => rw [if_pos rfl]; exact PostR.ok hp1
    | false => rw [if_neg Bool.false_ne_true]; exact ⟨M0, ρ, hr.mono s1, hp1⟩
end
end Fp
set_option maxHeartbeats 1000000
namespace Fp
open PySem PySem.Spec PyProof.Rows L2
variable [TB]
/-! ### comprehensions: the new list at D -/
structure InD (K : PySem.W.Frag) (M : Addr → Prop) (H1 : Hp) (D : Addr) (H : Hp) (ds : List Fp.D) : Prop where
  same : Same H1 H
  acc : ∃ vs, H D = some (.lst vs) ∧ RepL K (MD M D) H vs ds
section
variable {K : PySem.W.Frag} {M : Addr → Prop} {H1 H H' : Hp} {D : Addr} {ds : List Fp.D}
theorem InD.new (hD : H1 D = none) : InD K M H1 D (upd H1 D (.lst [])) [] := ⟨same_new hD, [], upd_same, .nil⟩
theorem InD.mono (h : InD K M H1 D H ds) (s : Same H H') : InD K M H1 D H' ds := by
  obtain ⟨s1, vs, h1, h2⟩ := h
  exact ⟨s1.trans s, vs, s.k _ _ h1 rfl, h2.mono s⟩
theorem InD.push {y : V} {d : Fp.D} (hD : H1 D = none) (h : InD K M H1 D H ds) (r : Rep K (MD M D) H y d) : ∃ vs, H D = some (.lst vs) ∧ vs.length = ds.length ∧ InD K M H1 D (upd H D (.lst (vs ++ [y]))) (ds ++ [d]) := by
  obtain ⟨s1, vs, h1, h2⟩ := h
  have e : ∀ b o, H b = some o → ntb o = true → ¬ MD M D b → upd H D (.lst (vs ++ [y])) b = some o := fun b o hb _ n => by
    have hn : b ≠ D := fun e => n (.inr e)
    rw [upd_ne hn]; exact hb
  have et : ∀ b xs, H b = some (.tup xs) → upd H D (.lst (vs ++ [y])) b = some (.tup xs) := fun b xs hb => by
    have hn : b ≠ D := fun e => by subst e; rw [h1] at hb; cases hb
    rw [upd_ne hn]; exact hb
  have ef : ∀ b o u, H b = some (.frz o u) → upd H D (.lst (vs ++ [y])) b = some (.frz o u) := fun b o u hb => by
    have hn : b ≠ D := fun e => by subst e; rw [h1] at hb; cases hb
    rw [upd_ne hn]; exact hb
  refine ⟨vs, h1, h2.length, ⟨⟨fun b o hb n => ?_, fun q => s1.free (upd_free ⟨_, h1⟩ q), fun t => tabs_upd h1 rfl (s1.t t)⟩, vs ++ [y], upd_same, (h2.keep e et ef).append (.cons (r.keep e et ef) .nil)⟩⟩
  have hn : b ≠ D := fun e => by subst e; rw [hD] at hb; cases hb
  rw [upd_ne hn]
  exact s1.k _ _ hb n
end
/-- the slots within -/
theorem RelS.inner {K : PySem.W.Frag} {xa : Addr → Str → Prop} {M0 : Addr → Prop} {ρ : Slots} {σ : L2.St} {H1 H : Hp} {D : Addr} {o : HO} (r : RelS K xa M0 ρ σ H1) (hx : ∀ a c, ¬ xa a c) (hD : H1 D = none) (s : Same H1 H) (hH : H D = some o) : RelS K noX (MD (Mx M0 ρ σ) D) ρ σ H := by
  have off : ∀ a, Mx (MD (Mx M0 ρ σ) D) ρ σ a → Mx M0 ρ σ a ∨ H1 a = none := fun a m => by
    rcases m with (m | m) | m
    · exact .inl m
    · exact .inr (by rw [m]; exact hD)
    · exact .inl (.inr m)
  refine ⟨r.len, ⟨fun a m => ?_, s.t r.m0.t⟩, fun i d h => ?_, fun i d h => ?_, fun i c h => ?_, r.dj⟩
  · rcases m with m | m
    · exact s.some (r.okM.s a m)
    · subst m
      exact ⟨_, hH⟩
  · obtain ⟨v, h1, h2⟩ := r.fz i d h
    exact ⟨v, h1, h2.move (Kp.same s) off⟩
  · obtain ⟨a, h1, h2⟩ := r.ow i d h
    exact ⟨a, h1, own_move (Kp.same s) off (fun o q n => s.k _ _ q n) h2⟩
  · obtain ⟨a, _, h2⟩ := r.ex i c h
    exact absurd h2 (hx a c)
theorem md_wipe {M0 : Addr → Prop} {ρ : Slots} {σ : L2.St} {D a : Addr} {vs : List Nat} (m : Mx (MD (Mx M0 ρ σ) D) (wipeE ρ vs) (L2.wipe σ vs) a) : MD (Mx M0 ρ σ) D a := by
  rcases m with m | ⟨j, d, h1, h2⟩
  · exact m
  · rcases wipeE_get h1 with z | ⟨z, w⟩
    · cases z
    · rw [wipe_get w] at h2
      exact .inl (.inr ⟨j, d, z, h2⟩)
section
variable {X : Cx} {xa : Addr → Str → Prop} {W : WX} {p : Pg} {cm : Bool} {k : Nat} {pos : Pos}
theorem lc_rd {own : List Nat} {elt : E} {tg : Tg} {it : Fp.It} {cnd : Eo} (hx : ∀ a c, ¬ xa a c) (hb : brw elt = false) (htg : (tgIx tg).all (fun j => own.contains j) = true) {σ : L2.St} {H : Hp} {Q : VK} (q : canF X.K xa W p.G (.lc own elt tg it cnd) σ H Q) :
    tLc (canI X.K xa W p.G true it) (canG X.K noX tg) (canC X.K noX noW p.G cnd) (canE X.K noX noW p.G elt) own σ H Q := by
  obtain ⟨M0, ρ, hr, hp⟩ := q
  refine ⟨M0, ρ, hr, (PostR.bind hp).imp fun xs H1 s1 hp1 hlen J wd D hD => ?_⟩
  obtain ⟨ys, e, q⟩ := (PostR.bind hp1).out fun _ => lcGo_ne
  have r1 := hr.mono s1
  refine lc_it wd (fun i H2 => ∃ ys1 ys2, InD X.K (Mx M0 ρ σ) H1 D H2 ys1 ∧ ys1.length ≤ i ∧ lcGo tg (wipeE ρ own) (fun ρ1 => evc p.G cnd ρ1) (fun ρ1 => ev p.G elt ρ1) (xs.drop i) = .ok ys2 ∧ ys1 ++ ys2 = ys) ⟨[], ys, InD.new hD, Nat.le_refl _, e, rfl⟩ (fun i H2 _ h => by
    obtain ⟨_, _, h, _⟩ := h
    exact h.same) (fun i x H2 H3 hi h y => ?_) (fun H2 h => ?_)
  · obtain ⟨ys1, ys2, hin, hle, hgo, hys⟩ := h
    obtain ⟨s3, d, hd, rd⟩ := y
    have hin3 := hin.mono s3
    obtain ⟨vs3, hv3, _⟩ := hin3.acc
    have rw3 := (r1.inner hx hD hin3.same hv3).wipe own
    have hdr : xs.drop i = d :: xs.drop (i + 1) := by
      rw [List.drop_eq_getElem_cons hi]
      have : xs[i] = d := by rw [List.getElem?_eq_getElem hi] at hd; exact Option.some.inj hd
      rw [this]
    rw [hdr] at hgo
    unfold lcGo at hgo
    obtain ⟨ρ1, hb1, hgo⟩ := tame_some hgo
    obtain ⟨c, hc1, hgo⟩ := tame_some hgo
    refine ⟨_, _, d, ρ1, rw3, rd _ (fun a m => ?_), hb1, fun σ2 r2 hl2 ke2 ow2 => ⟨?_, ?_⟩⟩
    · rcases md_wipe m with m | m
      · exact .inl m
      · exact .inr (by rw [m]; exact hD)
    · refine (wipe_eq (by rw [wipe_length] at hl2 ⊢; exact hl2.symm ▸ rfl) fun j hj => ?_).trans (wipe_eq (by rw [wipe_length]) fun j hj => wipe_get hj)
      refine ke2 j fun hj2 => hj ?_
      rw [List.all_eq_true] at htg
      have := htg j hj2
      simpa using this
    · refine ⟨_, ρ1, r2, ?_⟩
      rw [hc1]
      intro H4 s4
      cases c with
      | true =>
        rw [if_pos rfl] at hgo ⊢
        obtain ⟨y, hy1, hgo⟩ := tame_some hgo
        obtain ⟨ys3, hys3, hgo⟩ := bind_some hgo
        cases hgo
        refine ⟨_, ρ1, r2.mono s4, ?_⟩
        rw [hy1]
        intro H5 s5 v rv
        rw [hb] at rv
        have rv : Rep X.K (MD (Mx M0 ρ σ) D) H5 v y := Rep.off (fun a m => .inl (.inl m)) rv
        obtain ⟨vs, h1, h2, h3⟩ := (hin3.mono (s4.trans s5)).push hD rv
        exact ⟨vs, h1, by omega, ys1 ++ [y], ys3, h3, by simp; omega, hys3, by simpa using hys⟩
      | false =>
        rw [if_neg Bool.false_ne_true] at hgo ⊢
        exact ⟨ys1, ys2, hin3.mono s4, by omega, hgo, hys⟩
  · obtain ⟨ys1, ys2, hin, hle, hgo, hys⟩ := h
    rw [List.drop_length] at hgo
    have hgo : Res.ok [] = Res.ok ys2 := hgo
    cases hgo
    rw [List.append_nil] at hys
    subst hys
    obtain ⟨vs, h1, h2⟩ := hin.acc
    have hD0 : H D = none := s1.free hD
    refine PostR.ok (q H2 hin.same) (.ref D) (.lst (.inl h1) (fun m => ?_) (by rw [h2.length]; omega) (h2.off fun a m => .inl (.inl m))) fun ds e => (by cases e; exact ⟨D, vs, rfl, hD0, h1, by rw [h2.length]; omega, h2⟩)
    · obtain ⟨o, ho⟩ := r1.okM.s D m
      rw [hD] at ho
      cases ho
end
end Fp
set_option maxHeartbeats 1000000
namespace Fp
open PySem PySem.Spec PyProof.Rows L2
variable [TB]
/-- all but D stays -/
structure SX (D : Addr) (H H' : Hp) : Prop where
  k : ∀ b o, b ≠ D → H b = some o → ntb o = true → H' b = some o
  free : ∀ {b}, b ≠ D → H' b = none → H b = none
  t : LamX.Tabs TB.T H → LamX.Tabs TB.T H'
theorem SX.refl (D : Addr) (H : Hp) : SX D H H := ⟨fun _ _ _ h _ => h, fun _ h => h, fun h => h⟩
theorem SX.same {D : Addr} {H H1 H2 : Hp} (h : SX D H H1) (s : Same H1 H2) : SX D H H2 := ⟨fun b o n q z => s.k _ _ (h.k b o n q z) z, fun n q => h.free n (s.free q), fun q => s.t (h.t q)⟩
theorem SX.upd {D : Addr} {H H1 : Hp} {vs : List V} {u : HO} (h : SX D H H1) (hD : H1 D = some (.lst vs)) : SX D H (upd H1 D u) := ⟨fun b o n q z => by rw [upd_ne n]; exact h.k b o n q z, fun n q => h.free n (upd_free ⟨_, hD⟩ q), fun q => tabs_upd hD rfl (h.t q)⟩
theorem SX.kp {D : Addr} {H H1 : Hp} {M : Addr → Prop} {vs : List V} {o : HO} (h : SX D H H1) (m : M D) (hD : H D = some (.lst vs)) (hD' : H1 D = some o) : Kp M H H1 :=
  ⟨fun b o q z n => h.k b o (fun e => n (by rw [e]; exact m)) q z, fun b xs q => h.k b _ (fun e => by rw [e, hD] at q; cases q) q rfl, fun b o u q => h.k b _ (fun e => by rw [e, hD] at q; cases q) q rfl, fun {b} q => h.free (fun e => by rw [e, hD'] at q; cases q) q, h.t⟩
theorem RelS.exD {K : PySem.W.Frag} {M0 : Addr → Prop} {ρ : Slots} {σ : L2.St} {H H' : Hp} {D : Addr} {vs : List V} {o : HO} (r : RelS K noX M0 ρ σ H) (m : M0 D) (hn : ∀ a, OwnA ρ σ a → a ≠ D) (s : SX D H H') (hD : H D = some (.lst vs)) (hD' : H' D = some o) : RelS K noX M0 ρ σ H' := by
  have kp : Kp (Mx M0 ρ σ) H H' := s.kp (.inl m) hD hD'
  refine ⟨r.len, ⟨fun a ma => ?_, s.t r.m0.t⟩, fun i d h => ?_, fun i d h => ?_, fun i c h => r.ex i c h, r.dj⟩
  · obtain ⟨o', ho⟩ := r.m0.s a ma
    cases q : H' a with
    | some o => exact ⟨_, rfl⟩
    | none => rw [kp.free q] at ho; cases ho
  · obtain ⟨v, h1, h2⟩ := r.fz i d h
    exact ⟨v, h1, h2.move kp fun a m => .inl m⟩
  · obtain ⟨a, h1, h2⟩ := r.ow i d h
    exact ⟨a, h1, own_move kp (fun a m => .inl m) (fun o q z => s.k _ _ (hn a ⟨i, d, h, h1⟩) q z) h2⟩
section
variable {X : Cx} {xa : Addr → Str → Prop} {W : WX} {p : Pg} {cm : Bool} {k : Nat} {pos : Pos}
theorem drop_at {α : Type} {xs : List α} {i : Nat} {d : α} (hi : i < xs.length) (hd : xs[i]? = some d) : xs.drop i = d :: xs.drop (i + 1) := by
  rw [List.drop_eq_getElem_cons hi]
  have : xs[i] = d := by rw [List.getElem?_eq_getElem hi] at hd; exact Option.some.inj hd
  rw [this]
theorem lc2_rd {own : List Nat} {elt : E} {tg tg2 : Tg} {it it2 : Fp.It} {cnd : Eo} (hx : ∀ a c, ¬ xa a c) (hb : brw elt = false) (htg : (tgIx tg).all (fun j => own.contains j) = true) {σ : L2.St} {H : Hp} {Q : VK} (q : canF X.K xa W p.G (.lc2 own elt tg it tg2 it2 cnd) σ H Q) :
    tLc2 (canI X.K xa W p.G true it) (canG X.K noX tg) (canC X.K noX noW p.G .no) (canI X.K noX noW p.G false it2) (canG X.K noX tg2) (canC X.K noX noW p.G cnd) (canE X.K noX noW p.G elt) own (tgIx tg2) σ H Q := by
  obtain ⟨M0, ρ, hr, hp⟩ := q
  refine ⟨M0, ρ, hr, (PostR.bind hp).imp fun xs H1 s1 hp1 hlen J wd D hD => ?_⟩
  obtain ⟨ys, e, q⟩ := (PostR.bind hp1).out fun _ => lc2Go_ne fun _ _ => bind_ne (fun _ => tame_ne) fun _ _ => lcGo_ne
  have r1 := hr.mono s1
  have hsz : ys.length ≤ sizeLine := by
    by_cases h : ys.length ≤ sizeLine
    · exact h
    · have := q H1 (Same.refl _)
      rw [if_neg h] at this
      exact this.elim
  have ownD : ∀ a, OwnA ρ σ a → a ≠ D := fun a ha e => by
    obtain ⟨o, ho⟩ := r1.okM.s a (.inr ha)
    rw [e, hD] at ho
    cases ho
  let inner : Slots → Res (List Fp.D) := fun ρ1 => (evi p.G it2 ρ1).tame >>= fun ys => lcGo tg2 (wipeE ρ1 (tgIx tg2)) (fun ρ2 => evc p.G cnd ρ2) (fun ρ2 => ev p.G elt ρ2) ys
  let Pv : Nat → Hp → Prop := fun i H2 => ∃ ys1 ys2, InD X.K (Mx M0 ρ σ) H1 D H2 ys1 ∧ lc2Go tg (wipeE ρ own) inner (xs.drop i) = .ok ys2 ∧ ys1 ++ ys2 = ys
  refine ⟨fun i m H2 => m = xs.length - i ∧ i ≤ xs.length ∧ Pv i H2, ⟨_, rfl, Nat.zero_le _, [], ys, InD.new hD, e, rfl⟩, ?_⟩
  rintro i m H2 ⟨rfl, hi, ys1, ys2, hin, hgo, hys⟩
  by_cases hlt : i < xs.length
  · refine .inr ⟨wd.goes i H2 hlt hin.same, Pv (i + 1), fun H' p' => ⟨xs.length - (i + 1), by omega, rfl, hlt, p'⟩, fun x H3 y => ?_⟩
    obtain ⟨s3, d, hd, rd⟩ := wd.yields i H2 x H3 hlt hin.same y
    have hin3 := hin.mono s3
    obtain ⟨vs3, hv3, _⟩ := hin3.acc
    have rw3 := (r1.inner hx hD hin3.same hv3).wipe own
    rw [drop_at hlt hd] at hgo
    unfold lc2Go at hgo
    obtain ⟨ρ1, hb1, hgo⟩ := tame_some hgo
    obtain ⟨w, hw, hgo⟩ := bind_some hgo
    obtain ⟨ys3, hys3, hgo⟩ := bind_some hgo
    cases hgo
    obtain ⟨zs, hz, hw⟩ := tame_some hw
    refine ⟨_, _, d, ρ1, rw3, rd _ (fun a m => ?_), hb1, fun σ2 r2 hl2 ke2 ow2 => ⟨?_, ?_⟩⟩
    · rcases md_wipe m with m | m
      · exact .inl m
      · exact .inr (by rw [m]; exact hD)
    · refine (wipe_eq (by rw [wipe_length] at hl2 ⊢; exact hl2.symm ▸ rfl) fun j hj => ?_).trans (wipe_eq (by rw [wipe_length]) fun j hj => wipe_get hj)
      refine ke2 j fun hj2 => hj ?_
      rw [List.all_eq_true] at htg
      have := htg j hj2
      simpa using this
    · have ow1 : ∀ a, OwnA ρ1 σ2 a → a ≠ D := fun a ha => by
        obtain ⟨j, d', h1, h2⟩ := ow2 a ha
        rcases wipeE_get h1 with z | ⟨z, w⟩
        · cases z
        · rw [wipe_get w] at h2
          exact ownD a ⟨j, d', z, h2⟩
      refine ⟨_, ρ1, r2, ?_⟩
      show PostR X.K noW σ2 _ H3 (.ok true)
      intro H4 s4
      show canI X.K noX noW p.G false it2 σ2 H4 _
      refine ⟨_, ρ1, r2.mono s4, ?_⟩
      rw [hz]
      intro H5 s5 hlen1 J1 wd1
      have r5 := r2.mono (s4.trans s5)
      have hin5 := hin3.mono (s4.trans s5)
      obtain ⟨vs5, hv5, _⟩ := hin5.acc
      let Pw : Nat → Hp → Prop := fun j H6 => ∃ w1 w2, InD X.K (Mx M0 ρ σ) H1 D H6 (ys1 ++ w1) ∧ SX D H5 H6 ∧ lcGo tg2 (wipeE ρ1 (tgIx tg2)) (fun ρ2 => evc p.G cnd ρ2) (fun ρ2 => ev p.G elt ρ2) (zs.drop j) = .ok w2 ∧ w1 ++ w2 = w
      refine ⟨fun j m H6 => m = zs.length - j ∧ j ≤ zs.length ∧ Pw j H6, ⟨_, rfl, Nat.zero_le _, [], w, by rw [List.append_nil]; exact hin5, SX.refl _ _, hw, rfl⟩, ?_⟩
      rintro j m H6 ⟨rfl, hj, w1, w2, hin6, sx6, hgo6, hw6⟩
      have mD : Mx (MD (Mx M0 ρ σ) D) ρ1 σ2 D := .inl (.inr rfl)
      obtain ⟨vs6, hv6, _⟩ := hin6.acc
      by_cases hjt : j < zs.length
      · refine .inr ⟨wd1.goes j H6 hjt (sx6.kp mD hv5 hv6), Pw (j + 1), fun H' p' => ⟨zs.length - (j + 1), by omega, rfl, hjt, p'⟩, fun x7 H7 y7 => ?_⟩
        obtain ⟨s7, d7, hd7, rd7⟩ := wd1.yields j H6 x7 H7 hjt (sx6.kp mD hv5 hv6) y7
        have hin7 := hin6.mono s7
        have sx7 := sx6.same s7
        obtain ⟨vs7, hv7, _⟩ := hin7.acc
        have rw7 := (r5.exD (.inr rfl) ow1 sx7 hv5 hv7).wipe (tgIx tg2)
        rw [drop_at hjt hd7] at hgo6
        unfold lcGo at hgo6
        obtain ⟨ρ2, hb2, hgo6⟩ := tame_some hgo6
        obtain ⟨c, hc2, hgo6⟩ := tame_some hgo6
        refine ⟨_, _, d7, ρ2, rw7, rd7 _ (fun a m => .inl ?_), hb2, fun σ3 r3 hl3 ke3 ow3 => ⟨?_, ?_⟩⟩
        · rcases m with m | ⟨j', d', h1, h2⟩
          · exact .inl m
          · rcases wipeE_get h1 with z | ⟨z, w⟩
            · cases z
            · rw [wipe_get w] at h2
              exact .inr ⟨j', d', z, h2⟩
        · refine (wipe_eq (by rw [wipe_length] at hl3 ⊢; exact hl3.symm ▸ rfl) fun j hj => ke3 j hj).trans (wipe_eq (by rw [wipe_length]) fun j hj => wipe_get hj)
        · refine ⟨_, ρ2, r3, ?_⟩
          rw [hc2]
          intro H8 s8
          cases c with
          | true =>
            rw [if_pos rfl] at hgo6 ⊢
            obtain ⟨y, hy1, hgo6⟩ := tame_some hgo6
            obtain ⟨w3, hw3, hgo6⟩ := bind_some hgo6
            cases hgo6
            refine ⟨_, ρ2, r3.mono s8, ?_⟩
            rw [hy1]
            intro H9 s9 v rv
            rw [hb] at rv
            have rv : Rep X.K (MD (Mx M0 ρ σ) D) H9 v y := Rep.off (fun a m => .inl (.inl m)) rv
            obtain ⟨vs, h1, h2, h3⟩ := (hin7.mono (s8.trans s9)).push hD rv
            refine ⟨vs, h1, ?_, w1 ++ [y], w3, by rw [← List.append_assoc]; exact h3, ((sx7.same s8).same s9).upd h1, hw3, by simpa using hw6⟩
            subst hys hw6
            simp only [List.length_append, List.length_cons] at hsz h2
            omega
          | false =>
            rw [if_neg Bool.false_ne_true] at hgo6 ⊢
            exact ⟨w1, w2, hin7.mono s8, sx7.same s8, hgo6, hw6⟩
      · have ej : j = zs.length := by omega
        subst ej
        refine .inl ⟨wd1.stops H6 (sx6.kp mD hv5 hv6), ys1 ++ w, ys3, ?_, hys3, by rw [List.append_assoc]; exact hys⟩
        rw [List.drop_length] at hgo6
        have hgo6 : Res.ok [] = Res.ok w2 := hgo6
        cases hgo6
        rw [List.append_nil] at hw6
        subst hw6
        exact hin6
  · have ei : i = xs.length := by omega
    subst ei
    refine .inl ⟨wd.stops H2 hin.same, ?_⟩
    rw [List.drop_length] at hgo
    have hgo : Res.ok [] = Res.ok ys2 := hgo
    cases hgo
    rw [List.append_nil] at hys
    subst hys
    obtain ⟨vs, h1, h2⟩ := hin.acc
    have q2 := q H2 hin.same
    rw [if_pos hsz] at q2
    have hD0 : H D = none := s1.free hD
    refine PostR.ok q2 (.ref D) (.lst (.inl h1) (fun m => ?_) (by rw [h2.length]; omega) (h2.off fun a m => .inl (.inl m))) fun ds e => (by cases e; exact ⟨D, vs, rfl, hD0, h1, by rw [h2.length]; omega, h2⟩)
    · obtain ⟨o, ho⟩ := r1.okM.s D m
      rw [hD] at ho
      cases ho
end
end Fp
set_option maxHeartbeats 1000000
namespace Fp
open PySem PySem.Spec PyProof.Rows L2
variable [TB]
/-- codes that give new lists -/
def newE : E → Bool
  | .lst _ => true
  | .bin _ _ _ => true
  | .slc _ _ _ => true
  | .rev _ => true
  | .blt _ _ => true
  | .lc _ _ _ _ _ => true
  | .lc2 _ _ _ _ _ _ _ => true
  | _ => false
theorem PostR.no {K : PySem.W.Frag} {W : WX} {σ : L2.St} {α : Type} {k : α → Hp → Prop} {H : Hp} (h : PostR K W σ k H .err) : False := h
structure Gd (X : Cx) (xa : Addr → Str → Prop) (W : WX) (p : Pg) (c : E) (x : Expr) : Prop where
  e : PE X x (canE X.K xa W p.G c)
  f : newE c = true → PE X x (canF X.K xa W p.G c)
  t : brw c = false → tstX x = true → PT X x (canT X.K xa W p.G c)
section
variable {X : Cx} {xa : Addr → Str → Prop} {W : WX} {p : Pg} {c : E} {e : Expr}
theorem Gd.val (h : PE X e (canE X.K xa W p.G c)) (hn : newE c = false) (h1 : ∀ op l p, e ≠ .BoolOp op l p) (h2 : ∀ x p, e ≠ .UnaryOp .Not x p) (h4 : ∀ a b c p, e ≠ .Compare a b c p) : Gd X xa W p c e :=
  ⟨h, fun q => (by rw [hn] at q; cases q), fun hb ht => ct_val hb h (plain_test h1 h2 (fun a b c q z => by subst z; cases ht) h4)⟩
theorem Gd.new (h : PE X e (canF X.K xa W p.G c)) (hb : brw c = false) (h1 : ∀ op l p, e ≠ .BoolOp op l p) (h2 : ∀ x p, e ≠ .UnaryOp .Not x p) (h4 : ∀ a b c p, e ≠ .Compare a b c p) : Gd X xa W p c e :=
  ⟨PE.weak hb h, fun _ => h, fun hb ht => ct_val hb (PE.weak hb h) (plain_test h1 h2 (fun a b c q z => by subst z; cases ht) h4)⟩
end
section
variable {k : Nat}
theorem nb {c : E} (h : (!brw c) = true) : brw c = false := by simpa using h
theorem nil_of {es : Es} (h : es.len = 0) : es = .nil := by
  cases es with
  | nil => rfl
  | cons e es => exact absurd h (Nat.succ_ne_zero _)
theorem own_map {N : List Str} {own : List Nat} : (ownP N own).map (·.2) = own := by
  unfold ownP
  rw [List.map_map]
  exact (List.map_congr_left fun _ _ => rfl).trans (List.map_id _)
mutual
theorem okE : ∀ {X : Cx} {xa : Addr → Str → Prop} {W : WX} {p : Pg} {cm : Bool} (C : Cok X xa W p cm k) (c : E) {e : Expr}, chkE X.N p cm X.env.scope c e = true → Gd X xa W p c e
  | X, xa, W, p, cm, C, .var i, e, h => by
    unfold chkE at h
    split at h
    · exact .val (ce_var h) rfl (by simp) (by simp) (by simp)
    · cases h
  | X, xa, W, p, cm, C, .own i, e, h => by
    unfold chkE at h
    split at h
    · exact .val (ce_own h) rfl (by simp) (by simp) (by simp)
    · cases h
  | X, xa, W, p, cm, C, .cst d, e, h => by
    unfold chkE at h
    split at h
    · split at h
      · have h := of_decide_eq_true h
        subst h
        exact .val (ce_c pe_int fun M H => .int _) rfl (by simp) (by simp) (by simp)
      · cases h
    · split at h
      · simp only [Bool.and_eq_true, decide_eq_true_eq] at h
        obtain ⟨rfl, h⟩ := h
        exact .val (ce_c pe_str fun M H => .str _ (Nat.le_trans h (by decide))) rfl (by simp) (by simp) (by simp)
      · cases h
    · split at h
      · have h := of_decide_eq_true h
        subst h
        exact .val (ce_c pe_bl fun M H => .bl _) rfl (by simp) (by simp) (by simp)
      · cases h
    · split at h
      · exact .val (ce_c pe_non fun M H => .non) rfl (by simp) (by simp) (by simp)
      · cases h
    · cases h
  | X, xa, W, p, cm, C, .glb d, e, h => by
    unfold chkE at h
    split at h
    · simp only [Bool.and_eq_true] at h
      obtain ⟨⟨h1, h2⟩, h3⟩ := h
      rw [Bool.or_eq_true] at h3
      rcases h3 with h3 | h3
      · exact .val (ce_glb C h1 h2 h3) rfl (by simp) (by simp) (by simp)
      · rw [Bool.and_eq_true] at h3
        exact .val (ce_glbT C h1 h2 (of_decide_eq_true h3.1) h3.2) rfl (by simp) (by simp) (by simp)
    · cases h
  | X, xa, W, p, cm, C, .tup es, e, h => by
    unfold chkE at h
    split at h
    · simp only [Bool.and_eq_true, decide_eq_true_eq] at h
      exact .val (ce_tup (okEs C es h.1) h.2) rfl (by simp) (by simp) (by simp)
    · cases h
  | X, xa, W, p, cm, C, .lst es, e, h => by
    unfold chkE at h
    split at h
    · simp only [Bool.and_eq_true, decide_eq_true_eq] at h
      exact .new (ce_lst (okEs C es h.1) h.2) rfl (by simp) (by simp) (by simp)
    · cases h
  | X, xa, W, p, cm, C, .bin op a b, e, h => by
    unfold chkE at h
    split at h
    · simp only [Bool.and_eq_true, decide_eq_true_eq] at h
      obtain ⟨⟨rfl, h1⟩, h2⟩ := h
      exact .new (ce_bin (okE C a h1).e (okE C b h2).e) rfl (by simp) (by simp) (by simp)
    · cases h
  | X, xa, W, p, cm, C, .neg a, e, h => by
    unfold chkE at h
    split at h
    · exact .val (ce_neg (okE C a h).e) rfl (by simp) (by simp) (by simp)
    · cases h
  | X, xa, W, p, cm, C, .cmp op a b, e, h => by
    unfold chkE at h
    split at h
    · simp only [Bool.and_eq_true, decide_eq_true_eq] at h
      obtain ⟨⟨⟨rfl, h0⟩, h1⟩, h2⟩ := h
      exact ⟨ce_cmp C.units h0 (okE C a h1).e (okE C b h2).e, fun z => (by cases z), fun _ _ => ct_cmp C.units h0 (okE C a h1).e (okE C b h2).e⟩
    · cases h
  | X, xa, W, p, cm, C, .chn op op' a b c, e, h => by
    unfold chkE at h
    split at h
    · simp only [Bool.and_eq_true, decide_eq_true_eq] at h
      obtain ⟨⟨⟨⟨⟨⟨rfl, rfl⟩, h0⟩, h4⟩, h1⟩, h2⟩, h3⟩ := h
      exact ⟨ce_chn C.units h4 (okE C a h1).e (okE C b h2).e (okE C c h3).e, fun z => (by cases z), fun _ _ => ct_chn C.units h4 (okE C a h1).e (okE C b h2).e (okE C c h3).e⟩
    · cases h
  | X, xa, W, p, cm, C, .bop op es, e, h => by
    unfold chkE at h
    split at h
    · simp only [Bool.and_eq_true, decide_eq_true_eq] at h
      obtain ⟨rfl, h⟩ := h
      have := okB C es h (op := op)
      refine ⟨PE.of (this.1 _) fun σ H Q q => q, fun z => (by cases z), fun _ _ => PT.of (this.2 _).pt fun σ H Q q => q⟩
    · cases h
  | X, xa, W, p, cm, C, .not a, e, h => by
    unfold chkE at h
    split at h
    · simp only [Bool.and_eq_true] at h
      obtain ⟨⟨h1, h2⟩, h3⟩ := h
      have g := okE C a h3
      exact ⟨ce_not g.e (nb h2), fun z => (by cases z), fun _ _ => ct_not (g.t (nb h2) h1)⟩
    · cases h
  | X, xa, W, p, cm, C, .ite t a b, e, h => by
    unfold chkE at h
    split at h
    · simp only [Bool.and_eq_true] at h
      obtain ⟨⟨⟨⟨⟨⟨h1, h2⟩, h3⟩, h4⟩, h5⟩, h6⟩, h7⟩ := h
      exact .val (ce_ite ((okE C t h5).t (nb h2) h1) (okE C a h6).e (okE C b h7).e (nb h3) (nb h4)) rfl (by simp) (by simp) (by simp)
    · cases h
  | X, xa, W, p, cm, C, .idx a b, e, h => by
    unfold chkE at h
    split at h
    · simp only [Bool.and_eq_true] at h
      exact .val (ce_idx C.units h.1.1 (okE C a h.1.2).e (okE C b h.2).e) rfl (by simp) (by simp) (by simp)
    · cases h
  | X, xa, W, p, cm, C, .slc a lo hi, e, h => by
    unfold chkE at h
    split at h
    · simp only [Bool.and_eq_true] at h
      exact .new (ce_slc (okE C a h.1.1).e (okO C lo h.1.2) (okO C hi h.2)) rfl (by simp) (by simp) (by simp)
    · cases h
  | X, xa, W, p, cm, C, .rev a, e, h => by
    unfold chkE at h
    split at h
    · simp only [Bool.and_eq_true, decide_eq_true_eq] at h
      obtain ⟨rfl, h⟩ := h
      exact .new (ce_rev (okE C a h).e) rfl (by simp) (by simp) (by simp)
    · cases h
  | X, xa, W, p, cm, C, .call f es, e, h => by
    unfold chkE at h
    split at h
    · simp only [Bool.and_eq_true, decide_eq_true_eq] at h
      obtain ⟨⟨⟨⟨⟨⟨⟨rfl, h1⟩, h2⟩, h3⟩, h4⟩, h5⟩, h6⟩, h7⟩ := h
      exact .val (ce_call C h1 h2 h3 h4 h6 h5 (okEs C es h7)) rfl (by simp) (by simp) (by simp)
    · cases h
  | X, xa, W, p, cm, C, .sel fs i es, e, h => by
    unfold chkE at h
    split at h
    · simp only [Bool.and_eq_true, decide_eq_true_eq] at h
      obtain ⟨⟨⟨⟨⟨⟨⟨rfl, h1⟩, h0⟩, h2⟩, h3⟩, h4⟩, h5⟩, h6⟩ := h
      exact .val (ce_sel C h1 h0 h2 h3 h4 (okE C i h5).e (okEs C es h6)) rfl (by simp) (by simp) (by simp)
    · cases h
  | X, xa, W, p, cm, C, .nay, e, h => ⟨⟨fun pins s σ H Q I q => (PostR.no q.choose_spec.choose_spec.2).elim⟩, fun z => (by cases z), fun _ _ => ⟨fun pins s σ H Q I q => (PostR.no q.choose_spec.choose_spec.2).elim⟩⟩
  | X, xa, W, p, cm, C, .told f b, e, h => by
    unfold chkE at h
    split at h
    · simp only [Bool.and_eq_true, decide_eq_true_eq] at h
      obtain ⟨⟨⟨⟨⟨⟨⟨⟨⟨rfl, h1⟩, h2⟩, h3⟩, h4⟩, h5⟩, h6⟩, h7⟩, h8⟩, h9⟩ := h
      exact .val (ce_told C h1 h2 h3 h4 h5 h6 h7 (nb h8) fun A outer s H E f' c' hr => (okE (C.lamb hr) b h9).e) rfl (by simp) (by simp) (by simp)
    · cases h
  | X, xa, W, p, cm, C, .dix a b, e, h => by
    unfold chkE at h
    split at h
    · simp only [Bool.and_eq_true, decide_eq_true_eq] at h
      obtain ⟨⟨⟨⟨⟨⟨rfl, h1⟩, h2⟩, h3⟩, h4⟩, h5⟩, h6⟩ := h
      exact .val (ce_dix C h1 h2 h3 h4 (okE C a h5).e (okE C b h6).e) rfl (by simp) (by simp) (by simp)
    · cases h
  | X, xa, W, p, cm, C, .dcz a b, e, h => by
    unfold chkE at h
    split at h
    · simp only [Bool.and_eq_true, decide_eq_true_eq] at h
      obtain ⟨⟨⟨⟨⟨⟨⟨⟨rfl, h1⟩, h2⟩, h3⟩, h4⟩, h5⟩, h6⟩, h7⟩, h8⟩ := h
      exact .val (ce_dcz C h1 h2 h3 h4 h5 h6 (okE C a h7).e (okE C b h8).e) rfl (by simp) (by simp) (by simp)
    · cases h
  | X, xa, W, p, cm, C, .dct a, e, h => by
    unfold chkE at h
    split at h
    · simp only [Bool.and_eq_true, decide_eq_true_eq] at h
      obtain ⟨⟨⟨⟨rfl, h1⟩, h2⟩, h3⟩, h4⟩ := h
      exact .val (ce_dct C h1 h2 h3 (okE C a h4).e) rfl (by simp) (by simp) (by simp)
    · cases h
  | X, xa, W, p, cm, C, .blt f a, e, h => by
    unfold chkE at h
    split at h
    · simp only [Bool.and_eq_true, decide_eq_true_eq] at h
      obtain ⟨⟨⟨⟨⟨h0, h1⟩, h2⟩, h3⟩, h4⟩, h5⟩ := h
      exact .new (ce_blt h0 C h1 h2 h3 h4 (okE C a h5).e) rfl (by simp) (by simp) (by simp)
    · cases h
  | X, xa, W, p, cm, C, .blt2 f a b, e, h => by
    unfold chkE at h
    split at h
    · simp only [Bool.and_eq_true, decide_eq_true_eq] at h
      obtain ⟨⟨⟨⟨⟨⟨⟨h0, rfl⟩, h2⟩, h3⟩, h4⟩, h5⟩, h6⟩, h7⟩ := h
      exact .val (ce_blt2 h0 C h2 h3 h4 h5 (okE C a h6).e (okE C b h7).e) rfl (by simp) (by simp) (by simp)
    · cases h
  | X, xa, W, p, cm, C, .isi a t, e, h => by
    unfold chkE at h
    split at h
    · simp only [Bool.and_eq_true, decide_eq_true_eq] at h
      obtain ⟨⟨⟨⟨⟨h0, h1⟩, h2⟩, h3⟩, h4⟩, h5⟩ := h
      exact .val (ce_isi C h0 h1 h3 h4 h2 (okE C a h5).e) rfl (by simp) (by simp) (by simp)
    · cases h
  | X, xa, W, p, cm, C, .isx i t, e, h => by
    unfold chkE at h
    split at h
    · simp only [Bool.and_eq_true, Bool.or_eq_true, decide_eq_true_eq] at h
      obtain ⟨⟨⟨⟨⟨⟨h0, h1⟩, h2⟩, h3⟩, h4⟩, h5⟩, h6⟩ := h
      exact .val (ce_isx C h0 h1 h2 h3 h4 h5 h6) rfl (by simp) (by simp) (by simp)
    · cases h
  | X, xa, W, p, cm, C, .mth m o a, e, h => by
    unfold chkE at h
    split at h
    · simp only [Bool.and_eq_true, decide_eq_true_eq] at h
      obtain ⟨⟨⟨⟨⟨⟨h0, h1⟩, h2⟩, h3⟩, h4⟩, h5⟩, h6⟩ := h
      exact .val (ce_mth h0 C h1 h2 h3 h4 (okE C o h5).e (okE C a h6).e) rfl (by simp) (by simp) (by simp)
    · cases h
  | X, xa, W, p, cm, C, .lc own elt tg it cnd, e, h => by
    unfold chkE at h
    split at h
    · simp only [Bool.and_eq_true, decide_eq_true_eq] at h
      obtain ⟨⟨⟨⟨⟨⟨⟨⟨⟨rfl, rfl⟩, h1⟩, h2⟩, h3⟩, h4⟩, h5⟩, h6⟩, h7⟩, h8⟩ := h
      rename_i x t i fs scope pos
      have hc := C.calm rfl
      refine .new (PE.of (pe_lc (own := ownP X.N own) (wi := canI X.K xa W p.G true it) (g := canG X.K noX tg) (tt := canC X.K noX noW p.G cnd) (te := canE X.K noX noW p.G elt) hc.1 C.nd (okI C it h6) (blkOk_by h1) (fun s H Cc cl fp => pg_can (X := X.blk s H scope (compEnvC scope cl Cc X.env) fp) (xa := noX) hc.1 C.nd (fun x hx => hx) h5) (fun s H Cc cl fp => okC (C.blk s H scope (compEnvC scope cl Cc X.env) fp) cnd h7) (fun s H Cc cl fp => (okE (C.blk s H scope (compEnvC scope cl Cc X.env) fp) elt h8).e) (plain_fold h3)) fun σ H Q q => ?_) rfl (by simp) (by simp) (by simp)
      rw [own_map]
      exact lc_rd hc.2 (nb h4) h2 q
    · cases h
  | X, xa, W, p, cm, C, .lc2 own elt tg it tg2 it2 cnd, e, h => by
    unfold chkE at h
    split at h
    · simp only [Bool.and_eq_true, decide_eq_true_eq] at h
      obtain ⟨⟨⟨⟨⟨⟨⟨⟨⟨⟨⟨⟨⟨⟨rfl, rfl⟩, rfl⟩, h1⟩, h2⟩, h2'⟩, h3⟩, h3'⟩, h4⟩, h5⟩, h5'⟩, h6⟩, h6'⟩, h7⟩, h8⟩ := h
      rename_i x t i t2 i2 fs scope pos
      have hc := C.calm rfl
      refine .new (PE.of (pe_lc2 (own := ownP X.N own) (vs1 := tgIx tg2) (wi := canI X.K xa W p.G true it) (g := canG X.K noX tg) (tt := canC X.K noX noW p.G .no) (wi1 := canI X.K noX noW p.G false it2) (g1 := canG X.K noX tg2) (tt1 := canC X.K noX noW p.G cnd) (te := canE X.K noX noW p.G elt) hc.1 C.nd (okI C it h6) (blkOk_by h1) (fun j hj => ?_) (fun s H Cc cl fp => pg_can (X := X.blk s H scope (compEnvC scope cl Cc X.env) fp) (xa := noX) hc.1 C.nd (fun x hx => hx) h5) (fun s H Cc cl fp => PTs.of (pts_nil) fun σ H Q q => ?_)
        (fun s H Cc cl fp => okI (C.blk s H scope (compEnvC scope cl Cc X.env) fp) it2 h6') (fun s H Cc cl fp => pg_can (X := X.blk s H scope (compEnvC scope cl Cc X.env) fp) (xa := noX) hc.1 C.nd (fun x hx => hx) h5') (fun s H Cc cl fp => okC (C.blk s H scope (compEnvC scope cl Cc X.env) fp) cnd h7) (fun s H Cc cl fp => (okE (C.blk s H scope (compEnvC scope cl Cc X.env) fp) elt h8).e) (plain_fold h3) (fun env => plain_fold h3')) fun σ H Q q => ?_) rfl (by simp) (by simp) (by simp)
      · rw [own_map]
        rw [List.all_eq_true] at h2'
        simpa using h2' j hj
      · obtain ⟨M0, ρ, hr, hp⟩ := q
        exact PostR.ok (a := true) hp
      · rw [own_map]
        exact lc2_rd hc.2 (nb h4) h2 q
    · cases h
theorem okEs : ∀ {X : Cx} {xa : Addr → Str → Prop} {W : WX} {p : Pg} {cm : Bool} (C : Cok X xa W p cm k) (c : Es) {l : List Expr}, chkEs X.N p cm X.env.scope c l = true → PA X l (canA X.K xa W p.G c)
  | X, xa, W, p, cm, C, .nil, l, h => by
    unfold chkEs at h
    split at h
    · exact ca_nil
    · cases h
  | X, xa, W, p, cm, C, .cons c es, l, h => by
    unfold chkEs at h
    split at h
    · simp only [Bool.and_eq_true] at h
      obtain ⟨⟨⟨h1, h2⟩, h3⟩, h4⟩ := h
      exact ca_cons h1 (nb h2) (okE C c h3).e (okEs C es h4)
    · cases h
theorem okB : ∀ {X : Cx} {xa : Addr → Str → Prop} {W : WX} {p : Pg} {cm : Bool} {op : BoolOp} (C : Cok X xa W p cm k) (c : Es) {l : List Expr}, chkB X.N p cm X.env.scope c l = true → (∀ pos, PE X (.BoolOp op l pos) (canB X.K xa W p.G op c)) ∧ (∀ pos, PW X (.BoolOp op l pos) (canBT X.K xa W p.G op c))
  | X, xa, W, p, cm, op, C, .nil, l, h => by
    unfold chkB at h
    cases h
  | X, xa, W, p, cm, op, C, .cons c es, l, h => by
    unfold chkB at h
    split at h
    · cases h
    · simp only [Bool.and_eq_true] at h
      obtain ⟨⟨⟨h1, h2⟩, h3⟩, h4⟩ := h
      have g := okE C c h3
      split at h4
      · have h4 := nil_of (of_decide_eq_true h4)
        subst h4
        exact ⟨fun pos => cb_one (nb h2) g.e, fun pos => cw_one (g.t (nb h2) h1)⟩
      · have r := okB C es h4 (op := op)
        rename_i l _ hl
        cases l with
        | nil => exact absurd rfl hl
        | cons e2 l =>
          cases es with
          | nil => unfold chkB at h4; cases h4
          | cons c2 es => exact ⟨fun pos => cb_cons (nb h2) g.e (r.1 pos), fun pos => cw_cons (g.t (nb h2) h1) (r.2 pos)⟩
theorem okO : ∀ {X : Cx} {xa : Addr → Str → Prop} {W : WX} {p : Pg} {cm : Bool} (C : Cok X xa W p cm k) (c : Eo) {o : Option Expr}, chkO X.N p cm X.env.scope c o = true → PO X o (canO X.K xa W p.G c)
  | X, xa, W, p, cm, C, .no, o, h => by
    unfold chkO at h
    cases o with
    | none => exact co_no
    | some e => cases h
  | X, xa, W, p, cm, C, .so c, o, h => by
    unfold chkO at h
    split at h
    · exact co_so (okE C c h).e
    · cases h
theorem okC : ∀ {X : Cx} {xa : Addr → Str → Prop} {W : WX} {p : Pg} {cm : Bool} (C : Cok X xa W p cm k) (c : Eo) {l : List Expr}, chkC X.N p cm X.env.scope c l = true → PTs X l (canC X.K xa W p.G c)
  | X, xa, W, p, cm, C, .no, l, h => by
    unfold chkC at h
    cases l with
    | nil =>
      refine PTs.of pts_nil fun σ H Q q => ?_
      obtain ⟨M0, ρ, hr, hp⟩ := q
      exact PostR.ok (a := true) hp
    | cons a l => cases h
  | X, xa, W, p, cm, C, .so c, l, h => by
    unfold chkC at h
    split at h
    · simp only [Bool.and_eq_true] at h
      exact PTs.of (pts_one ((okE C c h.2).t (nb h.1.2) h.1.1)) fun σ H Q q => q
    · cases h
theorem okI : ∀ {X : Cx} {xa : Addr → Str → Prop} {W : WX} {p : Pg} {cm cp : Bool} (C : Cok X xa W p cm k) (c : Fp.It) {t e : Expr}, chkI X.N p cm cp X.env.scope c t e = true → PI X t e (canI X.K xa W p.G cp c)
  | X, xa, W, p, cm, cp, C, .seq c, t, e, h => by
    unfold chkI at h
    simp only [Bool.and_eq_true] at h
    exact ci_seq h.1 (okE C c h.2).e
  | X, xa, W, p, cm, cp, C, .rng a, t, e, h => by
    unfold chkI at h
    split at h
    · simp only [Bool.and_eq_true, decide_eq_true_eq] at h
      exact ci_rng C h.1.1.1 h.1.1.2 h.1.2 (okE C a h.2).e
    · cases h
  | X, xa, W, p, cm, cp, C, .rng2 a b, t, e, h => by
    unfold chkI at h
    split at h
    · simp only [Bool.and_eq_true, decide_eq_true_eq] at h
      obtain ⟨⟨⟨⟨⟨h1, h2⟩, h3⟩, h4⟩, h5⟩, h6⟩ := h
      exact ci_rng2 C h1 h2 h3 h4 (okE C a h5).e (okE C b h6).e
    · cases h
  | X, xa, W, p, cm, cp, C, .zip a b, t, e, h => by
    unfold chkI at h
    split at h
    · simp only [Bool.and_eq_true, decide_eq_true_eq] at h
      obtain ⟨⟨⟨⟨⟨⟨⟨h1, h2⟩, h3⟩, h4⟩, h5⟩, h6⟩, h7⟩, h8⟩ := h
      exact ci_zip C h1 h2 h3 h4 h5 h6 (okE C a h7).e (okE C b h8).e
    · cases h
  | X, xa, W, p, cm, cp, C, .zip3 a b c, t, e, h => by
    unfold chkI at h
    split at h
    · simp only [Bool.and_eq_true, decide_eq_true_eq] at h
      obtain ⟨⟨⟨⟨⟨⟨⟨⟨⟨⟨h1, h2⟩, h3⟩, h4⟩, h0⟩, h5⟩, h6⟩, h9⟩, h7⟩, h8⟩, h10⟩ := h
      exact ci_zip3 C h1 h2 h3 h4 h0 h5 h6 h9 (okE C a h7).e (okE C b h8).e (okE C c h10).e
    · cases h
  | X, xa, W, p, cm, cp, C, .enm a, t, e, h => by
    unfold chkI at h
    split at h
    · simp only [Bool.and_eq_true, decide_eq_true_eq] at h
      obtain ⟨⟨⟨⟨h1, h2⟩, h3⟩, h4⟩, h5⟩ := h
      exact ci_enm C h1 h2 h3 h4 (okE C a h5).e
    · cases h
end
end
end Fp
set_option maxHeartbeats 1000000
namespace Fp
open PySem PySem.Spec PyProof.Rows L2
variable [TB]
/-! ### how slots stand between statements -/
structure RelT (K : PySem.W.Frag) (xa : Addr → Str → Prop) (M0 : Addr → Prop) (ρ : Slots) (σ : L2.St) (H : Hp) : Prop where
  r : RelS K xa M0 ρ σ H
  n : ∀ a, OwnA ρ σ a → ¬ M0 a
structure Frm (M1 : Addr → Prop) (H1 : Hp) (ρ : Slots) (σ : L2.St) (H : Hp) : Prop where
  kp : Kp M1 H1 H
  ow : ∀ a, OwnA ρ σ a → M1 a ∨ H1 a = none
def Step (ρ : Slots) (σ : L2.St) (H : Hp) (ρ' : Slots) (σ' : L2.St) (H' : Hp) : Prop := ∀ M1 H1, Frm M1 H1 ρ σ H → Frm M1 H1 ρ' σ' H'
theorem Step.refl (ρ : Slots) (σ : L2.St) (H : Hp) : Step ρ σ H ρ σ H := fun _ _ h => h
theorem Step.trans {ρ1 ρ2 ρ3 : Slots} {σ1 σ2 σ3 : L2.St} {H1 H2 H3 : Hp} (a : Step ρ1 σ1 H1 ρ2 σ2 H2) (b : Step ρ2 σ2 H2 ρ3 σ3 H3) : Step ρ1 σ1 H1 ρ3 σ3 H3 := fun M H h => b M H (a M H h)
theorem Kp.then {M : Addr → Prop} {H1 H2 H3 : Hp} (a : Kp M H1 H2) (s : Same H2 H3) : Kp M H1 H3 := ⟨fun b o h z n => s.k _ _ (a.k b o h z n) z, fun b xs h => s.k _ _ (a.t b xs h) rfl, fun b o u h => s.k _ _ (a.f b o u h) rfl, fun q => a.free (s.free q), fun q => s.t (a.tb q)⟩
/-- nothing of one's own is new or changed -/
theorem Step.same {ρ ρ' : Slots} {σ σ' : L2.St} {H H' : Hp} (s : Same H H') (o : ∀ a, OwnA ρ' σ' a → OwnA ρ σ a) : Step ρ σ H ρ' σ' H' := fun M1 H1 h => ⟨h.kp.then s, fun a ha => h.ow a (o a ha)⟩
/-- something new is one's own -/
theorem Step.new {ρ ρ' : Slots} {σ σ' : L2.St} {H H' : Hp} (s : Same H H') (o : ∀ a, OwnA ρ' σ' a → OwnA ρ σ a ∨ H a = none) : Step ρ σ H ρ' σ' H' := fun M1 H1 h => ⟨h.kp.then s, fun a ha => by
  rcases o a ha with q | q
  · exact h.ow a q
  · exact .inr (h.kp.free q)⟩
/-- one's own is changed -/
theorem Step.updG {ρ ρ' : Slots} {σ σ' : L2.St} {H : Hp} {a : Addr} {u0 u1 : HO} (ha : OwnA ρ σ a) (hH : H a = some u0) (nt : noTb u0 = true) (o : ∀ a, OwnA ρ' σ' a → OwnA ρ σ a) : Step ρ σ H ρ' σ' (upd H a u1) := fun M1 H1 h => by
  refine ⟨⟨fun b u hb z n => ?_, fun b xs hb => ?_, fun b o u hb => ?_, fun q => h.kp.free (upd_free ⟨_, hH⟩ q), fun q => tabs_upd hH nt (h.kp.tb q)⟩, fun b hb => h.ow b (o b hb)⟩
  · by_cases e : b = a
    · subst e
      rcases h.ow b ha with m | m
      · exact absurd m n
      · rw [hb] at m; cases m
    · rw [upd_ne e]; exact h.kp.k b u hb z n
  · have q := h.kp.t b xs hb
    have e : b ≠ a := fun e => by subst e; rw [hH] at q; cases q; cases nt
    rw [upd_ne e]; exact q
  · have q := h.kp.f b o u hb
    have e : b ≠ a := fun e => by subst e; rw [hH] at q; cases q; cases nt
    rw [upd_ne e]; exact q
theorem Step.upd {ρ ρ' : Slots} {σ σ' : L2.St} {H : Hp} {a : Addr} {vs ws : List V} (ha : OwnA ρ σ a) (hH : H a = some (.lst vs)) (o : ∀ a, OwnA ρ' σ' a → OwnA ρ σ a) : Step ρ σ H ρ' σ' (upd H a (.lst ws)) := Step.updG ha hH rfl o
def EndS (K : PySem.W.Frag) (xa : Addr → Str → Prop) (M0 : Addr → Prop) (W : WX) (D : Ends) (ρ : Slots) (σ : L2.St) (H : Hp) : Fl → Prop
  | .nx ρ' => ∀ σ' H', RelT K xa M0 ρ' σ' H' → Step ρ σ H ρ' σ' H' → D.nx σ' H'
  | .rt d => ∀ v H', Rep K M0 H' v d → (∀ M1 H1, Frm M1 H1 ρ σ H → Kp M1 H1 H') → D.rt v H'
  | .ex c ρ' => ∀ σ' H', RelT K xa M0 ρ' σ' H' → Step ρ σ H ρ' σ' H' → W (clsV K c) none σ' H'
  | .bad => False
def canS (K : PySem.W.Frag) (xa : Addr → Str → Prop) (W : WX) (G : Str → List D → Res D) (s : S) : TS := fun D σ H => ∃ M0 ρ, RelT K xa M0 ρ σ H ∧ EndS K xa M0 W D ρ σ H (exS G s ρ)
def canSs (K : PySem.W.Frag) (xa : Addr → Str → Prop) (W : WX) (G : Str → List D → Res D) (s : Ss) : TS := fun D σ H => ∃ M0 ρ, RelT K xa M0 ρ σ H ∧ EndS K xa M0 W D ρ σ H (exSs G s ρ)
section
variable {K : PySem.W.Frag} {xa : Addr → Str → Prop} {M0 : Addr → Prop} {W : WX} {D : Ends} {ρ : Slots} {σ : L2.St} {H : Hp}
theorem RelT.mono {H' : Hp} (r : RelT K xa M0 ρ σ H) (s : Same H H') : RelT K xa M0 ρ σ H' := ⟨r.r.mono s, r.n⟩
/-- the expression's part of a statement -/
theorem EndS.lift {α : Type} {r : Res α} {f : α → Fl} (t : RelT K xa M0 ρ σ H) (h : EndS K xa M0 W D ρ σ H (liftR ρ r f)) : PostR K W σ (fun a H1 => EndS K xa M0 W D ρ σ H1 (f a)) H r := by
  cases r with
  | ok a =>
    intro H' s
    have h : EndS K xa M0 W D ρ σ H (f a) := h
    have st : ∀ {ρ2 : Slots} {σ2 : L2.St} {H2 : Hp}, Step ρ σ H' ρ2 σ2 H2 → Step ρ σ H ρ2 σ2 H2 := fun q => (Step.same s fun _ x => x).trans q
    show EndS K xa M0 W D ρ σ H' (f a)
    revert h
    cases f a with
    | nx ρ' => exact fun h σ' H2 r2 s2 => h σ' H2 r2 (st s2)
    | rt d => exact fun h v H2 r2 s2 => h v H2 r2 fun M1 H1 q => s2 M1 H1 ((Step.same s fun _ x => x) M1 H1 q)
    | ex c ρ' => exact fun h σ' H2 r2 s2 => h σ' H2 r2 (st s2)
    | bad => exact fun h => h
  | exc c =>
    intro H' s
    have h : ∀ σ' H', RelT K xa M0 ρ σ' H' → Step ρ σ H ρ σ' H' → W (clsV K c) none σ' H' := h
    exact h σ H' (t.mono s) (Step.same s fun _ x => x)
  | err => exact h
theorem EndS.ofR {r : Res Slots} (h : EndS K xa M0 W D ρ σ H (.ofR r)) : ∃ ρ', r = .ok ρ' ∧ ∀ σ' H', RelT K xa M0 ρ' σ' H' → Step ρ σ H ρ' σ' H' → D.nx σ' H' := by
  cases r with
  | ok ρ' => exact ⟨ρ', rfl, h⟩
  | exc c => exact h.elim
  | err => exact h.elim
/-- one statement, then another -/
theorem EndS.pre {r : Fl} {ρ' : Slots} {σ' : L2.St} {H' : Hp} (h : EndS K xa M0 W D ρ σ H r) (s' : Step ρ σ H ρ' σ' H') : EndS K xa M0 W D ρ' σ' H' r := by
  cases r with
  | nx ρ2 => exact fun σ2 H2 r2 s2 => h σ2 H2 r2 (s'.trans s2)
  | rt d => exact fun v H2 r2 s2 => h v H2 r2 fun M1 H1 q => s2 M1 H1 (s' M1 H1 q)
  | ex c ρ2 => exact fun σ2 H2 r2 s2 => h σ2 H2 r2 (s'.trans s2)
  | bad => exact h
theorem EndS.ends {r : Fl} {D' : Ends} (h : EndS K xa M0 W D ρ σ H r) (h1 : D'.nx = D.nx) (h2 : D'.rt = D.rt) : EndS K xa M0 W D' ρ σ H r := by
  cases r with
  | nx ρ2 => intro σ2 H2 r2 s2; rw [h1]; exact h σ2 H2 r2 s2
  | rt d => intro v H2 r2 s2; rw [h2]; exact h v H2 r2 s2
  | ex c ρ2 => exact h
  | bad => exact h
theorem EndS.thenS {r : Fl} {f : Slots → Fl} {nx : L2.St → Hp → Prop} (h : EndS K xa M0 W D ρ σ H (r.then f)) (hn : ∀ ρ' σ' H', RelT K xa M0 ρ' σ' H' → Step ρ σ H ρ' σ' H' → EndS K xa M0 W D ρ' σ' H' (f ρ') → nx σ' H') : EndS K xa M0 W { D with nx := nx } ρ σ H r := by
  cases r with
  | nx ρ' =>
    intro σ' H' r' s'
    have h : EndS K xa M0 W D ρ σ H (f ρ') := h
    exact hn ρ' σ' H' r' s' (h.pre s')
  | rt d => exact h
  | ex c ρ' => exact h
  | bad => exact h
theorem EndS.then {r : Fl} {f : Slots → Fl} {nx : L2.St → Hp → Prop} (h : EndS K xa M0 W D ρ σ H (r.then f)) (hn : ∀ ρ' σ' H', RelT K xa M0 ρ' σ' H' → EndS K xa M0 W D ρ' σ' H' (f ρ') → nx σ' H') : EndS K xa M0 W { D with nx := nx } ρ σ H r := by
  cases r with
  | nx ρ' =>
    intro σ' H' r' s'
    refine hn ρ' σ' H' r' ?_
    have h : EndS K xa M0 W D ρ σ H (f ρ') := h
    revert h
    cases f ρ' with
    | nx ρ2 => exact fun h σ2 H2 r2 s2 => h σ2 H2 r2 (s'.trans s2)
    | rt d => exact fun h v H2 r2 s2 => h v H2 r2 fun M1 H1 q => s2 M1 H1 (s' M1 H1 q)
    | ex c ρ2 => exact fun h σ2 H2 r2 s2 => h σ2 H2 r2 (s'.trans s2)
    | bad => exact fun h => h
  | rt d => exact h
  | ex c ρ' => exact h
  | bad => exact h
end
end Fp
set_option maxHeartbeats 1000000
namespace Fp
open PySem PySem.Spec PyProof.Rows L2
variable [TB]
section
variable {K : PySem.W.Frag} {xa : Addr → Str → Prop} {M0 : Addr → Prop} {ρ : Slots} {σ : L2.St} {H : Hp}
theorem RelT.setN {i : Nat} {v : V} {d : D} (r : RelT K xa M0 ρ σ H) (h : Rep K (Mx M0 ρ σ) H v d) (hi : i < ρ.length) : RelT K xa M0 (ρ.set i (.fz d)) (σ.set i (some v)) H :=
  ⟨r.r.setN h hi, fun a o => r.n a (own_set (fun d z => by cases z) o)⟩
/-- slots are forgotten -/
theorem wipe_own {vs : List Nat} {a : Addr} (o : OwnA (wipeE ρ vs) σ a) : OwnA ρ σ a := by
  obtain ⟨j, d, h1, h2⟩ := o
  rcases wipeE_get h1 with z | ⟨z, _⟩
  · cases z
  · exact ⟨j, d, z, h2⟩
theorem RelT.forget (r : RelT K xa M0 ρ σ H) (vs : List Nat) : RelT K xa M0 (wipeE ρ vs) σ H :=
  ⟨r.r.drop (by rw [wipeE_length]; exact r.r.len) fun j s h => by
    rcases wipeE_get h with z | ⟨z, _⟩
    · exact .inl z
    · exact .inr ⟨z, rfl⟩, fun a o => r.n a (wipe_own o)⟩
/-- a new list is one's own -/
theorem own_new {i : Nat} {p a : Addr} {d : D} (o : OwnA (ρ.set i (.ow d)) (σ.set i (some (.ref p))) a) : OwnA ρ σ a ∨ a = p := by
  obtain ⟨j, d', h1, h2⟩ := o
  by_cases e : i = j
  · subst e
    by_cases hi : i < σ.length
    · rw [List.getElem?_set_self hi] at h2
      cases h2
      exact .inr rfl
    · rw [List.getElem?_eq_none (by simpa using hi)] at h2
      cases h2
  · rw [List.getElem?_set_ne e] at h1 h2
    exact .inl ⟨j, d', h1, h2⟩
theorem RelT.setOG {H1 : Hp} {i : Nat} {p : Addr} {d : D} (r : RelT K xa M0 ρ σ H) (hp : H p = none) (s : Same H H1) (ho : Own K (MD (Mx M0 ρ σ) p) H1 p d) (hi : i < ρ.length) :
    RelT K xa M0 (ρ.set i (.ow d)) (σ.set i (some (.ref p))) H1 := by
  have mx : ∀ a, Mx M0 (ρ.set i (.ow d)) (σ.set i (some (.ref p))) a → MD (Mx M0 ρ σ) p a := fun a m => by
    rcases m with m | m
    · exact .inl (.inl m)
    · rcases own_new m with q | q
      · exact .inl (.inr q)
      · exact .inr q
  have off : ∀ a, Mx M0 (ρ.set i (.ow d)) (σ.set i (some (.ref p))) a → Mx M0 ρ σ a ∨ H a = none := fun a m => by
    rcases mx a m with q | q
    · exact .inl q
    · exact .inr (by rw [q]; exact hp)
  have hl := r.r.len
  have hσ : (σ.set i (some (V.ref p)))[i]? = some (some (.ref p)) := List.getElem?_set_self (by omega)
  have hρ : (ρ.set i (.ow d))[i]? = some (.ow d) := List.getElem?_set_self hi
  have np : ∀ a, OwnA ρ σ a → a ≠ p := fun a o e => by
    obtain ⟨u, hu⟩ := r.r.okM.s a (.inr o)
    rw [e, hp] at hu
    cases hu
  refine ⟨⟨by simp [hl], r.r.m0.mono s, fun j e q => ?_, fun j e q => ?_, fun j c q => ?_, fun j k e e' a q1 q2 q3 q4 => ?_⟩, fun a o => ?_⟩
  · by_cases hj : i = j
    · subst hj
      rw [hρ] at q
      cases q
    · rw [List.getElem?_set_ne hj] at q ⊢
      obtain ⟨u, h1, h2⟩ := r.r.fz j e q
      exact ⟨u, h1, h2.move (Kp.same s) off⟩
  · by_cases hj : i = j
    · subst hj
      rw [hρ] at q
      cases q
      exact ⟨p, hσ, own_off (fun a m => .inl (mx a m)) ho⟩
    · rw [List.getElem?_set_ne hj] at q
      obtain ⟨a, h1, h2⟩ := r.r.ow j e q
      have h1' : (σ.set i (some (V.ref p)))[j]? = some (some (.ref a)) := by rw [List.getElem?_set_ne hj]; exact h1
      exact ⟨a, h1', own_move (Kp.same s) off (fun o q n => s.k _ _ q n) h2⟩
  · by_cases hj : i = j
    · subst hj
      rw [hρ] at q
      cases q
    · rw [List.getElem?_set_ne hj] at q ⊢
      exact r.r.ex j c q
  · by_cases hj : i = j
    · subst hj
      rw [hσ] at q3
      cases q3
      by_cases hk : i = k
      · exact hk
      · rw [List.getElem?_set_ne hk] at q2 q4
        exact absurd rfl (np p ⟨k, e', q2, q4⟩)
    · by_cases hk : i = k
      · subst hk
        rw [hσ] at q4
        cases q4
        rw [List.getElem?_set_ne hj] at q1 q3
        exact absurd rfl (np p ⟨j, e, q1, q3⟩)
      · rw [List.getElem?_set_ne hj] at q1 q3
        rw [List.getElem?_set_ne hk] at q2 q4
        exact r.r.dj j k e e' a q1 q2 q3 q4
  · rcases own_new o with q | q
    · exact r.n a q
    · intro m
      obtain ⟨u, hu⟩ := r.r.m0.s a m
      rw [q, hp] at hu
      cases hu
theorem RelT.setO {H1 : Hp} {i : Nat} {p : Addr} {vs : List V} {ds : List D} (r : RelT K xa M0 ρ σ H) (hp : H p = none) (s : Same H H1) (h1 : H1 p = some (.lst vs)) (hz : vs.length ≤ sizeLine) (hr : RepL K (MD (Mx M0 ρ σ) p) H1 vs ds) (hi : i < ρ.length) :
    RelT K xa M0 (ρ.set i (.ow (.list ds))) (σ.set i (some (.ref p))) H1 := r.setOG hp s (.inl ⟨vs, ds, rfl, h1, hz, hr⟩) hi
/-- one's own list is changed -/
theorem own_upd {i : Nat} {d e : D} (hi : ρ[i]? = some (.ow d)) {a : Addr} : OwnA (ρ.set i (.ow e)) σ a ↔ OwnA ρ σ a := by
  have hl : i < ρ.length := by
    rcases Nat.lt_or_ge i ρ.length with q | q
    · exact q
    · rw [List.getElem?_eq_none q] at hi; cases hi
  constructor
  · rintro ⟨j, d', h1, h2⟩
    by_cases ej : i = j
    · subst ej; exact ⟨i, d, hi, h2⟩
    · rw [List.getElem?_set_ne ej] at h1; exact ⟨j, d', h1, h2⟩
  · rintro ⟨j, d', h1, h2⟩
    by_cases ej : i = j
    · subst ej; exact ⟨i, e, List.getElem?_set_self hl, h2⟩
    · exact ⟨j, d', by rw [List.getElem?_set_ne ej]; exact h1, h2⟩
theorem RelT.updOG {i : Nat} {a : Addr} {u0 u1 : HO} {d w : D} (r : RelT K xa M0 ρ σ H) (hi : ρ[i]? = some (.ow d)) (hs : σ[i]? = some (some (.ref a))) (hH : H a = some u0) (nt : noTb u0 = true)
    (ho : ∀ M' H', Kp (Mx M0 ρ σ) H H' → (∀ b, M' b → Mx M0 ρ σ b ∨ H b = none) → H' a = some u1 → Own K M' H' a w) : RelT K xa M0 (ρ.set i (.ow w)) σ (upd H a u1) := by
  have hl : i < ρ.length := by
    rcases Nat.lt_or_ge i ρ.length with q | q
    · exact q
    · rw [List.getElem?_eq_none q] at hi; cases hi
  have mx : ∀ b, Mx M0 (ρ.set i (.ow w)) σ b ↔ Mx M0 ρ σ b := fun b => by
    unfold Mx
    rw [own_upd hi]
  have ma : Mx M0 ρ σ a := .inr ⟨i, d, hi, hs⟩
  have kp : Kp (Mx M0 ρ σ) H (upd H a u1) := kp_upd ma hH nt
  have off : ∀ b, Mx M0 (ρ.set i (.ow w)) σ b → Mx M0 ρ σ b ∨ H b = none := fun b m => .inl ((mx b).mp m)
  refine ⟨⟨by rw [List.length_set]; exact r.r.len, kp.okM r.r.m0, fun j e q => ?_, fun j e q => ?_, fun j c q => ?_, fun j k e e' b q1 q2 q3 q4 => ?_⟩, fun b o => r.n b ((own_upd hi).mp o)⟩
  · by_cases hj : i = j
    · subst hj
      rw [List.getElem?_set_self hl] at q
      cases q
    · rw [List.getElem?_set_ne hj] at q
      obtain ⟨u, h1, h2⟩ := r.r.fz j e q
      exact ⟨u, h1, h2.move kp off⟩
  · by_cases hj : i = j
    · subst hj
      rw [List.getElem?_set_self hl] at q
      cases q
      exact ⟨a, hs, ho _ _ kp off upd_same⟩
    · rw [List.getElem?_set_ne hj] at q
      obtain ⟨b, h1, h2⟩ := r.r.ow j e q
      have hb : b ≠ a := fun z => by
        subst z
        exact hj (r.r.dj i j d e b hi q hs h1)
      exact ⟨b, h1, own_move kp off (fun o q _ => by rw [upd_ne hb]; exact q) h2⟩
  · by_cases hj : i = j
    · subst hj
      rw [List.getElem?_set_self hl] at q
      cases q
    · rw [List.getElem?_set_ne hj] at q
      exact r.r.ex j c q
  · have g : ∀ {l : Nat} {x : D}, (ρ.set i (.ow w))[l]? = some (.ow x) → ∃ y, ρ[l]? = some (.ow y) := fun {l x} z => by
      by_cases hl' : i = l
      · subst hl'; exact ⟨d, hi⟩
      · rw [List.getElem?_set_ne hl'] at z; exact ⟨x, z⟩
    obtain ⟨y1, z1⟩ := g q1
    obtain ⟨y2, z2⟩ := g q2
    exact r.r.dj j k y1 y2 b z1 z2 q3 q4
theorem RelT.updO {i : Nat} {a : Addr} {vs ws : List V} {d : D} {es : List D} (r : RelT K xa M0 ρ σ H) (hi : ρ[i]? = some (.ow d)) (hs : σ[i]? = some (some (.ref a))) (hH : H a = some (.lst vs)) (hz : ws.length ≤ sizeLine) (hr : RepL K (Mx M0 ρ σ) H ws es) :
    RelT K xa M0 (ρ.set i (.ow (.list es))) σ (upd H a (.lst ws)) := r.updOG hi hs hH rfl fun M' H' kp off h => .inl ⟨ws, es, rfl, h, hz, hr.move kp off⟩
/-- one's own dict is changed -/
theorem RelT.updK {i : Nat} {a : Addr} {kvs kvs' : List (Key × V)} {d : D} {es : List (D × D)} (r : RelT K xa M0 ρ σ H) (hi : ρ[i]? = some (.ow d)) (hs : σ[i]? = some (some (.ref a))) (hH : H a = some (.dK kvs)) (hz : kvs'.length ≤ sizeLine) (hr : RepKV K (Mx M0 ρ σ) H kvs' es) :
    RelT K xa M0 (ρ.set i (.ow (.dict es))) σ (upd H a (.dK kvs')) := r.updOG hi hs hH rfl fun M' H' kp off h => .inr ⟨kvs', es, rfl, h, hz, hr.imp fun _ _ q => q.move kp off⟩
theorem slotK_ok {i : Nat} {kvs : List (D × D)} (h : slotK ρ i = .ok kvs) : ρ[i]? = some (.ow (.dict kvs)) := by
  unfold slotK at h
  split at h
  · cases h; assumption
  · cases h
/-- one's own dict, by its slot -/
theorem RelT.ownK {i : Nat} {xs : List (D × D)} (r : RelT K xa M0 ρ σ H) (h : slotK ρ i = .ok xs) : ∃ a kvs, σ[i]? = some (some (.ref a)) ∧ H a = some (.dK kvs) ∧ kvs.length ≤ sizeLine ∧ RepKV K (Mx M0 ρ σ) H kvs xs ∧ OwnA ρ σ a := by
  have hi := slotK_ok h
  obtain ⟨a, h1, h2⟩ := r.r.ow i _ hi
  rcases h2 with ⟨vs, ds, e, _⟩ | ⟨kvs, ds, e, h3, h4, h5⟩
  · cases e
  · cases e
    exact ⟨a, kvs, h1, h3, h4, h5, ⟨i, _, hi, h1⟩⟩
/-- one's own list stays from here on -/
theorem own_frz {i : Nat} {d : D} {a : Addr} (o : OwnA (ρ.set i (.fz d)) σ a) : ∃ j e, i ≠ j ∧ ρ[j]? = some (.ow e) ∧ σ[j]? = some (some (.ref a)) := by
  obtain ⟨j, e, h1, h2⟩ := o
  by_cases ej : i = j
  · subst ej
    by_cases hi : i < ρ.length
    · rw [List.getElem?_set_self hi] at h1; cases h1
    · rw [List.getElem?_eq_none (by simpa using hi)] at h1; cases h1
  · rw [List.getElem?_set_ne ej] at h1
    exact ⟨j, e, ej, h1, h2⟩
theorem RelT.frz {i : Nat} {xs : List D} (r : RelT K xa M0 ρ σ H) (hi : ρ[i]? = some (.ow (.list xs))) : RelT K xa M0 (ρ.set i (.fz (.list xs))) σ H := by
  have hl : i < ρ.length := by
    rcases Nat.lt_or_ge i ρ.length with q | q
    · exact q
    · rw [List.getElem?_eq_none q] at hi; cases hi
  have oo : ∀ a, OwnA (ρ.set i (.fz (.list xs))) σ a → OwnA ρ σ a := fun a o => by
    obtain ⟨j, e, _, h1, h2⟩ := own_frz o
    exact ⟨j, e, h1, h2⟩
  have off : ∀ b, Mx M0 (ρ.set i (.fz (.list xs))) σ b → Mx M0 ρ σ b ∨ H b = none := fun b m => by
    rcases m with m | m
    · exact .inl (.inl m)
    · exact .inl (.inr (oo b m))
  refine ⟨⟨by rw [List.length_set]; exact r.r.len, r.r.m0, fun j e q => ?_, fun j e q => ?_, fun j c q => ?_, fun j k e e' b q1 q2 q3 q4 => ?_⟩, fun b o => r.n b (oo b o)⟩
  · by_cases hj : i = j
    · subst hj
      rw [List.getElem?_set_self hl] at q
      cases q
      obtain ⟨a, h1, h2⟩ := r.r.ow i _ hi
      obtain ⟨vs, h3, h5, h6⟩ := own_lst h2
      refine ⟨.ref a, h1, .lst (.inl h3) (fun m => ?_) h5 (h6.off off)⟩
      rcases m with m | m
      · exact r.n a ⟨i, _, hi, h1⟩ m
      · obtain ⟨j, e, hij, h7, h8⟩ := own_frz m
        exact hij (r.r.dj i j _ e a hi h7 h1 h8)
    · rw [List.getElem?_set_ne hj] at q
      obtain ⟨u, h1, h2⟩ := r.r.fz j e q
      exact ⟨u, h1, h2.off off⟩
  · by_cases hj : i = j
    · subst hj
      rw [List.getElem?_set_self hl] at q
      cases q
    · rw [List.getElem?_set_ne hj] at q
      obtain ⟨b, h1, h2⟩ := r.r.ow j e q
      exact ⟨b, h1, own_off off h2⟩
  · by_cases hj : i = j
    · subst hj
      rw [List.getElem?_set_self hl] at q
      cases q
    · rw [List.getElem?_set_ne hj] at q
      exact r.r.ex j c q
  · have g : ∀ {l : Nat} {x : D}, (ρ.set i (.fz (.list xs)))[l]? = some (.ow x) → ρ[l]? = some (.ow x) := fun {l x} z => by
      by_cases hl' : i = l
      · subst hl'
        rw [List.getElem?_set_self hl] at z
        cases z
      · rw [List.getElem?_set_ne hl'] at z; exact z
    exact r.r.dj j k e e' b (g q1) (g q2) q3 q4
theorem slotL_ok {i : Nat} {xs : List D} (h : slotL ρ i = .ok xs) : ρ[i]? = some (.ow (.list xs)) := by
  unfold slotL at h
  split at h
  · cases h; assumption
  · cases h
/-- one's own list, by its slot -/
theorem RelT.own {i : Nat} {xs : List D} (r : RelT K xa M0 ρ σ H) (h : slotL ρ i = .ok xs) : ∃ a vs, σ[i]? = some (some (.ref a)) ∧ H a = some (.lst vs) ∧ vs.length ≤ sizeLine ∧ RepL K (Mx M0 ρ σ) H vs xs ∧ OwnA ρ σ a := by
  have hi := slotL_ok h
  obtain ⟨a, h1, h2⟩ := r.r.ow i _ hi
  obtain ⟨vs, h3, h5, h6⟩ := own_lst h2
  exact ⟨a, vs, h1, h3, h5, h6, ⟨i, _, hi, h1⟩⟩
end
end Fp
set_option maxHeartbeats 1000000
namespace Fp
open PySem PySem.Spec PyProof.Rows L2
variable [TB]
def isLc : E → Bool
  | .lc _ _ _ _ _ => true
  | .lc2 _ _ _ _ _ _ _ => true
  | _ => false
theorem sw_plain {e : Expr} {t : Option Expr} {n : Nat} {env : PySem.Env} (h : notLc e = true) : swapsWith e t n env = pure false := by
  cases e <;> first | rfl | cases h
theorem notLc_of {N : List Str} {p : Pg} {cm : Bool} {sc : Scope} {c : E} {e : Expr} (hc : isLc c = false) (h : chkE N p cm sc c e = true) : notLc e = true := by
  cases e <;> first | rfl | (cases c <;> first | (cases hc; done) | (simp [chkE] at h; done) | (simp [chkE] at h; exact h))
theorem PS.of {X : Cx} {st : Stmt} {t t' : TS} (h : PS X st t) (f : ∀ D σ H, t' D σ H → t D σ H) : PS X st t' := ⟨fun pins s σ H D I q => h.run pins s σ H D I (f D σ H q)⟩
theorem PSs.of {X : Cx} {st : List Stmt} {t t' : TS} (h : PSs X st t) (f : ∀ D σ H, t' D σ H → t D σ H) : PSs X st t' := ⟨fun pins s σ H D I q => h.run pins s σ H D I (f D σ H q)⟩
structure Sok (X : Cx) (xa : Addr → Str → Prop) (W : WX) (p : Pg) (cm : Bool) (k : Nat) : Prop where
  c : Cok X xa W p cm k
  po : cm = true → PassesOwn (model X.prog X.w) X.A X.env X.xe
  st : cm = true → X.stack = X.env :: X.outer ∧ X.env.frame = some X.env.locals
  fn : ∀ x, X.fn x = true
section
variable {K : PySem.W.Frag} {xa : Addr → Str → Prop} {M0 : Addr → Prop} {W : WX} {D : Ends} {ρ : Slots} {σ : L2.St} {H : Hp}
theorem EndS.lift0 {α : Type} {r : Res α} {f : α → Fl} (t : RelT K xa M0 ρ σ H) (h : EndS K xa M0 W D ρ σ H (liftR ρ r f)) : PostR K W σ (fun a _ => EndS K xa M0 W D ρ σ H (f a)) H r := by
  cases r with
  | ok a => exact fun H' s => h
  | exc c =>
    intro H' s
    have h : ∀ σ' H', RelT K xa M0 ρ σ' H' → Step ρ σ H ρ σ' H' → W (clsV K c) none σ' H' := h
    exact h σ H' (t.mono s) (Step.same s fun _ x => x)
  | err => exact h
end
section
variable {X : Cx} {xa : Addr → Str → Prop} {W : WX} {p : Pg} {cm : Bool} {k : Nat} {e : Expr} {c : E} {pos py : Pos} {i : Nat} {y : Str}
theorem sw_loc {a c d : Bool} {env : PySem.Env} (h : (a && env.kindOf y == some .local && c && d) = true) : env.scope.names.lookup y = some .local := by
  simp only [Bool.and_eq_true, beq_iff_eq] at h
  exact h.1.1.2
/-- name = value -/
theorem asgF (C : Cok X xa W p cm k) (hi : X.N[i]? = some y) (hy : Loc X.env.scope y) (hf : X.fn y = true) (hn : newE c = true) (h : chkE X.N p cm X.env.scope c e = true) : PS X (.Assign [.Name y py] e pos) (tAsg (canF X.K xa W p.G c) (gName i)) := by
  by_cases hl : isLc c = true
  · cases c <;> first | (cases hl; done) | skip
    · rename_i own elt tg it cnd
      unfold chkE at h
      split at h
      · simp only [Bool.and_eq_true, decide_eq_true_eq] at h
        obtain ⟨⟨⟨⟨⟨⟨⟨⟨⟨rfl, rfl⟩, h1⟩, h2⟩, h3⟩, h4⟩, h5⟩, h6⟩, h7⟩, h8⟩ := h
        rename_i x t i' fs scope pos'
        have hc := C.calm rfl
        have gG : ∀ (s : Shared) (H : Hp) (Cc : Addr) (cl : List (Str × Addr)) (fp : List Addr), PG (X.blk s H scope (compEnvC scope cl Cc X.env) fp) t (canG X.K noX tg) := fun s H Cc cl fp => pg_can (X := X.blk s H scope (compEnvC scope cl Cc X.env) fp) (xa := noX) hc.1 C.nd (fun x hx => hx) h5
        have gT : ∀ (s : Shared) (H : Hp) (Cc : Addr) (cl : List (Str × Addr)) (fp : List Addr), PTs (X.blk s H scope (compEnvC scope cl Cc X.env) fp) fs (canC X.K noX noW p.G cnd) := fun s H Cc cl fp => okC (C.blk s H scope (compEnvC scope cl Cc X.env) fp) cnd h7
        have gE : ∀ (s : Shared) (H : Hp) (Cc : Addr) (cl : List (Str × Addr)) (fp : List Addr), PE (X.blk s H scope (compEnvC scope cl Cc X.env) fp) x (canE X.K noX noW p.G elt) := fun s H Cc cl fp => (okE (C.blk s H scope (compEnvC scope cl Cc X.env) fp) elt h8).e
        have rd : ∀ (D : Ends) (σ : L2.St) (H : Hp), tAsg (canF X.K xa W p.G (.lc own elt tg it cnd)) (gName i) D σ H → tAsg (tLc (canI X.K xa W p.G true it) (canG X.K noX tg) (canC X.K noX noW p.G cnd) (canE X.K noX noW p.G elt) ((ownP X.N own).map (·.2))) (gName i) D σ H := fun D σ H q => by
          rw [own_map]
          exact lc_rd hc.2 (nb h4) h2 q
        cases hsw : (X.env.blockKind == .function && X.env.kindOf y == some .local && py.line == (Expr.ListComp x [⟨t, i', fs, 0⟩] scope pos').pos.line && !(scope.names.any fun (n, k) => n == y && (k == .local || k == .cell))) with
        | true => exact PS.of (ps_setLc hc.1 C.nd hi (sw_loc hsw) (by show pure _ = pure true; rw [← hsw]) (okI C it h6) (blkOk_by h1) gG gT gE (plain_fold h3)) rd
        | false => exact PS.of (ps_set C.nd hi hy (pe_lc hc.1 C.nd (okI C it h6) (blkOk_by h1) gG gT gE (plain_fold h3)) (by show pure _ = pure false; rw [← hsw]) (.inl hf)) rd
      · cases h
    · rename_i own elt tg it tg2 it2 cnd
      unfold chkE at h
      split at h
      · simp only [Bool.and_eq_true, decide_eq_true_eq] at h
        obtain ⟨⟨⟨⟨⟨⟨⟨⟨⟨⟨⟨⟨⟨⟨rfl, rfl⟩, rfl⟩, h1⟩, h2⟩, h2'⟩, h3⟩, h3'⟩, h4⟩, h5⟩, h5'⟩, h6⟩, h6'⟩, h7⟩, h8⟩ := h
        rename_i x t i' t2 i2 fs scope pos'
        have hc := C.calm rfl
        have gG : ∀ (s : Shared) (H : Hp) (Cc : Addr) (cl : List (Str × Addr)) (fp : List Addr), PG (X.blk s H scope (compEnvC scope cl Cc X.env) fp) t (canG X.K noX tg) := fun s H Cc cl fp => pg_can (X := X.blk s H scope (compEnvC scope cl Cc X.env) fp) (xa := noX) hc.1 C.nd (fun x hx => hx) h5
        have gG2 : ∀ (s : Shared) (H : Hp) (Cc : Addr) (cl : List (Str × Addr)) (fp : List Addr), PG (X.blk s H scope (compEnvC scope cl Cc X.env) fp) t2 (canG X.K noX tg2) := fun s H Cc cl fp => pg_can (X := X.blk s H scope (compEnvC scope cl Cc X.env) fp) (xa := noX) hc.1 C.nd (fun x hx => hx) h5'
        have gN : ∀ (s : Shared) (H : Hp) (Cc : Addr) (cl : List (Str × Addr)) (fp : List Addr), PTs (X.blk s H scope (compEnvC scope cl Cc X.env) fp) [] (canC X.K noX noW p.G .no) := fun s H Cc cl fp => PTs.of (pts_nil) fun σ H Q q => by
          obtain ⟨M0, ρ, hr, hp⟩ := q
          exact PostR.ok (a := true) hp
        have gI : ∀ (s : Shared) (H : Hp) (Cc : Addr) (cl : List (Str × Addr)) (fp : List Addr), PI (X.blk s H scope (compEnvC scope cl Cc X.env) fp) t2 i2 (canI X.K noX noW p.G false it2) := fun s H Cc cl fp => okI (C.blk s H scope (compEnvC scope cl Cc X.env) fp) it2 h6'
        have gT : ∀ (s : Shared) (H : Hp) (Cc : Addr) (cl : List (Str × Addr)) (fp : List Addr), PTs (X.blk s H scope (compEnvC scope cl Cc X.env) fp) fs (canC X.K noX noW p.G cnd) := fun s H Cc cl fp => okC (C.blk s H scope (compEnvC scope cl Cc X.env) fp) cnd h7
        have gE : ∀ (s : Shared) (H : Hp) (Cc : Addr) (cl : List (Str × Addr)) (fp : List Addr), PE (X.blk s H scope (compEnvC scope cl Cc X.env) fp) x (canE X.K noX noW p.G elt) := fun s H Cc cl fp => (okE (C.blk s H scope (compEnvC scope cl Cc X.env) fp) elt h8).e
        have hv : ∀ j ∈ tgIx tg2, j ∈ (ownP X.N own).map (·.2) := fun j hj => by
          rw [own_map]
          rw [List.all_eq_true] at h2'
          simpa using h2' j hj
        have rd : ∀ (D : Ends) (σ : L2.St) (H : Hp), tAsg (canF X.K xa W p.G (.lc2 own elt tg it tg2 it2 cnd)) (gName i) D σ H → tAsg (tLc2 (canI X.K xa W p.G true it) (canG X.K noX tg) (canC X.K noX noW p.G .no) (canI X.K noX noW p.G false it2) (canG X.K noX tg2) (canC X.K noX noW p.G cnd) (canE X.K noX noW p.G elt) ((ownP X.N own).map (·.2)) (tgIx tg2)) (gName i) D σ H := fun D σ H q => by
          rw [own_map]
          exact lc2_rd hc.2 (nb h4) h2 q
        cases hsw : (X.env.blockKind == .function && X.env.kindOf y == some .local && py.line == (Expr.ListComp x [⟨t, i', [], 0⟩, ⟨t2, i2, fs, 0⟩] scope pos').pos.line && !(scope.names.any fun (n, k) => n == y && (k == .local || k == .cell))) with
        | true => exact PS.of (ps_setLc2 hc.1 C.nd hi (sw_loc hsw) (by show pure _ = pure true; rw [← hsw]) (okI C it h6) (blkOk_by h1) hv gG gN gI gG2 gT gE (plain_fold h3) (fun env => plain_fold h3')) rd
        | false => exact PS.of (ps_set C.nd hi hy (pe_lc2 hc.1 C.nd (okI C it h6) (blkOk_by h1) hv gG gN gI gG2 gT gE (plain_fold h3) (fun env => plain_fold h3')) (by show pure _ = pure false; rw [← hsw]) (.inl hf)) rd
      · cases h
  · exact ps_set C.nd hi hy ((okE C c h).f hn) (sw_plain (notLc_of (by simpa using hl) h)) (.inl hf)
theorem asgE (C : Cok X xa W p cm k) (hi : X.N[i]? = some y) (hy : Loc X.env.scope y) (hf : X.fn y = true) (hb : brw c = false) (h : chkE X.N p cm X.env.scope c e = true) : PS X (.Assign [.Name y py] e pos) (tAsg (canE X.K xa W p.G c) (gName i)) := by
  by_cases hl : isLc c = true
  · have hn : newE c = true := by cases c <;> first | rfl | cases hl
    refine PS.of (asgF C hi hy hf hn h) fun D σ H q => ?_
    obtain ⟨M0, ρ, hr, hp⟩ := q
    refine ⟨M0, ρ, hr, hp.imp fun d H' s k v r _ => k v ?_⟩
    rw [hb]
    exact r
  · exact ps_set C.nd hi hy (okE C c h).e (sw_plain (notLc_of (by simpa using hl) h)) (.inl hf)
end
end Fp
set_option maxHeartbeats 1000000
namespace Fp
open PySem PySem.Spec PyProof.Rows L2
variable [TB]
/-! ### a, b = x, y -/
def swNames (sc : Scope) (ts : List Expr) : List Str := ts.filterMap fun
    | .Name id pos => if sc.names.lookup id == some .local && pos.line == (ts.head?.map (·.pos.line)).getD 0 then some id else none
    | _ => none
def swB (sc : Scope) (ts vs : List Expr) : Bool := !(!(ts.length == 2 || ts.length == 3) || vs.length != ts.length) && !(vs.any fun | .Starred .. => true | _ => false) && !((swNames sc ts).length != ts.length || (swNames sc ts).eraseDups.length != (swNames sc ts).length)
  && !vs.all (foldedForSure 8) && !vs.all (constantsAlone 8)
theorem sw_some {env : PySem.Env} {ts vs : List Expr} {k1 k2 : Nat} {p1 p2 : Pos} (hk : env.scope.kind = .function) (h : swB env.scope ts vs = true) : swappedStores [.Tuple ts k1 p1] (.Tuple vs k2 p2) env = pure (some (swNames env.scope ts)) := by
  unfold swB at h
  simp only [Bool.and_eq_true, Bool.not_eq_true'] at h
  obtain ⟨⟨⟨⟨h1, h2⟩, h3⟩, h4⟩, h5⟩ := h
  have hb : env.blockKind = .function := by unfold Env.blockKind; rw [hk]; rfl
  have hb' : (env.blockKind != .function) = false := by rw [hb]; rfl
  unfold swappedStores
  show (do
    if !(ts.length == 2 || ts.length == 3) || vs.length != ts.length || env.blockKind != .function then return none
    if vs.any fun | .Starred .. => true | _ => false then return none
    if (swNames env.scope ts).length != ts.length || (swNames env.scope ts).eraseDups.length != (swNames env.scope ts).length then return none
    if vs.all (foldedForSure 8) then return none
    if vs.all (constantsAlone 8) then unsupported "assign.tuple-of-constant-expressions:order-of-the-stores"
    return some (swNames env.scope ts) : Sem (Option (List Str))) = _
  rw [hb', Bool.or_false, h1, if_neg Bool.false_ne_true, h2, h3, h4, h5]
  rfl
theorem sw_no {env : PySem.Env} {ts vs : List Expr} {k1 k2 : Nat} {p1 p2 : Pos} (h : ((swNames env.scope ts).length != ts.length) = true) : swappedStores [.Tuple ts k1 p1] (.Tuple vs k2 p2) env = pure none := by
  unfold swappedStores
  show (do
    if !(ts.length == 2 || ts.length == 3) || vs.length != ts.length || env.blockKind != .function then return none
    if vs.any fun | .Starred .. => true | _ => false then return none
    if (swNames env.scope ts).length != ts.length || (swNames env.scope ts).eraseDups.length != (swNames env.scope ts).length then return none
    if vs.all (foldedForSure 8) then return none
    if vs.all (constantsAlone 8) then unsupported "assign.tuple-of-constant-expressions:order-of-the-stores"
    return some (swNames env.scope ts) : Sem (Option (List Str))) = _
  rw [h]
  split
  · rfl
  · show (if _ then _ else _) = _
    split
    · rfl
    · rfl
/-- slots, with new lists (N) that are held besides -/
structure RelN (K : PySem.W.Frag) (xa : Addr → Str → Prop) (M0 : Addr → Prop) (N : List Addr) (ρ : Slots) (σ : L2.St) (H : Hp) : Prop where
  r : RelS K xa (fun a => M0 a ∨ a ∈ N) ρ σ H
  n : ∀ a, OwnA ρ σ a → ¬ M0 a ∧ a ∉ N
  nn : ∀ a ∈ N, ¬ M0 a
section
variable {K : PySem.W.Frag} {xa : Addr → Str → Prop} {M0 : Addr → Prop} {N : List Addr} {ρ : Slots} {σ : L2.St} {H H1 : Hp}
/-- fewer to keep off -/
theorem RelS.less {M M' : Addr → Prop} (r : RelS K xa M ρ σ H) (h : ∀ a, M' a → M a) : RelS K xa M' ρ σ H := by
  have off : ∀ a, Mx M' ρ σ a → Mx M ρ σ a ∨ H a = none := fun a m => by
    rcases m with m | m
    · exact .inl (.inl (h a m))
    · exact .inl (.inr m)
  refine ⟨r.len, ⟨fun a m => r.m0.s a (h a m), r.m0.t⟩, fun i d q => ?_, fun i d q => ?_, r.ex, r.dj⟩
  · obtain ⟨v, h1, h2⟩ := r.fz i d q
    exact ⟨v, h1, h2.off off⟩
  · obtain ⟨a, h1, h2⟩ := r.ow i d q
    exact ⟨a, h1, own_off off h2⟩
/-- more to keep off, as new as that -/
theorem RelS.more {M M' : Addr → Prop} (r : RelS K xa M ρ σ H) (h : ∀ a, M' a → M a ∨ H a = none) (hm : ∀ a, M' a → ∃ o, H1 a = some o) (s : Same H H1) : RelS K xa M' ρ σ H1 := by
  have off : ∀ a, Mx M' ρ σ a → Mx M ρ σ a ∨ H a = none := fun a m => by
    rcases m with m | m
    · rcases h a m with q | q
      · exact .inl (.inl q)
      · exact .inr q
    · exact .inl (.inr m)
  refine ⟨r.len, ⟨hm, s.t r.m0.t⟩, fun i d q => ?_, fun i d q => ?_, r.ex, r.dj⟩
  · obtain ⟨v, h1, h2⟩ := r.fz i d q
    exact ⟨v, h1, h2.move (Kp.same s) off⟩
  · obtain ⟨a, h1, h2⟩ := r.ow i d q
    exact ⟨a, h1, own_move (Kp.same s) off (fun o q n => s.k _ _ q n) h2⟩
theorem RelT.toN (r : RelT K xa M0 ρ σ H) : RelN K xa M0 [] ρ σ H := by
  refine ⟨r.r.less fun a m => ?_, fun a o => ⟨r.n a o, by simp⟩, fun a h => by cases h⟩
  rcases m with m | m
  · exact m
  · cases m
theorem RelN.toT (r : RelN K xa M0 N ρ σ H) : RelT K xa M0 ρ σ H := ⟨r.r.less fun a m => .inl m, fun a o => (r.n a o).1⟩
theorem RelN.mono (r : RelN K xa M0 N ρ σ H) (s : Same H H1) : RelN K xa M0 N ρ σ H1 := ⟨r.r.mono s, r.n, r.nn⟩
theorem RelN.add {p : Addr} {o : HO} (r : RelN K xa M0 N ρ σ H) (hp : H p = none) (s : Same H H1) (h1 : H1 p = some o) : RelN K xa M0 (p :: N) ρ σ H1 := by
  refine ⟨r.r.more (fun a m => ?_) (fun a m => ?_) s, fun a o => ⟨(r.n a o).1, fun h => ?_⟩, fun a h => ?_⟩
  · rcases m with m | m
    · exact .inl (.inl m)
    · rcases List.mem_cons.mp m with m | m
      · exact .inr (by rw [m]; exact hp)
      · exact .inl (.inr m)
  · have : ∀ b, (M0 b ∨ b ∈ N) → ∃ o, H1 b = some o := fun b hb => by
      exact s.some (r.r.m0.s b hb)
    rcases m with m | m
    · exact this a (.inl m)
    · rcases List.mem_cons.mp m with m | m
      · exact ⟨_, by rw [m]; exact h1⟩
      · exact this a (.inr m)
  · rcases List.mem_cons.mp h with h | h
    · obtain ⟨u, hu⟩ := r.r.okM.s a (.inr o)
      rw [h, hp] at hu
      cases hu
    · exact (r.n a o).2 h
  · rcases List.mem_cons.mp h with h | h
    · intro m
      obtain ⟨u, hu⟩ := r.r.m0.s a (.inl m)
      rw [h, hp] at hu
      cases hu
    · exact r.nn a h
theorem RelN.setN {i : Nat} {v : V} {d : D} (r : RelN K xa M0 N ρ σ H) (h : Rep K (Mx (fun a => M0 a ∨ a ∈ N) ρ σ) H v d) (hi : i < ρ.length) : RelN K xa M0 N (ρ.set i (.fz d)) (σ.set i (some v)) H :=
  ⟨r.r.setN h hi, fun a o => r.n a (own_set (fun d z => by cases z) o), r.nn⟩
/-- a held list comes into a slot -/
theorem RelN.setP {i : Nat} {p : Addr} {vs : List V} {ds : List D} (r : RelN K xa M0 (p :: N) ρ σ H) (hp : p ∉ N) (h1 : H p = some (.lst vs)) (hz : vs.length ≤ sizeLine) (hr : RepL K (Mx (fun a => M0 a ∨ a ∈ p :: N) ρ σ) H vs ds) (hi : i < ρ.length) :
    RelN K xa M0 N (ρ.set i (.ow (.list ds))) (σ.set i (some (.ref p))) H := by
  have mx : ∀ a, Mx (fun a => M0 a ∨ a ∈ N) (ρ.set i (.ow (.list ds))) (σ.set i (some (.ref p))) a → Mx (fun a => M0 a ∨ a ∈ p :: N) ρ σ a := fun a m => by
    rcases m with (m | m) | m
    · exact .inl (.inl m)
    · exact .inl (.inr (List.mem_cons_of_mem _ m))
    · rcases own_new m with q | q
      · exact .inr q
      · exact .inl (.inr (by rw [q]; exact List.mem_cons_self))
  have off : ∀ a, Mx (fun a => M0 a ∨ a ∈ N) (ρ.set i (.ow (.list ds))) (σ.set i (some (.ref p))) a → Mx (fun a => M0 a ∨ a ∈ p :: N) ρ σ a ∨ H a = none := fun a m => .inl (mx a m)
  have hl := r.r.len
  have hσ : (σ.set i (some (V.ref p)))[i]? = some (some (.ref p)) := List.getElem?_set_self (by omega)
  have hρ : (ρ.set i (.ow (.list ds)))[i]? = some (.ow (.list ds)) := List.getElem?_set_self hi
  have np : ∀ a, OwnA ρ σ a → a ≠ p := fun a o e => (r.n a o).2 (by rw [e]; exact List.mem_cons_self)
  refine ⟨⟨by simp [hl], ⟨fun a m => ?_, r.r.m0.t⟩, fun j e q => ?_, fun j e q => ?_, fun j c q => ?_, fun j k e e' a q1 q2 q3 q4 => ?_⟩, fun a o => ?_, fun a h => r.nn a (List.mem_cons_of_mem _ h)⟩
  · rcases m with m | m
    · exact r.r.m0.s a (.inl m)
    · exact r.r.m0.s a (.inr (List.mem_cons_of_mem _ m))
  · by_cases hj : i = j
    · subst hj
      rw [hρ] at q
      cases q
    · rw [List.getElem?_set_ne hj] at q ⊢
      obtain ⟨u, h1, h2⟩ := r.r.fz j e q
      exact ⟨u, h1, h2.off off⟩
  · by_cases hj : i = j
    · subst hj
      rw [hρ] at q
      cases q
      exact ⟨p, hσ, .inl ⟨vs, ds, rfl, h1, hz, hr.off off⟩⟩
    · rw [List.getElem?_set_ne hj] at q
      obtain ⟨a, h1, h2⟩ := r.r.ow j e q
      have h1' : (σ.set i (some (V.ref p)))[j]? = some (some (.ref a)) := by rw [List.getElem?_set_ne hj]; exact h1
      exact ⟨a, h1', own_off off h2⟩
  · by_cases hj : i = j
    · subst hj
      rw [hρ] at q
      cases q
    · rw [List.getElem?_set_ne hj] at q ⊢
      exact r.r.ex j c q
  · by_cases hj : i = j
    · subst hj
      rw [hσ] at q3
      cases q3
      by_cases hk : i = k
      · exact hk
      · rw [List.getElem?_set_ne hk] at q2 q4
        exact absurd rfl (np p ⟨k, e', q2, q4⟩)
    · by_cases hk : i = k
      · subst hk
        rw [hσ] at q4
        cases q4
        rw [List.getElem?_set_ne hj] at q1 q3
        exact absurd rfl (np p ⟨j, e, q1, q3⟩)
      · rw [List.getElem?_set_ne hj] at q1 q3
        rw [List.getElem?_set_ne hk] at q2 q4
        exact r.r.dj j k e e' a q1 q2 q3 q4
  · rcases own_new o with q | q
    · exact ⟨(r.n a q).1, fun h => (r.n a q).2 (List.mem_cons_of_mem _ h)⟩
    · rw [q]
      exact ⟨r.nn p List.mem_cons_self, hp⟩
end
/-- what comes of the parts: ps, the new lists, in their order -/
inductive ItP (K : PySem.W.Frag) (M : Addr → Prop) (H : Hp) : List Addr → List (Nat × Bool) → List V → List D → Prop
  | nil : ItP K M H [] [] [] []
  | fz {i : Nat} {v : V} {d : D} {ps : List Addr} {bs : List (Nat × Bool)} {vs : List V} {ds : List D} : Rep K M H v d → ItP K M H ps bs vs ds → ItP K M H ps ((i, false) :: bs) (v :: vs) (d :: ds)
  | ow {i : Nat} {p : Addr} {us : List V} {es : List D} {ps : List Addr} {bs : List (Nat × Bool)} {vs : List V} {ds : List D} : H p = some (.lst us) → us.length ≤ sizeLine → RepL K M H us es → p ∉ ps → ItP K M H ps bs vs ds → ItP K M H (p :: ps) ((i, true) :: bs) (.ref p :: vs) (.list es :: ds)
theorem ItP.off {K : PySem.W.Frag} {M M' : Addr → Prop} {H : Hp} (h : ∀ a, M' a → M a) {ps : List Addr} {bs : List (Nat × Bool)} {vs : List V} {ds : List D} (t : ItP K M H ps bs vs ds) : ItP K M' H ps bs vs ds := by
  induction t with
  | nil => exact .nil
  | fz r _ ih => exact .fz (r.off fun a m => .inl (h a m)) ih
  | ow h1 h2 h3 h4 _ ih => exact .ow h1 h2 (h3.off fun a m => .inl (h a m)) h4 ih
theorem ItP.len {K : PySem.W.Frag} {M : Addr → Prop} {H : Hp} {ps : List Addr} {bs : List (Nat × Bool)} {vs : List V} {ds : List D} (t : ItP K M H ps bs vs ds) : vs.length = bs.length := by
  induction t with
  | nil => rfl
  | fz _ _ ih => simp [ih]
  | ow _ _ _ _ _ ih => simp [ih]
def setAll (σ : L2.St) : List (Nat × Bool) → List V → L2.St
  | (i, _) :: bs, v :: vs => setAll (σ.set i (some v)) bs vs
  | _, _ => σ
theorem par_set {K : PySem.W.Frag} {xa : Addr → Str → Prop} {M0 : Addr → Prop} {H : Hp} : ∀ {bs : List (Nat × Bool)} {ps N : List Addr} {vs : List V} {ds : List D} {ρ ρ' : Slots} {σ : L2.St}, RelN K xa M0 (ps ++ N) ρ σ H → (∀ p ∈ ps, p ∉ N) → ItP K (Mx (fun a => M0 a ∨ a ∈ ps ++ N) ρ σ) H ps bs vs ds → parD bs ds ρ = .ok ρ' →
    RelN K xa M0 N ρ' (setAll σ bs vs) H ∧ ∀ a, OwnA ρ' (setAll σ bs vs) a → OwnA ρ σ a ∨ a ∈ ps
  | [], ps, N, vs, ds, ρ, ρ', σ, r, hn, t, h => by
    cases t
    have h : Res.ok ρ = Res.ok ρ' := h
    cases h
    exact ⟨r, fun a o => .inl o⟩
  | (i, b) :: bs, ps, N, vs, ds, ρ, ρ', σ, r, hn, t, h => by
    cases t with
    | @fz _ v d _ _ vs ds hv t =>
      have h : (bindT (.nm i) d ρ >>= fun ρ' => parD bs ds ρ') = .ok ρ' := h
      obtain ⟨ρ1, h1, h⟩ := bind_some h
      unfold bindT at h1
      split at h1
      · rename_i hi
        cases h1
        have mx : ∀ a, Mx (fun a => M0 a ∨ a ∈ ps ++ N) (ρ.set i (.fz d)) (σ.set i (some v)) a → Mx (fun a => M0 a ∨ a ∈ ps ++ N) ρ σ a := fun a m => mx_set (fun d z => by cases z) m
        obtain ⟨q1, q2⟩ := par_set (r.setN hv hi) hn (t.off mx) h
        exact ⟨q1, fun a o => (q2 a o).imp (own_set fun d z => by cases z) id⟩
      · cases h1
    | @ow _ p us es ps _ vs ds hp hz hr hnp t =>
      have h : (ownD i (.list es) ρ >>= fun ρ' => parD bs ds ρ') = .ok ρ' := h
      obtain ⟨ρ1, h1, h⟩ := bind_some h
      unfold ownD at h1
      dsimp only at h1
      split at h1
      · rename_i hi
        cases h1
        have hpn : p ∉ ps ++ N := fun hm => by
          rcases List.mem_append.mp hm with hm | hm
          · exact hnp hm
          · exact hn p List.mem_cons_self hm
        have mx : ∀ a, Mx (fun a => M0 a ∨ a ∈ ps ++ N) (ρ.set i (.ow (.list es))) (σ.set i (some (.ref p))) a → Mx (fun a => M0 a ∨ a ∈ p :: ps ++ N) ρ σ a := fun a m => by
          rcases m with (m | m) | m
          · exact .inl (.inl m)
          · exact .inl (.inr (List.mem_cons_of_mem _ m))
          · rcases own_new m with q | q
            · exact .inr q
            · exact .inl (.inr (by rw [q]; exact List.mem_cons_self))
        obtain ⟨q1, q2⟩ := par_set (r.setP hpn hp hz hr hi) (fun q hq => hn q (List.mem_cons_of_mem _ hq)) (t.off mx) h
        refine ⟨q1, fun a o => ?_⟩
        rcases q2 a o with z | z
        · rcases own_new z with y | y
          · exact .inl y
          · exact .inr (by rw [y]; exact List.mem_cons_self)
        · exact .inr (List.mem_cons_of_mem _ z)
      · cases h1
def canP (K : PySem.W.Frag) (xa : Addr → Str → Prop) (W : WX) (G : Str → List D → Res D) : List (Nat × Bool) → Es → TA
  | (_, b) :: bs, .cons c es => tCons (if b then canF K xa W G c else canE K xa W G c) (canP K xa W G bs es)
  | _, _ => tNil
def chkP (N : List Str) (p : Pg) (cm : Bool) (sc : Scope) : List (Nat × Bool) → Es → List Expr → Bool
  | [], .nil, [] => true
  | (_, b) :: bs, .cons c es, e :: l => plainX e && !brw c && (!b || newE c) && chkE N p cm sc c e && chkP N p cm sc bs es l
  | _, _, _ => false
theorem okP {X : Cx} {xa : Addr → Str → Prop} {W : WX} {p : Pg} {cm : Bool} {k : Nat} (C : Cok X xa W p cm k) : ∀ {bs : List (Nat × Bool)} {es : Es} {l : List Expr}, chkP X.N p cm X.env.scope bs es l = true → PA X l (canP X.K xa W p.G bs es)
  | [], .nil, [], _ => pa_nil
  | [], .nil, _ :: _, h => by cases h
  | [], .cons _ _, l, h => by cases h
  | _ :: _, .nil, l, h => by cases h
  | _ :: _, .cons _ _, [], h => by cases h
  | (i, b) :: bs, .cons c es, e :: l, h => by
    unfold chkP at h
    simp only [Bool.and_eq_true] at h
    obtain ⟨⟨⟨⟨h1, h2⟩, h3⟩, h4⟩, h5⟩ := h
    have g := okE C c h4
    refine pa_cons ?_ (okP C h5) (star_cons h1)
    cases b with
    | true => exact g.f (by simpa using h3)
    | false => exact g.e
theorem parD_brw {N : List Str} {p : Pg} {cm : Bool} {sc : Scope} {i : Nat} {b : Bool} {bs : List (Nat × Bool)} {c : E} {es : Es} {e : Expr} {l : List Expr} (h : chkP N p cm sc ((i, b) :: bs) (.cons c es) (e :: l) = true) : brw c = false ∧ chkP N p cm sc bs es l = true := by
  unfold chkP at h
  simp only [Bool.and_eq_true] at h
  exact ⟨nb h.1.1.1.2, h.2⟩
theorem isL_ne {b : Bool} {d : D} {c : Str} : isL b d ≠ .exc c := by unfold isL; split <;> (intro z; cases z)
theorem par_go {X : Cx} {xa : Addr → Str → Prop} {W : WX} {p : Pg} {cm : Bool} {M0 : Addr → Prop} {ρ : Slots} {σ : L2.St} : ∀ {bs : List (Nat × Bool)} {es : Es} {l : List Expr} {N : List Addr} {H : Hp} {Q : List V → Hp → Prop}, chkP X.N p cm X.env.scope bs es l = true → RelN X.K xa M0 N ρ σ H →
    PostR X.K W σ (fun ds H' => ∀ vs ps, ItP X.K (Mx (fun a => M0 a ∨ a ∈ ps ++ N) ρ σ) H' ps bs vs ds → RelN X.K xa M0 (ps ++ N) ρ σ H' → (∀ q ∈ ps, H q = none) → Same H H' → Q vs H') H (evp p.G bs es ρ) → canP X.K xa W p.G bs es σ H Q
  | [], .nil, [], N, H, Q, _, r, h => PostR.ok (a := []) h [] [] .nil r (fun q hq => by cases hq) (Same.refl _)
  | [], .nil, _ :: _, N, H, Q, hc, r, h => by cases hc
  | [], .cons _ _, l, N, H, Q, hc, r, h => by cases hc
  | _ :: _, .nil, l, N, H, Q, hc, r, h => by cases hc
  | _ :: _, .cons _ _, [], N, H, Q, hc, r, h => by cases hc
  | (i, b) :: bs, .cons c es, e :: l, N, H, Q, hc, r, h => by
    obtain ⟨hb, hc'⟩ := parD_brw hc
    have h : PostR X.K W σ _ H (ev p.G c ρ >>= fun d => isL b d >>= fun _ => evp p.G bs es ρ >>= fun ds => .ok (d :: ds)) := h
    cases b with
    | false =>
      show canE X.K xa W p.G c σ H fun v H1 => canP X.K xa W p.G bs es σ H1 fun vs H2 => Q (v :: vs) H2
      refine ⟨_, ρ, r.r, (PostR.bind h).imp fun d H1 s1 h1 v rv => ?_⟩
      rw [hb] at rv
      have h1 : PostR X.K W σ _ H1 (evp p.G bs es ρ >>= fun ds => .ok (d :: ds)) := h1
      refine par_go hc' (r.mono s1) ((PostR.bind h1).imp fun ds H2 s2 h2 vs ps t rn fr s12 => PostR.ok h2 (v :: vs) ps (.fz ?_ t) rn (fun q hq => s1.free (fr q hq)) (s1.trans s12))
      refine Rep.move (Kp.same s12) (fun a m => ?_) rv
      rcases m with (m | m) | m
      · exact .inl (.inl (.inl m))
      · rcases List.mem_append.mp m with m | m
        · exact .inr (fr a m)
        · exact .inl (.inl (.inr m))
      · exact .inl (.inr m)
    | true =>
      show canF X.K xa W p.G c σ H fun v H1 => canP X.K xa W p.G bs es σ H1 fun vs H2 => Q (v :: vs) H2
      refine ⟨_, ρ, r.r, (PostR.bind h).imp fun d H1 s1 h1 v rv nu => ?_⟩
      obtain ⟨_, hl, h1⟩ := (PostR.bind h1).out fun _ => isL_ne
      have h1 := h1 H1 (Same.refl _)
      cases d with
      | list xs =>
        obtain ⟨q, us, rfl, hq, hq1, hz, hr⟩ := nu xs rfl
        refine par_go hc' (r.add hq s1 hq1) ((PostR.bind h1).imp fun ds H2 s2 h2 vs ps t rn fr s12 => ?_)
        have eN : ∀ a, a ∈ ps ++ q :: N ↔ a ∈ (q :: ps) ++ N := fun a => by
          constructor
          · intro h
            rcases List.mem_append.mp h with h | h
            · exact List.mem_cons_of_mem _ (List.mem_append.mpr (.inl h))
            · rcases List.mem_cons.mp h with h | h
              · rw [h]; exact List.mem_cons_self
              · exact List.mem_cons_of_mem _ (List.mem_append.mpr (.inr h))
          · intro h
            rcases List.mem_cons.mp h with h | h
            · exact List.mem_append.mpr (.inr (by rw [h]; exact List.mem_cons_self))
            · rcases List.mem_append.mp h with h | h
              · exact List.mem_append.mpr (.inl h)
              · exact List.mem_append.mpr (.inr (List.mem_cons_of_mem _ h))
        have eP : (fun a => M0 a ∨ a ∈ ps ++ q :: N) = (fun a => M0 a ∨ a ∈ (q :: ps) ++ N) := funext fun a => propext (by rw [eN])
        have rn' : RelN X.K xa M0 ((q :: ps) ++ N) ρ σ H2 := ⟨by rw [← eP]; exact rn.r, fun a o => ⟨(rn.n a o).1, fun z => (rn.n a o).2 ((eN a).mpr z)⟩, fun a h => rn.nn a ((eN a).mpr h)⟩
        refine PostR.ok h2 (.ref q :: vs) (q :: ps) (.ow (s12.k _ _ hq1 rfl) hz ?_ (fun hm => ?_) (by rw [← eP]; exact t)) rn' (fun a ha => ?_) (s1.trans s12)
        · refine hr.move (Kp.same s12) fun a m => ?_
          rcases m with (m | m) | m
          · exact .inl (.inl (.inl (.inl m)))
          · rcases List.mem_append.mp m with m | m
            · rcases List.mem_cons.mp m with m | m
              · exact .inl (.inr m)
              · exact .inr (fr a m)
            · exact .inl (.inl (.inl (.inr m)))
          · exact .inl (.inl (.inr m))
        · have := fr q hm
          rw [hq1] at this
          cases this
        · rcases List.mem_cons.mp ha with ha | ha
          · rw [ha]; exact hq
          · exact s1.free (fr a ha)
      | _ => cases hl
end Fp
set_option maxHeartbeats 1000000
namespace Fp
open PySem PySem.Spec PyProof.Rows L2
variable [TB]
/-! ### the simple statements -/
theorem canG_nm {K : PySem.W.Frag} {xa : Addr → Str → Prop} {i : Nat} {v : V} {σ : L2.St} {H : Hp} {Q : L2.St → Hp → Prop} (q : canG K xa (.nm i) v σ H Q) : gName i v σ H Q := by
  obtain ⟨M0, ρ, d, ρ', hr, hd, hb, q⟩ := q
  unfold bindT at hb
  split at hb
  · rename_i hi
    cases hb
    refine q _ (hr.setN hd hi) (by simp) (fun j hj => ?_) fun a => own_set fun d z => by cases z
    rw [List.getElem?_set_ne (fun e => hj (by unfold tgIx; simp [e]))]
  · cases hb
theorem noTup_sw {ts : List Expr} {k : Nat} {p : Pos} {e : Expr} {env : PySem.Env} (h : ∀ l k p, e ≠ .Tuple l k p) : swappedStores [.Tuple ts k p] e env = pure none := by
  cases e <;> first | rfl | exact absurd rfl (h _ _ _)
def folds (sc : Scope) (ts vs : List Expr) : Bool := (ts.length == 2 || ts.length == 3) && (vs.length == ts.length) && !(vs.any fun | .Starred .. => true | _ => false) && ((swNames sc ts).length == ts.length) && ((swNames sc ts).eraseDups.length == (swNames sc ts).length) && vs.all (foldedForSure 8)
theorem fold_sw {ts vs : List Expr} {k k2 : Nat} {p p2 : Pos} {env : PySem.Env} (h : vs.all (foldedForSure 8) = true) : swappedStores [.Tuple ts k p] (.Tuple vs k2 p2) env = pure none := by
  unfold swappedStores
  show (do
    if !(ts.length == 2 || ts.length == 3) || vs.length != ts.length || env.blockKind != .function then return none
    if vs.any fun | .Starred .. => true | _ => false then return none
    if (swNames env.scope ts).length != ts.length || (swNames env.scope ts).eraseDups.length != (swNames env.scope ts).length then return none
    if vs.all (foldedForSure 8) then return none
    if vs.all (constantsAlone 8) then unsupported "assign.tuple-of-constant-expressions:order-of-the-stores"
    return some (swNames env.scope ts) : Sem (Option (List Str))) = _
  rw [h]
  split
  · rfl
  · show (if _ then _ else _) = _
    split
    · rfl
    · show (if _ then _ else _) = _
      split
      · rfl
      · rfl
def tupV : Expr → Bool
  | .Tuple vs _ _ => vs.all (foldedForSure 8)
  | _ => true
theorem tup_sw {ts : List Expr} {k : Nat} {p : Pos} {e : Expr} {env : PySem.Env} (h : tupV e = true) : swappedStores [.Tuple ts k p] e env = pure none := by
  cases e <;> first | rfl | exact fold_sw h
theorem tup_ss {ts : List Expr} {k : Nat} {p : Pos} {e : Expr} {env : PySem.Env} {n : Nat} : swapsWithSole [.Tuple ts k p] e n env = pure false := by
  cases e <;> rfl
section
variable {p2 : Pos} {X : Cx} {xa : Addr → Str → Prop} {W : WX} {p : Pg} {cm : Bool} {k : Nat} {e : Expr} {c : E} {pos py : Pos} {i : Nat} {y : Str}
theorem set_rd {t : Tg} (hb : brw c = false) {D : Ends} {σ : L2.St} {H : Hp} (q : canS X.K xa W p.G (.set t c) D σ H) : tAsg (canE X.K xa W p.G c) (canG X.K xa t) D σ H := by
  obtain ⟨M0, ρ, rt, he⟩ := q
  refine ⟨M0, ρ, rt.r, (EndS.lift rt he).imp fun d H1 s1 h1 v rv => ?_⟩
  rw [hb] at rv
  obtain ⟨ρ', e1, h1⟩ := h1.ofR
  exact ⟨M0, ρ, d, ρ', rt.r.mono s1, rv, e1, fun σ' r' _ _ o' => h1 σ' H1 ⟨r', fun a ha => rt.n a (o' a ha)⟩ (Step.same (Same.refl _) o')⟩
theorem own_rd {D : Ends} {σ : L2.St} {H : Hp} (q : canS X.K xa W p.G (.own i c) D σ H) : tAsg (canF X.K xa W p.G c) (gName i) D σ H := by
  obtain ⟨M0, ρ, rt, he⟩ := q
  refine ⟨M0, ρ, rt.r, (EndS.lift0 rt he).imp fun d H1 s1 h1 v rv nu => ?_⟩
  obtain ⟨ρ', e1, h1⟩ := h1.ofR
  unfold ownD at e1
  split at e1
  · rename_i xs
    split at e1
    · rename_i hi
      cases e1
      obtain ⟨q, vs, rfl, hq, hq1, hz, hr⟩ := nu xs rfl
      exact h1 _ H1 (rt.setO hq s1 hq1 hz hr hi) (Step.new s1 fun a o => (own_new o).imp id fun z => by rw [z]; exact hq)
    · cases e1
  · cases e1
theorem cs_exp (hn : notLc e = true) (he : PE X e (canE X.K xa W p.G c)) : PS X (.Expr e pos) (canS X.K xa W p.G (.exp c)) :=
  PS.of (ps_expr he (sw_plain hn)) fun D σ H q => by
    obtain ⟨M0, ρ, rt, he⟩ := q
    exact ⟨M0, ρ, rt.r, (EndS.lift rt he).imp fun d H1 s1 h1 v rv => h1 σ H1 (rt.mono s1) (Step.refl _ _ _)⟩
theorem cs_ret (hb : brw c = false) (he : PE X e (canE X.K xa W p.G c)) : PS X (.Return (some e) pos) (canS X.K xa W p.G (.ret c)) :=
  PS.of (ps_ret he) fun D σ H q => by
    obtain ⟨M0, ρ, rt, he⟩ := q
    refine ⟨M0, ρ, rt.r, (EndS.lift rt he).imp fun d H1 s1 h1 v rv => ?_⟩
    rw [hb] at rv
    exact h1 v H1 (Rep.off (fun a m => .inl (.inl m)) rv) fun M1 H2 f => f.kp
theorem cs_pas : PS X (.Pass pos) (canS X.K xa W p.G .pas) :=
  PS.of ps_pass fun D σ H q => by
    obtain ⟨M0, ρ, rt, he⟩ := q
    exact he σ H rt (Step.refl _ _ _)
theorem cs_if {x : Expr} {ct : E} {a b : List Stmt} {ca cb : Ss} (ht : PT X x (canT X.K xa W p.G ct)) (ha : PSs X a (canSs X.K xa W p.G ca)) (hb : PSs X b (canSs X.K xa W p.G cb)) : PS X (.If x a b pos) (canS X.K xa W p.G (.ite ct ca cb)) :=
  PS.of (ps_if ht ha hb) fun D σ H q => by
    obtain ⟨M0, ρ, rt, he⟩ := q
    refine ⟨M0, ρ, rt.r, (EndS.lift rt he).imp fun b H1 s1 h1 => ?_⟩
    cases b with
    | true => rw [if_pos rfl]; exact ⟨M0, ρ, rt.mono s1, h1⟩
    | false => rw [if_neg Bool.false_ne_true]; exact ⟨M0, ρ, rt.mono s1, h1⟩
theorem css_nil : PSs X [] (canSs X.K xa W p.G .nil) :=
  PSs.of pss_nil fun D σ H q => by
    obtain ⟨M0, ρ, rt, he⟩ := q
    exact he σ H rt (Step.refl _ _ _)
theorem css_cons {st : Stmt} {l : List Stmt} {s : S} {ss : Ss} (h1 : PS X st (canS X.K xa W p.G s)) (h2 : PSs X l (canSs X.K xa W p.G ss)) : PSs X (st :: l) (canSs X.K xa W p.G (.cons s ss)) :=
  PSs.of (pss_cons h1 h2) fun D σ H q => by
    obtain ⟨M0, ρ, rt, he⟩ := q
    exact ⟨M0, ρ, rt, EndS.then he fun ρ' σ' H' r' e' => ⟨M0, ρ', r', e'⟩⟩
theorem css_frz {l : List Stmt} {ss : Ss} (h2 : PSs X l (canSs X.K xa W p.G ss)) : PSs X l (canSs X.K xa W p.G (.cons (.frz i) ss)) :=
  PSs.of h2 fun D σ H q => by
    obtain ⟨M0, ρ, rt, he⟩ := q
    have he : EndS X.K xa M0 W D ρ σ H ((Fl.ofR (frzD i ρ)).then fun ρ' => exSs p.G ss ρ') := he
    have hh : EndS X.K xa M0 W { D with nx := canSs X.K xa W p.G ss D } ρ σ H (Fl.ofR (frzD i ρ)) := EndS.then he fun ρ' σ' H' r' e' => ⟨M0, ρ', r', e'⟩
    obtain ⟨ρ', e1, h1⟩ := hh.ofR
    unfold frzD at e1
    split at e1
    · rename_i d hi
      cases e1
      exact h1 σ H (rt.frz hi) (Step.same (Same.refl _) fun a o => by
        obtain ⟨j, e, _, z1, z2⟩ := own_frz o
        exact ⟨j, e, z1, z2⟩)
    · cases e1
/-! ### one's own lists -/
theorem EndS.slot {D : Ends} {σ : L2.St} {H : Hp} {M0 : Addr → Prop} {ρ : Slots} {f : List Fp.D → Fl} (h : EndS X.K xa M0 W D ρ σ H (liftR ρ (slotL ρ i) f)) : ∃ xs, slotL ρ i = .ok xs ∧ EndS X.K xa M0 W D ρ σ H (f xs) := by
  unfold slotL at h ⊢
  split at h
  · exact ⟨_, rfl, h⟩
  · exact h.elim
theorem own_app {σ : L2.St} {H : Hp} {M0 : Addr → Prop} {ρ : Slots} {d : Fp.D} {v : V} (rt : RelT X.K xa M0 ρ σ H) (rv : Rep X.K (Mx M0 ρ σ) H v d) {ρ' : Slots} (e1 : appD i d ρ = .ok ρ') :
    ∃ a vs, σ[i]? = some (some (.ref a)) ∧ H a = some (.lst vs) ∧ vs.length < sizeLine ∧ RelT X.K xa M0 ρ' σ (upd H a (.lst (vs ++ [v]))) ∧ Step ρ σ H ρ' σ (upd H a (.lst (vs ++ [v]))) := by
  unfold appD at e1
  obtain ⟨xs, hx, e1⟩ := bind_some e1
  split at e1
  · rename_i hlt
    cases e1
    obtain ⟨a, vs, h1, h2, h3, h4, h5⟩ := rt.own hx
    have hl := h4.length
    exact ⟨a, vs, h1, h2, by omega, rt.updO (slotL_ok hx) h1 h2 (by simp; omega) (h4.append (.cons rv .nil)), Step.upd h5 h2 fun b o => (own_upd (slotL_ok hx)).mp o⟩
  · cases e1
theorem cs_app {x : Str} {p1 p2 q : Pos} (hx : nmB X.N X.env.scope i x = true) (hl : p1.endLine = q.line) (hpl : plainX e = true) (hb : brw c = false) (he : PE X e (canE X.K xa W p.G c)) : PS X (.Expr (.Call (.Attribute (.Name x p2) "append" p1) [e] [] q) pos) (canS X.K xa W p.G (.app i c)) := by
  obtain ⟨h1, h2, h3, h4⟩ := nm_ok hx
  have hA : PA X [e] (tCons (canE X.K xa W p.G c) tNil) := pa_cons he pa_nil (star_cons hpl)
  have hfew : ((backTo q (starEach [e] X.env)).all (fun x => !x.1) && (backToKw q (keywordEach [] X.env)).all (fun x => x.1.isSome)
      && decide (([e] : List Expr).length + ([] : List Keyword).length + (if ([] : List Keyword).isEmpty then 0 else 1) < 30)) = true := by
    rw [star_all (by simp [hpl])]
    rfl
  have hline : (p1.endLine == q.line) = true := by rw [hl]; exact beq_self_eq_true _
  refine PS.of (ps_expr (pe_bm PySem.F.plainAttrs_list PySem.F.slot_list_append PySem.F.type_list_append mt_append (pe_var h1 h2 h3 h4) hA rfl hfew hline (star_cons hpl) rfl) rfl) fun D σ H qq => ?_
  obtain ⟨M0, ρ, rt, he⟩ := qq
  obtain ⟨xs, hh, he⟩ := EndS.slot he
  obtain ⟨a, vs, h1, h2, h3, h4, h5⟩ := rt.own hh
  refine ⟨.ref a, h1, .inl ⟨rfl, vs, .inl (.inl h2)⟩, ?_⟩
  refine ⟨M0, ρ, rt.r, (EndS.lift rt he).imp fun d H1 s1 h1' v rv => ?_⟩
  rw [hb] at rv
  obtain ⟨ρ', e1, h1'⟩ := h1'.ofR
  obtain ⟨a', vs', k1, k2, k3, k4, k5⟩ := own_app (rt.mono s1) rv e1
  rw [h1] at k1
  cases k1
  exact ⟨a, vs', v, rfl, rfl, k2, k3, h1' σ _ k4 k5⟩
/-- l.extend(m) -/
def rExtR : V → List V → Hp → VK → Prop := fun x vs H Q => ∃ l b xs zs, x = .ref l ∧ vs = [.ref b] ∧ H l = some (.lst xs) ∧ Rd H b (.lst zs) ∧ xs.length + zs.length ≤ sizeLine ∧ Q .non (upd H l (.lst (xs ++ zs)))
theorem mt_extR : MtM X "list.extend" rExtR := by
  intro pins s σ H x vs v us Q I rx rv h
  obtain ⟨l, b, xs, zs, rfl, rfl, hH, hB, hz, q⟩ := h
  cases rx
  obtain ⟨u, rfl, ru⟩ := rv.one
  cases ru
  obtain ⟨z, its, n, r, hl, e⟩ := I.lstM hH
  obtain ⟨z2, its2, n2, r2, hl2, e2⟩ := lstR I hB
  have hsz : its.toArray.size + its2.toArray.size ≤ sizeLine := by rw [List.size_toArray, List.size_toArray]; omega
  have hlong : ¬ (!its.toArray.isEmpty && Builtin.List.listTooLong (its.toArray.size + its2.toArray.size)) = true := by
    rw [notLongL hsz, Bool.and_false]
    exact Bool.false_ne_true
  refine call_meets PySem.F.slot_list_extend ⟨_, e, rfl⟩ PySem.F.entry_list_extend (PySem.F.args_list_extend_2 _ _)
    (PySem.AutoSeq1.list_extend_list_list_0 l its.toArray n b its2.toArray n2 hlong (by rw [List.size_toArray]; omega) (by omega)) ⟨e, e2, ?_⟩
  refine ⟨.non, _, I.lset (its' := its ++ its2) hH e (by simp) (r.append r2) ?_, rfl, q⟩
  rw [List.length_append]
  omega
def rExtP (K : PySem.W.Frag) : V → List V → Hp → VK → Prop := fun x vs H Q => ∃ l b xs zs, x = .ref l ∧ vs = [.ref b] ∧ H l = some (.lst xs) ∧ SqP K H b zs ∧ xs.length + zs.length ≤ sizeLine ∧ Q .non (upd H l (.lst (xs ++ zs)))
theorem mt_extP : MtM X "list.extend" (rExtP X.K) := by
  intro pins s σ H x vs v us Q I rx rv h
  obtain ⟨l, b, xs, zs, rfl, rfl, hH, hB, hz, q⟩ := h
  cases rx
  obtain ⟨u, rfl, ru⟩ := rv.one
  cases ru
  obtain ⟨z, its, n, r, hl, e⟩ := I.lstM hH
  obtain ⟨its2, r2, ⟨o, e2, hc, n2, hd⟩, z2⟩ := I.tuple hB.t
  have ho : o = { cls := .type "tuple", data := .seq its2.toArray n2 } := by
    have pl : plO o := by
      rcases hB with ⟨o', h, h5⟩ | ⟨o', _, _, h, h5, _⟩
      · have z : s.heap.get? b = some o' := (I.hok b _ h).1
        rw [e2] at z
        cases z
        exact h5
      · have z : s.heap.get? b = some o' := I.kIn b o' h
        rw [e2] at z
        cases z
        exact h5
    obtain ⟨p1, p2, p3⟩ := pl
    cases o
    simp_all
  subst ho
  have hl2 := r2.length
  have hsz : its.toArray.size + its2.toArray.size ≤ sizeLine := by rw [List.size_toArray, List.size_toArray]; omega
  have hlong : ¬ (!its.toArray.isEmpty && Builtin.List.listTooLong (its.toArray.size + its2.toArray.size)) = true := by
    rw [notLongL hsz, Bool.and_false]
    exact Bool.false_ne_true
  refine call_meets PySem.F.slot_list_extend ⟨_, e, rfl⟩ PySem.F.entry_list_extend (PySem.F.args_list_extend_2 _ _)
    (PySem.AutoSeq1.list_extend_list_tuple_0 l its.toArray n b its2.toArray n2 hlong (by rw [List.size_toArray]; omega) (by omega)) ⟨e, e2, ?_⟩
  refine ⟨.non, _, I.lset (its' := its ++ its2) hH e (by simp) (r.append r2) ?_, rfl, q⟩
  rw [List.length_append]
  omega
theorem mt_ext : MtM X "list.extend" (fun x vs H Q => rExtR x vs H Q ∨ rExtP X.K x vs H Q) := by
  intro pins s σ H x vs v us Q I rx rv h
  rcases h with h | h
  · exact mt_extR pins s σ H x vs v us Q I rx rv h
  · exact mt_extP pins s σ H x vs v us Q I rx rv h
theorem cs_ext {x : Str} {p1 p2 q : Pos} (hx : nmB X.N X.env.scope i x = true) (hl : p1.endLine = q.line) (hpl : plainX e = true) (he : PE X e (canE X.K xa W p.G c)) : PS X (.Expr (.Call (.Attribute (.Name x p2) "extend" p1) [e] [] q) pos) (canS X.K xa W p.G (.ext i c)) := by
  obtain ⟨h1, h2, h3, h4⟩ := nm_ok hx
  have hA : PA X [e] (tCons (canE X.K xa W p.G c) tNil) := pa_cons he pa_nil (star_cons hpl)
  have hfew : ((backTo q (starEach [e] X.env)).all (fun x => !x.1) && (backToKw q (keywordEach [] X.env)).all (fun x => x.1.isSome)
      && decide (([e] : List Expr).length + ([] : List Keyword).length + (if ([] : List Keyword).isEmpty then 0 else 1) < 30)) = true := by
    rw [star_all (by simp [hpl])]
    rfl
  have hline : (p1.endLine == q.line) = true := by rw [hl]; exact beq_self_eq_true _
  refine PS.of (ps_expr (pe_bm PySem.F.plainAttrs_list PySem.F.slot_list_extend PySem.F.type_list_extend mt_ext (pe_var h1 h2 h3 h4) hA rfl hfew hline (star_cons hpl) rfl) rfl) fun D σ H qq => ?_
  obtain ⟨M0, ρ, rt, he⟩ := qq
  obtain ⟨xs, hh, he⟩ := EndS.slot he
  obtain ⟨a, vs, h1, h2, h3, h4, h5⟩ := rt.own hh
  refine ⟨.ref a, h1, .inl ⟨rfl, vs, .inl (.inl h2)⟩, ?_⟩
  refine ⟨M0, ρ, rt.r, (EndS.lift rt he).imp fun d H1 s1 h1' v rv => ?_⟩
  obtain ⟨ρ', e1, hnx⟩ := h1'.ofR
  clear h1'
  unfold extD at e1
  obtain ⟨xs, hx, e1⟩ := bind_some e1
  obtain ⟨ys, hy, e1⟩ := bind_some e1
  split at e1
  · rename_i hz
    cases e1
    cases d with
    | list ds =>
      cases hy
      obtain ⟨b, us, rfl, k1, k2, k3⟩ := rv.list
      obtain ⟨a', vs', j1, j2, j3, j4, j5⟩ := (rt.mono s1).own hx
      rw [h1] at j1
      cases j1
      have l1 := j4.length
      have l2 := k3.length
      exact .inl ⟨a, b, vs', us, rfl, rfl, j2, k1, by omega, hnx σ _ ((rt.mono s1).updO (slotL_ok hx) h1 j2 (by simp; omega) (j4.append k3)) (Step.upd j5 j2 fun b o => (own_upd (slotL_ok hx)).mp o)⟩
    | tuple ds =>
      cases hy
      obtain ⟨b, us, rfl, k1, k2, k3⟩ := rv.tupleP
      obtain ⟨a', vs', j1, j2, j3, j4, j5⟩ := (rt.mono s1).own hx
      rw [h1] at j1
      cases j1
      have l1 := j4.length
      have l2 := k3.length
      exact .inr ⟨a, b, vs', us, rfl, rfl, j2, k1, by omega, hnx σ _ ((rt.mono s1).updO (slotL_ok hx) h1 j2 (by simp; omega) (j4.append k3)) (Step.upd j5 j2 fun b o => (own_upd (slotL_ok hx)).mp o)⟩
    | _ => cases hy
  · cases e1
theorem set_R {cs : E} {ck : E} {D : Ends} {σ : L2.St} {H : Hp} (hb : brw c = false) (q : canS X.K xa W p.G (.put i ck c) D σ H) : tAsg (canE X.K xa W p.G c) (gSub (tVar i) (canE X.K xa W p.G ck) rSetL) D σ H := by
  obtain ⟨M0, ρ, rt, he⟩ := q
  refine ⟨M0, ρ, rt.r, (EndS.lift rt he).imp fun d H1 s1 h1 v rv => ?_⟩
  rw [hb] at rv
  obtain ⟨xs, hh, h1⟩ := EndS.slot h1
  have rt1 := rt.mono s1
  obtain ⟨a, vs, k1, k2, k3, k4, k5⟩ := rt1.own hh
  refine ⟨.ref a, k1, ?_⟩
  refine ⟨M0, ρ, rt1.r, (EndS.lift rt1 h1).imp fun n H2 s2 h2 u ru => ?_⟩
  obtain ⟨ρ', e1, h2⟩ := h2.ofR
  have rt2 := rt1.mono s2
  unfold putD at e1
  obtain ⟨xs', hx, e1⟩ := bind_some e1
  cases n with
  | int n =>
    obtain ⟨j, hj, e1⟩ := bind_some e1
    cases e1
    obtain ⟨a', vs', j1, j2, j3, j4, j5⟩ := rt2.own hx
    rw [k1] at j1
    cases j1
    have hj' : L2.ixN xs'.length n = some j := by
      cases hq : L2.ixN xs'.length n with
      | none => rw [hq] at hj; cases hj
      | some j' => rw [hq] at hj; cases hj; rfl
    exact ⟨a, vs', n, j, rfl, ru.int, j2, by rw [j4.length]; exact hj', h2 σ _ (rt2.updO (slotL_ok hx) k1 j2 (by simpa using j3) (RepL.set (Rep.mono s2 rv) j j4)) (Step.upd j5 j2 fun b o => (own_upd (slotL_ok hx)).mp o)⟩
  | _ => cases e1
theorem cs_put {x : Str} {ix : Expr} {ck : E} {p1 p2 : Pos} (hx : nmB X.N X.env.scope i x = true) (hn : notLc e = true) (hpl : plainX ix = true) (hb : brw c = false) (hk : PE X ix (canE X.K xa W p.G ck)) (he : PE X e (canE X.K xa W p.G c)) : PS X (.Assign [.Subscript (.Name x p1) ix p2] e pos) (canS X.K xa W p.G (.put i ck c)) := by
  obtain ⟨h1, h2, h3, h4⟩ := nm_ok hx
  have ha : ∀ v, assign (.Subscript (.Name x p1) ix p2) X.env v = (do
      let ov ← holding [v] (eval (.Name x p1) X.env)
      let iv ← holding [v, ov] (eval ix X.env)
      standAt p2
      holding [v, ov, iv] (setItem ov iv v)
      release [v, ov, iv] []) := fun v => by
    cases ix <;> first | rfl | cases hpl
  exact PS.of (ps_asg he (pg_sub (pe_var h1 h2 h3 h4) hk set_list ha) (by cases e <;> rfl) (by cases e <;> rfl) (by cases ix <;> rfl)) fun D σ H q => set_R (cs := c) hb q
/-! ### one's own dicts -/
theorem dst_rd {D : Ends} {σ : L2.St} {H : Hp} (q : canS X.K xa W p.G (.dst i c) D σ H) : tAsg (canFD X.K xa W p.G c) (gName i) D σ H := by
  obtain ⟨M0, ρ, rt, he⟩ := q
  refine ⟨M0, ρ, rt.r, (EndS.lift0 rt he).imp fun d H1 s1 h1 v nu => ?_⟩
  obtain ⟨ρ', e1, h1⟩ := h1.ofR
  obtain ⟨q, es, ds, rfl, rfl, hq, hq1, hz, hr⟩ := nu
  unfold dstD at e1
  dsimp only at e1
  split at e1
  · rename_i hi
    cases e1
    exact h1 _ H1 (rt.setOG hq s1 (.inr ⟨es, ds, rfl, hq1, hz, hr⟩) hi) (Step.new s1 fun a o => (own_new o).imp id fun z => by rw [z]; exact hq)
  · cases e1
theorem dsz_rd {ca cb : E} {D : Ends} {σ : L2.St} {H : Hp} (q : canS X.K xa W p.G (.dsz i ca cb) D σ H) : tAsg (canND X.K xa W (dzR p.G ca cb)) (gName i) D σ H := by
  obtain ⟨M0, ρ, rt, he⟩ := q
  refine ⟨M0, ρ, rt.r, (EndS.lift0 rt he).imp fun d H1 s1 h1 v nu => ?_⟩
  obtain ⟨ρ', e1, h1⟩ := h1.ofR
  obtain ⟨q, es, ds, rfl, rfl, hq, hq1, hz, hr⟩ := nu
  unfold dstD at e1
  dsimp only at e1
  split at e1
  · rename_i hi
    cases e1
    exact h1 _ H1 (rt.setOG hq s1 (.inr ⟨es, ds, rfl, hq1, hz, hr⟩) hi) (Step.new s1 fun a o => (own_new o).imp id fun z => by rw [z]; exact hq)
  · cases e1
theorem cs_dsz {x z : Str} {a b : Expr} {ca cb : E} {p1 p2 p3 p4 : Pos} (C : Cok X xa W p true k) (hi : X.N[i]? = some y) (hy : Loc X.env.scope y) (hf : X.fn y = true) (hx : x = Str.ofString "dict") (hg : glB X.env.scope x = true) (hz : z = Str.ofString "zip") (hg2 : glB X.env.scope z = true) (h1 : plainX a = true) (h2 : plainX b = true) (ha : PE X a (canE X.K xa W p.G ca)) (hb : PE X b (canE X.K xa W p.G cb)) :
    PS X (.Assign [.Name y py] (.Call (.Name x p1) [.Call (.Name z p2) [a, b] [] p3] [] p4) pos) (canS X.K xa W p.G (.dsz i ca cb)) :=
  PS.of (ps_set C.nd hi hy (ce_dczF C hx hg hz hg2 h1 h2 ha hb) (sw_plain rfl) (.inl hf)) fun D σ H q => dsz_rd q
theorem cs_dst {x : Str} {p1 : Pos} (C : Cok X xa W p true k) (hi : X.N[i]? = some y) (hy : Loc X.env.scope y) (hf : X.fn y = true) (hx : x = Str.ofString "dict") (hg : glB X.env.scope x = true) (hpl : plainX e = true) (ha : PE X e (canE X.K xa W p.G c)) : PS X (.Assign [.Name y py] (.Call (.Name x p1) [e] [] p2) pos) (canS X.K xa W p.G (.dst i c)) :=
  PS.of (ps_set C.nd hi hy (ce_dctF C hx hg hpl ha) (sw_plain rfl) (.inl hf)) fun D σ H q => dst_rd q
/-- d[k] = v, one's own dict -/
def rSetK : V → V → V → Hp → (Hp → Prop) → Prop := fun o y v H Q => ∃ a kvs c, o = .ref a ∧ y = kV c ∧ H a = some (.dK kvs) ∧ kvs.length < sizeLine ∧ Q (upd H a (.dK (putK kvs c v)))
theorem set_dict (hu : X.A.units + 65 < cLine) : PSet X rSetK := by
  intro pins s σ H o i v ov iv u Q I ro ri rv h
  obtain ⟨a, kvs, c, rfl, rfl, hH, hz, q⟩ := h
  cases ro
  exact d_setItem (by omega) I (DPut.k hH hz) ri rv fun s' I' => ⟨_, I', q⟩
theorem EndS.slotK {K : PySem.W.Frag} {M0 : Addr → Prop} {D : Ends} {ρ : Slots} {σ : L2.St} {H : Hp} {f : List (Fp.D × Fp.D) → Fl} (h : EndS K xa M0 W D ρ σ H (liftR ρ (slotK ρ i) f)) : ∃ xs, slotK ρ i = .ok xs ∧ EndS K xa M0 W D ρ σ H (f xs) := by
  cases hs : Fp.slotK ρ i with
  | ok xs => rw [hs] at h; exact ⟨xs, rfl, h⟩
  | exc c =>
    unfold Fp.slotK at hs
    split at hs <;> cases hs
  | err => rw [hs] at h; exact h.elim
theorem put_go {M0 : Addr → Prop} {ρ ρ' : Slots} {σ : L2.St} {H : Hp} {n d : Fp.D} {u v' : V} {b : Bool} (rt : RelT X.K xa M0 ρ σ H) (e1 : dputS i n d ρ = .ok ρ') (ru : RepB b X.K (Mx M0 ρ σ) H u n) (rv : Rep X.K (Mx M0 ρ σ) H v' d) {a : Addr} (k1 : σ[i]? = some (some (.ref a))) :
    ∃ kvs c, u = kV c ∧ H a = some (.dK kvs) ∧ kvs.length < sizeLine ∧ RelT X.K xa M0 ρ' σ (upd H a (.dK (putK kvs c v'))) ∧ Step ρ σ H ρ' σ (upd H a (.dK (putK kvs c v'))) ∧ (∀ v d, Rep X.K (Mx M0 ρ σ) H v d → Rep X.K (Mx M0 ρ' σ) (upd H a (.dK (putK kvs c v'))) v d) ∧ (∀ b, OwnA ρ' σ b ↔ OwnA ρ σ b) := by
  unfold dputS at e1
  obtain ⟨kvd, hx, e1⟩ := bind_some e1
  split at e1
  · rename_i hc
    cases e1
    obtain ⟨c, rfl⟩ := isKey_of hc.1
    obtain ⟨a', kvs, j1, j2, j3, j4, j5⟩ := rt.ownK hx
    rw [k1] at j1
    cases j1
    have hl := j4.length
    have hp := length_putK kvs c v'
    have ma : Mx M0 ρ σ a := .inr ⟨i, _, slotK_ok hx, k1⟩
    have kp : Kp (Mx M0 ρ σ) H (upd H a (.dK (putK kvs c v'))) := kp_upd ma j2 rfl
    exact ⟨kvs, c, key_v ru, j2, by omega, rt.updK (slotK_ok hx) k1 j2 (by omega) (j4.put rv), Step.updG j5 j2 rfl fun b o => (own_upd (slotK_ok hx)).mp o, fun v d r => r.move kp (fun b m => .inl (by
      rcases m with m | m
      · exact .inl m
      · exact .inr ((own_upd (slotK_ok hx)).mp m))), fun b => own_upd (slotK_ok hx)⟩
  · cases e1
theorem setK_R {cs : E} {ck : E} {D : Ends} {σ : L2.St} {H : Hp} (hb : brw c = false) (q : canS X.K xa W p.G (.dpt i ck c) D σ H) : tAsg (canE X.K xa W p.G c) (gSub (tVar i) (canE X.K xa W p.G ck) rSetK) D σ H := by
  obtain ⟨M0, ρ, rt, he⟩ := q
  refine ⟨M0, ρ, rt.r, (EndS.lift rt he).imp fun d H1 s1 h1 v rv => ?_⟩
  rw [hb] at rv
  obtain ⟨xs, hh, h1⟩ := EndS.slotK h1
  have rt1 := rt.mono s1
  obtain ⟨a, vs, k1, k2, k3, k4, k5⟩ := rt1.ownK hh
  refine ⟨.ref a, k1, ?_⟩
  refine ⟨M0, ρ, rt1.r, (EndS.lift rt1 h1).imp fun n H2 s2 h2 u ru => ?_⟩
  obtain ⟨ρ', e1, h2⟩ := h2.ofR
  have rt2 := rt1.mono s2
  obtain ⟨kvs, c', w1, w2, w3, w4, w5, _⟩ := put_go rt2 e1 ru (Rep.mono s2 rv) k1
  exact ⟨a, kvs, c', rfl, w1, w2, w3, h2 σ _ w4 w5⟩
theorem sub_assign {x : Str} {ix : Expr} {p1 p2 : Pos} (hpl : plainX ix = true) : ∀ v, assign (.Subscript (.Name x p1) ix p2) X.env v = (do
      let ov ← holding [v] (eval (.Name x p1) X.env)
      let iv ← holding [v, ov] (eval ix X.env)
      standAt p2
      holding [v, ov, iv] (setItem ov iv v)
      release [v, ov, iv] []) := fun v => by
  cases ix <;> first | rfl | cases hpl
theorem cs_dpt {x : Str} {ix : Expr} {ck : E} {p1 p2 : Pos} (hu : X.A.units + 65 < cLine) (hx : nmB X.N X.env.scope i x = true) (hn : notLc e = true) (hpl : plainX ix = true) (hb : brw c = false) (hk : PE X ix (canE X.K xa W p.G ck)) (he : PE X e (canE X.K xa W p.G c)) : PS X (.Assign [.Subscript (.Name x p1) ix p2] e pos) (canS X.K xa W p.G (.dpt i ck c)) := by
  obtain ⟨h1, h2, h3, h4⟩ := nm_ok hx
  exact PS.of (ps_asg he (pg_sub (pe_var h1 h2 h3 h4) hk (set_dict hu) (sub_assign hpl)) (by cases e <;> rfl) (by cases e <;> rfl) (by cases ix <;> rfl)) fun D σ H q => setK_R (cs := c) hb q
theorem PostR.join {K : PySem.W.Frag} {σ : L2.St} {α β : Type} {kk : β → Hp → Prop} {H : Hp} {r : Res α} {f : α → Res β} (h : PostR K W σ (fun a H1 => PostR K W σ kk H1 (f a)) H r) : PostR K W σ kk H (r >>= f) := by
  cases r with
  | ok a => exact h.ok
  | exc c => exact h
  | err => exact h
theorem evs2 {G : Str → List Fp.D → Res Fp.D} {a b : E} {ρ : Slots} : evs G (.cons a (.cons b .nil)) ρ = (ev G a ρ >>= fun x => ev G b ρ >>= fun z => .ok [x, z]) := by
  show (ev G a ρ >>= fun x => (ev G b ρ >>= fun z => Res.ok [] >>= fun ds => .ok (z :: ds)) >>= fun ds => .ok (x :: ds)) = _
  congr 1
  funext x
  cases ev G b ρ <;> rfl
theorem dpn_rd {ck cf : E} {x : Nat} {D : Ends} {σ : L2.St} {H : Hp} (q : canS X.K xa W p.G (.dpn i ck x c cf) D σ H) : tAsg (tTup (canA X.K xa W p.G (.cons c (.cons cf .nil)))) (gTup X.K 2 (gCons (gSub (tVar i) (canE X.K xa W p.G ck) rSetK) (gCons (gName x) gNil))) D σ H := by
  obtain ⟨M0, ρ, rt, he⟩ := q
  refine ⟨M0, ρ, rt.r, ?_⟩
  rw [evs2]
  refine PostR.join ((EndS.lift rt he).imp fun d H1 s1 h1 => PostR.join ((EndS.lift (rt.mono s1) h1).imp fun g H2 s2 h2 => ?_))
  intro H3 s3 vs rvs
  have rt3 := rt.mono (s1.trans (s2.trans s3))
  have h3 := EndS.pre h2 (Step.same s3 fun _ x => x)
  cases rvs with
  | cons r1 rvs =>
    cases rvs with
    | cons r2 rvs =>
      cases rvs
      rename_i v1 v2
      have hsz : 2 ≤ sizeLine := by decide
      refine ⟨hsz, fun t ht => ⟨t, [v1, v2], rfl, .inl (.inl upd_same), rfl, v1, [v2], rfl, ?_⟩⟩
      have s4 : Same H3 (upd H3 t (.tup [v1, v2])) := same_new ht
      have rt4 := rt3.mono s4
      have h4 := EndS.pre h3 (Step.same s4 fun _ x => x)
      obtain ⟨xs, hh, h4⟩ := EndS.slotK h4
      obtain ⟨a, kvs0, k1, k2, k3, k4, k5⟩ := rt4.ownK hh
      refine ⟨.ref a, k1, M0, ρ, rt4.r, (EndS.lift rt4 h4).imp fun n H5 s5 h5 u ru => ?_⟩
      obtain ⟨ρ2, e1, h5⟩ := h5.ofR
      obtain ⟨ρ', e0, e1⟩ := bind_some e1
      have rt5 := rt4.mono s5
      obtain ⟨kvs, c', w1, w2, w3, w4, w5, w6, w7⟩ := put_go rt5 e0 ru (Rep.mono (s4.trans s5) r1) k1
      refine ⟨a, kvs, c', rfl, w1, w2, w3, v2, [], rfl, rfl, ?_⟩
      have e1 : (if x < ρ'.length then Res.ok (ρ'.set x (.fz g)) else .err) = .ok ρ2 := e1
      split at e1
      · rename_i hx
        cases e1
        exact h5 _ _ (w4.setN (w6 _ _ (Rep.mono (s4.trans s5) r2)) hx) (w5.trans (Step.same (Same.refl _) fun a o => own_set (fun d z => by cases z) o))
      · cases e1
theorem cs_dpn {x z : Str} {ix f : Expr} {ck cf : E} {j : Nat} {p1 p3 p4 pz : Pos} {k1 k2 : Nat} (C : Cok X xa W p true k) (hf : ∀ x, X.fn x = true) (hx : nmB X.N X.env.scope i x = true) (hz : X.N[j]? = some z) (hzl : Loc X.env.scope z) (hpl : plainX ix = true) (hk : PE X ix (canE X.K xa W p.G ck)) (hA : PA X [e, f] (canA X.K xa W p.G (.cons c (.cons cf .nil)))) (hs : ((swNames X.env.scope [.Subscript (.Name x p1) ix p2, .Name z pz]).length != [Expr.Subscript (.Name x p1) ix p2, .Name z pz].length) = true) :
    PS X (.Assign [.Tuple [.Subscript (.Name x p1) ix p2, .Name z pz] k1 p3] (.Tuple [e, f] k2 p4) pos) (canS X.K xa W p.G (.dpn i ck j c cf)) := by
  obtain ⟨h1, h2, h3, h4⟩ := nm_ok hx
  have g1 := pg_sub (pe_var h1 h2 h3 h4) hk (set_dict C.units) (sub_assign (p1 := p1) (p2 := p2) hpl)
  have ae : assignEach [.Subscript (.Name x p1) ix p2, .Name z pz] X.env = [(false, assign (.Subscript (.Name x p1) ix p2) X.env), (false, assign (.Name z pz) X.env)] := by cases ix <;> rfl
  refine PS.of (ps_asg (pe_tup hA) (pg_tup (n := 2) (C.calm rfl).1 (pgs_cons g1 (pgs_cons (pg_name C.nd hz hzl (.inl (hf z))) pgs_nil rfl) (by cases ix <;> rfl)) (by rw [ae]; rfl) (by rw [ae]; rfl)) tup_ss (sw_no hs) rfl) fun D σ H q => dpn_rd q
theorem own_pop {σ : L2.St} {H : Hp} {M0 : Addr → Prop} {ρ : Slots} (rt : RelT X.K xa M0 ρ σ H) {n : Option Int} {d : Fp.D} {ρ' : Slots} (e1 : popD i n ρ = .ok (d, ρ')) :
    ∃ a vs j v, σ[i]? = some (some (.ref a)) ∧ H a = some (.lst vs) ∧ L2.ixN vs.length (n.getD (-1)) = some j ∧ vs[j]? = some v ∧ Rep X.K (Mx M0 ρ σ) H v d ∧ RelT X.K xa M0 ρ' σ (upd H a (.lst (vs.eraseIdx j))) ∧ Step ρ σ H ρ' σ (upd H a (.lst (vs.eraseIdx j))) ∧ (∀ b, OwnA ρ' σ b ↔ OwnA ρ σ b) ∧ ∃ xs, ρ[i]? = some (.ow (.list xs)) ∧ ρ' = ρ.set i (.ow (.list (xs.eraseIdx j))) := by
  unfold popD at e1
  obtain ⟨xs, hx, e1⟩ := bind_some e1
  obtain ⟨j, hj, e1⟩ := bind_some e1
  obtain ⟨y, hy, e1⟩ := bind_some e1
  cases e1
  obtain ⟨a, vs, k1, k2, k3, k4, k5⟩ := rt.own hx
  have hj' : L2.ixN xs.length (n.getD (-1)) = some j := by
    cases hq : L2.ixN xs.length (n.getD (-1)) with
    | none => rw [hq] at hj; cases hj
    | some j' => rw [hq] at hj; cases hj; rfl
  have hy' : xs[j]? = some d := by
    cases hq : xs[j]? with
    | none => rw [hq] at hy; cases hy
    | some j' => rw [hq] at hy; cases hy; rfl
  obtain ⟨v, hv, rv⟩ := k4.get hy'
  have hle : (vs.eraseIdx j).length ≤ sizeLine := by
    have := List.length_eraseIdx_le vs j
    omega
  exact ⟨a, vs, j, v, k1, k2, by rw [k4.length]; exact hj', hv, rv, rt.updO (slotL_ok hx) k1 k2 hle (k4.erase j), Step.upd k5 k2 fun b o => (own_upd (slotL_ok hx)).mp o, fun b => own_upd (slotL_ok hx), xs, slotL_ok hx, rfl⟩
end
end Fp
set_option maxHeartbeats 1000000
namespace Fp
open PySem PySem.Spec PyProof.Rows L2
variable [TB]
section
variable {X : Cx} {xa : Addr → Str → Prop} {W : WX} {p : Pg} {cm : Bool} {k : Nat} {e : Expr} {c : E} {pos py : Pos} {i : Nat} {y : Str}
/-- x = l.pop(k) -/
theorem pop_last {n : Nat} {j : Nat} (h : L2.ixN n (-1) = some j) : j = n - 1 ∧ 0 < n := by
  unfold L2.ixN at h
  split at h
  · omega
  · split at h
    · cases h; omega
    · cases h
theorem rel_popset {σ : L2.St} {H : Hp} {M0 : Addr → Prop} {ρ ρ1 ρ' : Slots} {v : V} {d : D} {H1 : Hp} {x : Nat} (rt : RelT X.K xa M0 ρ1 σ H1) (rv : Rep X.K (Mx M0 ρ1 σ) H1 v d) (hb : bindT (.nm x) d ρ1 = .ok ρ') (st : Step ρ σ H ρ1 σ H1) : RelT X.K xa M0 ρ' (σ.set x (some v)) H1 ∧ Step ρ σ H ρ' (σ.set x (some v)) H1 := by
  unfold bindT at hb
  split at hb
  · rename_i hi
    cases hb
    exact ⟨rt.setN rv hi, st.trans (Step.same (Same.refl _) fun a => own_set fun d z => by cases z)⟩
  · cases hb
/-- what is popped stands off what is one's own -/
theorem pop_rep {σ : L2.St} {H : Hp} {M0 : Addr → Prop} {ρ ρ' : Slots} {a : Addr} {vs ws : List V} {v : V} {d : D} (hH : H a = some (.lst vs)) (ha : OwnA ρ σ a) (ow : ∀ b, OwnA ρ' σ b ↔ OwnA ρ σ b) (rv : Rep X.K (Mx M0 ρ σ) H v d) : Rep X.K (Mx M0 ρ' σ) (upd H a (.lst ws)) v d := by
  refine rv.move (M := Mx M0 ρ σ) (kp_upd (.inr ha) hH rfl) fun b m => .inl ?_
  · rcases m with m | m
    · exact .inl m
    · exact .inr ((ow b).mp m)
theorem cs_pop {x : Str} {ix : Nat} {z : Str} {p1 p2 q pz : Pos} (C : Cok X xa W p cm k) (hz : X.N[ix]? = some z) (hzl : Loc X.env.scope z) (hzf : X.fn z = true) (hx : nmB X.N X.env.scope i x = true) (hl : p1.endLine = q.line) (hpl : plainX e = true) (he : PE X e (canE X.K xa W p.G c)) :
    PS X (.Assign [.Name z pz] (.Call (.Attribute (.Name x p2) "pop" p1) [e] [] q) pos) (canS X.K xa W p.G (.pop ix i (.so c))) := by
  obtain ⟨h1, h2, h3, h4⟩ := nm_ok hx
  have hA : PA X [e] (tCons (canE X.K xa W p.G c) tNil) := pa_cons he pa_nil (star_cons hpl)
  have hfew : ((backTo q (starEach [e] X.env)).all (fun x => !x.1) && (backToKw q (keywordEach [] X.env)).all (fun x => x.1.isSome)
      && decide (([e] : List Expr).length + ([] : List Keyword).length + (if ([] : List Keyword).isEmpty then 0 else 1) < 30)) = true := by
    rw [star_all (by simp [hpl])]
    rfl
  have hline : (p1.endLine == q.line) = true := by rw [hl]; exact beq_self_eq_true _
  refine PS.of (ps_set C.nd hz hzl (pe_bm PySem.F.plainAttrs_list PySem.F.slot_list_pop PySem.F.type_list_pop mt_popAt (pe_var h1 h2 h3 h4) hA rfl hfew hline (star_cons hpl) rfl) rfl (.inl hzf)) fun D σ H qq => ?_
  obtain ⟨M0, ρ, rt, he⟩ := qq
  obtain ⟨xs, hh, he⟩ := EndS.slot he
  obtain ⟨a, vs, k1, k2, k3, k4, k5⟩ := rt.own hh
  refine ⟨.ref a, k1, .inl ⟨rfl, vs, .inl (.inl k2)⟩, ?_⟩
  have e0 : (evo p.G (.so c) ρ >>= partD) = (ev p.G c ρ >>= fun d => partD (some d)) := by
    show ((ev p.G c ρ >>= fun d => Res.ok (some d)) >>= partD) = _
    cases ev p.G c ρ <;> rfl
  rw [e0] at he
  have he2 := EndS.lift rt he
  refine can1 rt.r he2 fun d H1 v s1 r1 rv h1' => ?_
  have rt1 := rt.mono s1
  cases d with
  | int n =>
    have h1' := PostR.ok (a := some n) h1'
    obtain ⟨ρ', e1, h1'⟩ := h1'.ofR
    obtain ⟨⟨d, ρ1⟩, e2, e3⟩ := bind_some e1
    obtain ⟨a', vs', j, w, j1, j2, j3, j4, j5, j6, j7, j8, xs', j9, j10⟩ := own_pop rt1 e2
    rw [k1] at j1
    cases j1
    obtain ⟨g1, g2, g3, g4⟩ := ixN_seq j3
    obtain ⟨z1, z2⟩ := rel_popset j6 (pop_rep j2 ⟨i, _, j9, k1⟩ j8 j5) e3 j7
    have hle : vs'.length ≤ sizeLine := by
      obtain ⟨_, vs2, y1, y2, y3, _⟩ := rt1.own (by unfold slotL; rw [j9] : slotL ρ i = .ok xs')
      rw [k1] at y1
      cases y1
      rw [j2] at y2
      cases y2
      exact y3
    have hsz : sizeLine < 2 ^ 62 := by rw [sizeLine_eq]; decide
    refine ⟨a, vs', n, j, w, rfl, by rw [rv.int], j2, ?_, ?_, g1, j4, ?_⟩
    · simp only [Option.getD_some] at g3; omega
    · simp only [Option.getD_some] at g4; omega
    · exact h1' _ _ z1 z2
  | _ => exact h1'.elim
theorem cs_pop0 {x : Str} {ix : Nat} {z : Str} {p1 p2 q pz : Pos} (C : Cok X xa W p cm k) (hz : X.N[ix]? = some z) (hzl : Loc X.env.scope z) (hzf : X.fn z = true) (hx : nmB X.N X.env.scope i x = true) (hl : p1.endLine = q.line) :
    PS X (.Assign [.Name z pz] (.Call (.Attribute (.Name x p2) "pop" p1) [] [] q) pos) (canS X.K xa W p.G (.pop ix i .no)) := by
  obtain ⟨h1, h2, h3, h4⟩ := nm_ok hx
  have hline : (p1.endLine == q.line) = true := by rw [hl]; exact beq_self_eq_true _
  refine PS.of (ps_set C.nd hz hzl (pe_bm0 PySem.F.plainAttrs_list PySem.F.slot_list_pop PySem.F.type_list_pop mt_pop (pe_var h1 h2 h3 h4) rfl hline) rfl (.inl hzf)) fun D σ H qq => ?_
  obtain ⟨M0, ρ, rt, he⟩ := qq
  obtain ⟨xs, hh, he⟩ := EndS.slot he
  obtain ⟨a, vs, k1, k2, k3, k4, k5⟩ := rt.own hh
  refine ⟨.ref a, k1, .inl ⟨rfl, vs, .inl (.inl k2)⟩, ?_⟩
  have he : EndS X.K xa M0 W D ρ σ H (Fl.ofR (popD i none ρ >>= fun yρ => bindT (.nm ix) yρ.1 yρ.2)) := he
  obtain ⟨ρ', e1, h1'⟩ := he.ofR
  obtain ⟨⟨d, ρ1⟩, e2, e3⟩ := bind_some e1
  obtain ⟨a', vs', j, w, j1, j2, j3, j4, j5, j6, j7, j8, xs', j9, j10⟩ := own_pop rt e2
  rw [k1] at j1
  cases j1
  obtain ⟨rfl, hpos⟩ := pop_last (by simpa using j3)
  obtain ⟨z1, z2⟩ := rel_popset j6 (pop_rep j2 ⟨i, _, j9, k1⟩ j8 j5) e3 j7
  have el : vs'.eraseIdx (vs'.length - 1) = vs'.dropLast := PyProof.Rows.Copied.eraseIdx_last _
  rw [el] at z1 z2
  exact ⟨a, vs', w, rfl, rfl, j2, j4, h1' _ _ z1 z2⟩
/-- l.append(m.pop(k)) -/
theorem cs_apop {x x2 : Str} {j : Nat} {p1 p2 q q1 q2 q3 : Pos} (C : Cok X xa W p cm k) (hx : nmB X.N X.env.scope i x = true) (hx2 : nmB X.N X.env.scope j x2 = true) (hij : i ≠ j) (hl : p1.endLine = q.line) (hl2 : q1.endLine = q3.line) (hpl : plainX e = true) (he : PE X e (canE X.K xa W p.G c)) :
    PS X (.Expr (.Call (.Attribute (.Name x p2) "append" p1) [.Call (.Attribute (.Name x2 q2) "pop" q1) [e] [] q3] [] q) pos) (canS X.K xa W p.G (.apop i j c)) := by
  obtain ⟨h1, h2, h3, h4⟩ := nm_ok hx
  obtain ⟨i1, i2, i3, i4⟩ := nm_ok hx2
  have hA : PA X [e] (tCons (canE X.K xa W p.G c) tNil) := pa_cons he pa_nil (star_cons hpl)
  have hfew : ((backTo q3 (starEach [e] X.env)).all (fun x => !x.1) && (backToKw q3 (keywordEach [] X.env)).all (fun x => x.1.isSome)
      && decide (([e] : List Expr).length + ([] : List Keyword).length + (if ([] : List Keyword).isEmpty then 0 else 1) < 30)) = true := by
    rw [star_all (by simp [hpl])]
    rfl
  have hline : (p1.endLine == q.line) = true := by rw [hl]; exact beq_self_eq_true _
  have hline2 : (q1.endLine == q3.line) = true := by rw [hl2]; exact beq_self_eq_true _
  have hp : PE X (.Call (.Attribute (.Name x2 q2) "pop" q1) [e] [] q3) _ := pe_bm PySem.F.plainAttrs_list PySem.F.slot_list_pop PySem.F.type_list_pop mt_popAt (pe_var i1 i2 i3 i4) hA rfl hfew hline2 (star_cons hpl) rfl
  refine PS.of (ps_expr (pe_bm PySem.F.plainAttrs_list PySem.F.slot_list_append PySem.F.type_list_append mt_append (pe_var h1 h2 h3 h4) (pa_cons hp pa_nil rfl) rfl rfl hline rfl rfl) rfl) fun D σ H qq => ?_
  obtain ⟨M0, ρ, rt, he⟩ := qq
  obtain ⟨xs, hh, he⟩ := EndS.slot he
  obtain ⟨ys, hh2, he⟩ := EndS.slot he
  obtain ⟨a, vs, k1, k2, k3, k4, k5⟩ := rt.own hh
  obtain ⟨b, us, m1, m2, m3, m4, m5⟩ := rt.own hh2
  refine ⟨.ref a, k1, .inl ⟨rfl, vs, .inl (.inl k2)⟩, ?_⟩
  refine ⟨.ref b, m1, .inl ⟨rfl, us, .inl (.inl m2)⟩, ?_⟩
  refine can1 (f := fun d => Res.ok d) rt.r (R := _) (by
    have := EndS.lift rt he
    have e0 : (ev p.G c ρ >>= fun d => Res.ok d) = ev p.G c ρ := by cases ev p.G c ρ <;> rfl
    rw [e0]
    exact this) fun d H1 v s1 r1 rv h1' => ?_
  have rt1 := rt.mono s1
  have h1' := PostR.ok (a := d) h1'
  cases d with
  | int n =>
    obtain ⟨ρ', e1, h1'⟩ := EndS.ofR h1'
    obtain ⟨⟨d, ρ1⟩, e2, e3⟩ := bind_some e1
    obtain ⟨a', vs', jx, w, j1, j2, j3, j4, j5, j6, j7, j8, xs', j9, j10⟩ := own_pop rt1 e2
    rw [m1] at j1
    cases j1
    obtain ⟨g1, g2, g3, g4⟩ := ixN_seq j3
    have hle : vs'.length ≤ sizeLine := by
      rw [s1.k _ _ m2 rfl] at j2
      cases j2
      exact m3
    have hsz : sizeLine < 2 ^ 62 := by rw [sizeLine_eq]; decide
    refine ⟨b, vs', n, jx, w, rfl, by rw [rv.int], j2, ?_, ?_, g1, j4, ?_⟩
    · simp only [Option.getD_some] at g3; omega
    · simp only [Option.getD_some] at g4; omega
    · obtain ⟨a2, vs2, n1, n2, n3, n4, n5⟩ := own_app j6 (pop_rep j2 ⟨j, _, j9, m1⟩ j8 j5) e3
      rw [k1] at n1
      cases n1
      exact ⟨a, vs2, w, rfl, rfl, n2, n3, h1' _ _ n4 (j7.trans n5)⟩
  | _ => exact h1'.elim
end
end Fp
set_option maxHeartbeats 1000000
namespace Fp
open PySem PySem.Spec PyProof.Rows L2
variable [TB]
section
variable {X : Cx} {xa : Addr → Str → Prop} {W : WX} {p : Pg} {cm : Bool} {k : Nat} {e : Expr} {c : E} {pos py : Pos} {i : Nat} {y : Str}
/-! ### loops -/
theorem cs_for {tg : Expr} {t : Tg} {it : Fp.It} {ws : List Nat} {body : List Stmt} {b : Ss} (S : Sok X xa W p true k) (hpl : plainX e = true) (hi : PI X tg e (canI X.K xa W p.G false it)) (hg : PG X tg (canG X.K xa t)) (hb : PSs X body (canSs X.K xa W p.G b)) : PS X (.For tg e body [] pos) (canS X.K xa W p.G (.for_ ws t it b)) :=
  PS.of (ps_for (S.po rfl) (S.c.calm rfl).1 hi hg hb (plain_fold hpl)) fun D σ H q => by
    obtain ⟨M0, ρ, rt, he⟩ := q
    refine ⟨M0, ρ, rt.r, (EndS.lift rt he).imp fun xs H1 s1 h1 hlen J wd => ?_⟩
    have rt1 := rt.mono s1
    have f0 : Frm (Mx M0 ρ σ) H1 ρ σ H1 := ⟨Kp.refl _ _, fun a o => .inl (.inr o)⟩
    refine for_it wd (fun i σ' H' => ∃ ρ', RelT X.K xa M0 ρ' σ' H' ∧ Step ρ σ H1 ρ' σ' H' ∧ EndS X.K xa M0 W D ρ' σ' H' (forGo t ws (fun ρ => exSs p.G b ρ) (xs.drop i) ρ')) ?_ (fun i σ' H' _ h => ?_) (fun i x σ' H' H2 hlt h y => ?_) (fun σ' H' h => ?_)
    · have st : Step ρ σ H1 (wipeE ρ ws) σ H1 := Step.same (Same.refl _) fun a => wipe_own
      exact ⟨wipeE ρ ws, rt1.forget ws, st, h1.pre st⟩
    · obtain ⟨ρ', _, st, _⟩ := h
      exact (st _ _ f0).kp
    · obtain ⟨ρ', r', st, en⟩ := h
      obtain ⟨s2, d, hd, rd⟩ := y
      rw [drop_at hlt hd] at en
      unfold forGo at en
      split at en
      · rename_i ρ1 hb1
        refine ⟨M0, ρ', d, ρ1, r'.r.mono s2, rd _ (fun a m => ?_), hb1, fun σ2 r2 _ _ o2 => ?_⟩
        · rcases m with m | m
          · exact .inl (.inl m)
          · exact (st _ _ f0).ow a m
        · have st2 : Step ρ' σ' H' ρ1 σ2 H2 := Step.same s2 o2
          refine ⟨M0, ρ1, ⟨r2, fun a o => r'.n a (o2 a o)⟩, EndS.ends (EndS.thenS (en.pre st2) fun ρ2 σ3 H3 r3 st3 e3 => ?_) rfl rfl⟩
          have st4 : Step ρ2 σ3 H3 (wipeE ρ2 ws) σ3 H3 := Step.same (Same.refl _) fun a => wipe_own
          exact ⟨wipeE ρ2 ws, r3.forget ws, ((st.trans st2).trans st3).trans st4, e3.pre st4⟩
      · exact en.elim
    · obtain ⟨ρ', r', st, en⟩ := h
      rw [List.drop_length] at en
      exact (show EndS X.K xa M0 W D ρ' σ' H' (.nx ρ') from en) σ' H' r' (Step.refl _ _ _)
theorem cs_while {t : E} {fuel : Nat} {ws : List Nat} {body : List Stmt} {b : Ss} (S : Sok X xa W p true k) (ht : PT X e (canT X.K xa W p.G t)) (hb : PSs X body (canSs X.K xa W p.G b)) : PS X (.While e body [] pos) (canS X.K xa W p.G (.whl fuel ws t b)) :=
  PS.of (ps_while (S.po rfl) ht hb) fun D σ H q => by
    obtain ⟨M0, ρ, rt, he⟩ := q
    refine ⟨fun m σ' H' => ∃ ρ', RelT X.K xa M0 ρ' σ' H' ∧ EndS X.K xa M0 W D ρ' σ' H' (whGo ws (fun ρ => ev p.G t ρ >>= asBool) (fun ρ => exSs p.G b ρ) m ρ'), ⟨fuel, wipeE ρ ws, rt.forget ws, EndS.pre he (Step.same (Same.refl _) fun a => wipe_own)⟩, fun m σ' H' h => ?_⟩
    obtain ⟨ρ', r', en⟩ := h
    cases m with
    | zero => exact en.elim
    | succ m =>
      refine ⟨M0, ρ', r'.r, (EndS.lift r' en).imp fun c H1 s1 h1 => ?_⟩
      cases c with
      | true =>
        rw [if_pos rfl]
        refine ⟨fun σ2 H2 => ∃ ρ2, RelT X.K xa M0 ρ2 σ2 H2 ∧ EndS X.K xa M0 W D ρ2 σ2 H2 (whGo ws (fun ρ => ev p.G t ρ >>= asBool) (fun ρ => exSs p.G b ρ) m ρ2), fun σ2 H2 h2 => ⟨m, Nat.lt_succ_self m, h2⟩, ?_⟩
        refine ⟨M0, ρ', r'.mono s1, EndS.ends (EndS.thenS h1 fun ρ2 σ3 H3 r3 st3 e3 => ?_) rfl rfl⟩
        exact ⟨wipeE ρ2 ws, r3.forget ws, EndS.pre e3 (Step.same (Same.refl _) fun a => wipe_own)⟩
      | false =>
        rw [if_neg Bool.false_ne_true]
        exact (show EndS X.K xa M0 W D ρ' σ' H1 (.nx ρ') from h1) σ' H1 (r'.mono s1) (Step.refl _ _ _)
/-! ### a, b = x, y -/
theorem par_rd {bs : List (Nat × Bool)} {es : Es} {l : List Expr} (hc : chkP X.N p cm X.env.scope bs es l = true) {D : Ends} {σ : L2.St} {H : Hp} (q : canS X.K xa W p.G (.par bs es) D σ H) : canP X.K xa W p.G bs es σ H fun vs H1 => vs.length = bs.length ∧ D.nx (setAll σ bs vs) H1 := by
  obtain ⟨M0, ρ, rt, he⟩ := q
  refine par_go hc rt.toN ((EndS.lift0 rt he).imp fun ds H1 s1 h1 vs ps it rn fr ss => ?_)
  obtain ⟨ρ', e1, h1⟩ := h1.ofR
  obtain ⟨q1, q2⟩ := par_set (N := []) rn (fun _ _ z => by cases z) it e1
  exact ⟨it.len, h1 _ H1 q1.toT (Step.new ss fun a o => (q2 a o).imp id fun z => fr a z)⟩
theorem cs_par2 {a b : Expr} {x : Str} {j : Nat} {ba bb : Bool} {es : Es} {px py2 pt pt2 : Pos} {kt k2 : Nat} (C : Cok X xa W p true k) (hi : X.N[i]? = some x) (hj : X.N[j]? = some y) (hij : i ≠ j) (hx : X.env.scope.names.lookup x = some .local) (hy : X.env.scope.names.lookup y = some .local)
    (hs : swB X.env.scope [.Name x px, .Name y py2] [a, b] = true) (hn : swNames X.env.scope [.Name x px, .Name y py2] = [x, y]) (hc : chkP X.N p true X.env.scope [(i, ba), (j, bb)] es [a, b] = true) :
    PS X (.Assign [.Tuple [.Name x px, .Name y py2] kt pt] (.Tuple [a, b] k2 pt2) pos) (canS X.K xa W p.G (.par [(i, ba), (j, bb)] es)) := by
  refine ⟨fun pins s σ H D I q => ?_⟩
  refine (ps_par (C.calm rfl).1 C.nd hi hj hij hx hy (okP C hc) (by rw [sw_some I.ok.kind hs, hn]) rfl).run pins s σ H D I ?_
  have h := par_rd hc q
  have cv : ∀ vs H1, (vs.length = [(i, ba), (j, bb)].length ∧ D.nx (setAll σ [(i, ba), (j, bb)] vs) H1) → ∃ v w, vs = [v, w] ∧ D.nx ((σ.set i (some v)).set j (some w)) H1 := fun vs H1 ⟨h1, h2⟩ => by
    match vs, h1, h2 with
    | [v, w], _, h2 => exact ⟨v, w, rfl, h2⟩
  have e : (fun vs H1 => vs.length = [(i, ba), (j, bb)].length ∧ D.nx (setAll σ [(i, ba), (j, bb)] vs) H1) = (fun vs H1 => ∃ v w, vs = [v, w] ∧ D.nx ((σ.set i (some v)).set j (some w)) H1) := funext fun vs => funext fun H1 => propext ⟨cv vs H1, fun ⟨v, w, e, h⟩ => by subst e; exact ⟨rfl, h⟩⟩
  rw [e] at h
  exact h
theorem cs_par3 {a b d : Expr} {x z : Str} {j l : Nat} {ba bb bd : Bool} {es : Es} {px py2 pz pt pt2 : Pos} {kt k2 : Nat} (C : Cok X xa W p true k) (hi : X.N[i]? = some x) (hj : X.N[j]? = some y) (hl : X.N[l]? = some z) (hij : i ≠ j) (hil : i ≠ l) (hjl : j ≠ l) (hx : X.env.scope.names.lookup x = some .local) (hy : X.env.scope.names.lookup y = some .local) (hz : X.env.scope.names.lookup z = some .local)
    (hs : swB X.env.scope [.Name x px, .Name y py2, .Name z pz] [a, b, d] = true) (hn : swNames X.env.scope [.Name x px, .Name y py2, .Name z pz] = [x, y, z]) (hc : chkP X.N p true X.env.scope [(i, ba), (j, bb), (l, bd)] es [a, b, d] = true) :
    PS X (.Assign [.Tuple [.Name x px, .Name y py2, .Name z pz] kt pt] (.Tuple [a, b, d] k2 pt2) pos) (canS X.K xa W p.G (.par [(i, ba), (j, bb), (l, bd)] es)) := by
  refine ⟨fun pins s σ H D I q => ?_⟩
  refine (ps_par3 (C.calm rfl).1 C.nd hi hj hl hij hil hjl hx hy hz (okP C hc) (by rw [sw_some I.ok.kind hs, hn]) rfl).run pins s σ H D I ?_
  have h := par_rd hc q
  have cv : ∀ vs H1, (vs.length = [(i, ba), (j, bb), (l, bd)].length ∧ D.nx (setAll σ [(i, ba), (j, bb), (l, bd)] vs) H1) → ∃ u v w, vs = [u, v, w] ∧ D.nx (((σ.set i (some u)).set j (some v)).set l (some w)) H1 := fun vs H1 ⟨h1, h2⟩ => by
    match vs, h1, h2 with
    | [u, v, w], _, h2 => exact ⟨u, v, w, rfl, h2⟩
  have e : (fun vs H1 => vs.length = [(i, ba), (j, bb), (l, bd)].length ∧ D.nx (setAll σ [(i, ba), (j, bb), (l, bd)] vs) H1) = (fun vs H1 => ∃ u v w, vs = [u, v, w] ∧ D.nx (((σ.set i (some u)).set j (some v)).set l (some w)) H1) := funext fun vs => funext fun H1 => propext ⟨cv vs H1, fun ⟨u, v, w, e, h⟩ => by subst e; exact ⟨rfl, h⟩⟩
  rw [e] at h
  exact h
/-- names that are stored one behind another -/
def gNs : List (Nat × Bool) → TGs
  | [] => gNil
  | (i, _) :: bs => gCons (gName i) (gNs bs)
def chkN (N : List Str) (sc : Scope) : List (Nat × Bool) → List Expr → Bool
  | [], [] => true
  | (i, _) :: bs, .Name x _ :: ts => decide (N[i]? = some x) && locB sc x && chkN N sc bs ts
  | _, _ => false
theorem chkN_ok (hN : X.N.Nodup) (hf : ∀ x, X.fn x = true) : ∀ {bs : List (Nat × Bool)} {ts : List Expr}, chkN X.N X.env.scope bs ts = true → PGs X ts (gNs bs) ∧ ts.length = bs.length ∧ (assignEach ts X.env).length = bs.length ∧ (assignEach ts X.env).findIdx? (·.1) = none
  | [], [], _ => ⟨pgs_nil, rfl, rfl, rfl⟩
  | [], _ :: _, h => by cases h
  | _ :: _, [], h => by cases h
  | (i, b) :: bs, t :: ts, h => by
    cases t <;> first | (cases h; done) | skip
    rename_i x px
    unfold chkN at h
    simp only [Bool.and_eq_true, decide_eq_true_eq] at h
    obtain ⟨⟨h1, h2⟩, h3⟩ := h
    obtain ⟨q1, q2, q3, q4⟩ := chkN_ok hN hf h3
    have e : assignEach (.Name x px :: ts) X.env = (false, assign (.Name x px) X.env) :: assignEach ts X.env := rfl
    refine ⟨pgs_cons (pg_name hN h1 (locB_ok h2) (.inl (hf x))) q1 rfl, by simp [q2], ?_, ?_⟩
    · rw [e]; simp [q3]
    · rw [e]; simp [List.findIdx?_cons, q4]
theorem gNs_set {H : Hp} {Q : L2.St → Hp → Prop} : ∀ {bs : List (Nat × Bool)} {vs : List V} {σ : L2.St}, vs.length = bs.length → Q (setAll σ bs vs) H → gNs bs vs σ H Q
  | [], [], σ, _, q => ⟨rfl, q⟩
  | [], _ :: _, σ, h, _ => by cases h
  | _ :: _, [], σ, h, _ => by cases h
  | (i, b) :: bs, v :: vs, σ, h, q => ⟨v, vs, rfl, gNs_set (by simpa using h) q⟩
theorem cs_parN {ts vs : List Expr} {bs : List (Nat × Bool)} {es : Es} {pt pt2 : Pos} {kt k2 : Nat} (C : Cok X xa W p true k) (hf : ∀ x, X.fn x = true) (hn : chkN X.N X.env.scope bs ts = true) (hs : ((swNames X.env.scope ts).length != ts.length) = true) (hl : bs.length ≤ 1000)
    (hc : chkP X.N p true X.env.scope bs es vs = true) : PS X (.Assign [.Tuple ts kt pt] (.Tuple vs k2 pt2) pos) (canS X.K xa W p.G (.par bs es)) := by
  obtain ⟨q1, q2, q3, q4⟩ := chkN_ok C.nd hf hn
  refine PS.of (ps_asg (pe_tup (okP C hc)) (pg_tup (C.calm rfl).1 q1 q3 q4) tup_ss (sw_no hs) rfl) fun D σ H q => ?_
  obtain ⟨M0, ρ, rt, he⟩ := q
  refine par_go hc rt.toN ((EndS.lift0 rt he).imp fun ds H1 s1 h1 us ps it rn fr ss => ?_)
  obtain ⟨ρ', e1, h1⟩ := h1.ofR
  obtain ⟨z1, z2⟩ := par_set (N := []) rn (fun _ _ z => by cases z) it e1
  have hsz : 1000 ≤ sizeLine := by decide
  refine ⟨by rw [it.len]; omega, fun t ht => ⟨t, us, rfl, .inl (.inl upd_same), it.len, gNs_set it.len ?_⟩⟩
  have s2 : Same H1 (upd H1 t (.tup us)) := same_new ht
  exact h1 _ _ (z1.toT.mono s2) (Step.new (ss.trans s2) fun a o => (z2 a o).imp id fun z => fr a z)
/-! ### raise, try -/
theorem cs_raise {x m : Str} {j : Nat} {p1 p2 p3 : Pos} (C : Cok X xa W p true k) (hm : x ∈ p.xs) (hg : glB X.env.scope x = true) (hd : dbB x = true) : PS X (.Raise (some (.Call (.Name x p1) [.Constant (.str m) j p2] [] p3)) none pos) (canS X.K xa W p.G (.rai x)) := by
  have hdb : (x == ("__debug__" : Str)) = false := by
    unfold dbB at hd
    simpa using hd
  have T := C.xok x hm
  obtain ⟨t1, t2, t3, t4⟩ := He.exc_ok T.exc
  refine PS.of (ps_raise (C.calm rfl).1 C.tk (pmk_own PySem.F.excBase_ValueError t1 T.at_ t2 (raises_own t3 t4) (gl_ok hg) hdb)) fun D σ H q => ?_
  obtain ⟨M0, ρ, rt, he⟩ := q
  exact he σ H rt (Step.refl _ _ _)
def xaS (K : PySem.W.Frag) (xs : List Str) (a : Addr) (cls : Value) (d : Option Addr) : Addr → Str → Prop := fun a' c' => a' = a ∧ cls = clsV K c' ∧ c' ∈ xs ∧ d = none
theorem Sok.tr (S : Sok X xa W p true k) {W' : WX} {pn : List (Addr × Obj)} {xe : Value → Shared → Prop} (tk : Takes (X.tr pn xe) W') (po : PassesOwn (model X.prog X.w) X.A X.env xe) : Sok (X.tr pn xe) xa W' p true k :=
  ⟨⟨S.c.calm, S.c.nd, tk, S.c.units, S.c.room, S.c.fns, S.c.blt, S.c.cst, fun a c h => absurd h ((S.c.calm rfl).2 a c), S.c.xok, S.c.tps, S.c.vok, S.c.told, S.c.lam⟩, fun _ => po, S.st, S.fn⟩
theorem mark_units {A : Around} {v : Option Value} : (A.mark v).units = A.units := rfl
theorem Sok.suite (S : Sok X xa W p true k) {a : Addr} {oe : Obj} {cls : Value} {d : Option Addr} {pn : List (Addr × Obj)} (hz : Zc cls d oe) (hf : ∃ vs, oe.data = .fields vs) : Sok (X.suite a ((a, oe) :: pn)) (xaS X.K p.xs a cls d) noW p false k :=
  ⟨⟨fun z => (by cases z), S.c.nd, fun u s' h => by
    obtain ⟨_, _, _, _, _, _, _, _, _, _, _, _, _, _, _, _, z⟩ := h
    exact z, S.c.units, fun z => (by cases z), S.c.fns, S.c.blt, S.c.cst, fun a' c' h => by
    obtain ⟨rfl, rfl, h3, rfl⟩ := h
    exact ⟨h3, call_isE (S.c.xok c' h3).is_ hz hf⟩, S.c.xok, S.c.tps, S.c.vok, S.c.told, fun z => (by cases z)⟩, fun z => (by cases z), fun z => (by cases z), S.fn⟩
theorem noEx_get {ρ : Slots} {j : Nat} {s : Slot} (h : (noEx ρ)[j]? = some s) : s = .no ∨ (ρ[j]? = some s ∧ ∀ c, s ≠ .ex c) := by
  unfold noEx at h
  rw [List.getElem?_map] at h
  cases hq : ρ[j]? with
  | none => rw [hq] at h; cases h
  | some t =>
    rw [hq] at h
    cases t with
    | no => exact .inl (Option.some.inj h).symm
    | fz d => exact .inr ⟨h, fun c z => by cases h; cases z⟩
    | ow d => exact .inr ⟨h, fun c z => by cases h; cases z⟩
    | ex c => exact .inl (Option.some.inj h).symm
theorem cs_try {x n : Str} {np pos' : Pos} {xs : List Str} {body suite : List Stmt} {b₀ : Stmt} {b h : Ss} (S : Sok X xa W p true k) (hxs : ∀ c ∈ xs, c ∈ p.xs) (hx : x ∈ p.xs) (hg : glB X.env.scope x = true) (hd : dbB x = true) (hi : X.N[i]? = some n) (hln : X.env.scope.names.lookup n = some .local)
    (hb : ∀ (W' : WX) (pn : List (Addr × Obj)) (xe : Value → Shared → Prop), Sok (X.tr pn xe) xa W' p true k → PSs (X.tr pn xe) body (canSs X.K xa W' p.G b))
    (hh : ∀ (a : Addr) (oe : Obj) (cls : Value) (d : Option Addr) (pn : List (Addr × Obj)), Sok (X.suite a ((a, oe) :: pn)) (xaS X.K p.xs a cls d) noW p false k → PSs (X.suite a ((a, oe) :: pn)) (b₀ :: suite) (canSs X.K (xaS X.K p.xs a cls d) noW p.G h)) :
    PS X (.Try body [.ExceptHandler (some (.Name x np)) (some n) (b₀ :: suite) pos'] [] [] pos) (canS X.K xa W p.G (.tre xs b x i h)) := by
  have hdb : (x == ("__debug__" : Str)) = false := by
    unfold dbB at hd
    simpa using hd
  have T := S.c.xok x hx
  refine PS.of (ps_try_as (ts := fun a cls d => canSs X.K (xaS X.K p.xs a cls d) noW p.G h) (S.st rfl).1 (S.st rfl).2 S.c.nd hi hln (c := .ref (He.ga X.K x)) ⟨gl_ok hg, hdb, .inl T.at_⟩ S.c.tk (fun W' pn xe tk po => hb W' pn xe (S.tr tk po)) (fun a oe cls d pn hz hf => hh a oe cls d pn (S.suite hz hf))) fun D σ H q => ?_
  obtain ⟨M0, ρ, rt, he⟩ := q
  refine ⟨M0, ρ, rt, ?_⟩
  have he : EndS X.K xa M0 W D ρ σ H (treGo xs x i (fun ρ => exSs p.G h ρ) (exSs p.G b ρ)) := he
  cases hr : exSs p.G b ρ with
  | nx ρ' => rw [hr] at he; exact he
  | rt d => rw [hr] at he; exact he
  | bad => rw [hr] at he; exact he
  | ex c' ρ' =>
    rw [hr] at he
    intro σ' H' r' st'
    have he : EndS X.K xa M0 W D ρ σ H (if c' ∈ xs then (if subX c' x then (match exSs p.G h (ρ'.set i (.ex c')) with
      | .nx ρ' => .nx (noEx (ρ'.set i .no))
      | .rt d => .rt d
      | _ => .bad) else .ex c' ρ') else .bad) := he
    split at he
    · rename_i hm
      refine ⟨subX c' x, T.exm c' (hxs c' hm), fun hs a ha => ?_, fun hs => ?_⟩
      · rw [if_pos hs] at he
        have hl := r'.r.len
        have oo : ∀ b, OwnA (ρ'.set i (.ex c')) (σ'.set i (some (.ref a))) b → OwnA ρ' σ' b := fun b o => own_set (fun d z => by cases z) o
        have off : ∀ b, Mx M0 (ρ'.set i (.ex c')) (σ'.set i (some (.ref a))) b → Mx M0 ρ' σ' b ∨ H' b = none := fun b m => .inl (mx_set (fun d z => by cases z) m)
        have r2 : RelT X.K (xaS X.K p.xs a (clsV X.K c') none) M0 (ρ'.set i (.ex c')) (σ'.set i (some (.ref a))) H' := by
          refine ⟨⟨by simp [hl], r'.r.m0, fun j e q => ?_, fun j e q => ?_, fun j c q => ?_, fun j l e e' b q1 q2 q3 q4 => ?_⟩, fun b o => r'.n b (oo b o)⟩
          · by_cases hj : i = j
            · subst hj
              by_cases hlt : i < ρ'.length
              · rw [List.getElem?_set_self hlt] at q; cases q
              · rw [List.getElem?_eq_none (by simpa using hlt)] at q; cases q
            · rw [List.getElem?_set_ne hj] at q ⊢
              obtain ⟨u, h1, h2⟩ := r'.r.fz j e q
              exact ⟨u, h1, h2.off off⟩
          · by_cases hj : i = j
            · subst hj
              by_cases hlt : i < ρ'.length
              · rw [List.getElem?_set_self hlt] at q; cases q
              · rw [List.getElem?_eq_none (by simpa using hlt)] at q; cases q
            · rw [List.getElem?_set_ne hj] at q
              obtain ⟨b, h1, h2⟩ := r'.r.ow j e q
              have h1' : (σ'.set i (some (V.ref a)))[j]? = some (some (.ref b)) := by rw [List.getElem?_set_ne hj]; exact h1
              exact ⟨b, h1', own_off off h2⟩
          · by_cases hj : i = j
            · subst hj
              by_cases hlt : i < ρ'.length
              · rw [List.getElem?_set_self hlt] at q
                cases q
                exact ⟨a, List.getElem?_set_self (by omega), rfl, rfl, hxs c' hm, rfl⟩
              · rw [List.getElem?_eq_none (by simpa using hlt)] at q; cases q
            · rw [List.getElem?_set_ne hj] at q
              obtain ⟨b, _, h2⟩ := r'.r.ex j c q
              exact absurd h2 ((S.c.calm rfl).2 b c)
          · have g : ∀ {m : Nat} {z : Fp.D}, (ρ'.set i (.ex c'))[m]? = some (.ow z) → i ≠ m ∧ ρ'[m]? = some (.ow z) := fun {m z} w => by
              by_cases hj : i = m
              · subst hj
                by_cases hlt : i < ρ'.length
                · rw [List.getElem?_set_self hlt] at w; cases w
                · rw [List.getElem?_eq_none (by simpa using hlt)] at w; cases w
              · rw [List.getElem?_set_ne hj] at w; exact ⟨hj, w⟩
            obtain ⟨n1, z1⟩ := g q1
            obtain ⟨n2, z2⟩ := g q2
            rw [List.getElem?_set_ne n1] at q3
            rw [List.getElem?_set_ne n2] at q4
            exact r'.r.dj j l e e' b z1 z2 q3 q4
        have st2 : Step ρ' σ' H' (ρ'.set i (.ex c')) (σ'.set i (some (.ref a))) H' := Step.same (Same.refl _) oo
        refine ⟨M0, _, r2, ?_⟩
        cases hr2 : exSs p.G h (ρ'.set i (.ex c')) with
        | nx ρ2 =>
          rw [hr2] at he
          intro σ3 H3 r3 st3
          have he : ∀ σ' H', RelT X.K xa M0 (noEx (ρ2.set i .no)) σ' H' → Step ρ σ H (noEx (ρ2.set i .no)) σ' H' → D.nx σ' H' := he
          have key : ∀ (j : Nat) s, (noEx (ρ2.set i .no))[j]? = some s → s = .no ∨ (ρ2[j]? = some s ∧ (σ3.set i none)[j]? = σ3[j]? ∧ ∀ c, s ≠ .ex c) := fun j s w => by
            rcases noEx_get w with z | ⟨z, zx⟩
            · exact .inl z
            · by_cases hj : i = j
              · subst hj
                by_cases hlt : i < ρ2.length
                · rw [List.getElem?_set_self hlt] at z; cases z; exact .inl rfl
                · rw [List.getElem?_eq_none (by simpa using hlt)] at z; cases z
              · rw [List.getElem?_set_ne hj] at z
                exact .inr ⟨z, List.getElem?_set_ne hj, zx⟩
          have dr := r3.r.drop (ρ' := noEx (ρ2.set i .no)) (σ' := σ3.set i none) (by unfold noEx; simp [r3.r.len]) fun j s w => (key j s w).imp id fun z => ⟨z.1, z.2.1⟩
          have o3 : ∀ b, OwnA (noEx (ρ2.set i .no)) (σ3.set i none) b → OwnA ρ2 σ3 b := fun b ⟨j, d, w1, w2⟩ => by
            rcases key j _ w1 with z | ⟨z, ze, _⟩
            · cases z
            · exact ⟨j, d, z, by rw [← ze]; exact w2⟩
          refine he _ H3 ⟨⟨dr.len, dr.m0, dr.fz, dr.ow, fun j c w => ?_, dr.dj⟩, fun b o => r3.n b (o3 b o)⟩ (((st'.trans st2).trans st3).trans (Step.same (Same.refl _) o3))
          rcases key j _ w with z | ⟨_, _, zx⟩
          · cases z
          · exact absurd rfl (zx c)
        | rt d =>
          rw [hr2] at he
          intro v H3 r3 st3
          exact (show ∀ v H', Rep X.K M0 H' v d → (∀ M1 H1, Frm M1 H1 ρ σ H → Kp M1 H1 H') → D.rt v H' from he) v H3 r3 fun M1 H1 f => st3 M1 H1 (st2 M1 H1 (st' M1 H1 f))
        | ex c2 ρ2 => rw [hr2] at he; exact he.elim
        | bad => rw [hr2] at he; exact he.elim
      · rw [if_neg (by rw [hs]; exact Bool.false_ne_true)] at he
        exact he σ' H' r' st'
    · exact he.elim
end
end Fp
set_option maxHeartbeats 1000000
namespace Fp
open PySem PySem.Spec PyProof.Rows L2
variable [TB]
/-! ### for r, f in ((a, b), (c, d)): for s in r: f.extend(s) -/
section
variable {K : PySem.W.Frag} {xa : Addr → Str → Prop} {M0 : Addr → Prop} {ρ : Slots} {σ σ' : L2.St} {H : Hp}
/-- slots of which nothing is known may hold anything -/
theorem RelT.loose (r : RelT K xa M0 ρ σ H) (hl : σ'.length = σ.length) (h : ∀ j : Nat, ρ[j]? = some Slot.no ∨ σ'[j]? = σ[j]?) : RelT K xa M0 ρ σ' H := by
  have at_ : ∀ {j : Nat} {s : Slot}, ρ[j]? = some s → s ≠ .no → σ'[j]? = σ[j]? := fun {j s} hj hn => by
    rcases h j with q | q
    · rw [hj] at q; exact absurd (Option.some.inj q) hn
    · exact q
  have oo : ∀ a, OwnA ρ σ' a ↔ OwnA ρ σ a := fun a => by
    constructor
    · rintro ⟨j, d, h1, h2⟩
      exact ⟨j, d, h1, by rw [← at_ h1 (by simp)]; exact h2⟩
    · rintro ⟨j, d, h1, h2⟩
      exact ⟨j, d, h1, by rw [at_ h1 (by simp)]; exact h2⟩
  have off : ∀ a, Mx M0 ρ σ' a → Mx M0 ρ σ a ∨ H a = none := fun a m => .inl (m.imp id fun q => (oo a).mp q)
  refine ⟨⟨by rw [hl]; exact r.r.len, r.r.m0, fun j d hj => ?_, fun j d hj => ?_, fun j c hj => ?_, fun i j d e a h1 h2 h3 h4 => ?_⟩, fun a o => r.n a ((oo a).mp o)⟩
  · obtain ⟨v, h1, h2⟩ := r.r.fz j d hj
    exact ⟨v, by rw [at_ hj (by simp)]; exact h1, h2.off off⟩
  · obtain ⟨a, h1, h2⟩ := r.r.ow j d hj
    exact ⟨a, by rw [at_ hj (by simp)]; exact h1, own_off off h2⟩
  · obtain ⟨a, h1, h2⟩ := r.r.ex j c hj
    exact ⟨a, by rw [at_ hj (by simp)]; exact h1, h2⟩
  · rw [at_ h1 (by simp)] at h3
    rw [at_ h2 (by simp)] at h4
    exact r.r.dj i j d e a h1 h2 h3 h4
end
section
variable {X : Cx} {xa : Addr → Str → Prop} {W : WX} {p : Pg} {cm : Bool} {k : Nat} {pos : Pos}
/-- the rows, as values -/
theorem flat_ext {K : PySem.W.Frag} {M : Addr → Prop} {H : Hp} : ∀ {rs zs : List D}, flatR rs = some zs → ∀ {vs : List V}, RepL K M H vs rs → ∀ (i : Nat), i < vs.length → ∃ (zd : List D) (d : D) (v : V) (ys : List D), vs[i]? = some v ∧ rs[i]? = some d ∧ Rep K M H v d ∧ seqD d = .ok ys ∧ flatR (rs.take i) = some zd ∧ flatR (rs.take (i + 1)) = some (zd ++ ys)
  | [], zs, e, vs, r, i, hi => by
    cases r
    simp at hi
  | d :: rs, zs, e, vs, r, i, hi => by
    cases r with
    | cons h r =>
      have e' : ∃ ys us, seqD d = .ok ys ∧ flatR rs = some us ∧ ∀ l, flatR (d :: l) = (flatR l).map (ys ++ ·) := by
        cases d with
        | list ys =>
          have e : (flatR rs).map (ys ++ ·) = some zs := e
          rw [Option.map_eq_some_iff] at e
          obtain ⟨us, e, _⟩ := e
          exact ⟨ys, us, rfl, e, fun l => rfl⟩
        | tuple ys =>
          have e : (flatR rs).map (ys ++ ·) = some zs := e
          rw [Option.map_eq_some_iff] at e
          obtain ⟨us, e, _⟩ := e
          exact ⟨ys, us, rfl, e, fun l => rfl⟩
        | _ => cases e
      obtain ⟨ys, us, e1, e2, e3⟩ := e'
      cases i with
      | zero => exact ⟨[], d, _, ys, rfl, rfl, h, e1, rfl, by rw [List.take_succ_cons, e3]; simp [flatR]⟩
      | succ i =>
        obtain ⟨zd, d', v', ys', g1, g2, g3, g4, g5, g6⟩ := flat_ext e2 r i (by simpa using hi)
        exact ⟨ys ++ zd, d', v', ys', by simpa using g1, by simpa using g2, g3, g4, by rw [List.take_succ_cons, e3, g5]; rfl, by rw [List.take_succ_cons, e3, g6]; simp⟩
theorem flatR_len {rs zs : List D} (h : flatR rs = some zs) : ∀ {i : Nat} {zd : List D}, flatR (rs.take i) = some zd → zd.length ≤ zs.length := by
  induction rs generalizing zs with
  | nil =>
    intro i zd e
    cases h
    simp [flatR] at e
    simp [e]
  | cons d rs ih =>
    intro i zd e
    cases i with
    | zero =>
      simp [flatR] at e
      simp [e]
    | succ i =>
      rw [List.take_succ_cons] at e
      have go : ∀ ys : List D, (flatR rs).map (ys ++ ·) = some zs → (flatR (rs.take i)).map (ys ++ ·) = some zd → zd.length ≤ zs.length := fun ys h1 e1 => by
        rw [Option.map_eq_some_iff] at h1 e1
        obtain ⟨us, h2, e2⟩ := h1
        obtain ⟨ws, h3, e3⟩ := e1
        have := ih h2 h3
        rw [← e2, ← e3]
        simp
        omega
      cases d with
      | list ys => exact go ys h e
      | tuple ys => exact go ys h e
      | _ => cases h
/-- the inner loop -/
def tAliIn (K : PySem.W.Frag) (r f s : Nat) : TS := fun D σ H => ∃ (M : Addr → Prop) (v : V) (rs zs : List Fp.D) (ab : Addr) (vb : List V), σ[r]? = some (some v) ∧ Rep K M H v (.tuple rs) ∧ flatR rs = some zs ∧ σ[f]? = some (some (.ref ab)) ∧ H ab = some (.lst vb) ∧ M ab ∧ vb.length + zs.length ≤ sizeLine ∧ r ≠ s ∧ f ≠ s ∧ s < σ.length ∧
  ∀ σ' vz, σ'.length = σ.length → (∀ j, j ≠ s → σ'[j]? = σ[j]?) → RepL K M H vz zs → D.nx σ' (upd H ab (.lst (vb ++ vz)))
theorem upd_upd {H : Hp} {a : Addr} {x y : HO} : upd (upd H a x) a y = upd H a y := by
  funext b
  by_cases e : b = a
  · subst e; rw [upd_same, upd_same]
  · rw [upd_ne e, upd_ne e, upd_ne e]
theorem upd_eq {H : Hp} {a : Addr} {x : HO} (h : H a = some x) : upd H a x = H := by
  funext b
  by_cases e : b = a
  · subst e; rw [upd_same, h]
  · rw [upd_ne e]
theorem kp_own {M : Addr → Prop} {H : Hp} {a : Addr} {vs ws : List V} (h : H a = some (.lst vs)) (m : M a) : Kp M H (upd H a (.lst ws)) := kp_upd m h rfl
theorem ps_aliIn {r f s : Nat} {xr xf xs xs2 : Str} {p0 p1 p2 p3 p4 p5 q : Pos} (S : Sok X xa W p true k) (hl : p1.endLine = q.line) (hr : nmB X.N X.env.scope r xr = true) (hf : nmB X.N X.env.scope f xf = true) (hs : nmB X.N X.env.scope s xs2 = true) (hs1 : X.N[s]? = some xs) (hs2 : Loc X.env.scope xs) :
    PS X (.For (.Name xs p0) (.Name xr p2) [.Expr (.Call (.Attribute (.Name xf p3) "extend" p1) [.Name xs2 p4] [] q) p5] [] pos) (tAliIn X.K r f s) := by
  obtain ⟨r1, r2, r3, r4⟩ := nm_ok hr
  obtain ⟨f1, f2, f3, f4⟩ := nm_ok hf
  obtain ⟨s1, s2, s3, s4⟩ := nm_ok hs
  have hA : PA X [.Name xs2 p4] (tCons (tVar s) tNil) := pa_cons (pe_var s1 s2 s3 s4) pa_nil rfl
  have hline : (p1.endLine == q.line) = true := by rw [hl]; exact beq_self_eq_true _
  have hfew : ((backTo q (starEach [.Name xs2 p4] X.env)).all (fun x => !x.1) && (backToKw q (keywordEach [] X.env)).all (fun x => x.1.isSome)
      && decide (([.Name xs2 p4] : List Expr).length + ([] : List Keyword).length + (if ([] : List Keyword).isEmpty then 0 else 1) < 30)) = true := by
    rw [star_all (by rfl)]
    rfl
  have hB := ps_expr (pos := p5) (pe_bm PySem.F.plainAttrs_list PySem.F.slot_list_extend PySem.F.type_list_extend mt_ext (pe_var (pos := p3) f1 f2 f3 f4) hA rfl hfew hline rfl rfl) rfl
  refine PS.of (ps_for (S.po rfl) (S.c.calm rfl).1 (pi_seq (pe_var (pos := p2) r1 r2 r3 r4)) (pg_name (pos := p0) S.c.nd hs1 hs2 (.inl (S.fn xs))) (pss_one hB) (by intro _; rfl)) fun D σ H qq => ?_
  obtain ⟨M, v, rs, zs, ab, vb, g1, g2, g3, g4, g5, g6, g7, n1, n2, n3, nx⟩ := qq
  refine ⟨v, g1, ?_⟩
  obtain ⟨a, vs, rfl, hq, hz, hl⟩ := RepB.tupleP (b := false) g2
  refine .inr (.inl ⟨a, vs, rfl, hq.t, ?_⟩)
  have hlen := hl.length
  have sq : ∀ {H' : Hp}, Kp M H H' → SqP X.K H' a vs := fun {H'} kp => by
    rcases hq with ⟨o, h, q⟩ | h
    · exact .inl ⟨o, kp.f _ _ _ h, q⟩
    · exact .inr h
  refine for_it (walk_tup (K := X.K) (a := a) (xs := vs)) (fun i σ' H' => σ'.length = σ.length ∧ (∀ j, j ≠ s → σ'[j]? = σ[j]?) ∧ ∃ zd vz, flatR (rs.take i) = some zd ∧ RepL X.K M H vz zd ∧ H' = upd H ab (.lst (vb ++ vz))) ?_ (fun i σ' H' _ h => ?_) (fun i x σ' H' H2 hlt h y => ?_) (fun σ' H' h => ?_)
  · exact ⟨rfl, fun _ _ => rfl, [], [], by simp [flatR], .nil, by rw [List.append_nil, upd_eq g5]⟩
  · obtain ⟨_, _, zd, vz, _, _, rfl⟩ := h
    exact (sq (kp_own g5 g6)).t
  · obtain ⟨l1, l2, zd, vz, e1, e2, rfl⟩ := h
    obtain ⟨rfl, hx⟩ := y
    obtain ⟨zd', d, v', ys, k1, k2, k3, k4, k5, k6⟩ := flat_ext g3 hl i hlt
    rw [hx] at k1
    cases k1
    rw [e1] at k5
    cases k5
    have kp : Kp M H (upd H ab (.lst (vb ++ vz))) := kp_own g5 g6
    have hzl := flatR_len g3 k6
    have hvz := e2.length
    rw [List.length_append] at hzl
    have sl : s < σ'.length := by rw [l1]; exact n3
    refine ⟨.ref ab, ?_, .inl ⟨rfl, vb ++ vz, .inl (.inl upd_same)⟩, x, ?_, ?_⟩
    · rw [List.getElem?_set_ne (Ne.symm n2), l2 f n2]
      exact g4
    · exact List.getElem?_set_self sl
    · have fin : ∀ us, RepL X.K M H us ys → (σ'.set s (some x)).length = σ.length ∧ (∀ j, j ≠ s → (σ'.set s (some x))[j]? = σ[j]?) ∧ ∃ zd vz', flatR (rs.take (i + 1)) = some zd ∧ RepL X.K M H vz' zd ∧ upd (upd H ab (.lst (vb ++ vz))) ab (.lst ((vb ++ vz) ++ us)) = upd H ab (.lst (vb ++ vz')) := fun us hus =>
        ⟨by simp [l1], fun j hj => by rw [List.getElem?_set_ne (Ne.symm hj)]; exact l2 j hj, zd ++ ys, vz ++ us, k6, e2.append hus, by rw [upd_upd, List.append_assoc]⟩
      cases k3 with
      | lst h n z r' =>
        cases k4
        rename_i b us
        have hr2 : Rd (upd H ab (.lst (vb ++ vz))) b (.lst us) := by
          rcases h with h | ⟨o, h⟩
          · exact .inl (kp.k _ _ h rfl n)
          · exact .inr ⟨o, kp.f _ _ _ h⟩
        have hul := r'.length
        exact .inl ⟨ab, b, vb ++ vz, us, rfl, rfl, upd_same, hr2, by rw [List.length_append]; omega, fin us r'⟩
      | tup h z r' =>
        cases k4
        rename_i b us
        have hr2 : SqP X.K (upd H ab (.lst (vb ++ vz))) b us := by
          rcases h with ⟨o, h, q⟩ | h
          · exact .inl ⟨o, kp.f _ _ _ h, q⟩
          · exact .inr h
        have hul := r'.length
        exact .inr ⟨ab, b, vb ++ vz, us, rfl, rfl, upd_same, hr2, by rw [List.length_append]; omega, fin us r'⟩
      | _ => cases k4
  · obtain ⟨l1, l2, zd, vz, e1, e2, rfl⟩ := h
    rw [hlen, List.take_length, g3] at e1
    cases e1
    exact nx σ' vz l1 l2 e2
theorem rowsD_ok {x : D} {us : List D} (h : rowsD x = .ok us) : ∃ rs, x = .tuple rs ∧ flatR rs = some us := by
  cases x with
  | tuple rs => exact ⟨rs, rfl, must_ok h⟩
  | _ => cases h
theorem slotD_fz {ρ : Slots} {i : Nat} {d : D} (h : slotD ρ i = .ok d) : ρ[i]? = some (.fz d) := by
  unfold slotD at h
  split at h
  · cases h; assumption
  · cases h
theorem cs_ali {a b c d r f s : Nat} {xa' xb xc xd xr xf xs xr2 xf2 xs2 : Str} {q1 q2 q3 q4 q5 q6 q7 q8 q9 q10 p0 p1 p2 p3 p4 p5 q pos2 : Pos} {k1 k2 k3 k4 : Nat} (S : Sok X xa W p true k) (hl : p1.endLine = q.line)
    (ha : nmB X.N X.env.scope a xa' = true) (hb : nmB X.N X.env.scope b xb = true) (hc : nmB X.N X.env.scope c xc = true) (hd : nmB X.N X.env.scope d xd = true) (hr : nmB X.N X.env.scope r xr2 = true) (hf : nmB X.N X.env.scope f xf2 = true) (hs : nmB X.N X.env.scope s xs2 = true)
    (hr1 : X.N[r]? = some xr) (hr2 : Loc X.env.scope xr) (hf1 : X.N[f]? = some xf) (hf2 : Loc X.env.scope xf) (hs1 : X.N[s]? = some xs) (hs2 : Loc X.env.scope xs) :
    PS X (.For (.Tuple [.Name xr q1, .Name xf q2] k1 q3) (.Tuple [.Tuple [.Name xa' q4, .Name xb q5] k2 q6, .Tuple [.Name xc q7, .Name xd q8] k3 q9] k4 q10) [.For (.Name xs p0) (.Name xr2 p2) [.Expr (.Call (.Attribute (.Name xf2 p3) "extend" p1) [.Name xs2 p4] [] q) p5] [] pos2] [] pos) (canS X.K xa W p.G (.ali a b c d r f s)) := by
  obtain ⟨a1, a2, a3, a4⟩ := nm_ok ha
  obtain ⟨b1, b2, b3, b4⟩ := nm_ok hb
  obtain ⟨c1, c2, c3, c4⟩ := nm_ok hc
  obtain ⟨d1, d2, d3, d4⟩ := nm_ok hd
  have pT := pe_tup (pos := q10) (x1 := k4) (pa_cons (pe_tup (pos := q6) (x1 := k2) (pa_cons (pe_var (pos := q4) a1 a2 a3 a4) (pa_cons (pe_var (pos := q5) b1 b2 b3 b4) pa_nil rfl) rfl)) (pa_cons (pe_tup (pos := q9) (x1 := k3) (pa_cons (pe_var (pos := q7) c1 c2 c3 c4) (pa_cons (pe_var (pos := q8) d1 d2 d3 d4) pa_nil rfl) rfl)) pa_nil rfl) rfl)
  have gT := pg_tup (pos := q3) (k := k1) (n := 2) (S.c.calm rfl).1 (pgs_cons (pg_name (pos := q1) S.c.nd hr1 hr2 (.inl (S.fn xr))) (pgs_cons (pg_name (pos := q2) S.c.nd hf1 hf2 (.inl (S.fn xf))) pgs_nil rfl) rfl) rfl rfl
  refine PS.of (ps_for (S.po rfl) (S.c.calm rfl).1 (pi_seq pT) gT (pss_one (ps_aliIn (pos := pos2) (p0 := p0) (p2 := p2) (p3 := p3) (p4 := p4) (p5 := p5) S hl hr hf hs hs1 hs2)) (by intro _; rfl)) fun D σ H qq => ?_
  obtain ⟨M0, ρ, rt, he⟩ := qq
  obtain ⟨ρ', e, hnx⟩ := EndS.ofR he
  clear he
  unfold aliD at e
  obtain ⟨x, ex, e⟩ := bind_some e
  obtain ⟨xs', exs, e⟩ := bind_some e
  obtain ⟨y, ey, e⟩ := bind_some e
  obtain ⟨ys', eys, e⟩ := bind_some e
  obtain ⟨us, eus, e⟩ := bind_some e
  obtain ⟨vs, evs, e⟩ := bind_some e
  split at e
  · rename_i cnd
    cases e
    obtain ⟨nbd, nrf, nrs, nfs, nj, lr, lf, ls, z1, z2⟩ := cnd
    obtain ⟨rs, rfl, fl1⟩ := rowsD_ok eus
    obtain ⟨rs2, rfl, fl2⟩ := rowsD_ok evs
    obtain ⟨va, ha1, ha2⟩ := rt.r.fz a _ (slotD_fz ex)
    obtain ⟨vc, hc1, hc2⟩ := rt.r.fz c _ (slotD_fz ey)
    obtain ⟨ab, vb, hb1, hb2, hb3, hb4, hb5⟩ := rt.own exs
    obtain ⟨ad, vd, hd1, hd2, hd3, hd4, hd5⟩ := rt.own eys
    have nad : ab ≠ ad := fun z => by
      subst z
      exact nbd (rt.r.dj b d _ _ ab (slotL_ok exs) (slotL_ok eys) hb1 hd1)
    have hsz : 2 ≤ sizeLine := by decide
    have hlσ := rt.r.len
    obtain ⟨na1, na2, na3⟩ := nj a (by simp)
    obtain ⟨nb1, nb2, nb3⟩ := nj b (by simp)
    obtain ⟨nc1, nc2, nc3⟩ := nj c (by simp)
    obtain ⟨nd1, nd2, nd3⟩ := nj d (by simp)
    refine ⟨va, ha1, .ref ab, hb1, hsz, fun t1 ht1 => ⟨vc, hc1, .ref ad, hd1, hsz, fun t2 ht2 => ⟨hsz, fun t0 ht0 => ?_⟩⟩⟩
    have s1 : Same H (upd H t1 (.tup [va, .ref ab])) := same_new ht1
    have s2 : Same (upd H t1 (.tup [va, .ref ab])) (upd (upd H t1 (.tup [va, .ref ab])) t2 (.tup [vc, .ref ad])) := same_new ht2
    have s3 := s1.trans (s2.trans (same_new (o := .tup [.ref t1, .ref t2]) ht0))
    generalize hH1 : upd (upd (upd H t1 (.tup [va, .ref ab])) t2 (.tup [vc, .ref ad])) t0 (.tup [.ref t1, .ref t2]) = H1 at s3
    have g0 : H1 t0 = some (.tup [.ref t1, .ref t2]) := by rw [← hH1, upd_same]
    have g2 : H1 t2 = some (.tup [vc, .ref ad]) := by
      rw [← hH1]
      exact (same_new ht0).k _ _ upd_same rfl
    have g1 : H1 t1 = some (.tup [va, .ref ab]) := by
      rw [← hH1]
      exact (same_new ht0).k _ _ (s2.k _ _ upd_same rfl) rfl
    have gb := s3.k _ _ hb2 rfl
    have gd := s3.k _ _ hd2 rfl
    have rt1 := rt.mono s3
    have mb : Mx M0 ρ σ ab := .inr hb5
    have md : Mx M0 ρ σ ad := .inr hd5
    have kb : ∀ {ws : List V}, Kp (Mx M0 ρ σ) H1 (upd H1 ab (.lst ws)) := fun {ws} => kp_own gb mb
    have tp : ∀ {H' : Hp} {t : Addr} {l : List V}, Kp (Mx M0 ρ σ) H1 H' → H1 t = some (.tup l) → SqT X.K H' t l := fun {H' t l} kp h => .inl (.inl (kp.t _ _ h))
    have gd' : ∀ {ws : List V}, upd H1 ab (.lst ws) ad = some (.lst vd) := fun {ws} => by rw [upd_ne (Ne.symm nad)]; exact gd
    have kd : ∀ {ws us' : List V}, Kp (Mx M0 ρ σ) H1 (upd (upd H1 ab (.lst ws)) ad (.lst us')) := fun {ws us'} => by
      have k2 : Kp (Mx M0 ρ σ) (upd H1 ab (.lst ws)) (upd (upd H1 ab (.lst ws)) ad (.lst us')) := kp_own gd' md
      exact ⟨fun b' o h z n => k2.k _ _ (kb.k _ _ h z n) z n, fun b' o h => k2.t _ _ (kb.t _ _ h), fun b' o u h => k2.f _ _ _ (kb.f _ _ _ h), fun q => kb.free (k2.free q), fun q => k2.tb (kb.tb q)⟩
    refine .inr (.inl ⟨t0, [.ref t1, .ref t2], rfl, .inl (.inl g0), ?_⟩)
    refine for_it (walk_tup (K := X.K) (a := t0) (xs := [.ref t1, .ref t2])) (fun i σ' H' => σ'.length = σ.length ∧ (∀ j : Nat, j ≠ r → j ≠ f → j ≠ s → σ'[j]? = σ[j]?) ∧
      match i with
      | 0 => H' = H1
      | 1 => ∃ vz, RepL X.K (Mx M0 ρ σ) H1 vz us ∧ H' = upd H1 ab (.lst (vb ++ vz))
      | _ => ∃ vz vy, RepL X.K (Mx M0 ρ σ) H1 vz us ∧ RepL X.K (Mx M0 ρ σ) (upd H1 ab (.lst (vb ++ vz))) vy vs ∧ H' = upd (upd H1 ab (.lst (vb ++ vz))) ad (.lst (vd ++ vy))) ⟨rfl, fun _ _ _ _ => rfl, rfl⟩ (fun i σ' H' hi h => ?_) (fun i x σ' H' H2 hlt h y => ?_) (fun σ' H' h => ?_)
    · obtain ⟨_, _, h⟩ := h
      match i, hi, h with
      | 0, _, h => rw [h]; exact tp (Kp.refl _ _) g0
      | 1, _, ⟨vz, _, h⟩ => rw [h]; exact tp kb g0
      | 2, _, ⟨vz, vy, _, _, h⟩ => rw [h]; exact tp kd g0
    · obtain ⟨l1, l2, h⟩ := h
      obtain ⟨rfl, hx⟩ := y
      match i, hlt, h, hx with
      | 0, _, h, hx =>
        cases hx
        rw [h]
        refine ⟨t1, [va, .ref ab], rfl, tp (Kp.refl _ _) g1, rfl, va, [.ref ab], rfl, .ref ab, [], rfl, rfl, Mx M0 ρ σ, va, rs, us, ab, vb, ?_, ha2.mono s3, fl1, ?_, gb, mb, ?_, nrs, nfs, ?_, fun σ2 vz m1 m2 hv => ⟨?_, fun j j1 j2 j3 => ?_, vz, hv, rfl⟩⟩
        · rw [List.getElem?_set_ne (Ne.symm nrf), List.getElem?_set_self (by rw [l1, ← hlσ]; exact lr)]
        · rw [List.getElem?_set_self (by rw [List.length_set, l1, ← hlσ]; exact lf)]
        · rw [hb4.length]; exact z1
        · rw [List.length_set, List.length_set, l1, ← hlσ]; exact ls
        · rw [m1, List.length_set, List.length_set]; exact l1
        · rw [m2 j j3, List.getElem?_set_ne (Ne.symm j2), List.getElem?_set_ne (Ne.symm j1)]
          exact l2 j j1 j2 j3
      | 1, _, ⟨vz, hvz, h⟩, hx =>
        cases hx
        rw [h]
        refine ⟨t2, [vc, .ref ad], rfl, tp kb g2, rfl, vc, [.ref ad], rfl, .ref ad, [], rfl, rfl, Mx M0 ρ σ, vc, rs2, vs, ad, vd, ?_, (hc2.mono s3).move kb (fun _ m => .inl m), fl2, ?_, gd', md, ?_, nrs, nfs, ?_, fun σ2 vy m1 m2 hv => ⟨?_, fun j j1 j2 j3 => ?_, vz, vy, hvz, hv, rfl⟩⟩
        · rw [List.getElem?_set_ne (Ne.symm nrf), List.getElem?_set_self (by rw [l1, ← hlσ]; exact lr)]
        · rw [List.getElem?_set_self (by rw [List.length_set, l1, ← hlσ]; exact lf)]
        · rw [hd4.length]; exact z2
        · rw [List.length_set, List.length_set, l1, ← hlσ]; exact ls
        · rw [m1, List.length_set, List.length_set]; exact l1
        · rw [m2 j j3, List.getElem?_set_ne (Ne.symm j2), List.getElem?_set_ne (Ne.symm j1)]
          exact l2 j j1 j2 j3
    · obtain ⟨l1, l2, vz, vy, hvz, hvy, rfl⟩ := h
      have exs1 := slotL_ok exs
      have u1 : RelT X.K xa M0 (ρ.set b (.ow (.list (xs' ++ us)))) σ (upd H1 ab (.lst (vb ++ vz))) := rt1.updO exs1 hb1 gb (by rw [List.length_append, hb4.length, hvz.length]; exact z1) ((hb4.mono s3).append hvz)
      have eys1 : (ρ.set b (.ow (.list (xs' ++ us))))[d]? = some (.ow (.list ys')) := by rw [List.getElem?_set_ne nbd]; exact slotL_ok eys
      have off1 : ∀ q, Mx M0 (ρ.set b (.ow (.list (xs' ++ us)))) σ q → Mx M0 ρ σ q ∨ upd H1 ab (.lst (vb ++ vz)) q = none := fun q m => .inl (m.imp id fun z => (own_upd exs1).mp z)
      have hvd : RepL X.K (Mx M0 (ρ.set b (.ow (.list (xs' ++ us)))) σ) (upd H1 ab (.lst (vb ++ vz))) vd ys' := (hd4.mono s3).move kb (fun q m => .inl (m.imp id fun z => (own_upd exs1).mp z))
      have u2 := u1.updO eys1 hd1 gd' (by rw [List.length_append, hd4.length, hvy.length]; exact z2) (hvd.append (hvy.off off1))
      have st1 : Step ρ σ H ρ σ H1 := Step.same s3 fun _ x => x
      have st2 : Step ρ σ H1 (ρ.set b (.ow (.list (xs' ++ us)))) σ (upd H1 ab (.lst (vb ++ vz))) := Step.upd hb5 gb fun q o => (own_upd exs1).mp o
      have st3 : Step (ρ.set b (.ow (.list (xs' ++ us)))) σ (upd H1 ab (.lst (vb ++ vz))) ((ρ.set b (.ow (.list (xs' ++ us)))).set d (.ow (.list (ys' ++ vs)))) σ (upd (upd H1 ab (.lst (vb ++ vz))) ad (.lst (vd ++ vy))) := Step.upd ⟨d, _, eys1, hd1⟩ gd' fun q o => (own_upd eys1).mp o
      have eρ : ((wipeE ρ [r, f, s]).set b (.ow (.list (xs' ++ us)))).set d (.ow (.list (ys' ++ vs))) = wipeE ((ρ.set b (.ow (.list (xs' ++ us)))).set d (.ow (.list (ys' ++ vs)))) [r, f, s] := by
        show ((((ρ.set s .no).set f .no).set r .no).set b _).set d _ = ((((ρ.set b _).set d _).set s .no).set f .no).set r .no
        rw [List.set_comm _ _ (Ne.symm nb1), List.set_comm _ _ (Ne.symm nb2), List.set_comm _ _ (Ne.symm nb3), List.set_comm _ _ (Ne.symm nd1), List.set_comm _ _ (Ne.symm nd2), List.set_comm _ _ (Ne.symm nd3)]
      rw [eρ] at hnx
      have lz : ∀ j : Nat, (wipeE ((ρ.set b (.ow (.list (xs' ++ us)))).set d (.ow (.list (ys' ++ vs)))) [r, f, s])[j]? = some Slot.no ∨ σ'[j]? = σ[j]? := fun j => by
        have no : ∀ {l : Slots} {i : Nat}, i < l.length → (l.set i .no)[i]? = some Slot.no := fun {l i} hi => List.getElem?_set_self hi
        show (((((ρ.set b _).set d _).set s .no).set f .no).set r .no)[j]? = _ ∨ _
        by_cases j1 : j = r
        · subst j1; exact .inl (no (by simpa using lr))
        by_cases j2 : j = f
        · subst j2; exact .inl (by rw [List.getElem?_set_ne (Ne.symm j1)]; exact no (by simpa using lf))
        by_cases j3 : j = s
        · subst j3; exact .inl (by rw [List.getElem?_set_ne (Ne.symm j1), List.getElem?_set_ne (Ne.symm j2)]; exact no (by simpa using ls))
        · exact .inr (l2 j j1 j2 j3)
      have u3 := (u2.forget [r, f, s]).loose l1 lz
      refine hnx σ' _ u3 (((st1.trans st2).trans st3).trans (Step.same (Same.refl _) fun q o => ?_))
      obtain ⟨j, dd, o1, o2⟩ := o
      refine wipe_own (vs := [r, f, s]) ⟨j, dd, o1, ?_⟩
      rcases lz j with z | z
      · rw [o1] at z; cases z
      · rw [← z]; exact o2
  · cases e
end
end Fp
set_option maxHeartbeats 1000000
namespace Fp
open PySem PySem.Spec PyProof.Rows L2
variable [TB]
def lcB (sc : Scope) (x : Str) : Bool := decide (sc.names.lookup x = some .local)
def atB (N : List Str) (i : Nat) (x : Str) : Bool := decide (N[i]? = some x)
def noFb : Str → Bool := fun _ => true
def chkSet (N : List Str) (p : Pg) (cm : Bool) (sc : Scope) (t : Tg) (e : E) (tg x : Expr) : Bool := !brw e && chkE N p cm sc e x && chkG N noFb sc t tg && (match tg with
  | .Name _ _ => true
  | .Tuple _ _ _ => cm && tupV x
  | _ => false)
def chkPar0 (N : List Str) (p : Pg) (sc : Scope) (bs : List (Nat × Bool)) (es : Es) (ts vs : List Expr) : Bool := match bs, ts, vs with
  | [(i, _), (j, _)], [.Name x px, .Name y py], [a, b] => atB N i x && atB N j y && decide (i ≠ j) && lcB sc x && lcB sc y && swB sc [.Name x px, .Name y py] [a, b] && decide (swNames sc [.Name x px, .Name y py] = [x, y]) && chkP N p true sc bs es [a, b]
  | [(i, _), (j, _), (l, _)], [.Name x px, .Name y py, .Name z pz], [a, b, d] => atB N i x && atB N j y && atB N l z && decide (i ≠ j) && decide (i ≠ l) && decide (j ≠ l) && lcB sc x && lcB sc y && lcB sc z && swB sc [.Name x px, .Name y py, .Name z pz] [a, b, d]
      && decide (swNames sc [.Name x px, .Name y py, .Name z pz] = [x, y, z]) && chkP N p true sc bs es [a, b, d]
  | _, _, _ => false
def chkPar (N : List Str) (p : Pg) (sc : Scope) (bs : List (Nat × Bool)) (es : Es) (ts vs : List Expr) : Bool := if (swNames sc ts).length != ts.length then chkN N sc bs ts && decide (bs.length ≤ 1000) && chkP N p true sc bs es vs else chkPar0 N p sc bs es ts vs
mutual
def chkS (N : List Str) (p : Pg) (sc : Scope) (cm : Bool) : S → Stmt → Bool
  | .set t e, st => match st with
    | .Assign [tg] x _ => chkSet N p cm sc t e tg x
    | _ => false
  | .own i e, st => match st with
    | .Assign [.Name y _] x _ => newE e && atB N i y && locB sc y && chkE N p cm sc e x
    | _ => false
  | .par bs es, st => match st with
    | .Assign [.Tuple ts _ _] (.Tuple vs _ _) _ => cm && chkPar N p sc bs es ts vs
    | _ => false
  | .app i e, st => match st with
    | .Expr (.Call (.Attribute (.Name x _) n p1) [y] [] q) _ => decide (n = "append") && nmB N sc i x && decide (p1.endLine = q.line) && plainX y && !brw e && chkE N p cm sc e y
    | _ => false
  | .ext i e, st => match st with
    | .Expr (.Call (.Attribute (.Name x _) n p1) [y] [] q) _ => decide (n = "extend") && nmB N sc i x && decide (p1.endLine = q.line) && plainX y && chkE N p cm sc e y
    | _ => false
  | .put i k e, st => match st with
    | .Assign [.Subscript (.Name x _) y _] v _ => nmB N sc i x && notLc v && plainX y && !brw e && chkE N p cm sc k y && chkE N p cm sc e v
    | _ => false
  | .pop ix i k, st => match st with
    | .Assign [.Name z _] (.Call (.Attribute (.Name x _) n p1) l [] q) _ => decide (n = "pop") && atB N ix z && locB sc z && nmB N sc i x && decide (p1.endLine = q.line) && (match k, l with
      | .no, [] => true
      | .so c, [y] => plainX y && chkE N p cm sc c y
      | _, _ => false)
    | _ => false
  | .apop i j k, st => match st with
    | .Expr (.Call (.Attribute (.Name x _) n p1) [.Call (.Attribute (.Name x2 _) m q1) [y] [] q3] [] q) _ => decide (n = "append") && decide (m = "pop") && nmB N sc i x && nmB N sc j x2 && decide (i ≠ j) && decide (p1.endLine = q.line) && decide (q1.endLine = q3.line) && plainX y && chkE N p cm sc k y
    | _ => false
  | .exp e, st => match st with
    | .Expr x _ => notLc x && chkE N p cm sc e x
    | _ => false
  | .ite t a b, st => match st with
    | .If x l m _ => tstX x && !brw t && chkE N p cm sc t x && chkSs N p sc cm a l && chkSs N p sc cm b m
    | _ => false
  | .for_ _ t it b, st => match st with
    | .For tg x l [] _ => cm && chkG N noFb sc t tg && plainX x && chkI N p cm false sc it tg x && chkSs N p sc cm b l
    | _ => false
  | .whl _ _ t b, st => match st with
    | .While x l [] _ => cm && tstX x && !brw t && chkE N p cm sc t x && chkSs N p sc cm b l
    | _ => false
  | .ret e, st => match st with
    | .Return (some x) _ => !brw e && chkE N p cm sc e x
    | _ => false
  | .rai c, st => match st with
    | .Raise (some (.Call (.Name x _) [.Constant (.str _) _ _] [] _)) none _ => cm && decide (c = x) && decide (c ∈ p.xs) && glB sc x && dbB x
    | _ => false
  | .tre xs b c i h, st => match st with
    | .Try l [.ExceptHandler (some (.Name x _)) (some n) (b₀ :: suite) _] [] [] _ => cm && xs.all (fun c => decide (c ∈ p.xs)) && decide (c = x) && decide (c ∈ p.xs) && glB sc x && dbB x && atB N i n && lcB sc n && chkSs N p sc true b l && chkSs N p sc false h (b₀ :: suite)
    | _ => false
  | .frz _, _ => false
  | .pas, st => match st with
    | .Pass _ => true
    | _ => false
  | .ali a b c d r f s, st => match st with
    | .For (.Tuple [.Name xr _, .Name xf _] _ _) (.Tuple [.Tuple [.Name xa _, .Name xb _] _ _, .Tuple [.Name xc _, .Name xd _] _ _] _ _) [.For (.Name xs _) (.Name xr2 _) [.Expr (.Call (.Attribute (.Name xf2 _) n p1) [.Name xs2 _] [] q) _] [] _] [] _ =>
      cm && decide (n = "extend") && decide (p1.endLine = q.line) && nmB N sc a xa && nmB N sc b xb && nmB N sc c xc && nmB N sc d xd && nmB N sc r xr2 && nmB N sc f xf2 && nmB N sc s xs2 && atB N r xr && locB sc xr && atB N f xf && locB sc xf && atB N s xs && locB sc xs
    | _ => false
  | .dsz i a b, st => match st with
    | .Assign [.Name y _] (.Call (.Name x _) [.Call (.Name z _) [y1, y2] [] _] [] _) _ => cm && atB N i y && locB sc y && decide (x = Str.ofString "dict") && glB sc x && decide (z = Str.ofString "zip") && glB sc z && plainX y1 && plainX y2 && chkE N p cm sc a y1 && chkE N p cm sc b y2
    | _ => false
  | .dst i e, st => match st with
    | .Assign [.Name y _] (.Call (.Name x _) [a] [] _) _ => cm && atB N i y && locB sc y && decide (x = Str.ofString "dict") && glB sc x && plainX a && chkE N p cm sc e a
    | _ => false
  | .dpt i k e, st => match st with
    | .Assign [.Subscript (.Name x _) y _] v _ => nmB N sc i x && notLc v && plainX y && !brw e && chkE N p cm sc k y && chkE N p cm sc e v
    | _ => false
  | .dpn i k j e f, st => match st with
    | .Assign [.Tuple [.Subscript (.Name x p1) y p2, .Name z pz] _ _] (.Tuple [a, b] _ _) _ => cm && nmB N sc i x && atB N j z && locB sc z && plainX y && chkE N p cm sc k y && chkEs N p cm sc (.cons e (.cons f .nil)) [a, b] && ((swNames sc [.Subscript (.Name x p1) y p2, .Name z pz]).length != [Expr.Subscript (.Name x p1) y p2, .Name z pz].length)
    | _ => false
def chkSs (N : List Str) (p : Pg) (sc : Scope) (cm : Bool) : Ss → List Stmt → Bool
  | .nil, l => l.isEmpty
  | .nay, _ => true
  | .cons s ss, l => match s with
    | .frz _ => chkSs N p sc cm ss l
    | s => match l with
      | [] => false
      | st :: l => chkS N p sc cm s st && chkSs N p sc cm ss l
end
section
variable {p : Pg} {k : Nat}
theorem EndS.no {K : PySem.W.Frag} {xa : Addr → Str → Prop} {M0 : Addr → Prop} {W : WX} {D : Ends} {ρ : Slots} {σ : L2.St} {H : Hp} (h : EndS K xa M0 W D ρ σ H .bad) : False := h
theorem set_ok {X : Cx} {xa : Addr → Str → Prop} {W : WX} {cm : Bool} (C : Cok X xa W p cm k) (hf : ∀ x, X.fn x = true) {t : Tg} {c : E} {tg x : Expr} {pos : Pos} (h : chkSet X.N p cm X.env.scope t c tg x = true) : PS X (.Assign [tg] x pos) (canS X.K xa W p.G (.set t c)) := by
  unfold chkSet at h
  simp only [Bool.and_eq_true] at h
  obtain ⟨⟨⟨h1, h2⟩, h3⟩, h4⟩ := h
  split at h4
  · rename_i y py
    cases t with
    | nm i =>
      unfold chkG at h3
      simp only [Bool.and_eq_true, Bool.or_eq_true, decide_eq_true_eq] at h3
      obtain ⟨⟨g1, g2⟩, g3⟩ := h3
      exact PS.of (asgE C g1 (locB_ok g2) (hf y) (nb h1) h2) fun D σ H q => by
        have q := set_rd (X := X) (nb h1) q
        obtain ⟨M0, ρ, hr, hp⟩ := q
        exact ⟨M0, ρ, hr, hp.imp fun d H' s k v r => canG_nm (k v r)⟩
    | tp ts => unfold chkG at h3; cases h3
  · simp only [Bool.and_eq_true] at h4
    obtain ⟨rfl, h5⟩ := h4
    exact PS.of (ps_asg (okE C c h2).e (pg_can (xa := xa) (C.calm rfl).1 C.nd (fun x hx => hf x) h3) tup_ss (tup_sw h5) rfl) fun D σ H q => set_rd (nb h1) q
  · cases h4
theorem par_ok {X : Cx} {xa : Addr → Str → Prop} {W : WX} (C : Cok X xa W p true k) (hf : ∀ x, X.fn x = true) {bs : List (Nat × Bool)} {es : Es} {ts vs : List Expr} {k1 k2 : Nat} {p1 p2 pos : Pos} (h : chkPar X.N p X.env.scope bs es ts vs = true) : PS X (.Assign [.Tuple ts k1 p1] (.Tuple vs k2 p2) pos) (canS X.K xa W p.G (.par bs es)) := by
  unfold chkPar at h
  split at h
  · rename_i hs
    simp only [Bool.and_eq_true, decide_eq_true_eq] at h
    exact cs_parN C hf h.1.1 hs h.1.2 h.2
  unfold chkPar0 at h
  split at h
  · simp only [Bool.and_eq_true, decide_eq_true_eq] at h
    obtain ⟨⟨⟨⟨⟨⟨⟨h1, h2⟩, h3⟩, h4⟩, h5⟩, h6⟩, h7⟩, h8⟩ := h
    exact cs_par2 C (of_decide_eq_true h1) (of_decide_eq_true h2) h3 (of_decide_eq_true h4) (of_decide_eq_true h5) h6 h7 h8
  · simp only [Bool.and_eq_true, decide_eq_true_eq] at h
    obtain ⟨⟨⟨⟨⟨⟨⟨⟨⟨⟨⟨h1, h2⟩, h3⟩, h4⟩, h5⟩, h6⟩, h7⟩, h8⟩, h9⟩, h10⟩, h11⟩, h12⟩ := h
    exact cs_par3 C (of_decide_eq_true h1) (of_decide_eq_true h2) (of_decide_eq_true h3) h4 h5 h6 (of_decide_eq_true h7) (of_decide_eq_true h8) (of_decide_eq_true h9) h10 h11 h12
  · cases h
mutual
theorem okS : ∀ {X : Cx} {xa : Addr → Str → Prop} {W : WX} {cm : Bool} (C : Sok X xa W p cm k) (s : S) {st : Stmt}, chkS X.N p X.env.scope cm s st = true → PS X st (canS X.K xa W p.G s)
  | X, xa, W, cm, C, .set t e, st, h => by
    unfold chkS at h
    split at h
    · exact set_ok C.c C.fn h
    · cases h
  | X, xa, W, cm, C, .own i e, st, h => by
    unfold chkS at h
    split at h
    · simp only [Bool.and_eq_true] at h
      obtain ⟨⟨⟨h1, h2⟩, h3⟩, h4⟩ := h
      exact PS.of (asgF C.c (of_decide_eq_true h2) (locB_ok h3) (C.fn _) h1 h4) fun D σ H q => own_rd q
    · cases h
  | X, xa, W, cm, C, .par bs es, st, h => by
    unfold chkS at h
    split at h
    · simp only [Bool.and_eq_true] at h
      obtain ⟨rfl, h⟩ := h
      exact par_ok C.c C.fn h
    · cases h
  | X, xa, W, cm, C, .app i e, st, h => by
    unfold chkS at h
    split at h
    · simp only [Bool.and_eq_true, decide_eq_true_eq] at h
      obtain ⟨⟨⟨⟨⟨rfl, h2⟩, h3⟩, h4⟩, h5⟩, h6⟩ := h
      exact cs_app h2 h3 h4 (nb h5) (okE C.c e h6).e
    · cases h
  | X, xa, W, cm, C, .ext i e, st, h => by
    unfold chkS at h
    split at h
    · simp only [Bool.and_eq_true, decide_eq_true_eq] at h
      obtain ⟨⟨⟨⟨rfl, h2⟩, h3⟩, h4⟩, h5⟩ := h
      exact cs_ext h2 h3 h4 (okE C.c e h5).e
    · cases h
  | X, xa, W, cm, C, .put i k e, st, h => by
    unfold chkS at h
    split at h
    · simp only [Bool.and_eq_true] at h
      obtain ⟨⟨⟨⟨⟨h1, h2⟩, h3⟩, h4⟩, h5⟩, h6⟩ := h
      exact cs_put h1 h2 h3 (nb h4) (okE C.c k h5).e (okE C.c e h6).e
    · cases h
  | X, xa, W, cm, C, .pop ix i k, st, h => by
    unfold chkS at h
    split at h
    · simp only [Bool.and_eq_true, decide_eq_true_eq] at h
      obtain ⟨⟨⟨⟨⟨rfl, h2⟩, h3⟩, h4⟩, h5⟩, h6⟩ := h
      split at h6
      · exact cs_pop0 C.c (of_decide_eq_true h2) (locB_ok h3) (C.fn _) h4 h5
      · rename_i c y
        simp only [Bool.and_eq_true] at h6
        exact cs_pop C.c (of_decide_eq_true h2) (locB_ok h3) (C.fn _) h4 h5 h6.1 (okE C.c c h6.2).e
      · cases h6
    · cases h
  | X, xa, W, cm, C, .apop i j k, st, h => by
    unfold chkS at h
    split at h
    · simp only [Bool.and_eq_true, decide_eq_true_eq] at h
      obtain ⟨⟨⟨⟨⟨⟨⟨⟨rfl, rfl⟩, h2⟩, h3⟩, h4⟩, h5⟩, h6⟩, h7⟩, h8⟩ := h
      exact cs_apop C.c h2 h3 h4 h5 h6 h7 (okE C.c k h8).e
    · cases h
  | X, xa, W, cm, C, .exp e, st, h => by
    unfold chkS at h
    split at h
    · simp only [Bool.and_eq_true] at h
      exact cs_exp h.1 (okE C.c e h.2).e
    · cases h
  | X, xa, W, cm, C, .ite t a b, st, h => by
    unfold chkS at h
    split at h
    · simp only [Bool.and_eq_true] at h
      obtain ⟨⟨⟨⟨h1, h2⟩, h3⟩, h4⟩, h5⟩ := h
      exact cs_if ((okE C.c t h3).t (nb h2) h1) (okSs C a h4) (okSs C b h5)
    · cases h
  | X, xa, W, cm, C, .for_ ws t it b, st, h => by
    unfold chkS at h
    split at h
    · simp only [Bool.and_eq_true] at h
      obtain ⟨⟨⟨⟨rfl, h2⟩, h3⟩, h4⟩, h5⟩ := h
      exact cs_for C h3 (okI C.c it h4) (pg_can (xa := xa) (C.c.calm rfl).1 C.c.nd (fun x hx => C.fn x) h2) (okSs C b h5)
    · cases h
  | X, xa, W, cm, C, .whl fuel ws t b, st, h => by
    unfold chkS at h
    split at h
    · simp only [Bool.and_eq_true] at h
      obtain ⟨⟨⟨⟨rfl, h2⟩, h3⟩, h4⟩, h5⟩ := h
      exact cs_while C ((okE C.c t h4).t (nb h3) h2) (okSs C b h5)
    · cases h
  | X, xa, W, cm, C, .ret e, st, h => by
    unfold chkS at h
    split at h
    · simp only [Bool.and_eq_true] at h
      exact cs_ret (nb h.1) (okE C.c e h.2).e
    · cases h
  | X, xa, W, cm, C, .rai c, st, h => by
    unfold chkS at h
    split at h
    · simp only [Bool.and_eq_true, decide_eq_true_eq] at h
      obtain ⟨⟨⟨⟨rfl, rfl⟩, h3⟩, h4⟩, h5⟩ := h
      exact cs_raise C.c h3 h4 h5
    · cases h
  | X, xa, W, cm, C, .tre xs b c i h', st, h => by
    unfold chkS at h
    split at h
    · simp only [Bool.and_eq_true, decide_eq_true_eq] at h
      obtain ⟨⟨⟨⟨⟨⟨⟨⟨⟨rfl, h2⟩, rfl⟩, h4⟩, h5⟩, h6⟩, h7⟩, h8⟩, h9⟩, h10⟩ := h
      rw [List.all_eq_true] at h2
      exact cs_try C (fun c hc => of_decide_eq_true (h2 c hc)) h4 h5 h6 (of_decide_eq_true h7) (of_decide_eq_true h8) (fun W' pn xe S' => okSs S' b h9) (fun a oe cls d pn S' => okSs S' h' h10)
    · cases h
  | X, xa, W, cm, C, .frz i, st, h => by
    unfold chkS at h
    cases h
  | X, xa, W, cm, C, .pas, st, h => by
    unfold chkS at h
    split at h
    · exact cs_pas
    · cases h
  | X, xa, W, cm, C, .ali a b c d r f s, st, h => by
    unfold chkS at h
    split at h
    · simp only [Bool.and_eq_true, decide_eq_true_eq] at h
      obtain ⟨⟨⟨⟨⟨⟨⟨⟨⟨⟨⟨⟨⟨⟨⟨rfl, rfl⟩, h1⟩, h2⟩, h3⟩, h4⟩, h5⟩, h6⟩, h7⟩, h8⟩, h9⟩, h10⟩, h11⟩, h12⟩, h13⟩, h14⟩ := h
      exact cs_ali C h1 h2 h3 h4 h5 h6 h7 h8 (of_decide_eq_true h9) (locB_ok h10) (of_decide_eq_true h11) (locB_ok h12) (of_decide_eq_true h13) (locB_ok h14)
    · cases h
  | X, xa, W, cm, C, .dsz i a b, st, h => by
    unfold chkS at h
    split at h
    · simp only [Bool.and_eq_true, decide_eq_true_eq] at h
      obtain ⟨⟨⟨⟨⟨⟨⟨⟨⟨⟨rfl, h1⟩, h2⟩, h3⟩, h4⟩, h5⟩, h6⟩, h7⟩, h8⟩, h9⟩, h10⟩ := h
      exact cs_dsz C.c (of_decide_eq_true h1) (locB_ok h2) (C.fn _) h3 h4 h5 h6 h7 h8 (okE C.c a h9).e (okE C.c b h10).e
    · cases h
  | X, xa, W, cm, C, .dst i e, st, h => by
    unfold chkS at h
    split at h
    · simp only [Bool.and_eq_true, decide_eq_true_eq] at h
      obtain ⟨⟨⟨⟨⟨⟨rfl, h1⟩, h2⟩, h3⟩, h4⟩, h5⟩, h6⟩ := h
      exact cs_dst C.c (of_decide_eq_true h1) (locB_ok h2) (C.fn _) h3 h4 h5 (okE C.c e h6).e
    · cases h
  | X, xa, W, cm, C, .dpt i k e, st, h => by
    unfold chkS at h
    split at h
    · simp only [Bool.and_eq_true] at h
      obtain ⟨⟨⟨⟨⟨h1, h2⟩, h3⟩, h4⟩, h5⟩, h6⟩ := h
      exact cs_dpt C.c.units h1 h2 h3 (nb h4) (okE C.c k h5).e (okE C.c e h6).e
    · cases h
  | X, xa, W, cm, C, .dpn i k j e f, st, h => by
    unfold chkS at h
    split at h
    · simp only [Bool.and_eq_true] at h
      obtain ⟨⟨⟨⟨⟨⟨⟨rfl, h1⟩, h2⟩, h3⟩, h4⟩, h5⟩, h6⟩, h7⟩ := h
      exact cs_dpn C.c C.fn h1 (of_decide_eq_true h2) (locB_ok h3) h4 (okE C.c k h5).e (okEs C.c _ h6) h7
    · cases h
theorem okSs : ∀ {X : Cx} {xa : Addr → Str → Prop} {W : WX} {cm : Bool} (C : Sok X xa W p cm k) (s : Ss) {l : List Stmt}, chkSs X.N p X.env.scope cm s l = true → PSs X l (canSs X.K xa W p.G s)
  | X, xa, W, cm, C, .nil, l, h => by
    unfold chkSs at h
    cases l with
    | nil => exact css_nil
    | cons a l => cases h
  | X, xa, W, cm, C, .nay, l, h => ⟨fun pins s σ H D I q => (EndS.no q.choose_spec.choose_spec.2).elim⟩
  | X, xa, W, cm, C, .cons s ss, l, h => by
    unfold chkSs at h
    split at h
    · exact css_frz (okSs C ss h)
    · split at h
      · cases h
      · simp only [Bool.and_eq_true] at h
        exact css_cons (okS C s h.1) (okSs C ss h.2)
end
end
end Fp
set_option maxHeartbeats 1000000
namespace Fp
open PySem PySem.Spec PyProof.Rows L2
variable [TB]
/-! ### parameters -/
def plainPs (a : Arguments) : Bool := a.posonlyargs.isEmpty && a.vararg.isNone && a.kwonlyargs.isEmpty && a.kwarg.isNone && a.defaults.isEmpty && decide (a.args.map (·.arg)).Nodup
theorem lookup_zip : ∀ {ns : List Str} {us : List Value}, ns.Nodup → us.length = ns.length → ∀ pre : List (Str × Value), (∀ n ∈ ns, (pre.lookup n) = none) → ns.filterMap (fun n => ((pre ++ ns.zip us).lookup n).map (n, ·)) = ns.zip us
  | [], [], _, _, _, _ => rfl
  | [], _ :: _, _, h, _, _ => by cases h
  | _ :: _, [], _, h, _, _ => by cases h
  | n :: ns, u :: us, hn, hl, pre, hp => by
    rw [List.nodup_cons] at hn
    have h1 : (pre ++ (n, u) :: ns.zip us).lookup n = some u := by
      rw [List.lookup_append, hp n List.mem_cons_self]
      simp [List.lookup]
    have h2 := lookup_zip (ns := ns) (us := us) hn.2 (by simpa using hl) (pre ++ [(n, u)]) fun m hm => by
      rw [List.lookup_append, hp m (List.mem_cons_of_mem _ hm)]
      have : (m == n) = false := by
        rw [beq_eq_false_iff_ne]
        intro e
        exact hn.1 (e ▸ hm)
      simp [List.lookup, this]
    rw [List.append_assoc] at h2
    show List.filterMap (fun m => ((pre ++ (n, u) :: ns.zip us).lookup m).map (m, ·)) (n :: ns) = (n, u) :: ns.zip us
    rw [List.filterMap_cons, h1]
    show (n, u) :: List.filterMap _ ns = _
    rw [show pre ++ (n, u) :: ns.zip us = pre ++ ([(n, u)] ++ ns.zip us) from rfl, h2]
theorem no_missing : ∀ {ns : List Str} {us : List Value}, us.length = ns.length → ns.filter (fun n => ((ns.zip us).lookup n).isNone) = [] := by
  intro ns us hl
  rw [List.filter_eq_nil_iff]
  intro n hn
  have : ∀ {ns : List Str} {us : List Value}, us.length = ns.length → n ∈ ns → ((ns.zip us).lookup n).isNone = false := by
    intro ns
    induction ns with
    | nil => intro us _ h; cases h
    | cons m ns ih =>
      intro us hl hm
      cases us with
      | nil => cases hl
      | cons u us =>
        simp only [List.zip_cons_cons, List.lookup]
        by_cases e : (n == m) = true
        · rw [e]; rfl
        · have e : (n == m) = false := by simpa using e
          rw [e]
          refine ih (by simpa using hl) ?_
          rcases List.mem_cons.mp hm with z | z
          · rw [z] at e; simp at e
          · exact z
  rw [this hl hn]
  simp
theorem bind_plain {x qual : Str} {params : Arguments} {body : List Stmt} {scope : Scope} {kV doc pm : Value} {an : Option Addr} {cdv ct : Value} {us : List Value} (h : plainPs params = true) (hl : us.length = (params.args.map (·.arg)).length) :
    bindArgs (PySem.W.fnOf x qual params body scope .none kV doc pm an cdv ct) ⟨us, []⟩ = pure ((params.args.map (·.arg)).zip us) := by
  obtain ⟨po, as, va, ko, kd, kw, df⟩ := params
  unfold plainPs at h
  simp only [Bool.and_eq_true, List.isEmpty_iff, Option.isNone_iff_eq_none, decide_eq_true_eq] at h
  obtain ⟨⟨⟨⟨⟨rfl, rfl⟩, rfl⟩, rfl⟩, rfl⟩, hn⟩ := h
  dsimp only at hl hn
  have e1 := lookup_zip hn hl [] (fun _ _ => rfl)
  rw [List.nil_append] at e1
  have e2 := no_missing hl
  have e3 : ¬ (us.length > (as.map (·.arg)).length) := by omega
  have e0 : seqItems? Value.none = pure none := rfl
  have e4 : decide (us.length > (as.map (·.arg)).length) = false := decide_eq_false e3
  unfold bindArgs PySem.W.fnOf
  simp only [e0, List.map_nil, List.nil_append, List.append_nil, List.forIn_nil, pure_bind, Option.getD_none, List.length_nil, Nat.sub_zero, List.drop_nil, List.zip_nil_right, Option.isNone_none, Bool.and_true, List.take_length, e4, Bool.false_eq_true, if_false, e2, e1, List.isEmpty_nil, Bool.not_true]
/-! ### a def -/
structure Pok (P : Program) (w : World) (K : PySem.W.Frag) (mg : Str → Option Value) (base : Heap) (p : Pg) (k : Nat) : Prop where
  fns : ∀ f ∈ p.fs, FnGood P w K mg base k f (p.G f)
  blt : ∀ x ∈ bltNames, mg (Str.ofString x) = none
  cst : ∀ x d, (x, d) ∈ p.cs → (∃ i t, d = .int i ∧ mg x = some (.int i t)) ∨ ∃ z t, d = .str z ∧ z.length ≤ sizeLine ∧ mg x = some (.str z t)
  xok : ∀ t ∈ p.xs, XOk K mg p.xs t
  tps : ∀ x ∈ p.ts, mg x = some (.ref (He.ga K x)) ∧ ∃ o n, K.lookup (He.ga K x) = some o ∧ plO o ∧ o.data = .seq #[] n
  vok : ∀ c ∈ p.xs, PySem.W.kitOne K (.ref (He.ga K c)) (.type "ValueError") = some true
  told : ∀ x ∈ p.tl, ToldGood P w K mg base (k + 2) x
theorem ToldGood.up {P : Program} {w : World} {K : PySem.W.Frag} {mg : Str → Option Value} {base : Heap} {k j : Nat} {x : Str} (h : ToldGood P w K mg base k x) (hk : k ≤ j) : ToldGood P w K mg base j x := by
  obtain ⟨g, pg, bg, sg, dV, kV, doc, pm, cdv, ct, oc, an, od, osl, Ng, a, t1, t2, t3, t4, t5, t6, t7, t8, t9, t10, t11⟩ := h.ex
  exact ⟨g, pg, bg, sg, dV, kV, doc, pm, cdv, ct, oc, an, od, osl, Ng, a, t1, t2, t3, t4, t5, t6, t7, t8, t9, t10, fun X q e1 e2 e3 e4 e5 hr => t11 X q e1 e2 e3 e4 e5 (hr.mono hk)⟩
/-- a def that makes lambdas: its table -/
def LamK (K : PySem.W.Frag) (mg : Str → Option Value) (base : Heap) (x : Str) : Prop := ∃ (oc : Value) (od : Option Addr) (fd : FuncData) (osl : Array (Option Value)) (c T : Addr), K.lookup (He.ga K x) = some ⟨oc, od, .func fd, osl⟩ ∧ fd.code = .ref c ∧ LamX.TabB base mg c T ∧
  (T, (x ++ ".<locals>.") ++ "<lambda>") ∈ TB.T ∧ ∀ q ∈ TB.T, q.1 = T → q.2 = (x ++ ".<locals>.") ++ "<lambda>"
theorem FnGood.up {P : Program} {w : World} {K : PySem.W.Frag} {mg : Str → Option Value} {base : Heap} {k j : Nat} {f : Str} {g : List D → Res D} (h : FnGood P w K mg base k f g) (hk : k ≤ j) : FnGood P w K mg base j f g := by
  obtain ⟨fd, ps, h1, h2, h3⟩ := h.ok
  exact ⟨h.at_, h.kp, fd, ps, h1.mono hk, h2, h3⟩
theorem start_get {N : List Str} {vs : List V} {i : Nat} {v : V} (h : vs[i]? = some v) : (L2.start N vs)[i]? = some (some v) := by
  unfold L2.start
  have hi : i < vs.length := by
    rcases Nat.lt_or_ge i vs.length with q | q
    · exact q
    · rw [List.getElem?_eq_none q] at h; cases h
  rw [List.getElem?_append_left (by simpa using hi), List.getElem?_map, h]
  rfl
theorem start_rel {K : PySem.W.Frag} {M : Addr → Prop} {N : List Str} {vs : List V} {ds : List D} {H : Hp} (r : RepL K M H vs ds) (hM : okM M H) (hN : vs.length ≤ N.length) : RelT K noX M (ds.map Slot.fz ++ List.replicate (N.length - ds.length) Slot.no) (L2.start N vs) H := by
  have hl := r.length
  have get : ∀ (i : Nat) s, (ds.map Slot.fz ++ List.replicate (N.length - ds.length) Slot.no)[i]? = some s → s = .no ∨ ∃ d, ds[i]? = some d ∧ s = .fz d := fun i s h => by
    rcases Nat.lt_or_ge i ds.length with q | q
    · rw [List.getElem?_append_left (by simpa using q), List.getElem?_map, List.getElem?_eq_getElem q] at h
      exact .inr ⟨ds[i], List.getElem?_eq_getElem q, (Option.some.inj h).symm⟩
    · rw [List.getElem?_append_right (by simpa using q)] at h
      rw [List.getElem?_replicate] at h
      split at h
      · exact .inl (Option.some.inj h).symm
      · cases h
  have nown : ∀ a, ¬ OwnA (ds.map Slot.fz ++ List.replicate (N.length - ds.length) Slot.no) (L2.start N vs) a := fun a ⟨i, d, h, _⟩ => by
    rcases get i _ h with z | ⟨_, _, z⟩ <;> cases z
  refine ⟨⟨by unfold L2.start; simp [hl], hM, fun i d h => ?_, fun i d h => ?_, fun i c h => ?_, fun i j d e a h => ?_⟩, fun a o => absurd o (nown a)⟩
  · rcases get i _ h with z | ⟨d', h1, z⟩
    · cases z
    · cases z
      obtain ⟨v, hv, rv⟩ := r.get h1
      refine ⟨v, start_get hv, rv.off fun a m => .inl ?_⟩
      rcases m with m | m
      · exact m
      · exact absurd m (nown a)
  · rcases get i _ h with z | ⟨_, _, z⟩ <;> cases z
  · rcases get i _ h with z | ⟨_, _, z⟩ <;> cases z
  · rcases get i _ h with z | ⟨_, _, z⟩ <;> cases z
theorem kp_same {H H' : Hp} (h : Kp (fun _ => False) H H') : Same H H' := ⟨fun b o q z => h.k b o q z fun z => z, h.free, h.tb⟩
theorem def_fn {P : Program} {w : World} {K : PySem.W.Frag} {mg : Str → Option Value} {base : Heap} {p : Pg} {k : Nat} {x : Str} {params : Arguments} {body : List Stmt} {scope : Scope} {fd : FuncData} {N : List Str} {b : Ss} (B : Pok P w K mg base p k) (F : FunD K x x params body scope [] [] (He.ga K x) fd) 
    (hp : plainPs params = true) (hN : (params.args.map (·.arg)).length ≤ N.length) (hS : C8.scC N (params.args.map (·.arg)) scope = true) (hc : chkSs N p scope true b body = true) {j : Nat} (hj : k ≤ j) (hl : p.lm = true → k + 2 ≤ j ∧ LamK K mg base x) :
    FnOk P w K mg base (CX P w) (j + 1) (He.ga K x) fd (params.args.map (·.arg)) (spOf K (params.args.map (·.arg)).length (fnD p.G (params.args.map (·.arg)).length (N.length - (params.args.map (·.arg)).length) b)) := by
  obtain ⟨oc, od, dV, kV, doc, pm, an, cdv, ct, osl, rfl, lk, hcd, _, _⟩ := F.ex
  refine fn_of lk hcd (C8.fnScope_by hS) (fun vs H Q E h => h.1) fun A outer s H vs Q E hr0 hsp => ?_
  have hr := hr0.mono hj
  obtain ⟨hlen, ds, M, hrep, hM, hg⟩ := hsp
  have hdl : ds.length = (params.args.map (·.arg)).length := by rw [← hrep.length]; exact hlen
  let X := cxOf (CX P w) P w K mg base N x scope (He.ga K x) cdv A outer s H E
  have tk : Takes X (fun cls d _ H => E cls d H) := takes_of rfl rfl rfl rfl
  have C : Cok X noX (fun cls d _ H => E cls d H) p true k := ⟨fun _ => ⟨rfl, fun _ _ z => z⟩, (C8.fnScope_by hS).nd, tk, by have := hr.un; show (A.deeper _).units + 65 < cLine; omega, fun _ => hr, B.fns, B.blt, B.cst, fun _ _ z => z.elim, B.xok, B.tps, B.vok, B.told, fun _ z => by
    obtain ⟨h2, oc', od', fd', osl', c, T, k1, k2, k3, k4, k5⟩ := hl z
    rw [lk] at k1
    cases k1
    exact ⟨hr0.mono h2, c, T, k2, k3, k4, k5⟩⟩
  have S : Sok X noX (fun cls d _ H => E cls d H) p true k := ⟨C, fun _ => passes_of rfl, fun _ => ⟨rfl, rfl⟩, fun _ => rfl⟩
  refine ⟨_, okSs S b hc, M, ds.map Slot.fz ++ List.replicate (N.length - ds.length) Slot.no, start_rel hrep hM (by rw [hlen]; exact hN), ?_⟩
  have f0 : ∀ {ρ : Slots} {σ : L2.St}, (∀ a, ¬ OwnA ρ σ a) → Frm (fun _ => False) H ρ σ H := fun h => ⟨Kp.refl _ _, fun a o => absurd o (h a)⟩
  have nown : ∀ a, ¬ OwnA (ds.map Slot.fz ++ List.replicate (N.length - ds.length) Slot.no) (L2.start N vs) a := fun a ⟨i, d, h, _⟩ => by
    rcases Nat.lt_or_ge i ds.length with q | q
    · rw [List.getElem?_append_left (by simpa using q), List.getElem?_map, List.getElem?_eq_getElem q] at h
      cases h
    · rw [List.getElem?_append_right (by simpa using q), List.getElem?_replicate] at h
      split at h
      · cases h
      · cases h
  unfold fnD at hg
  rw [if_pos hdl, ← hdl] at hg
  revert hg
  cases exSs p.G b (ds.map Slot.fz ++ List.replicate (N.length - ds.length) Slot.no) with
  | nx ρ' => exact fun hg σ' H' r' st => hg .non H' (kp_same (st _ _ (f0 nown)).kp) .non
  | rt d => exact fun hg v H' rv st => hg v H' (kp_same (st _ _ (f0 nown))) rv
  | ex c ρ' => exact fun hg σ' H' r' st => hg H' (kp_same (st _ _ (f0 nown)).kp)
  | bad => exact fun hg => hg
theorem def_ok {P : Program} {w : World} {K : PySem.W.Frag} {mg : Str → Option Value} {base : Heap} {p : Pg} {k : Nat} {x : Str} {params : Arguments} {body : List Stmt} {scope : Scope} {fd : FuncData} {N : List Str} {b : Ss} (B : Pok P w K mg base p k) (F : FunD K x x params body scope [] [] (He.ga K x) fd) (hm : mg x = some (.ref (He.ga K x)))
    (hp : plainPs params = true) (hN : (params.args.map (·.arg)).length ≤ N.length) (hS : C8.scC N (params.args.map (·.arg)) scope = true) (hc : chkSs N p scope true b body = true) {j : Nat} (hj : k ≤ j) (hl : p.lm = true → k + 2 ≤ j ∧ LamK K mg base x) :
    FnGood P w K mg base (j + 1) x (fnD p.G (params.args.map (·.arg)).length (N.length - (params.args.map (·.arg)).length) b) := 
  ⟨hm, F.kp, fd, params.args.map (·.arg), def_fn B F hp hN hS hc hj hl, F.bindsN fun kV doc pm an cdv ct us hl => bind_plain hp hl, fun ds hd => by unfold fnD; exact if_neg hd⟩
/-! ### the defs of a program, one behind another -/
structure Dd where
  d : He.DefD
  N : List Str
  b : Ss
  lm : Bool
def lvl : List Dd → Nat
  | [] => 0
  | d :: ds => lvl ds + (if d.lm then 2 else 0) + 1
def Dd.np (d : Dd) : Nat := d.d.params.args.length
def gTab (G0 : Str → List D → Res D) : List Dd → Str → List D → Res D
  | [] => G0
  | d :: ds => fun y => if y = d.d.name then fnD (gTab G0 ds) d.np (d.N.length - d.np) d.b else gTab G0 ds y
def pTab (p0 : Pg) (ds : List Dd) : Pg := { p0 with G := gTab p0.G ds, fs := ds.map (·.d.name) ++ p0.fs }
def Dd.chk (p : Pg) (d : Dd) : Bool := decide (d.d.at_ = (d.d.name, none)) && decide (d.d.qual = d.d.name) && d.d.dfl.isEmpty && d.d.kwd.isEmpty && plainPs d.d.params && decide (d.np ≤ d.N.length) && C8.scC d.N (d.d.params.args.map (·.arg)) d.d.scope && chkSs d.N { p with lm := d.lm } d.d.scope true d.b d.d.body
def chkTab (p0 : Pg) : List Dd → Bool
  | [] => true
  | d :: ds => chkTab p0 ds && decide (d.d.name ∉ ds.map (·.d.name) ++ p0.fs) && d.chk (pTab p0 ds)
theorem tab_ok {P : Program} {w : World} {K : PySem.W.Frag} {mg : Str → Option Value} {base : Heap} {p0 : Pg} {k : Nat} (B : Pok P w K mg base p0 k) : ∀ {ds : List Dd}, (∀ d ∈ ds, (∃ fd, FunD K d.d.name d.d.qual d.d.params d.d.body d.d.scope (d.d.dvs K) (d.d.kws K) (He.fAd K d.d.at_) fd) ∧ mg d.d.name = some (.ref (He.ga K d.d.name))) → (∀ d ∈ ds, d.lm = true → LamK K mg base d.d.name) → chkTab p0 ds = true →
    Pok P w K mg base (pTab p0 ds) (k + lvl ds)
  | [], _, _, _ => B
  | d :: ds, hF, hL, h => by
    unfold chkTab at h
    simp only [Bool.and_eq_true, decide_eq_true_eq] at h
    obtain ⟨⟨h1, h2⟩, h3⟩ := h
    have B' := tab_ok B (fun e he => hF e (List.mem_cons_of_mem _ he)) (fun e he => hL e (List.mem_cons_of_mem _ he)) h1
    obtain ⟨⟨fd, F⟩, hm⟩ := hF d List.mem_cons_self
    unfold Dd.chk at h3
    simp only [Bool.and_eq_true, decide_eq_true_eq, List.isEmpty_iff] at h3
    obtain ⟨⟨⟨⟨⟨⟨⟨c1, c2⟩, c3⟩, c4⟩, c5⟩, c6⟩, c7⟩, c8⟩ := h3
    have F' : FunD K d.d.name d.d.name d.d.params d.d.body d.d.scope [] [] (He.ga K d.d.name) fd := by
      have e1 : d.d.dvs K = [] := by unfold He.DefD.dvs; rw [c3]; rfl
      have e2 : d.d.kws K = [] := by unfold He.DefD.kws; rw [c4]; rfl
      have e3 : He.fAd K d.d.at_ = He.ga K d.d.name := by rw [c1]; rfl
      rw [e1, e2, e3] at F
      have : FunD K d.d.name d.d.qual d.d.params d.d.body d.d.scope [] [] (He.ga K d.d.name) fd := F
      rw [c2] at this
      exact this
    have el : (d.d.params.args.map (·.arg)).length = d.np := by unfold Dd.np; simp
    have BL : Pok P w K mg base { pTab p0 ds with lm := d.lm } (k + lvl ds) := ⟨B'.fns, B'.blt, B'.cst, B'.xok, B'.tps, B'.vok, B'.told⟩
    have g := def_ok BL F' hm c5 (by rw [el]; exact c6) c7 c8 (j := k + lvl ds + (if d.lm then 2 else 0)) (Nat.le_add_right _ _) (fun z => ⟨by rw [if_pos (show d.lm = true from z)]; exact Nat.le_refl _, hL d List.mem_cons_self z⟩)
    rw [el] at g
    have ek : k + lvl (d :: ds) = k + lvl ds + (if d.lm then 2 else 0) + 1 := by
      show k + (lvl ds + (if d.lm then 2 else 0) + 1) = _
      omega
    rw [ek]
    refine ⟨fun f hf => ?_, B'.blt, B'.cst, B'.xok, B'.tps, B'.vok, fun x hx => (B'.told x hx).up (by omega)⟩
    by_cases e : f = d.d.name
    · have : (pTab p0 (d :: ds)).G f = fnD (gTab p0.G ds) d.np (d.N.length - d.np) d.b := if_pos e
      rw [this, e]
      exact g
    · have : (pTab p0 (d :: ds)).G f = gTab p0.G ds f := if_neg e
      rw [this]
      refine (B'.fns f ?_).up (by omega)
      rcases List.mem_append.mp hf with q | q
      · rcases List.mem_cons.mp (show f ∈ d.d.name :: ds.map (·.d.name) from q) with z | z
        · exact absurd z e
        · exact List.mem_append.mpr (.inl z)
      · exact List.mem_append.mpr (.inr q)
end Fp
set_option maxHeartbeats 1000000
namespace Fp
open PySem PySem.Spec PyProof.Rows L2 LamX
variable [TB]
/-! ### the def that tells a refusal's class, called in the except suite -/
section
variable {P : Program} {w : World} {K : PySem.W.Frag} {mg : Str → Option Value} {base : Heap}
theorem isE_pin {X : Cx} {a D : Addr} {oe : Obj} (C : ExcC X.K D) (hp : (a, oe) ∈ X.pn) (hz : Zc (.ref D) none oe) (hf : ∃ vs, oe.data = .fields vs) : CallR X (.builtin "isinstance") (rIsE X.K D a) := by
  intro pins s σ H xs us Q I r h
  obtain ⟨c, cv, b, rfl, hcv, e, q⟩ := h
  match us, r with
  | [u1, u2], .cons rx (.cons rt .nil) =>
    cases rx
    have ec := hcv _ rt
    subst ec
    have hget := (I.pin (a, oe) (List.mem_append.mpr (.inl hp))).1
    obtain ⟨vs, hv⟩ := hf
    have J : PySem.W.InstAt s.heap a oe D none := by
      obtain ⟨oc, od, oda, osl⟩ := oe
      obtain ⟨h1, h2⟩ := hz
      dsimp only at h1 h2 hv
      subst h1 h2 hv
      exact ⟨hget, rfl, rfl, trivial⟩
    exact PySem.W.kia_one (PySem.W.handS_kitx_exc C.hg C.hk C.hs C.hd C.ha C.hn C.ht C.hm) I.kIn J e (fun z => nomatch z) fun tk => ⟨.bl b, H, I.kept (t' := tk) fun _ _ z => z, rfl, q⟩
/-- such a def's run: p's object is the exception -/
theorem run_pin {f : Addr} {x : Str} {ps : Arguments} {body : List Stmt} {sc : Scope} {dV kV doc pm cdv ct oc : Value} {an od : Option Addr} {osl : Array (Option Value)} {N : List Str} {e : Str} (lk : K.lookup f = some ⟨oc, od, .func (PySem.W.fnOf x x ps body sc dV kV doc pm an cdv ct), osl⟩) (hcd : PySem.W.codeIn K cdv x = true)
    (S : FnScope N [e] sc) {A : Around} {outer : List PySem.Env} {s : Shared} {H : Hp} {p : Addr × Obj} {Q : VK} (hdp : A.depth < recursionLimit) (hpin : L2H.PinOk outer H s p) (e0 : Env0 P w K mg base A outer s H) (hb : BindsTo s (PySem.W.fnOf x x ps body sc dV kV doc pm an cdv ct) ⟨[.ref p.1], []⟩ ([e].zip [.ref p.1]))
    (hbody : ∃ t, PSs (L2H.cxH C8.CX0 P w K mg base N x sc f cdv A outer s H C8.E0 p) body t ∧ t { nx := fun _ H' => Q .non H', rt := Q } (L2.start N [.ref p.1]) H) :
    codeAny (model P w) A (.call (.ref f) ⟨[.ref p.1], []⟩) (CR C8.CX0 outer P w H s Q C8.E0) s := by
  have kin : K.In s.heap := e0.mod.kin.keeps fun b o e => (e0.bs b o e).1
  have lim : s.heap.NoLimit := e0.mod.nolimit.keeps fun b o e => (e0.bs b o e).1
  have kd : ∀ y ∈ [e].zip [Value.ref p.1], sc.names.lookup y.1 = some .local ∨ (sc.names.lookup y.1 = some .cell ∧ ((cellsFrom (s.heap.objs.size + 1) sc.names []).lookup y.1).isSome = true) := fun ⟨n, v⟩ hy => by
    rcases S.par n (List.of_mem_zip hy).1 with q | q
    · exact .inl q
    · exact .inr ⟨q, PySem.W.cellsFrom_some _ _ _ (.inl q)⟩
  refine codeAny_call_function hdp (kin _ _ lk) rfl S.co S.gen rfl (PySem.W.codeRec_of kin hcd) (hb _ _ _ _ ?_)
  refine wpAny_newFunctionEnv_cells S.kind kd fun env he s1 y => ?_
  subst he
  obtain ⟨t, ht, hq⟩ := hbody
  have I : Inv (L2H.cxH C8.CX0 P w K mg base N x sc f cdv A outer s H C8.E0 p) [] (L2.start N [.ref p.1]) H s1 := L2H.inv_startH S hpin e0 rfl (.cons rfl .nil) y
  refine ⟨lim.keeps y.toInCall.keep, codeAny_func (wpAny_mono (ht.run [] s1 _ H _ I hq) (fun fl s' hs => ?_) fun e s' hs => hs)⟩
  cases fl with
  | ret u =>
    obtain ⟨v, σ', H', J, rv, q⟩ := hs
    exact ⟨v, H', J.os, J.bare, J.base, J.hok, rv, q⟩
  | next =>
    obtain ⟨σ', H', J, q⟩ := hs
    exact ⟨V.non, H', J.os, J.bare, J.base, J.hok, rfl, q⟩
  | brk =>
    obtain ⟨_, _, _, q⟩ := hs
    exact q.elim
  | cont =>
    obtain ⟨_, _, _, q⟩ := hs
    exact q.elim
/-! ### its code -/
def isxs (i : Nat) : List Str → Es
  | [] => .nil
  | x :: xs => .cons (.isx i x) (isxs i xs)
def csts : List Str → Es
  | [] => .nil
  | x :: xs => .cons (.cst (.str x)) (csts xs)
def clsN : List Str := ["e", "kinds", "some"]
def clsC : Ss :=
  .cons (.own 1 (.lst (isxs 0 ["NoNet", "NoState", "NoPush"]))) (.cons (.ext 1 (.lst (isxs 0 ["NoPipe", "NoWay", "NoRun"]))) (.cons (.ext 1 (.lst (isxs 0 ["NoSpot", "NoOrder", "NoFeeds"])))
  (.cons (.ext 1 (.lst (isxs 0 ["NoTurn", "NoTurns", "NoSlug"]))) (.cons (.ext 1 (.lst (isxs 0 ["NoWish", "NoStock", "NoCost"]))) (.cons (.ext 1 (.lst (isxs 0 ["NoOuts", "NoNumber", "NoBack"]))) (.cons (.ext 1 (.lst (isxs 0 ["NoText", "TooGreat"])))
  (.cons (.ite (.bop .Or (.cons (.cmp .NotEq (.mth .count (.own 1) (.cst (.bool true))) (.cst (.int 1))) (.cons (.not (.isx 0 "ValueError")) .nil))) (.cons (.ret (.cst (.str "wrong"))) .nil) .nil)
  (.cons (.own 2 (.lst (csts ["NoNet", "NoState", "NoPush", "NoPipe", "NoWay", "NoRun", "NoSpot"]))) (.cons (.ext 2 (.lst (csts ["NoOrder", "NoFeeds", "NoTurn", "NoTurns", "NoSlug", "NoWish", "NoStock"])))
  (.cons (.ext 2 (.lst (csts ["NoCost", "NoOuts", "NoNumber", "NoBack", "NoText", "TooGreat"]))) (.cons (.ret (.idx (.own 2) (.mth .index (.own 1) (.cst (.bool true))))) .nil)))))))))))
def G00 : Str → List D → Res D := fun _ _ => .err
def isRt (c : Str) : Fl → Bool
  | .rt (.str x) => decide (x = c)
  | _ => false
theorem cls_allB : (toldNames.all fun c => isRt c (exSs G00 clsC [.ex c, .no, .no])) = true := by decide +kernel
theorem cls_val {c : Str} (h : c ∈ toldNames) : exSs G00 clsC [.ex c, .no, .no] = .rt (.str c) := by
  have := List.all_eq_true.mp cls_allB c h
  revert this
  cases exSs G00 clsC [.ex c, .no, .no] with
  | rt d =>
    cases d with
    | str x => intro h; rw [of_decide_eq_true (show decide (x = c) = true from h)]
    | _ => intro h; cases h
  | _ => intro h; cases h
def pX (xs : List Str) : Pg := ⟨G00, [], xs, [], [], false, []⟩
end
end Fp
set_option maxHeartbeats 1000000
namespace Fp
open PySem PySem.Spec PyProof.Rows L2 LamX
variable [TB]
/-- what is known of the def that tells a refusal's class -/
structure ClsOk (K : PySem.W.Frag) (mg : Str → Option Value) (xs : List Str) (x : Str) : Prop where
  at_ : mg x = some (.ref (He.ga K x))
  ex : ∃ (ps : Arguments) (body : List Stmt) (sc : Scope) (fd : FuncData), FunD K x x ps body sc [] [] (He.ga K x) fd ∧ plainPs ps = true ∧ ps.args.map (·.arg) = ([("e" : Str)] : List Str) ∧ C8.scC clsN ["e"] sc = true ∧ chkSs clsN (pX xs) sc false clsC body = true
  blt : ∀ y ∈ bltNames, mg (Str.ofString y) = none
  xok : ∀ t ∈ xs, XOk K mg xs t
  vok : ∀ c ∈ xs, PySem.W.kitOne K (.ref (He.ga K c)) (.type "ValueError") = some true
  all : ∀ c ∈ toldNames, c ∈ xs
section
variable {X : Cx} {xs : List Str}
theorem cls_body {P : Program} {w : World} {K : PySem.W.Frag} {mg : Str → Option Value} {base : Heap} {x : Str} {body : List Stmt} {sc : Scope} {f : Addr} {cdv : Value} {A : Around} {outer : List PySem.Env} {s : Shared} {H : Hp} {a : Addr} {oe : Obj} {c : Str} {Q : VK} (B : ClsOk K mg xs x)
    (hS : C8.scC clsN ["e"] sc = true) (hc : chkSs clsN (pX xs) sc false clsC body = true) (hu : (A.deeper (envOfC x sc s.heap.objs.size f cdv)).units + 65 < cLine) (hm : c ∈ toldNames) (hz : Zc (.ref (He.ga K c)) none oe) (hf : ∃ vs, oe.data = .fields vs) (ht : Tabs TB.T H) (hq : ∀ H', Same H H' → Q (.str c) H') :
    ∃ t, PSs (L2H.cxH C8.CX0 P w K mg base clsN x sc f cdv A outer s H C8.E0 (a, oe)) body t ∧ t { nx := fun _ H' => Q .non H', rt := Q } (L2.start clsN [.ref a]) H := by
  let X := L2H.cxH C8.CX0 P w K mg base clsN x sc f cdv A outer s H C8.E0 (a, oe)
  let xa : Addr → Str → Prop := fun a' c' => a' = a ∧ c' = c
  have S := C8.fnScope_by hS
  have C : Cok X xa noW (pX xs) false 0 := ⟨fun z => (by cases z), S.nd, LamX.takes0, hu, fun z => (by cases z), fun _ z => (by cases z), B.blt, fun _ _ z => (by cases z), fun a' c' h => by
    obtain ⟨rfl, rfl⟩ := h
    exact ⟨B.all _ hm, isE_pin (X := X) (B.xok _ (B.all _ hm)).is_ List.mem_cons_self hz hf⟩, B.xok, fun _ z => (by cases z), B.vok, fun _ z => (by cases z), fun z => (by cases z)⟩
  have So : Sok X xa noW (pX xs) false 0 := ⟨C, fun z => (by cases z), fun z => (by cases z), fun _ => rfl⟩
  refine ⟨_, okSs So clsC hc, fun _ => False, [.ex c, .no, .no], ?_, ?_⟩
  · have g : ∀ (i : Nat) s, ([Slot.ex c, .no, .no] : Slots)[i]? = some s → (i = 0 ∧ s = .ex c) ∨ s = .no := fun i s h => by
      match i, h with
      | 0, h => cases h; exact .inl ⟨rfl, rfl⟩
      | 1, h => cases h; exact .inr rfl
      | 2, h => cases h; exact .inr rfl
    have nown : ∀ a', ¬ OwnA ([Slot.ex c, .no, .no] : Slots) (L2.start clsN [.ref a]) a' := fun a' ⟨i, d, h, _⟩ => by
      rcases g i _ h with ⟨_, z⟩ | z <;> cases z
    refine ⟨⟨rfl, ⟨fun _ z => z.elim, ht⟩, fun i d h => ?_, fun i d h => ?_, fun i c' h => ?_, fun i j d e a' h => ?_⟩, fun a' o => absurd o (nown a')⟩
    · rcases g i _ h with ⟨_, z⟩ | z <;> cases z
    · rcases g i _ h with ⟨_, z⟩ | z <;> cases z
    · rcases g i _ h with ⟨rfl, z⟩ | z
      · cases z
        exact ⟨a, rfl, rfl, rfl⟩
      · cases z
    · rcases g i _ h with ⟨_, z⟩ | z <;> cases z
  · show EndS K xa (fun _ => False) noW _ _ _ _ (exSs G00 clsC [.ex c, .no, .no])
    rw [cls_val hm]
    intro v H' rv st
    cases rv
    refine hq H' (kp_same (st (fun _ => False) H ⟨Kp.refl _ _, fun a' ⟨i, d, h, _⟩ => ?_⟩))
    match i, h with
    | 0, h => cases h
    | 1, h => cases h
    | 2, h => cases h
theorem ce_class {a : Addr} {oe : Obj} {cls : Value} {d : Option Addr} {i : Nat} {x n : Str} {p1 p2 pos : Pos} (B : ClsOk X.K X.mg xs x) (hp : (a, oe) ∈ X.pn) (hz : Zc cls d oe) (hf : ∃ vs, oe.data = .fields vs) (hdp : X.A.depth < recursionLimit) (hu : X.A.units + 200 < cLine) (hg : Gl X x) (hdb : (x == ("__debug__" : Str)) = false) (hn : nmB X.N X.env.scope i n = true) :
    PE X (.Call (.Name x p1) [.Name n p2] [] pos) (fun σ H Q => ∃ c ∈ toldNames, cls = .ref (He.ga X.K c) ∧ d = none ∧ σ[i]? = some (some (.ref a)) ∧ Tabs TB.T H ∧ ∀ H', Same H H' → Q (.str c) H') := by
  obtain ⟨h1, h2, h3, h4⟩ := nm_ok hn
  obtain ⟨ps, body, sc, fd, F, hps, hpa, hS, hc⟩ := B.ex
  refine ⟨fun pins s σ H Q I h => ?_⟩
  obtain ⟨c, hm, rfl, rfl, hi, ht, hq⟩ := h
  have hA : PA X [.Name n p2] (tCons (tVar i) tNil) := pa_cons (pe_var h1 h2 h3 h4) pa_nil rfl
  refine wpAny_Call_Name_kw (ld_glob I hg B.at_ ?_ hdb)
  refine PySem.W.callWith_K (h₀ := X.base) I.ok.mod.kin F.kp (thn (hA.run pos pins s σ H (fun vs H1 => vs = [.ref a] ∧ H1 = H) I ⟨.ref a, hi, rfl, rfl⟩) fun us s1 ⟨vs, H1, I1, r, q⟩ => ⟨I1.kIn, ?_⟩) rfl rfl
  obtain ⟨rfl, rfl⟩ := q
  obtain ⟨u, rfl, ru⟩ := vals1 r
  obtain rfl : u = Value.ref a := ru
  have P1 := I1.pin (a, oe) (List.mem_append_left _ hp)
  have hpin : L2H.PinOk X.stack H1 s1 (a, oe) := ⟨P1.1, P1.2.1, fun hm => (List.mem_cons.mp (I1.stkSub _ hm)).elim P1.2.2.1 P1.2.2.2.1, P1.2.2.2.2⟩
  have hb := F.bindsA (ps := ps.args.map (·.arg)) (fun kV doc pm an cdv ct us hl => bind_plain hps hl) s1 [.ref a] (by rw [hpa]; rfl)
  rw [hpa] at hb
  obtain ⟨oc, od, dV, kV, doc, pm, an, cdv, ct, osl, rfl, lk, hcd, _, _⟩ := F.ex
  have rc := run_pin (Q := Q) lk hcd (C8.fnScope_by hS) hdp hpin I1.env0 hb (cls_body B hS hc (by show X.A.units + 3 + 65 < cLine; omega) hm hz hf ht hq)
  refine wpAny_call (codeAny_mono rc fun r s2 hq => ?_)
  cases r with
  | error e => exact (show False from hq).elim
  | ok fw =>
    cases fw with
    | ret u => exact I1.after hq
    | next => exact False.elim hq
    | brk => exact False.elim hq
    | cont => exact False.elim hq
end
/-! ### the def that is handed a lambda -/
def toldB (xc : Str) (N : List Str) (sg : Scope) : List Stmt → Bool
  | [.Try [.Return (some (.Call (.Name a _) [] [] _)) _] [.ExceptHandler (some (.Name e _)) (some n) [.Return (some (.Tuple [.Constant (.str r) _ _, .Call (.Name x _) [.Name n' _] [] _] _ _)) _] _] [] [] _] =>
    decide (N = ([("deed" : Str), ("e" : Str)] : List Str)) && decide (a = "deed") && decide (e = "PipeError") && decide (n = "e") && decide (r = "refused") && decide (x = xc) && decide (n' = "e") && visB sg "deed" && decide (sg.names.lookup ("PipeError" : Str) = some .globalImplicit) && decide (sg.names.lookup ("e" : Str) = some .local) && decide (sg.names.lookup xc = some .globalImplicit) && dbB xc
  | _ => false
theorem told_given {X : Cx} {xs : List Str} {xc x q : Str} {sg : Scope} {g : Addr} {cdg : Value} {bg : List Stmt} {k : Nat} {N : List Str} (hc : toldB xc N sg bg = true) (hS : FnScope N ["deed"] sg) (B : ClsOk X.K X.mg xs xc) (hP : ("PipeError" : Str) ∈ xs) (hr : Room (k + 2) X.A) : GivesTo X N x sg g cdg bg "deed" q (TTold X.K) := by
  unfold toldB at hc
  split at hc
  · rename_i a p1 p2 p3 e p4 n r j p5 x' p6 n' p7 p8 j9 p9 p10 p11 p12
    simp only [Bool.and_eq_true, decide_eq_true_eq] at hc
    obtain ⟨⟨⟨⟨⟨⟨⟨⟨⟨⟨⟨rfl, rfl⟩, rfl⟩, rfl⟩, rfl⟩, rfl⟩, rfl⟩, h8⟩, h9⟩, h10⟩, h11⟩, h12⟩ := hc
    intro f c' s H Q tl act hco htt
    have hdb : (x' == ("__debug__" : Str)) = false := by
      unfold dbB at h12
      simpa using h12
    let Z := (cxOf C8.CX0 X.prog X.w X.K X.mg X.base ["deed", "e"] x sg g cdg X.A X.stack s H C8.E0).nox
    have hr1 : Room (k + 1) Z.A := hr.deeper _
    have T := B.xok "PipeError" hP
    let ts : Addr → Value → Option Addr → TS := fun a cls d D σ H => ∃ c ∈ toldNames, cls = .ref (He.ga X.K c) ∧ d = none ∧ (∃ σ0 : L2.St, σ = σ0.set 1 (some (.ref a))) ∧ Tabs TB.T H ∧ ∀ v H'', Same H H'' → (∀ M, Rep X.K M H'' v (.tuple [.str "refused", .str c])) → D.rt v H''
    have hsu : ∀ (a : Addr) (oe : Obj) (cls : Value) (d : Option Addr) (pn : List (Addr × Obj)), Zc cls d oe → (∃ vs, oe.data = .fields vs) → PSs (Z.suite a ((a, oe) :: pn)) [.Return (some (.Tuple [.Constant (.str "refused") j p5, .Call (.Name x' p6) [.Name "e" p7] [] p8] j9 p9)) p10] (ts a cls d) := fun a oe cls d pn hz hf => by
      have hcall := ce_class (X := Z.suite a ((a, oe) :: pn)) (i := 1) (x := x') (n := "e") (p1 := p6) (p2 := p7) (pos := p8) B List.mem_cons_self hz hf hr1.depth (by have := hr1.un; show (Z.A.mark _).units + 200 < cLine; rw [mark_units]; omega) h11 hdb (by
        unfold nmB
        have : visB sg "e" = true := by
          unfold visB
          simp [h10]
        have e0 : nmB ([("deed" : Str), ("e" : Str)] : List Str) sg 1 "e" = true := by
          unfold nmB
          rw [this]
          decide
        exact e0)
      have hA := pa_cons (pe_str (X := Z.suite a ((a, oe) :: pn)) (x := "refused") (j := j) (pos := p5)) (pa_cons hcall pa_nil rfl) rfl
      have hR := pss_one (ps_ret (pos := p10) (pe_tupP (x1 := j9) (pos := p9) hA))
      refine ⟨fun pins s' σ' H' D I' h' => hR.run pins s' σ' H' D I' ?_⟩
      obtain ⟨c, hm, e1, e2, ⟨σ0, e3⟩, e4, e5⟩ := h'
      have hlen : σ'.length = 2 := I'.len
      have e3' : σ'[1]? = some (some (.ref a)) := by
        rw [e3, List.length_set] at hlen
        rw [e3]
        exact List.getElem?_set_self (by omega)
      refine ⟨c, hm, e1, e2, e3', e4, fun H2 s2 => ⟨by show 2 ≤ sizeLine; decide, fun p' o ho hp => e5 (.ref p') _ (s2.trans (same_new hp)) fun M => new_tup ho hp (by show 2 ≤ sizeLine; decide) (.cons (.str _ (by decide)) (.cons (.str _ ?_) .nil))⟩⟩
      have : ∀ c ∈ toldNames, c.length ≤ sizeLine := by decide +kernel
      exact this c hm
    refine ⟨_, pss_one (ps_try_as (X := Z) (i := 1) (n := "e") (c := .ref (He.ga X.K "PipeError")) (ts := ts) (tb := fun W D σ H => ∃ Ech : XK, (∀ cls d σ' H', Ech cls d H' → W cls d σ' H') ∧ σ[0]? = some (some (.ref f)) ∧ H c' = some (CodeO c' q) ∧ tl Ech H D.rt)
      rfl rfl hS.nd rfl h10 ⟨h9, by decide, .inl T.at_⟩ LamX.takes0 (fun W pn xe tk po => ?_) hsu), ?_⟩
    · refine ⟨fun pins s' σ' H' D I' h' => ?_⟩
      obtain ⟨Ech, hW, e1, e2, e3⟩ := h'
      have hp := act W pn xe Ech p1 p2 tk hW
      exact (pss_one (ps_ret (pos := p3) hp)).run pins s' σ' H' D I' ⟨e1, e2, e3⟩
    · refine ⟨fun cls d H' => ∃ c ∈ toldNames, cls = .ref (He.ga X.K c) ∧ d = none ∧ Tabs TB.T H' ∧ ∀ v H'', Same H' H'' → (∀ M, Rep X.K M H'' v (.tuple [.str "refused", .str c])) → Q v H'', fun cls d σ' H' ⟨c, hm, e1, e2, e3, e4⟩ => ?_, rfl, hco, htt⟩
      subst e1 e2
      refine ⟨true, ?_, fun _ a _ => ⟨c, hm, rfl, rfl, ⟨σ', rfl⟩, e3, e4⟩, fun z => (by cases z)⟩
      refine (T.exm c (B.all c hm)).trans ?_
      unfold subX
      simp
  · cases hc
end Fp
set_option maxHeartbeats 1000000
namespace Fp
open PySem PySem.Spec PyProof.Rows L2
/-! ### what the head must tell -/
def noLists (K : PySem.W.Frag) : Bool := K.all fun q => !decide (q.2.cls = .type "list")
theorem lookup_in {α : Type} {a : Addr} {o : α} : ∀ {K : List (Addr × α)}, K.lookup a = some o → (a, o) ∈ K
  | [], h => by cases h
  | (b, u) :: K, h => by
    unfold List.lookup at h
    split at h
    · rename_i e
      cases h
      rw [show a = b from by simpa using e]
      exact List.mem_cons_self
    · exact List.mem_cons_of_mem _ (lookup_in h)
theorem rd_of {K : PySem.W.Frag} {H : Hp} {a : Addr} {xs : List V} (h : noLists K = true) (q : SqL K H a xs) : Rd H a (.lst xs) := by
  rcases q with q | ⟨o, its, n, hk, hc, _⟩
  · exact q
  · have hm := lookup_in hk
    unfold noLists at h
    rw [List.all_eq_true] at h
    have := h _ hm
    simp [hc] at this
def xcB (K : PySem.W.Frag) (xs : List Str) (t : Str) : Bool :=
  decide (PySem.W.findIn K (.ref (He.ga K t)) "__getattribute__" = some (some (.builtin "BaseException.__getattribute__"))) && decide (PySem.W.findIn K (.ref (He.ga K t)) "__getattr__" = some none) && decide (PySem.W.subIn K (.ref (He.ga K t)) (.type "BaseException") = some true)
  && PySem.W.hasDictIn K (He.ga K t) && decide (PySem.W.findIn K (.ref (He.ga K t)) "__class__" = some (some (.builtin "object.__class__"))) && decide (PySem.W.specialIn K (.builtin "object.__class__") "__get__" = some (some (.builtin "getset_descriptor.__get__")))
  && decide (PySem.W.takesIn K (.builtin "object.__class__") = some true) && decide (PySem.W.mroIn K (He.ga K t) (.type "object") = some true)
  && xs.all (fun c => decide (PySem.W.kitOne K (.ref (He.ga K c)) (.ref (He.ga K t)) = some (subX c t))) && xs.all (fun c => decide (PySem.W.exmOne K (.ref (He.ga K c)) (.ref (He.ga K t)) = some (subX c t)))
def veB (K : PySem.W.Frag) (c : Str) : Bool := decide (PySem.W.kitOne K (.ref (He.ga K c)) (.type "ValueError") = some true)
/-- an empty tuple that is a constant -/
def utB (K : PySem.W.Frag) (x : Str) : Bool := match K.lookup (He.ga K x) with
  | some ⟨c, none, .seq its _, sl⟩ => decide (c = .type "tuple") && decide (sl.size = 0) && decide (its.size = 0)
  | _ => false
theorem ut_ok {K : PySem.W.Frag} {x : Str} (h : utB K x = true) : ∃ o n, K.lookup (He.ga K x) = some o ∧ plO o ∧ o.data = .seq #[] n := by
  unfold utB at h
  split at h
  · rename_i c its n sl e
    simp only [Bool.and_eq_true, decide_eq_true_eq] at h
    obtain ⟨⟨h1, h2⟩, h3⟩ := h
    refine ⟨_, n, e, ⟨h1, rfl, ?_⟩, ?_⟩
    · exact Array.eq_empty_of_size_eq_zero h2
    · rw [Array.eq_empty_of_size_eq_zero h3]
  · cases h
def moreB (xs ts : List Str) (tf : List He.Defn) (K : PySem.W.Frag) : Bool := (ts.all fun t => utB K t) && noLists K && (xs.all fun t => xcB K xs t) && (xs.all fun t => veB K t) && decide (tf.map fun p => (He.cT K p).2).Nodup
def cFa (x : Str) : D → He.Fa
  | .int i => .int x i
  | .str z => .str x z
  | _ => .glo x
/-- the facts of a head -/
def faOf (defs : List Str) (blts : List String) (cs : List (Str × D)) (xs ts : List Str) : List He.Fa :=
  (ts ++ defs).map He.Fa.glo ++ blts.map (fun x => He.Fa.free (Str.ofString x)) ++ cs.map (fun q => cFa q.1 q.2) ++ xs.map He.Fa.glo ++ xs.map He.Fa.exc
def csOk (cs : List (Str × D)) : Bool := cs.all fun q => match q.2 with
  | .int _ => true
  | .str z => decide (z.length ≤ 100000)
  | _ => false
theorem xs_ok {K : PySem.W.Frag} {h : Heap} {mg : Str → Option Value} {fa : List He.Fa} {xs ts : List Str} {tf : List He.Defn} (KX : K.In h) (G : h.Ns mainGlobals mg) (hf : ∀ f ∈ fa, f.ok K = true) (hg : ∀ t ∈ xs, He.Fa.glo t ∈ fa) (hx : ∀ t ∈ xs, He.Fa.exc t ∈ fa) (hm : moreB xs ts tf K = true) : ∀ t ∈ xs, XOk K mg xs t := fun t ht => by
  unfold moreB at hm
  simp only [Bool.and_eq_true, List.all_eq_true] at hm
  have q := hm.1.1.2 t ht
  unfold xcB at q
  simp only [Bool.and_eq_true, decide_eq_true_eq, List.all_eq_true] at q
  obtain ⟨⟨⟨⟨⟨⟨⟨⟨⟨q1, q2⟩, q3⟩, q4⟩, q5⟩, q6⟩, q7⟩, q8⟩, q9⟩, q10⟩ := q
  exact ⟨He.glo_ok KX G (hf _ (hg t ht)), hf _ (hx t ht), ⟨q1, q2, q3, q4, q5, q6, q7, q8⟩, q9, q10⟩
theorem ve_ok {K : PySem.W.Frag} {xs ts : List Str} {tf : List He.Defn} (hm : moreB xs ts tf K = true) : ∀ c ∈ xs, PySem.W.kitOne K (.ref (He.ga K c)) (.type "ValueError") = some true := fun c hc => by
  unfold moreB at hm
  simp only [Bool.and_eq_true, List.all_eq_true] at hm
  exact of_decide_eq_true (hm.1.2 c hc)
/-- a plain def -/
def defB (d : He.DefD) : Bool := decide (d.at_ = (d.name, none)) && decide (d.qual = d.name) && d.dfl.isEmpty && d.kwd.isEmpty && plainPs d.params
theorem defB_ok {K : PySem.W.Frag} {d : He.DefD} {fd : FuncData} (h : defB d = true) (F : FunD K d.name d.qual d.params d.body d.scope (d.dvs K) (d.kws K) (He.fAd K d.at_) fd) : FunD K d.name d.name d.params d.body d.scope [] [] (He.ga K d.name) fd ∧ plainPs d.params = true := by
  unfold defB at h
  simp only [Bool.and_eq_true, decide_eq_true_eq, List.isEmpty_iff] at h
  obtain ⟨⟨⟨⟨c1, c2⟩, c3⟩, c4⟩, c5⟩ := h
  have e1 : d.dvs K = [] := by unfold He.DefD.dvs; rw [c3]; rfl
  have e2 : d.kws K = [] := by unfold He.DefD.kws; rw [c4]; rfl
  have e3 : He.fAd K d.at_ = He.ga K d.name := by rw [c1]; rfl
  rw [e1, e2, e3] at F
  have : FunD K d.name d.qual d.params d.body d.scope [] [] (He.ga K d.name) fd := F
  rw [c2] at this
  exact ⟨this, c5⟩
/-- the defs that tell what a lambda gives -/
def exB (xs tl : List Str) : List He.DefD → Bool
  | [] => tl.isEmpty
  | [c, t] => decide (tl = [t.name]) && defB c && defB t && decide (c.params.args.map (·.arg) = ([("e" : Str)] : List Str)) && C8.scC clsN ["e"] c.scope && chkSs clsN (pX xs) c.scope false clsC c.body && decide (t.params.args.map (·.arg) = ([("deed" : Str)] : List Str)) && C8.scC ["deed", "e"] ["deed"] t.scope && toldB c.name ["deed", "e"] t.scope t.body
    && toldNames.all (fun x => decide (x ∈ xs)) && decide (("PipeError" : Str) ∈ xs)
  | _ => false
theorem told_ok [TB] {P : Program} {w : World} {K : PySem.W.Frag} {mg : Str → Option Value} {base : Heap} {xs tl : List Str} {ex : List He.DefD} {k : Nat} (h : exB xs tl ex = true) (hF : ∀ d ∈ ex, (∃ fd, FunD K d.name d.qual d.params d.body d.scope (d.dvs K) (d.kws K) (He.fAd K d.at_) fd) ∧ mg d.name = some (.ref (He.ga K d.name)))
    (hb : ∀ x ∈ bltNames, mg (Str.ofString x) = none) (hx : ∀ t ∈ xs, XOk K mg xs t) (hv : ∀ c ∈ xs, PySem.W.kitOne K (.ref (He.ga K c)) (.type "ValueError") = some true) : ∀ x ∈ tl, ToldGood P w K mg base (k + 2) x := by
  unfold exB at h
  split at h
  · rw [List.isEmpty_iff] at h
    subst h
    exact fun _ z => (by cases z)
  · rename_i c t
    simp only [Bool.and_eq_true, decide_eq_true_eq, List.all_eq_true] at h
    obtain ⟨⟨⟨⟨⟨⟨⟨⟨⟨⟨rfl, h1⟩, h2⟩, h3⟩, h4⟩, h5⟩, h6⟩, h7⟩, h8⟩, h9⟩, h10⟩ := h
    obtain ⟨⟨fc, Fc⟩, mc⟩ := hF c List.mem_cons_self
    obtain ⟨⟨ft, Ft⟩, mt⟩ := hF t (List.mem_cons_of_mem _ List.mem_cons_self)
    obtain ⟨Fc', pc⟩ := defB_ok h1 Fc
    obtain ⟨Ft', pt⟩ := defB_ok h2 Ft
    intro x hx'
    obtain rfl := List.mem_singleton.mp hx'
    have B : ClsOk K mg xs c.name := ⟨mc, ⟨c.params, c.body, c.scope, fc, Fc', pc, h3, h4, h5⟩, hb, hx, hv, h9⟩
    have hbd := Ft'.bindsN (ps := t.params.args.map (·.arg)) (fun kV doc pm an cdv ct us hl => bind_plain pt hl)
    rw [h6] at hbd
    obtain ⟨oc, od, dV, kV, doc, pm, an, cdv, ct, osl, rfl, lk, hcd, _, _⟩ := Ft'.ex
    have S := C8.fnScope_by h7
    have hvis : Vis t.scope "deed" := by
      have := h8
      unfold toldB at this
      split at this
      · simp only [Bool.and_eq_true, decide_eq_true_eq] at this
        exact visB_ok this.1.1.1.1.2
      · cases this
    refine ⟨He.ga K t.name, t.params, t.body, t.scope, dV, kV, doc, pm, cdv, ct, oc, an, od, osl, ["deed", "e"], "deed", mt, Ft'.kp, lk, hcd, hbd, S, rfl, hvis, by decide, by decide, fun X q e1 e2 e3 e4 e5 hr => ?_⟩
    subst e1 e2 e3 e4 e5
    exact told_given h8 S B h10 hr
  · cases h
/-- a head's facts, for a program of defs -/
theorem pok_of [TB] {P : Program} {w : World} {K : PySem.W.Frag} {base : Heap} {mg : Str → Option Value} {defs : List Str} {cs : List (Str × D)} {xs tl ts : List Str} {tf : List He.Defn} {ex : List He.DefD} {k : Nat} {G0 : Str → List D → Res D} (KX : K.In base) (G : base.Ns mainGlobals mg) (hf : ∀ f ∈ faOf defs bltNames cs xs ts, f.ok K = true) (hm : moreB xs ts tf K = true) (hc : csOk cs = true)
    (he : exB xs tl ex = true) (hF : ∀ d ∈ ex, (∃ fd, FunD K d.name d.qual d.params d.body d.scope (d.dvs K) (d.kws K) (He.fAd K d.at_) fd) ∧ mg d.name = some (.ref (He.ga K d.name))) : Pok P w K mg base ⟨G0, cs, xs, [], tl, false, ts⟩ k := by
  have hb : ∀ x ∈ bltNames, mg (Str.ofString x) = none := fun x hx => by
    refine He.free_ok KX G (hf _ ?_)
    unfold faOf
    simp only [List.mem_append, List.mem_map]
    exact .inl (.inl (.inl (.inr ⟨x, hx, rfl⟩)))
  have hx : ∀ t ∈ xs, XOk K mg xs t := by
    refine xs_ok KX G hf (fun t ht => ?_) (fun t ht => ?_) hm
    · unfold faOf
      simp only [List.mem_append, List.mem_map]
      exact .inl (.inr ⟨t, ht, rfl⟩)
    · unfold faOf
      simp only [List.mem_append, List.mem_map]
      exact .inr ⟨t, ht, rfl⟩
  have ht : ∀ x ∈ ts, mg x = some (.ref (He.ga K x)) ∧ ∃ o n, K.lookup (He.ga K x) = some o ∧ plO o ∧ o.data = .seq #[] n := fun x hx' => by
    refine ⟨He.glo_ok KX G (hf _ ?_), ?_⟩
    · unfold faOf
      simp only [List.mem_append, List.mem_map]
      exact .inl (.inl (.inl (.inl ⟨x, .inl hx', rfl⟩)))
    · unfold moreB at hm
      simp only [Bool.and_eq_true, List.all_eq_true] at hm
      exact ut_ok (hm.1.1.1.1 x hx')
  refine ⟨fun f hf => (by cases hf), hb, fun x d hx => ?_, hx, ht, ve_ok hm, told_ok he hF hb hx (ve_ok hm)⟩
  have hx : (x, d) ∈ cs := hx
  unfold csOk at hc
  rw [List.all_eq_true] at hc
  have hq := hc _ hx
  have hin : cFa x d ∈ faOf defs bltNames cs xs ts := by
    unfold faOf
    simp only [List.mem_append, List.mem_map]
    exact .inl (.inl (.inr ⟨(x, d), hx, rfl⟩))
  cases d with
  | int i =>
    obtain ⟨t, e⟩ := He.int_ok KX G (hf _ hin)
    exact .inl ⟨i, t, rfl, e⟩
  | str z =>
    obtain ⟨t, e⟩ := He.str_ok KX G (hf _ hin)
    exact .inr ⟨z, t, rfl, Nat.le_trans (of_decide_eq_true hq) (by decide), e⟩
  | _ => cases hq
/-- the law's value, by the tables -/
def lawD (p0 : Pg) (ds : List Dd) (d0 : Dd) : List D → Res D := fnD (gTab p0.G ds) d0.np (d0.N.length - d0.np) d0.b
/-- the defs that make lambdas -/
def tfOf (ds : List Dd) : List He.Defn := (ds.filter (·.lm)).map fun d => (d.d.name, none)
def tabT (K : PySem.W.Frag) (tf : List He.Defn) : List (Addr × Str) := tf.map fun p => ((He.cT K p).2, (p.1 ++ ".<locals>.") ++ "<lambda>")
theorem nodup_at {α β : Type} {f : α → β} : ∀ {l : List α}, (l.map f).Nodup → ∀ {a b : α}, a ∈ l → b ∈ l → f a = f b → a = b
  | [], _, _, _, h, _, _ => by cases h
  | x :: l, hn, a, b, ha, hb, e => by
    rw [List.map_cons, List.nodup_cons] at hn
    rcases List.mem_cons.mp ha with rfl | ha'
    · rcases List.mem_cons.mp hb with rfl | hb'
      · rfl
      · exact absurd (List.mem_map.mpr ⟨b, hb', e.symm⟩) hn.1
    · rcases List.mem_cons.mp hb with rfl | hb'
      · exact absurd (List.mem_map.mpr ⟨a, ha', e⟩) hn.1
      · exact nodup_at hn.2 ha' hb' e
theorem code_ref {K : PySem.W.Frag} {cdv : Value} {q : Str} (h : PySem.W.codeIn K cdv q = true) : ∃ c, cdv = .ref c := by
  unfold PySem.W.codeIn at h
  split at h
  · exact ⟨_, rfl⟩
  · cases h
theorem law_at {l : PySem.W.OpenLaw} {w : World} {K : PySem.W.Frag} {mg : Str → Option Value} {h : Heap} {fa : Addr} {fas : List He.Fa} {fn : List He.DefD} {xs tl ts : List Str} {cs : List (Str × D)} {ds : List Dd} {d0 : Dd} {ex : List He.DefD} {n : Nat} {x : Str}
    (KX : K.In h) (G : h.Ns mainGlobals mg) (hfa : mg d0.d.name = some (.ref fa)) (hs : He.SaysX fas fn [] (tfOf (ds ++ [d0])) (moreB xs ts (tfOf (ds ++ [d0]))) w h K)
    (hfas : fas = faOf (fn.map (·.name)) bltNames cs xs ts) (hfn : fn = (ds ++ [d0]).map (·.d) ++ ex) (hc : csOk cs = true) (hps : d0.d.params.args.map (·.arg) = [x]) {G0 : Str → List D → Res D} (hex : exB xs tl ex = true)
    (hchk : chkTab ⟨G0, cs, xs, [], tl, false, ts⟩ ds = true) (hchk0 : d0.chk (pTab ⟨G0, cs, xs, [], tl, false, ts⟩ ds) = true)
    (hlaw : ∀ ns : List Int, ns.length ≤ n → (∀ z ∈ ns, Builtin.Int.intBits z ≤ 1048576) → lawD ⟨G0, cs, xs, [], tl, false, ts⟩ ds d0 [.list (ns.map .int)] = .ok (.bool true)) (hn : n ≤ sizeLine) :
    LamX.LawAtS l w K (CX l.prog w) (lvl ds + 3) n x mg fa h := by
  letI tb : TB := ⟨tabT K (tfOf (ds ++ [d0])), l.prog, w⟩
  have hdefD : ∀ d ∈ fn, (∃ fd, FunD K d.name d.qual d.params d.body d.scope (d.dvs K) (d.kws K) (He.fAd K d.at_) fd) ∧ mg d.name = some (.ref (He.ga K d.name)) := fun d hm => by
    refine ⟨(He.SaysT.d hs.t).defs hm, He.glo_ok KX G ((He.SaysT.d hs.t).facts ?_)⟩
    rw [hfas]
    unfold faOf
    simp only [List.mem_append, List.mem_map]
    exact .inl (.inl (.inl (.inl ⟨d.name, .inr ⟨d, hm, rfl⟩, rfl⟩)))
  have hdef : ∀ d ∈ ds ++ [d0], (∃ fd, FunD K d.d.name d.d.qual d.d.params d.d.body d.d.scope (d.d.dvs K) (d.d.kws K) (He.fAd K d.d.at_) fd) ∧ mg d.d.name = some (.ref (He.ga K d.d.name)) := fun d hd => hdefD d.d (by rw [hfn]; exact List.mem_append.mpr (.inl (List.mem_map.mpr ⟨d, hd, rfl⟩)))
  have hdex : ∀ d ∈ ex, (∃ fd, FunD K d.name d.qual d.params d.body d.scope (d.dvs K) (d.kws K) (He.fAd K d.at_) fd) ∧ mg d.name = some (.ref (He.ga K d.name)) := fun d hd => hdefD d (by rw [hfn]; exact List.mem_append.mpr (.inr hd))
  obtain ⟨⟨fd, F⟩, hm0⟩ := hdef d0 (List.mem_append.mpr (.inr List.mem_cons_self))
  have e := hfa.symm.trans hm0
  cases e
  have hchk1 := hchk0
  unfold Dd.chk at hchk0
  simp only [Bool.and_eq_true, decide_eq_true_eq, List.isEmpty_iff] at hchk0
  obtain ⟨⟨⟨⟨⟨⟨⟨c1, c2⟩, c3⟩, c4⟩, c5⟩, c6⟩, c7⟩, c8⟩ := hchk0
  have F' : FunD K d0.d.name d0.d.name d0.d.params d0.d.body d0.d.scope [] [] (He.ga K d0.d.name) fd := by
    have e1 : d0.d.dvs K = [] := by unfold He.DefD.dvs; rw [c3]; rfl
    have e2 : d0.d.kws K = [] := by unfold He.DefD.kws; rw [c4]; rfl
    have e3 : He.fAd K d0.d.at_ = He.ga K d0.d.name := by rw [c1]; rfl
    rw [e1, e2, e3] at F
    have : FunD K d0.d.name d0.d.qual d0.d.params d0.d.body d0.d.scope [] [] (He.ga K d0.d.name) fd := F
    rw [c2] at this
    exact this
  have el : (d0.d.params.args.map (·.arg)).length = d0.np := by unfold Dd.np; simp
  have hmo := hs.more
  unfold moreB at hmo
  simp only [Bool.and_eq_true, decide_eq_true_eq] at hmo
  refine ⟨fd, (tfOf (ds ++ [d0])).map (He.cT K), spOf K 1 (lawD ⟨G0, cs, xs, [], tl, false, ts⟩ ds d0), fun p hp => ?_, fun p hp => ?_, fun p hp => ?_, fun s u => ?_, fun H a ns hl hb hT hq => ?_, fun base KB GB hTB => ?_⟩
  · obtain ⟨q, hq, rfl⟩ := List.mem_map.mp hp
    exact hs.empty q hq
  · obtain ⟨q, hq, rfl⟩ := List.mem_map.mp hp
    exact hs.out q hq
  · obtain ⟨q, hq, rfl⟩ := List.mem_map.mp hp
    exact PySem.W.codeHd_of_K KX (hs.hd q hq)
  · have := FunD.bindsA (ps := d0.d.params.args.map (·.arg)) F' (fun kV doc pm an cdv ct us hl => bind_plain c5 hl) s [u] (by rw [hps]; rfl)
    rw [hps] at this
    exact this
  · have hr := rd_of hmo.1.1.1.2 hq
    have hints : ∀ ns : List Int, RepL K (fun _ => False) H (ns.map V.int) (ns.map PyData.int) := fun ns => RepL.ints
    have tH : LamX.Tabs TB.T H := fun q hq => by
      obtain ⟨p, hp, rfl⟩ := List.mem_map.mp (show q ∈ tabT K (tfOf (ds ++ [d0])) from hq)
      exact LamX.TabS.nil (hT _ (List.mem_map.mpr ⟨p, hp, rfl⟩))
    refine ⟨rfl, [.list (ns.map .int)], fun _ => False, .cons (.lst hr (fun z => z) (by simp; omega) (hints ns)) .nil, ⟨fun _ z => z.elim, tH⟩, ?_⟩
    rw [hlaw ns hl hb]
    intro v H' _ rv
    cases rv
    rfl
  · have hL : ∀ d ∈ ds ++ [d0], d.lm = true → d.d.at_ = (d.d.name, none) → LamK K mg base d.d.name := fun d hd hlm hat => by
      have hp : ((d.d.name, none) : He.Defn) ∈ tfOf (ds ++ [d0]) := List.mem_map.mpr ⟨d, List.mem_filter.mpr ⟨hd, hlm⟩, rfl⟩
      obtain ⟨⟨fd', F2⟩, _⟩ := hdef d hd
      rw [hat] at F2
      obtain ⟨oc, od, dV, kV, doc, pm, an, cdv, ct, osl, rfl, lk, hcd, _, _⟩ := F2.ex
      obtain ⟨c, rfl⟩ := code_ref hcd
      have ec : He.codeOf K (d.d.name, none) = c := He.codeOf_eq (p := (d.d.name, none)) lk rfl
      have hT := hTB _ (List.mem_map.mpr ⟨_, hp, rfl⟩)
      have e1 : (He.cT K (d.d.name, none)).1 = c := ec
      rw [e1] at hT
      refine ⟨oc, od, _, osl, c, (He.cT K (d.d.name, none)).2, lk, rfl, hT, List.mem_map.mpr ⟨_, hp, rfl⟩, fun q hq e => ?_⟩
      obtain ⟨p', hp', rfl⟩ := List.mem_map.mp (show q ∈ tabT K (tfOf (ds ++ [d0])) from hq)
      have := nodup_at (f := fun p => (He.cT K p).2) hmo.2 hp' hp e
      rw [this]
    have hat : ∀ {ds : List Dd}, chkTab ⟨G0, cs, xs, [], tl, false, ts⟩ ds = true → ∀ d ∈ ds, d.d.at_ = (d.d.name, none) := fun {ds} => by
      induction ds with
      | nil => exact fun _ _ z => (by cases z)
      | cons d ds ih =>
        intro hk d' hd'
        unfold chkTab at hk
        simp only [Bool.and_eq_true, decide_eq_true_eq] at hk
        rcases List.mem_cons.mp hd' with rfl | hd'
        · have := hk.2
          unfold Dd.chk at this
          simp only [Bool.and_eq_true, decide_eq_true_eq] at this
          exact this.1.1.1.1.1.1.1
        · exact ih hk.1.1 d' hd'
    have B : Pok l.prog w K mg base ⟨G0, cs, xs, [], tl, false, ts⟩ 0 := pok_of (defs := fn.map (·.name)) (ex := ex) KB GB (fun f hf => (He.SaysT.d hs.t).facts (by rw [hfas]; exact hf)) hs.more hc hex hdex
    have T := tab_ok B (fun d hd => hdef d (List.mem_append.mpr (.inl hd))) (fun d hd hlm => hL d (List.mem_append.mpr (.inl hd)) hlm (hat hchk d hd)) hchk
    have TL : Pok l.prog w K mg base { pTab ⟨G0, cs, xs, [], tl, false, ts⟩ ds with lm := d0.lm } (0 + lvl ds) := ⟨T.fns, T.blt, T.cst, T.xok, T.tps, T.vok, T.told⟩
    have g := def_fn TL F' c5 (by rw [el]; exact c6) c7 c8 (j := lvl ds + 2) (by omega) (fun z => ⟨by omega, hL d0 (List.mem_append.mpr (.inr List.mem_cons_self)) z c1⟩)
    rw [el] at g
    rw [hps] at g el
    have e1 : d0.np = 1 := by rw [← el]; rfl
    unfold lawD
    rw [e1] at g ⊢
    exact g
end Fp
set_option maxHeartbeats 1000000
/-! values of codes, for reasoning -/
namespace Fp
open PySem
def finD : Fl → Res D
  | .nx _ => .ok .none
  | .rt d => .ok d
  | .ex c _ => .exc c
  | .bad => .err
@[simp] theorem fin_rt {d : D} : finD (.rt d) = .ok d := rfl
@[simp] theorem fin_nx {ρ : Slots} : finD (.nx ρ) = .ok .none := rfl
@[simp] theorem fin_ex {c : Str} {ρ : Slots} : finD (.ex c ρ) = .exc c := rfl
section
variable {α β : Type} {ρ : Slots} {G : Str → List D → Res D}
@[simp] theorem res_assoc {γ : Type} {r : Res α} {f : α → Res β} {g : β → Res γ} : ((r >>= f) >>= g) = (r >>= fun a => f a >>= g) := by cases r <;> rfl
@[simp] theorem liftR_ok {a : α} {f : α → Fl} : liftR ρ (.ok a) f = f a := rfl
@[simp] theorem liftR_exc {c : Str} {f : α → Fl} : liftR ρ (.exc c) f = .ex c ρ := rfl
@[simp] theorem then_nx {ρ' : Slots} {f : Slots → Fl} : (Fl.nx ρ').then f = f ρ' := rfl
@[simp] theorem then_rt {d : D} {f : Slots → Fl} : (Fl.rt d).then f = .rt d := rfl
@[simp] theorem then_ex {c : Str} {ρ' : Slots} {f : Slots → Fl} : (Fl.ex c ρ').then f = .ex c ρ' := rfl
@[simp] theorem ofR_ok {ρ' : Slots} : Fl.ofR (.ok ρ') = .nx ρ' := rfl
@[simp] theorem asBool_bool {b : Bool} : asBool (.bool b) = .ok b := rfl
section
variable {op : Operator} {co o o' : CmpOp} {a b c t elt : E} {es : Es} {i : Nat} {d : D} {lo hi : Eo} {tg tg2 : Tg} {it it2 : It} {cnd : Eo} {own ws : List Nat} {ss : Ss} {s : S}
@[simp] theorem ev_var : ev G (.var i) ρ = slotD ρ i := rfl
@[simp] theorem ev_own : ev G (.own i) ρ = slotO ρ i := rfl
@[simp] theorem ev_cst : ev G (.cst d) ρ = .ok d := rfl
@[simp] theorem ev_glb : ev G (.glb d) ρ = .ok d := rfl
@[simp] theorem ev_tup : ev G (.tup es) ρ = (evs G es ρ >>= fun ds => .ok (.tuple ds)) := rfl
@[simp] theorem ev_lst : ev G (.lst es) ρ = (evs G es ρ >>= fun ds => .ok (.list ds)) := rfl
@[simp] theorem ev_bin : ev G (.bin op a b) ρ = (ev G a ρ >>= fun x => ev G b ρ >>= fun y => binD op x y) := rfl
@[simp] theorem ev_cmp : ev G (.cmp co a b) ρ = (ev G a ρ >>= fun x => ev G b ρ >>= fun y => cmpD co x y >>= fun r => .ok (.bool r)) := rfl
@[simp] theorem ev_chn : ev G (.chn o o' a b c) ρ = (ev G a ρ >>= fun x => ev G b ρ >>= fun y => cmpD o x y >>= fun r => if r then ev G c ρ >>= fun z => cmpD o' y z >>= fun q => .ok (.bool q) else .ok (.bool false)) := rfl
@[simp] theorem ev_bop {op : BoolOp} : ev G (.bop op es) ρ = evb G op es ρ := rfl
@[simp] theorem ev_not : ev G (.not a) ρ = (ev G a ρ >>= fun x => asBool x >>= fun b => .ok (.bool (!b))) := rfl
@[simp] theorem ev_ite : ev G (.ite t a b) ρ = (ev G t ρ >>= fun x => asBool x >>= fun c => if c then ev G a ρ else ev G b ρ) := rfl
@[simp] theorem ev_idx : ev G (.idx a b) ρ = (ev G a ρ >>= fun x => ev G b ρ >>= fun y => idxD x y) := rfl
@[simp] theorem ev_slc : ev G (.slc a lo hi) ρ = (ev G a ρ >>= fun x => evo G lo ρ >>= fun l => partD l >>= fun l => evo G hi ρ >>= fun h => partD h >>= fun h => slcD x l h) := rfl
@[simp] theorem ev_rev : ev G (.rev a) ρ = (ev G a ρ >>= fun x => revD x) := rfl
@[simp] theorem ev_call {f : Str} : ev G (.call f es) ρ = (evs G es ρ >>= fun ds => G f ds) := rfl
@[simp] theorem ev_blt {f : Bf} : ev G (.blt f a) ρ = (ev G a ρ >>= fun x => bltD f x) := rfl
@[simp] theorem ev_blt2 {f : Bf} : ev G (.blt2 f a b) ρ = (ev G a ρ >>= fun x => ev G b ρ >>= fun y => blt2D f x y) := rfl
@[simp] theorem ev_isi {t : Ty} : ev G (.isi a t) ρ = (ev G a ρ >>= fun x => .ok (.bool (isiD x t))) := rfl
@[simp] theorem ev_isx {t : Str} : ev G (.isx i t) ρ = isxD ρ i t := rfl
@[simp] theorem ev_mth {m : Mf} : ev G (.mth m a b) ρ = (ev G a ρ >>= fun x => mthO m x >>= fun _ => ev G b ρ >>= fun y => mthD m x y) := rfl
@[simp] theorem ev_lc : ev G (.lc own elt tg it cnd) ρ = (evi G it ρ >>= fun xs => lcGo tg (wipeE ρ own) (fun ρ1 => evc G cnd ρ1) (fun ρ1 => ev G elt ρ1) xs >>= fun ds => .ok (.list ds)) := rfl
@[simp] theorem ev_lc2 : ev G (.lc2 own elt tg it tg2 it2 cnd) ρ = (evi G it ρ >>= fun xs =>
      lc2Go tg (wipeE ρ own) (fun ρ1 => (evi G it2 ρ1).tame >>= fun ys => lcGo tg2 (wipeE ρ1 (tgIx tg2)) (fun ρ2 => evc G cnd ρ2) (fun ρ2 => ev G elt ρ2) ys) xs >>= fun ds =>
        if ds.length ≤ sizeLine then .ok (.list ds) else .err) := rfl
@[simp] theorem evs_nil : evs G .nil ρ = .ok [] := rfl
@[simp] theorem evs_cons : evs G (.cons a es) ρ = (ev G a ρ >>= fun d => evs G es ρ >>= fun ds => .ok (d :: ds)) := rfl
@[simp] theorem evo_no : evo G .no ρ = .ok none := rfl
@[simp] theorem evo_so : evo G (.so a) ρ = (ev G a ρ >>= fun d => .ok (some d)) := rfl
@[simp] theorem evc_no : evc G .no ρ = .ok true := rfl
@[simp] theorem evc_so : evc G (.so a) ρ = (ev G a ρ >>= fun d => asBool d) := rfl
@[simp] theorem evi_seq : evi G (.seq a) ρ = (ev G a ρ >>= fun x => itemsD x) := rfl
@[simp] theorem evi_zip : evi G (.zip a b) ρ = (ev G a ρ >>= fun x => ev G b ρ >>= fun y => seqD x >>= fun xs => seqD y >>= fun ys => .ok (pairsD xs ys)) := rfl
@[simp] theorem evi_zip3 : evi G (.zip3 a b c) ρ = (ev G a ρ >>= fun x => ev G b ρ >>= fun y => ev G c ρ >>= fun z => seqD x >>= fun xs => seqD y >>= fun ys => seqD z >>= fun zs => .ok (trisD xs ys zs)) := rfl
@[simp] theorem evi_enm : evi G (.enm a) ρ = (ev G a ρ >>= fun x => seqD x >>= fun xs => .ok (numbD xs)) := rfl
def rngD : D → Res (List D)
  | .int j => rangeD 0 j
  | _ => .err
def rng2D : D → D → Res (List D)
  | .int i, .int j => rangeD i j
  | _, _ => .err
@[simp] theorem evi_rng : evi G (.rng a) ρ = (ev G a ρ >>= fun x => rngD x) := rfl
@[simp] theorem evi_rng2 : evi G (.rng2 a b) ρ = (ev G a ρ >>= fun x => ev G b ρ >>= fun y => rng2D x y) := rfl
@[simp] theorem rngD_int {j : Int} : rngD (.int j) = rangeD 0 j := rfl
@[simp] theorem rng2D_int {i j : Int} : rng2D (.int i) (.int j) = rangeD i j := rfl
def negD : D → Res D
  | .int i => .ok (.int (-i))
  | _ => .err
@[simp] theorem ev_neg : ev G (.neg a) ρ = (ev G a ρ >>= negD) := rfl
@[simp] theorem negD_int {j : Int} : negD (.int j) = .ok (.int (-j)) := rfl
@[simp] theorem evb_1 {op : BoolOp} : evb G op (.cons a .nil) ρ = ev G a ρ := evb_one
def andGo (x : D) (k : Res D) : Res D := match x with
  | .bool true => k
  | .bool false => .ok (.bool false)
  | _ => .err
def orGo (x : D) (k : Res D) : Res D := match x with
  | .bool true => .ok (.bool true)
  | .bool false => k
  | _ => .err
@[simp] theorem evb_a : evb G .And (.cons a (.cons b es)) ρ = (ev G a ρ >>= fun x => andGo x (evb G .And (.cons b es) ρ)) := by
  rw [evb_and]
  congr 1
  funext x
  cases x <;> first | rfl | (rename_i b; cases b <;> rfl)
@[simp] theorem evb_o : evb G .Or (.cons a (.cons b es)) ρ = (ev G a ρ >>= fun x => orGo x (evb G .Or (.cons b es) ρ)) := by
  rw [evb_or]
  congr 1
  funext x
  cases x <;> first | rfl | (rename_i b; cases b <;> rfl)
@[simp] theorem andGo_t {k : Res D} : andGo (.bool true) k = k := rfl
@[simp] theorem andGo_f {k : Res D} : andGo (.bool false) k = .ok (.bool false) := rfl
@[simp] theorem orGo_t {k : Res D} : orGo (.bool true) k = .ok (.bool true) := rfl
@[simp] theorem orGo_f {k : Res D} : orGo (.bool false) k = k := rfl
@[simp] theorem andGo_b {x y : Bool} : andGo (.bool x) (.ok (.bool y)) = .ok (.bool (x && y)) := by cases x <;> rfl
@[simp] theorem orGo_b {x y : Bool} : orGo (.bool x) (.ok (.bool y)) = .ok (.bool (x || y)) := by cases x <;> rfl
@[simp] theorem slot_0 {ρ : Slots} : slotD (.fz d :: ρ) 0 = .ok d := rfl
@[simp] theorem slot_s {ρ : Slots} {x : Slot} : slotD (x :: ρ) (i + 1) = slotD ρ i := by
  unfold slotD
  rw [List.getElem?_cons_succ]
@[simp] theorem sloto_0 {ρ : Slots} : slotO (.ow d :: ρ) 0 = .ok d := rfl
@[simp] theorem sloto_s {ρ : Slots} {x : Slot} : slotO (x :: ρ) (i + 1) = slotO ρ i := by
  unfold slotO
  rw [List.getElem?_cons_succ]
@[simp] theorem slotl_0 {ρ : Slots} {xs : List D} : slotL (.ow (.list xs) :: ρ) 0 = .ok xs := rfl
@[simp] theorem slotl_s {ρ : Slots} {x : Slot} : slotL (x :: ρ) (i + 1) = slotL ρ i := by
  unfold slotL
  rw [List.getElem?_cons_succ]
@[simp] theorem wipe_nil : wipeE ρ [] = ρ := rfl
@[simp] theorem wipe_cons {v : Nat} {vs : List Nat} : wipeE ρ (v :: vs) = (wipeE ρ vs).set v .no := rfl
@[simp] theorem ex_nil : exSs G .nil ρ = .nx ρ := rfl
@[simp] theorem ex_cons : exSs G (.cons s ss) ρ = (exS G s ρ).then fun ρ' => exSs G ss ρ' := rfl
@[simp] theorem ex_set : exS G (.set tg a) ρ = liftR ρ (ev G a ρ) fun d => .ofR (bindT tg d ρ) := rfl
@[simp] theorem ex_own : exS G (.own i a) ρ = liftR ρ (ev G a ρ) fun d => .ofR (ownD i d ρ) := rfl
@[simp] theorem ex_par {bs : List (Nat × Bool)} : exS G (.par bs es) ρ = liftR ρ (evp G bs es ρ) fun ds => .ofR (parD bs ds ρ) := rfl
@[simp] theorem ex_app : exS G (.app i a) ρ = liftR ρ (slotL ρ i) fun _ => liftR ρ (ev G a ρ) fun d => .ofR (appD i d ρ) := rfl
@[simp] theorem ex_ext : exS G (.ext i a) ρ = liftR ρ (slotL ρ i) fun _ => liftR ρ (ev G a ρ) fun d => .ofR (extD i d ρ) := rfl
@[simp] theorem ex_put : exS G (.put i a b) ρ = liftR ρ (ev G b ρ) fun d => liftR ρ (slotL ρ i) fun _ => liftR ρ (ev G a ρ) fun n => .ofR (putD i n d ρ) := rfl
@[simp] theorem ex_exp : exS G (.exp a) ρ = liftR ρ (ev G a ρ) fun _ => .nx ρ := rfl
@[simp] theorem ex_ite {sa sb : Ss} : exS G (.ite a sa sb) ρ = liftR ρ (ev G a ρ >>= asBool) fun c => if c then exSs G sa ρ else exSs G sb ρ := rfl
@[simp] theorem ex_for : exS G (.for_ ws tg it ss) ρ = liftR ρ (evi G it ρ) fun xs => forGo tg ws (fun ρ => exSs G ss ρ) xs (wipeE ρ ws) := rfl
@[simp] theorem ex_whl {n : Nat} : exS G (.whl n ws a ss) ρ = whGo ws (fun ρ => ev G a ρ >>= asBool) (fun ρ => exSs G ss ρ) n (wipeE ρ ws) := rfl
@[simp] theorem ex_ret : exS G (.ret a) ρ = liftR ρ (ev G a ρ) fun d => .rt d := rfl
@[simp] theorem ex_rai {c : Str} : exS G (.rai c) ρ = .ex c ρ := rfl
@[simp] theorem ex_tre {xs : List Str} {c : Str} {sb : Ss} : exS G (.tre xs ss c i sb) ρ = treGo xs c i (fun ρ => exSs G sb ρ) (exSs G ss ρ) := rfl
@[simp] theorem ex_frz : exS G (.frz i) ρ = .ofR (frzD i ρ) := rfl
@[simp] theorem evp_nil : evp G [] .nil ρ = .ok [] := rfl
@[simp] theorem evp_cons {j : Nat} {b : Bool} {bs : List (Nat × Bool)} : evp G ((j, b) :: bs) (.cons a es) ρ = (ev G a ρ >>= fun d => isL b d >>= fun _ => evp G bs es ρ >>= fun ds => .ok (d :: ds)) := rfl
@[simp] theorem isL_f : isL false d = .ok () := rfl
@[simp] theorem isL_t {xs : List D} : isL true (.list xs) = .ok () := rfl
@[simp] theorem parD_nil : parD [] [] ρ = .ok ρ := rfl
@[simp] theorem parD_f {j : Nat} {bs : List (Nat × Bool)} {ds : List D} : parD ((j, false) :: bs) (d :: ds) ρ = (bindT (.nm j) d ρ >>= fun ρ' => parD bs ds ρ') := rfl
@[simp] theorem parD_t {j : Nat} {bs : List (Nat × Bool)} {ds : List D} : parD ((j, true) :: bs) (d :: ds) ρ = (ownD j d ρ >>= fun ρ' => parD bs ds ρ') := rfl
@[simp] theorem bind_nm : bindT (.nm i) d ρ = if i < ρ.length then .ok (ρ.set i (.fz d)) else .err := rfl
@[simp] theorem bind_tp {ts : Tgs} {ds : List D} : bindT (.tp ts) (.tuple ds) ρ = bindTs ts ds ρ := rfl
@[simp] theorem bind_tpl {ts : Tgs} {ds : List D} : bindT (.tp ts) (.list ds) ρ = bindTs ts ds ρ := rfl
@[simp] theorem binds_nil : bindTs .nil [] ρ = .ok ρ := rfl
@[simp] theorem binds_cons {ts : Tgs} {ds : List D} : bindTs (.cons tg ts) (d :: ds) ρ = (bindT tg d ρ >>= fun ρ' => bindTs ts ds ρ') := rfl
@[simp] theorem own_list {xs : List D} : ownD i (.list xs) ρ = if i < ρ.length then .ok (ρ.set i (.ow (.list xs))) else .err := rfl
@[simp] theorem len_lst {xs : List D} : bltD .len (.list xs) = .ok (.int xs.length) := rfl
@[simp] theorem len_tup {xs : List D} : bltD .len (.tuple xs) = .ok (.int xs.length) := rfl
@[simp] theorem len_str {s : Str} : bltD .len (.str s) = .ok (.int s.length) := rfl
@[simp] theorem all_lst {xs : List D} : bltD .all (.list xs) = must ((boolsD xs).map fun bs => .bool (bs.all id)) := rfl
@[simp] theorem any_lst {xs : List D} : bltD .any (.list xs) = must ((boolsD xs).map fun bs => .bool (bs.any id)) := rfl
@[simp] theorem sum_lst {xs : List D} : bltD .sum (.list xs) = must ((intsD xs).map fun ns => .int ns.sum) := rfl
@[simp] theorem tup_lst {xs : List D} : bltD .tuple (.list xs) = .ok (.tuple xs) := rfl
@[simp] theorem tup_tup {xs : List D} : bltD .tuple (.tuple xs) = .ok (.tuple xs) := rfl
@[simp] theorem tup_str {s : Str} : bltD .tuple (.str s) = .ok (.tuple (signsD s)) := rfl
@[simp] theorem lst_lst {xs : List D} : bltD .list (.list xs) = .ok (.list xs) := rfl
@[simp] theorem lst_tup {xs : List D} : bltD .list (.tuple xs) = .ok (.list xs) := rfl
@[simp] theorem lst_str {s : Str} : bltD .list (.str s) = .ok (.list (signsD s)) := rfl
@[simp] theorem min_int {i j : Int} : blt2D .min (.int i) (.int j) = .ok (.int (if j < i then j else i)) := rfl
@[simp] theorem max_int {i j : Int} : blt2D .max (.int i) (.int j) = .ok (.int (if j > i then j else i)) := rfl
@[simp] theorem cmp_eq {x y : D} : cmpD .Eq x y = eqD x y := rfl
@[simp] theorem cmp_ne {x y : D} : cmpD .NotEq x y = (eqD x y >>= fun b => .ok (!b)) := rfl
@[simp] theorem cmp_in {x y : D} : cmpD .In x y = inD x y := rfl
@[simp] theorem cmp_nin {x y : D} : cmpD .NotIn x y = (inD x y >>= fun b => .ok (!b)) := rfl
@[simp] theorem cmp_is {x y : D} : cmpD .Is x y = isD x y := rfl
@[simp] theorem cmp_isn {x y : D} : cmpD .IsNot x y = (isD x y >>= fun b => .ok (!b)) := rfl
@[simp] theorem cmp_lt {i j : Int} : cmpD .Lt (.int i) (.int j) = .ok (decide (i < j)) := rfl
@[simp] theorem cmp_lts {x y : Str} : cmpD .Lt (.str x) (.str y) = .ok (decide (x.cps.toList < y.cps.toList)) := rfl
@[simp] theorem cmp_le {i j : Int} : cmpD .LtE (.int i) (.int j) = .ok (decide (i ≤ j)) := rfl
@[simp] theorem cmp_gt {i j : Int} : cmpD .Gt (.int i) (.int j) = .ok (decide (j < i)) := rfl
@[simp] theorem cmp_ge {i j : Int} : cmpD .GtE (.int i) (.int j) = .ok (decide (j ≤ i)) := rfl
@[simp] theorem eq_int {i j : Int} : eqD (.int i) (.int j) = .ok (decide (i = j)) := by
  show (if SeqAt.shaped (.int i) = true ∧ SeqAt.shaped (.int j) = true then _ else _) = _
  rw [if_pos ⟨rfl, rfl⟩]
  simp [PyData.eqv]
  rfl
@[simp] theorem is_bool {x y : Bool} : isD (.bool x) (.bool y) = .ok (decide (x = y)) := rfl
@[simp] theorem bin_add {i j : Int} : binD .Add (.int i) (.int j) = .ok (.int (i + j)) := rfl
@[simp] theorem bin_sub {i j : Int} : binD .Sub (.int i) (.int j) = .ok (.int (i - j)) := rfl
@[simp] theorem bin_mod {i j : Int} : binD .Mod (.int i) (.int j) = if 0 < j then .ok (.int (i % j)) else .err := rfl
@[simp] theorem bin_div {i j : Int} : binD .FloorDiv (.int i) (.int j) = if 0 < j ∧ j < 2 ^ 64 then .ok (.int (i / j)) else .err := rfl
@[simp] theorem bin_mul {i j : Int} : binD .Mult (.int i) (.int j) = if (-(2 ^ 64) < i ∧ i < 2 ^ 64) ∨ (-(2 ^ 64) < j ∧ j < 2 ^ 64) then .ok (.int (i * j)) else .err := rfl
@[simp] theorem bin_addl {xs ys : List D} : binD .Add (.list xs) (.list ys) = if xs.length + ys.length ≤ sizeLine then .ok (.list (xs ++ ys)) else .err := rfl
@[simp] theorem bin_addt {xs ys : List D} : binD .Add (.tuple xs) (.tuple ys) = if xs.length + ys.length ≤ sizeLine then .ok (.tuple (xs ++ ys)) else .err := rfl
@[simp] theorem idx_l {xs : List D} {i : Int} : idxD (.list xs) (.int i) = must (L2.atI xs i) := rfl
@[simp] theorem idx_t {xs : List D} {i : Int} : idxD (.tuple xs) (.int i) = must (L2.atI xs i) := rfl
@[simp] theorem idx_s {s : Str} {i : Int} : idxD (.str s) (.int i) = must ((L2.atI s.cps.toList i).map fun c => .str ⟨#[c]⟩) := rfl
@[simp] theorem slc_l {xs : List D} {l h : Option Int} : slcD (.list xs) l h = .ok (.list (cutD xs l h)) := rfl
@[simp] theorem slc_t {xs : List D} {l h : Option Int} : slcD (.tuple xs) l h = .ok (.tuple (cutD xs l h)) := rfl
@[simp] theorem rev_l {xs : List D} : revD (.list xs) = .ok (.list xs.reverse) := rfl
@[simp] theorem rev_t {xs : List D} : revD (.tuple xs) = .ok (.tuple xs.reverse) := rfl
@[simp] theorem part_none : partD none = .ok none := rfl
@[simp] theorem part_int {i : Int} : partD (some (.int i)) = .ok (some i) := rfl
@[simp] theorem items_l {xs : List D} : itemsD (.list xs) = .ok xs := rfl
@[simp] theorem items_t {xs : List D} : itemsD (.tuple xs) = .ok xs := rfl
@[simp] theorem items_s {s : Str} : itemsD (.str s) = .ok (signsD s) := rfl
@[simp] theorem seq_l {xs : List D} : seqD (.list xs) = .ok xs := rfl
@[simp] theorem seq_t {xs : List D} : seqD (.tuple xs) = .ok xs := rfl
@[simp] theorem isi_int {i : Int} {t : Ty} : isiD (.int i) t = decide (t = .int) := by cases t <;> rfl
@[simp] theorem isi_bool {x : Bool} {t : Ty} : isiD (.bool x) t = (decide (t = .int) || decide (t = .bool)) := by cases t <;> rfl
@[simp] theorem isi_str {x : Str} {t : Ty} : isiD (.str x) t = decide (t = .str) := by cases t <;> rfl
@[simp] theorem isi_list {x : List D} {t : Ty} : isiD (.list x) t = decide (t = .list) := by cases t <;> rfl
@[simp] theorem isi_tup {x : List D} {t : Ty} : isiD (.tuple x) t = decide (t = .tuple) := by cases t <;> rfl
@[simp] theorem isi_none {t : Ty} : isiD .none t = false := by cases t <;> rfl
@[simp] theorem isi_dict {x : List (D × D)} {t : Ty} : isiD (.dict x) t = false := by cases t <;> rfl
@[simp] theorem mthO_i {xs : List D} : mthO .index (.list xs) = .ok () := rfl
@[simp] theorem mthO_c {xs : List D} : mthO .count (.list xs) = .ok () := rfl
@[simp] theorem mth_i {xs : List D} : mthD .index (.list xs) d = findD xs d := rfl
@[simp] theorem mth_c {xs : List D} : mthD .count (.list xs) d = countD xs d := rfl
@[simp] theorem mthO_it {xs : List D} : mthO .index (.tuple xs) = .ok () := rfl
@[simp] theorem mth_it {xs : List D} : mthD .index (.tuple xs) d = findD xs d := rfl
@[simp] theorem ev_sel {fs : List Str} : ev G (.sel fs a es) ρ = (ev G a ρ >>= fun k => selD fs k >>= fun f => evs G es ρ >>= fun ds => G f ds) := sel_eq
@[simp] theorem sel_int {fs : List Str} {j : Int} : selD fs (.int j) = must (L2.atI fs j) := rfl
@[simp] theorem ev_dct : ev G (.dct a) ρ = (ev G a ρ >>= fun x => dictD x) := rfl
@[simp] theorem ev_dix : ev G (.dix a b) ρ = (ev G a ρ >>= fun x => dictN x >>= fun ps => ev G b ρ >>= fun k => idxN ps k) := rfl
@[simp] theorem idx_di {kvs : List (D × D)} {j : Int} : idxD (.dict kvs) (.int j) = must (dgetD kvs (.int j)) := rfl
@[simp] theorem idx_ds {kvs : List (D × D)} {x : Str} : idxD (.dict kvs) (.str x) = must (dgetD kvs (.str x)) := rfl
@[simp] theorem ex_ali {q1 q2 q3 q4 q5 q6 q7 : Nat} : exS G (.ali q1 q2 q3 q4 q5 q6 q7) ρ = .ofR (aliD q1 q2 q3 q4 q5 q6 q7 ρ) := rfl
@[simp] theorem ex_dst : exS G (.dst i a) ρ = liftR ρ (ev G a ρ >>= dictD) fun d => .ofR (dstD i d ρ) := rfl
@[simp] theorem ex_dpt : exS G (.dpt i a b) ρ = liftR ρ (ev G b ρ) fun d => liftR ρ (slotK ρ i) fun _ => liftR ρ (ev G a ρ) fun n => .ofR (dputS i n d ρ) := rfl
@[simp] theorem ex_dpn {j : Nat} : exS G (.dpn i a j b c) ρ = liftR ρ (ev G b ρ) fun d => liftR ρ (ev G c ρ) fun g => liftR ρ (slotK ρ i) fun _ => liftR ρ (ev G a ρ) fun n => .ofR (dputS i n d ρ >>= fun ρ' => bindT (.nm j) g ρ') := rfl
@[simp] theorem slotk_0 {ρ : Slots} {kvs : List (D × D)} : slotK (.ow (.dict kvs) :: ρ) 0 = .ok kvs := rfl
@[simp] theorem slotk_s {ρ : Slots} {x : Slot} : slotK (x :: ρ) (i + 1) = slotK ρ i := by
  unfold slotK
  rw [List.getElem?_cons_succ]
@[simp] theorem dst_dict {kvs : List (D × D)} : dstD i (.dict kvs) ρ = if i < ρ.length then .ok (ρ.set i (.ow (.dict kvs))) else .err := rfl
end
@[simp] theorem fnD_eq {np nl : Nat} {b : Ss} {ds : List D} (h : ds.length = np) : fnD G np nl b ds = finD (exSs G b (ds.map Slot.fz ++ List.replicate nl Slot.no)) := if_pos h
theorem fnD_eq' {np nl : Nat} {b : Ss} {ds : List D} (h : ds.length = np) : fnD G np nl b ds = (match exSs G b (ds.map Slot.fz ++ List.replicate nl Slot.no) with
  | .nx _ => .ok .none
  | .rt d => .ok d
  | .ex c _ => .exc c
  | .bad => .err) := if_pos h
/-! comprehensions -/
theorem lc_map {γ : Type} {tg : Tg} {cnd : Slots → Res Bool} {elt : Slots → Res D} (enc : γ → D) (f : γ → Slots) (g : γ → D) : ∀ {l : List γ}, (∀ x ∈ l, bindT tg (enc x) ρ = .ok (f x)) → (∀ x ∈ l, cnd (f x) = .ok true) → (∀ x ∈ l, elt (f x) = .ok (g x)) → lcGo tg ρ cnd elt (l.map enc) = .ok (l.map g)
  | [], _, _, _ => rfl
  | x :: l, h1, h2, h3 => by
    rw [List.map_cons]
    unfold lcGo
    rw [h1 x List.mem_cons_self]
    show ((cnd (f x)).tame >>= _) = _
    rw [h2 x List.mem_cons_self]
    show ((elt (f x)).tame >>= _) = _
    rw [h3 x List.mem_cons_self, lc_map enc f g (fun y hy => h1 y (List.mem_cons_of_mem _ hy)) (fun y hy => h2 y (List.mem_cons_of_mem _ hy)) (fun y hy => h3 y (List.mem_cons_of_mem _ hy))]
    rfl
theorem lc_filter {γ : Type} {tg : Tg} {cnd : Slots → Res Bool} {elt : Slots → Res D} (enc : γ → D) (f : γ → Slots) (p : γ → Bool) (g : γ → D) : ∀ {l : List γ}, (∀ x ∈ l, bindT tg (enc x) ρ = .ok (f x)) → (∀ x ∈ l, cnd (f x) = .ok (p x)) → (∀ x ∈ l, p x = true → elt (f x) = .ok (g x)) → lcGo tg ρ cnd elt (l.map enc) = .ok ((l.filter p).map g)
  | [], _, _, _ => rfl
  | x :: l, h1, h2, h3 => by
    rw [List.map_cons]
    unfold lcGo
    rw [h1 x List.mem_cons_self]
    show ((cnd (f x)).tame >>= _) = _
    rw [h2 x List.mem_cons_self]
    have ih := lc_filter enc f p g (fun y hy => h1 y (List.mem_cons_of_mem _ hy)) (fun y hy => h2 y (List.mem_cons_of_mem _ hy)) (fun y hy => h3 y (List.mem_cons_of_mem _ hy))
    cases hp : p x with
    | true =>
      show ((elt (f x)).tame >>= _) = _
      rw [h3 x List.mem_cons_self hp, ih, List.filter_cons_of_pos hp]
      rfl
    | false =>
      show lcGo tg ρ cnd elt (l.map enc) = _
      rw [ih, List.filter_cons_of_neg (by simp [hp])]
/-- over data themselves -/
theorem lc_all {tg : Tg} {cnd : Slots → Res Bool} {elt : Slots → Res D} (f : D → Slots) (g : D → D) {l : List D} (h1 : ∀ x ∈ l, bindT tg x ρ = .ok (f x)) (h2 : ∀ x ∈ l, cnd (f x) = .ok true) (h3 : ∀ x ∈ l, elt (f x) = .ok (g x)) : lcGo tg ρ cnd elt l = .ok (l.map g) := by
  have := lc_map (tg := tg) (ρ := ρ) (cnd := cnd) (elt := elt) id f g (l := l) h1 h2 h3
  rwa [List.map_id] at this
@[simp] theorem boolsD_map {f : α → Bool} : ∀ {xs : List α}, boolsD (xs.map fun x => .bool (f x)) = some (xs.map f)
  | [] => rfl
  | x :: xs => by
    show (boolsD (xs.map fun x => .bool (f x))).map (f x :: ·) = _
    rw [boolsD_map]
    rfl
end
end Fp
namespace Fp
open PySem
def c_is_whole : Ss := (.cons (.ret (.bop .And (.cons (.isi (.var 0) .int) (.cons (.not (.isi (.var 0) .bool)) (.cons (.chn .LtE .LtE (.var 1) (.var 0) (.var 2)) .nil))))) .nil)
def n_is_whole : List Str := ["thing", "least", "most"]
def c_is_name : Ss := (.cons (.ret (.bop .And (.cons (.isi (.var 0) .str) (.cons (.chn .LtE .LtE (.cst (.int 1)) (.blt .len (.var 0)) (.glb (.int 4))) (.cons (.blt .all (.lc [1] (.cmp .In (.var 1) (.glb (.str "abcdefghijklmnopqrstuvwxyz"))) (.nm 1) (.seq (.var 0)) .no)) .nil))))) .nil)
def n_is_name : List Str := ["thing", "sign"]
def c_is_rising : Ss := (.cons (.ret (.blt .all (.lc [1, 2] (.cmp .Lt (.var 1) (.var 2)) (.tp (.cons (.nm 1) (.cons (.nm 2) .nil))) (.zip (.var 0) (.slc (.var 0) (.so (.cst (.int 1))) .no)) .no))) .nil)
def n_is_rising : List Str := ["things", "one", "other"]
def c_is_pair : Ss := (.cons (.ret (.bop .And (.cons (.isi (.var 0) .tuple) (.cons (.cmp .Eq (.blt .len (.var 0)) (.cst (.int 2))) (.cons (.call "is_name" (.cons (.idx (.var 0) (.cst (.int 0))) .nil)) .nil))))) .nil)
def n_is_pair : List Str := ["thing"]
def c_are_pipes : Ss := (.cons (.ite (.bop .Or (.cons (.not (.isi (.var 0) .tuple)) (.cons (.not (.chn .LtE .LtE (.cst (.int 1)) (.blt .len (.var 0)) (.glb (.int 6)))) (.cons (.not (.blt .all (.lc [1] (.call "is_pair" (.cons (.var 1) .nil)) (.nm 1) (.seq (.var 0)) .no))) .nil)))) (.cons (.ret (.cst (.bool false))) .nil) (.nil)) (.cons (.ret (.bop .And (.cons (.blt .all (.lc [1] (.call "is_whole" (.cons (.idx (.var 1) (.cst (.int 1))) (.cons (.cst (.int 1)) (.cons (.glb (.int 4)) .nil)))) (.nm 1) (.seq (.var 0)) .no)) (.cons (.call "is_rising" (.cons (.lc [1] (.idx (.var 1) (.cst (.int 0))) (.nm 1) (.seq (.var 0)) .no) .nil)) .nil)))) .nil))
def n_are_pipes : List Str := ["thing", "pipe"]
def c_is_row : Ss := (.cons (.ite (.bop .Or (.cons (.not (.isi (.var 1) .tuple)) (.cons (.not (.chn .LtE .LtE (.cst (.int 1)) (.blt .len (.var 1)) (.glb (.int 4)))) .nil))) (.cons (.ret (.cst (.bool false))) .nil) (.nil)) (.cons (.ret (.blt .all (.lc [2, 3] (.bop .And (.cons (.call "is_name" (.cons (.var 3) .nil)) (.cons (.cmp .In (.var 3) (.var 0)) (.cons (.cmp .NotIn (.var 3) (.slc (.var 1) .no (.so (.var 2)))) .nil)))) (.tp (.cons (.nm 2) (.cons (.nm 3) .nil))) (.enm (.var 1)) .no))) .nil))
def n_is_row : List Str := ["names", "thing", "at", "name"]
def c_is_net : Ss := (.cons (.ite (.bop .Or (.cons (.not (.isi (.var 0) .tuple)) (.cons (.cmp .NotEq (.blt .len (.var 0)) (.cst (.int 2))) (.cons (.not (.call "are_pipes" (.cons (.idx (.var 0) (.cst (.int 0))) .nil))) (.cons (.not (.isi (.idx (.var 0) (.cst (.int 1))) .tuple)) .nil))))) (.cons (.ret (.cst (.bool false))) .nil) (.nil)) (.cons (.set (.tp (.cons (.nm 1) (.cons (.nm 2) .nil))) (.var 0)) (.cons (.set (.nm 3) (.lc [4] (.idx (.var 4) (.cst (.int 0))) (.nm 4) (.seq (.var 1)) .no)) (.cons (.ite (.bop .Or (.cons (.not (.chn .LtE .LtE (.cst (.int 1)) (.blt .len (.var 2)) (.glb (.int 8)))) (.cons (.not (.blt .all (.lc [5] (.bop .And (.cons (.call "is_pair" (.cons (.var 5) .nil)) (.cons (.call "is_row" (.cons (.var 3) (.cons (.idx (.var 5) (.cst (.int 1))) .nil))) .nil))) (.nm 5) (.seq (.var 2)) .no))) .nil))) (.cons (.ret (.cst (.bool false))) .nil) (.nil)) (.cons (.ret (.call "is_rising" (.cons (.lc [5] (.idx (.var 5) (.cst (.int 0))) (.nm 5) (.seq (.var 2)) .no) .nil))) .nil)))))
def n_is_net : List Str := ["thing", "pipes", "ways", "names", "pipe", "way"]
def c_look_net : Ss := (.cons (.ite (.not (.call "is_net" (.cons (.var 0) .nil))) (.cons (.rai "NoNet") .nil) (.nil)) .nil)
def n_look_net : List Str := ["thing"]
def c_is_state_of : Ss := (.cons (.ite (.bop .Or (.cons (.not (.isi (.var 1) .tuple)) (.cons (.cmp .NotEq (.blt .len (.var 1)) (.blt .len (.idx (.var 0) (.cst (.int 0))))) (.cons (.not (.blt .all (.lc [2] (.isi (.var 2) .tuple) (.nm 2) (.seq (.var 1)) .no))) .nil)))) (.cons (.ret (.cst (.bool false))) .nil) (.nil)) (.cons (.ite (.not (.blt .all (.lc [2, 4] (.cmp .Eq (.blt .len (.var 2)) (.idx (.var 4) (.cst (.int 1)))) (.tp (.cons (.nm 2) (.cons (.nm 4) .nil))) (.zip (.var 1) (.idx (.var 0) (.cst (.int 0)))) .no))) (.cons (.ret (.cst (.bool false))) .nil) (.nil)) (.cons (.ret (.blt .all (.lc2 [2, 3] (.call "is_name" (.cons (.var 3) .nil)) (.nm 2) (.seq (.var 1)) (.nm 3) (.seq (.var 2)) .no))) .nil)))
def n_is_state_of : List Str := ["net", "thing", "row", "slug", "pipe"]
def c_is_state : Ss := (.cons (.exp (.call "look_net" (.cons (.var 0) .nil))) (.cons (.ret (.call "is_state_of" (.cons (.var 0) (.cons (.var 1) .nil)))) .nil))
def n_is_state : List Str := ["net", "thing"]
def c__law_drawn : Ss := (.cons (.set (.nm 3) (.bin .Mult (.cst (.int 7)) (.var 1))) (.cons (.ite (.cmp .NotEq (.var 0) (.lst (.nil))) (.cons (.set (.nm 3) (.idx (.var 0) (.bin .Mod (.var 1) (.blt .len (.var 0))))) (.cons (.set (.nm 4) (.bin .FloorDiv (.var 1) (.blt .len (.var 0)))) (.cons (.ite (.bop .And (.cons (.cmp .GtE (.var 3) (.bin .Pow (.cst (.int 10)) (.cst (.int 18)))) (.cons (.cmp .Lt (.var 4) (.cst (.int 60))) .nil))) (.cons (.set (.nm 5) (.bin .FloorDiv (.var 3) (.bin .Pow (.cst (.int 10)) (.cst (.int 18))))) (.cons (.whl 100000 [] (.bop .And (.cons (.cmp .Gt (.var 5) (.cst (.int 0))) (.cons (.cmp .Gt (.var 4) (.cst (.int 0))) .nil))) (.cons (.set (.nm 5) (.bin .FloorDiv (.var 5) (.cst (.int 1000000)))) (.cons (.set (.nm 4) (.bin .Sub (.var 4) (.cst (.int 1)))) .nil))) (.cons (.ite (.cmp .Gt (.var 5) (.cst (.int 0))) (.cons (.ret (.bin .Mod (.bin .Mod (.var 5) (.cst (.int 1000000))) (.var 2))) .nil) (.nil)) .nil))) (.nil)) (.cons (.set (.nm 3) (.bin .Add (.var 3) (.bin .Mult (.cst (.int 6553)) (.bin .FloorDiv (.var 1) (.blt .len (.var 0)))))) .nil)))) (.nil)) (.cons (.set (.nm 3) (.bin .Mod (.bin .Add (.bin .Mult (.bin .Mod (.var 3) (.cst (.int 2147483563))) (.cst (.int 69069))) (.bin .Mult (.cst (.int 104723)) (.bin .Add (.var 1) (.cst (.int 1))))) (.cst (.int 2147483563)))) (.cons (.set (.nm 3) (.bin .Mod (.bin .Add (.bin .Mult (.var 3) (.var 3)) (.bin .FloorDiv (.var 3) (.cst (.int 3)))) (.cst (.int 2147483399)))) (.cons (.ret (.bin .Mod (.bin .FloorDiv (.bin .Mod (.bin .Add (.bin .Mult (.var 3) (.var 3)) (.bin .FloorDiv (.var 3) (.cst (.int 7)))) (.cst (.int 2147483647))) (.cst (.int 11))) (.var 2))) .nil)))))
def n__law_drawn : List Str := ["script", "k", "many", "cell", "turn", "rest"]
def c__law_net : Ss := (.cons (.own 2 (.lst (.nil))) (.cons (.for_ [3] (.nm 3) (.rng (.bin .Add (.cst (.int 1)) (.call "_law_drawn" (.cons (.var 0) (.cons (.var 1) (.cons (.cst (.int 4)) .nil)))))) (.cons (.app 2 (.tup (.cons (.idx (.cst (.str "pqrs")) (.var 3)) (.cons (.bin .Add (.cst (.int 1)) (.call "_law_drawn" (.cons (.var 0) (.cons (.bin .Add (.bin .Add (.var 1) (.cst (.int 1))) (.var 3)) (.cons (.cst (.int 3)) .nil))))) .nil)))) .nil)) (.cons (.own 4 (.lst (.nil))) (.cons (.for_ [3, 5, 6, 7] (.nm 3) (.rng (.bin .Add (.cst (.int 1)) (.call "_law_drawn" (.cons (.var 0) (.cons (.bin .Add (.var 1) (.cst (.int 5))) (.cons (.cst (.int 4)) .nil)))))) (.cons (.par [(5, true), (6, true)] (.cons (.lc [8] (.idx (.var 8) (.cst (.int 0))) (.nm 8) (.seq (.own 2)) .no) (.cons (.lst (.nil)) .nil))) (.cons (.for_ [7] (.nm 7) (.rng (.bin .Add (.cst (.int 1)) (.call "_law_drawn" (.cons (.var 0) (.cons (.bin .Add (.bin .Add (.var 1) (.cst (.int 6))) (.bin .Mult (.cst (.int 4)) (.var 3))) (.cons (.blt2 .min (.cst (.int 3)) (.blt .len (.own 2))) .nil)))))) (.cons (.apop 6 5 (.call "_law_drawn" (.cons (.var 0) (.cons (.bin .Add (.bin .Add (.bin .Add (.var 1) (.cst (.int 7))) (.bin .Mult (.cst (.int 4)) (.var 3))) (.var 7)) (.cons (.blt .len (.own 5)) .nil))))) .nil)) (.cons (.app 4 (.tup (.cons (.idx (.cst (.str "abcd")) (.var 3)) (.cons (.blt .tuple (.own 6)) .nil)))) .nil)))) (.cons (.ret (.tup (.cons (.blt .tuple (.own 2)) (.cons (.blt .tuple (.own 4)) .nil)))) .nil)))))
def n__law_net : List Str := ["script", "at", "pipes", "k", "ways", "left", "row", "n", "pipe"]
def c__law_net_2 : Ss := (.cons (.own 3 (.lst (.nil))) (.cons (.for_ [4, 5] (.tp (.cons (.nm 4) (.cons (.nm 5) .nil))) (.enm (.slc (.lst (.cons (.cst (.str "p")) (.cons (.cst (.str "q")) (.cons (.cst (.str "r")) .nil)))) .no (.so (.bin .Add (.cst (.int 1)) (.call "_law_pick" (.cons (.var 0) (.cons (.var 1) (.cons (.cst (.int 3)) .nil)))))))) (.cons (.app 3 (.tup (.cons (.var 5) (.cons (.bin .Add (.cst (.int 1)) (.call "_law_pick" (.cons (.var 0) (.cons (.bin .Add (.bin .Add (.var 1) (.cst (.int 1))) (.var 4)) (.cons (.cst (.int 2)) .nil))))) .nil)))) .nil)) (.cons (.own 6 (.lst (.nil))) (.cons (.for_ [4, 5, 7, 8, 9, 10] (.tp (.cons (.nm 4) (.cons (.nm 5) .nil))) (.enm (.slc (.lst (.cons (.cst (.str "u")) (.cons (.cst (.str "v")) (.cons (.cst (.str "w")) .nil)))) .no (.so (.bin .Add (.cst (.int 1)) (.call "_law_pick" (.cons (.var 0) (.cons (.bin .Add (.var 1) (.cst (.int 5))) (.cons (.var 2) .nil)))))))) (.cons (.par [(7, false), (8, true), (9, true)] (.cons (.bin .Add (.bin .Add (.var 1) (.cst (.int 10))) (.bin .Mult (.cst (.int 9)) (.var 4))) (.cons (.lc [11] (.idx (.var 11) (.cst (.int 0))) (.nm 11) (.seq (.own 3)) .no) (.cons (.lst (.nil)) .nil)))) (.cons (.for_ [10] (.nm 10) (.rng (.bin .Add (.cst (.int 1)) (.call "_law_pick" (.cons (.var 0) (.cons (.var 7) (.cons (.blt .len (.own 3)) .nil)))))) (.cons (.apop 9 8 (.call "_law_pick" (.cons (.var 0) (.cons (.bin .Add (.bin .Add (.var 7) (.cst (.int 1))) (.var 10)) (.cons (.blt .len (.own 8)) .nil))))) .nil)) (.cons (.app 6 (.tup (.cons (.var 5) (.cons (.blt .tuple (.own 9)) .nil)))) .nil)))) (.cons (.ret (.tup (.cons (.blt .tuple (.own 3)) (.cons (.blt .tuple (.own 6)) .nil)))) .nil)))))
def n__law_net_2 : List Str := ["script", "at", "most", "pipes", "k", "name", "ways", "here", "left", "row", "j", "pipe"]
def c__law_state : Ss := (.cons (.par [(3, true), (4, false)] (.cons (.lst (.nil)) (.cons (.cst (.int 0)) .nil))) (.cons (.for_ [5, 6] (.tp (.cons (.nm 5) (.cons (.nm 6) .nil))) (.seq (.idx (.var 2) (.cst (.int 0)))) (.cons (.app 3 (.blt .tuple (.lc [7] (.idx (.lst (.cons (.cst (.str "x")) (.cons (.cst (.str "y")) (.cons (.cst (.str "z")) (.cons (.cst (.str "oil")) .nil))))) (.call "_law_drawn" (.cons (.var 0) (.cons (.bin .Add (.bin .Add (.var 1) (.var 4)) (.var 7)) (.cons (.cst (.int 4)) .nil))))) (.nm 7) (.rng (.var 6)) .no))) (.cons (.set (.nm 4) (.bin .Add (.var 4) (.var 6))) .nil))) (.cons (.ret (.blt .tuple (.own 3))) .nil)))
def n__law_state : List Str := ["script", "at", "net", "rows", "k", "name", "length", "n"]
def c__law_state_2 : Ss := (.cons (.own 4 (.lst (.nil))) (.cons (.for_ [5, 6] (.tp (.cons (.nm 5) (.cons (.nm 6) .nil))) (.enm (.idx (.var 2) (.cst (.int 0)))) (.cons (.app 4 (.blt .tuple (.lc [7] (.idx (.var 3) (.call "_law_pick" (.cons (.var 0) (.cons (.bin .Add (.bin .Add (.var 1) (.bin .Mult (.cst (.int 3)) (.var 5))) (.var 7)) (.cons (.blt .len (.var 3)) .nil))))) (.nm 7) (.rng (.idx (.var 6) (.cst (.int 1)))) .no))) .nil)) (.cons (.ret (.blt .tuple (.own 4))) .nil)))
def n__law_state_2 : List Str := ["script", "at", "net", "slugs", "made", "k", "pipe", "j"]
def c__law_no : Ss := (.cons (.tre ["PipeError", "NoNet"] (.cons (.exp (.call "is_state" (.cons (.var 0) (.cons (.tup (.nil)) .nil)))) .nil) "PipeError" 1 (.cons (.ret (.isx 1 "NoNet")) .nil)) (.cons (.ret (.cst (.bool false))) .nil))
def n__law_no : List Str := ["net", "e"]
def c__law_no_2 : Ss := (.cons (.tre ["PipeError", "NoNet", "NoState", "NoPush", "NoPipe"] (.cons (.ite (.cmp .Lt (.var 0) (.cst (.int 2))) (.cons (.exp (.sel ["pushed", "drawn"] (.var 0) (.cons (.var 1) (.cons (.var 2) (.cons (.var 3) .nil))))) .nil) (.cons (.exp (.call "ways_through" (.cons (.var 1) (.cons (.var 3) .nil)))) .nil)) .nil) "PipeError" 4 (.cons (.set (.nm 5) (.lst (.cons (.isx 4 "NoNet") (.cons (.isx 4 "NoState") .nil)))) (.cons (.ret (.mth .index (.bin .Add (.var 5) (.lst (.cons (.isx 4 "NoPush") (.cons (.isx 4 "NoPipe") .nil)))) (.cst (.bool true)))) .nil))) (.cons (.ret (.cst .none)) .nil))
def n__law_no_2 : List Str := ["way", "net", "state", "push", "e", "flags"]
def c__law_no_3 : Ss := (.cons (.tre ["PipeError", "NoNet", "NoState", "NoWay", "NoRun", "NoSpot"] (.cons (.ite (.cmp .Eq (.var 0) (.cst (.int 0))) (.cons (.exp (.call "behind" (.cons (.var 1) (.cons (.var 2) (.cons (.var 3) .nil))))) .nil) (.cons (.ite (.cmp .Eq (.var 0) (.cst (.int 1))) (.cons (.exp (.call "outs_of" (.cons (.var 1) (.cons (.var 2) (.cons (.var 3) (.cons (.var 4) .nil)))))) .nil) (.cons (.ite (.cmp .Lt (.var 0) (.cst (.int 4))) (.cons (.exp (.sel ["where", "whence"] (.bin .Sub (.var 0) (.cst (.int 2))) (.cons (.var 1) (.cons (.var 3) (.cons (.var 4) .nil))))) .nil) (.cons (.ite (.cmp .Eq (.var 0) (.cst (.int 4))) (.cons (.exp (.call "is_run" (.cons (.var 1) (.cons (.var 3) .nil)))) .nil) (.cons (.exp (.call "delay" (.cons (.var 1) (.cons (.var 4) .nil)))) .nil)) .nil)) .nil)) .nil)) .nil) "PipeError" 5 (.cons (.set (.nm 6) (.lst (.cons (.isx 5 "NoNet") (.cons (.isx 5 "NoState") (.cons (.isx 5 "NoRun") .nil))))) (.cons (.ret (.mth .index (.bin .Add (.var 6) (.lst (.cons (.isx 5 "NoSpot") (.cons (.isx 5 "NoWay") .nil)))) (.cst (.bool true)))) .nil))) (.cons (.ret (.cst .none)) .nil))
def n__law_no_3 : List Str := ["way", "net", "state", "run", "one", "e", "flags"]
def c__law_no_4 : Ss := (.cons (.tre ["PipeError", "NoNet", "NoState", "NoTurn", "NoTurns", "TooGreat"] (.cons (.ite (.cmp .Lt (.var 0) (.cst (.int 2))) (.cons (.exp (.sel ["turned", "behind_turns"] (.var 0) (.cons (.var 1) (.cons (.var 2) (.cons (.var 3) .nil))))) .nil) (.cons (.ite (.cmp .Eq (.var 0) (.cst (.int 2))) (.cons (.exp (.call "sorting" (.cons (.var 1) (.cons (.var 2) (.cons (.var 3) .nil))))) .nil) (.cons (.ite (.cmp .Eq (.var 0) (.cst (.int 3))) (.cons (.exp (.call "are_sorting" (.cons (.var 1) (.cons (.var 2) (.cons (.var 3) (.cons (.cst .none) .nil)))))) .nil) (.cons (.ite (.cmp .Eq (.var 0) (.cst (.int 4))) (.cons (.exp (.call "is_even" (.cons (.var 1) (.cons (.var 2) (.cons (.var 3) .nil))))) .nil) (.cons (.ite (.cmp .Eq (.var 0) (.cst (.int 5))) (.cons (.exp (.call "reached" (.cons (.var 1) (.cons (.var 2) .nil)))) .nil) (.cons (.ite (.cmp .Eq (.var 0) (.cst (.int 6))) (.cons (.exp (.call "is_closed" (.cons (.var 1) (.cons (.var 3) .nil)))) .nil) (.cons (.exp (.call "are_turns_even" (.cons (.var 1) .nil))) .nil)) .nil)) .nil)) .nil)) .nil)) .nil)) .nil) "PipeError" 4 (.cons (.set (.nm 5) (.lst (.cons (.isx 4 "NoNet") (.cons (.isx 4 "NoState") .nil)))) (.cons (.ret (.mth .index (.bin .Add (.var 5) (.lst (.cons (.isx 4 "NoTurn") (.cons (.isx 4 "NoTurns") .nil)))) (.cst (.bool true)))) .nil))) (.cons (.ret (.cst .none)) .nil))
def n__law_no_4 : List Str := ["way", "net", "state", "one", "e", "flags"]
def c__law_bad : Ss := (.cons (.set (.tp (.cons (.nm 1) (.cons (.nm 2) .nil))) (.var 0)) (.cons (.set (.tp (.cons (.nm 3) (.cons (.nm 4) .nil))) (.idx (.var 1) (.cst (.int 0)))) (.cons (.own 5 (.lst (.cons (.cst .none) (.cons (.tup (.nil)) (.cons (.tup (.cons (.var 1) .nil)) (.cons (.bin .Add (.var 0) (.tup (.cons (.cst (.int 0)) .nil))) (.cons (.blt .list (.var 0)) (.cons (.tup (.cons (.blt .list (.var 1)) (.cons (.var 2) .nil))) .nil)))))))) (.cons (.own 5 (.bin .Add (.own 5) (.lst (.cons (.tup (.cons (.var 1) (.cons (.blt .list (.var 2)) .nil))) (.cons (.tup (.cons (.tup (.nil)) (.cons (.var 2) .nil))) (.cons (.tup (.cons (.var 1) (.cons (.tup (.nil)) .nil))) (.cons (.tup (.cons (.bin .Mult (.rev (.var 1)) (.cst (.int 2))) (.cons (.var 2) .nil))) .nil))))))) (.cons (.set (.nm 6) (.lst (.cons (.tup (.cons (.var 3) (.cons (.cst (.int 0)) .nil))) (.cons (.tup (.cons (.var 3) (.cons (.cst (.int 5)) .nil))) (.cons (.tup (.cons (.var 3) (.cons (.cst (.bool true)) .nil))) (.cons (.tup (.cons (.var 3) (.cons (.cst (.str "1")) .nil))) (.cons (.tup (.cons (.var 3) .nil)) .nil))))))) (.cons (.for_ [7] (.nm 7) (.seq (.bin .Add (.var 6) (.lst (.cons (.tup (.cons (.cst (.str "")) (.cons (.cst (.int 1)) .nil))) (.cons (.tup (.cons (.cst (.str "P")) (.cons (.cst (.int 1)) .nil))) (.cons (.tup (.cons (.cst (.str "abcde")) (.cons (.cst (.int 1)) .nil))) (.cons (.tup (.cons (.cst (.int 7)) (.cons (.cst (.int 1)) .nil))) (.cons (.lst (.cons (.var 3) (.cons (.cst (.int 1)) .nil))) .nil)))))))) (.cons (.app 5 (.tup (.cons (.bin .Add (.tup (.cons (.var 7) .nil)) (.slc (.var 1) (.so (.cst (.int 1))) .no)) (.cons (.var 2) .nil)))) .nil)) (.cons (.for_ [8] (.nm 8) (.seq (.tup (.cons (.tup (.nil)) (.cons (.tup (.cons (.var 3) (.cons (.var 3) .nil))) (.cons (.tup (.cons (.cst (.str "zz")) .nil)) (.cons (.lst (.cons (.var 3) .nil)) (.cons (.cst .none) (.cons (.tup (.cons (.cst .none) .nil)) (.cons (.var 3) (.cons (.blt .tuple (.cst (.str "pqrstu"))) .nil)))))))))) (.cons (.app 5 (.tup (.cons (.var 1) (.cons (.bin .Add (.slc (.var 2) .no (.so (.neg (.cst (.int 1))))) (.tup (.cons (.tup (.cons (.idx (.idx (.var 2) (.neg (.cst (.int 1)))) (.cst (.int 0))) (.cons (.var 8) .nil))) .nil))) .nil)))) .nil)) (.cons (.own 5 (.bin .Add (.own 5) (.lst (.cons (.tup (.cons (.var 1) (.cons (.tup (.cons (.tup (.cons (.cst (.str "a")) (.cons (.tup (.cons (.var 3) .nil)) .nil))) (.cons (.tup (.cons (.cst (.str "a")) (.cons (.tup (.cons (.var 3) .nil)) .nil))) .nil))) .nil))) .nil)))) (.cons (.own 5 (.bin .Add (.own 5) (.lst (.cons (.tup (.cons (.var 1) (.cons (.tup (.cons (.tup (.cons (.cst (.str "b")) (.cons (.tup (.cons (.var 3) .nil)) .nil))) (.cons (.tup (.cons (.cst (.str "a")) (.cons (.tup (.cons (.var 3) .nil)) .nil))) .nil))) .nil))) (.cons (.tup (.cons (.var 1) (.cons (.tup (.cons (.tup (.cons (.cst (.str "A")) (.cons (.tup (.cons (.var 3) .nil)) .nil))) .nil)) .nil))) .nil))))) (.cons (.app 5 (.tup (.cons (.var 1) (.cons (.blt .tuple (.lc [9] (.tup (.cons (.var 9) (.cons (.tup (.cons (.var 3) .nil)) .nil))) (.nm 9) (.seq (.cst (.str "abcdefghi"))) .no)) .nil)))) (.cons (.ret (.bin .Add (.own 5) (.lst (.cons (.tup (.cons (.blt .tuple (.lc [9] (.tup (.cons (.var 9) (.cons (.cst (.int 1)) .nil))) (.nm 9) (.seq (.cst (.str "abcdefg"))) .no)) (.cons (.tup (.cons (.tup (.cons (.cst (.str "a")) (.cons (.tup (.cons (.cst (.str "a")) .nil)) .nil))) .nil)) .nil))) .nil)))) .nil)))))))))))
def n__law_bad : List Str := ["net", "pipes", "ways", "name", "length", "found", "some", "bad", "row", "one"]
def c_look_state : Ss := (.cons (.ite (.not (.call "is_state_of" (.cons (.var 0) (.cons (.var 1) .nil)))) (.cons (.rai "NoState") .nil) (.nil)) .nil)
def n_look_state : List Str := ["net", "thing"]
def c_ways_in : Ss := (.cons (.ret (.lc [1] (.idx (.var 1) (.cst (.int 0))) (.nm 1) (.seq (.idx (.var 0) (.cst (.int 1)))) .no)) .nil)
def n_ways_in : List Str := ["net", "way"]
def c_pipes_in : Ss := (.cons (.ret (.lc [1] (.idx (.var 1) (.cst (.int 0))) (.nm 1) (.seq (.idx (.var 0) (.cst (.int 0)))) .no)) .nil)
def n_pipes_in : List Str := ["net", "pipe"]
def c_row_of : Ss := (.cons (.ret (.idx (.idx (.idx (.var 0) (.cst (.int 1))) (.mth .index (.call "ways_in" (.cons (.var 0) .nil)) (.var 1))) (.cst (.int 1)))) .nil)
def n_row_of : List Str := ["net", "way"]
def c_look_pipe : Ss := (.cons (.ite (.bop .Or (.cons (.not (.call "is_name" (.cons (.var 1) .nil))) (.cons (.cmp .NotIn (.var 1) (.call "pipes_in" (.cons (.var 0) .nil))) .nil))) (.cons (.rai "NoPipe") .nil) (.nil)) .nil)
def n_look_pipe : List Str := ["net", "thing"]
def c_is_push_of : Ss := (.cons (.ret (.bop .And (.cons (.call "is_pair" (.cons (.var 1) .nil)) (.cons (.cmp .In (.idx (.var 1) (.cst (.int 0))) (.call "ways_in" (.cons (.var 0) .nil))) (.cons (.call "is_name" (.cons (.idx (.var 1) (.cst (.int 1))) .nil)) .nil))))) .nil)
def n_is_push_of : List Str := ["net", "thing"]
def c_look_push : Ss := (.cons (.ite (.not (.call "is_push_of" (.cons (.var 0) (.cons (.var 1) .nil)))) (.cons (.rai "NoPush") .nil) (.nil)) .nil)
def n_look_push : List Str := ["net", "thing"]
def c_plain_pushed : Ss := (.cons (.par [(3, false), (4, true), (5, false)] (.cons (.call "pipes_in" (.cons (.var 0) .nil)) (.cons (.blt .list (.var 1)) (.cons (.idx (.var 2) (.cst (.int 1))) .nil)))) (.cons (.for_ [6, 7, 8] (.nm 6) (.seq (.call "row_of" (.cons (.var 0) (.cons (.idx (.var 2) (.cst (.int 0))) .nil)))) (.cons (.set (.nm 7) (.mth .index (.var 3) (.var 6))) (.cons (.set (.nm 8) (.idx (.idx (.own 4) (.var 7)) (.neg (.cst (.int 1))))) (.cons (.put 4 (.var 7) (.bin .Add (.tup (.cons (.var 5) .nil)) (.slc (.idx (.own 4) (.var 7)) .no (.so (.neg (.cst (.int 1))))))) (.cons (.set (.nm 5) (.var 8)) .nil))))) (.cons (.ret (.tup (.cons (.blt .tuple (.own 4)) (.cons (.var 5) .nil)))) .nil)))
def n_plain_pushed : List Str := ["net", "state", "push", "names", "made", "slug", "pipe", "at", "out"]
def c_plain_drawn : Ss := (.cons (.par [(3, false), (4, true), (5, false)] (.cons (.call "pipes_in" (.cons (.var 0) .nil)) (.cons (.blt .list (.var 1)) (.cons (.idx (.var 2) (.cst (.int 1))) .nil)))) (.cons (.for_ [6, 7, 8] (.nm 6) (.seq (.rev (.call "row_of" (.cons (.var 0) (.cons (.idx (.var 2) (.cst (.int 0))) .nil))))) (.cons (.set (.nm 7) (.mth .index (.var 3) (.var 6))) (.cons (.set (.nm 8) (.idx (.idx (.own 4) (.var 7)) (.cst (.int 0)))) (.cons (.put 4 (.var 7) (.bin .Add (.slc (.idx (.own 4) (.var 7)) (.so (.cst (.int 1))) .no) (.tup (.cons (.var 5) .nil)))) (.cons (.set (.nm 5) (.var 8)) .nil))))) (.cons (.ret (.tup (.cons (.blt .tuple (.own 4)) (.cons (.var 5) .nil)))) .nil)))
def n_plain_drawn : List Str := ["net", "state", "push", "names", "made", "slug", "pipe", "at", "out"]
def c_look_pushed : Ss := (.cons (.exp (.call "look_net" (.cons (.var 0) .nil))) (.cons (.exp (.call "look_state" (.cons (.var 0) (.cons (.var 1) .nil)))) (.cons (.exp (.call "look_push" (.cons (.var 0) (.cons (.var 2) .nil)))) .nil)))
def n_look_pushed : List Str := ["net", "state", "push"]
def c_pushed : Ss := (.cons (.exp (.call "look_pushed" (.cons (.var 0) (.cons (.var 1) (.cons (.var 2) .nil))))) (.cons (.ret (.call "plain_pushed" (.cons (.var 0) (.cons (.var 1) (.cons (.var 2) .nil))))) .nil))
def n_pushed : List Str := ["net", "state", "push"]
def c_drawn : Ss := (.cons (.exp (.call "look_pushed" (.cons (.var 0) (.cons (.var 1) (.cons (.var 2) .nil))))) (.cons (.ret (.call "plain_drawn" (.cons (.var 0) (.cons (.var 1) (.cons (.var 2) .nil))))) .nil))
def n_drawn : List Str := ["net", "state", "push"]
def c_plain_through : Ss := (.cons (.ret (.lc [2] (.idx (.var 2) (.cst (.int 0))) (.nm 2) (.seq (.idx (.var 0) (.cst (.int 1)))) (.so (.cmp .In (.var 1) (.idx (.var 2) (.cst (.int 1))))))) .nil)
def n_plain_through : List Str := ["net", "pipe", "way"]
def c_ways_through : Ss := (.cons (.exp (.call "look_net" (.cons (.var 0) .nil))) (.cons (.exp (.call "look_pipe" (.cons (.var 0) (.cons (.var 1) .nil)))) (.cons (.ret (.call "plain_through" (.cons (.var 0) (.cons (.var 1) .nil)))) .nil)))
def n_ways_through : List Str := ["net", "pipe"]
def c__law_push : Ss := (.cons (.dst 5 (.lc [8, 9] (.tup (.cons (.idx (.var 9) (.cst (.int 0))) (.cons (.blt .list (.var 8)) .nil))) (.tp (.cons (.nm 9) (.cons (.nm 8) .nil))) (.zip (.idx (.var 0) (.cst (.int 0))) (.var 1)) .no)) (.cons (.set (.nm 6) (.blt .list (.idx (.dct (.idx (.var 0) (.cst (.int 1)))) (.var 2)))) (.cons (.for_ [7, 8] (.nm 7) (.seq (.ite (.cmp .Eq (.var 4) (.cst (.int 1))) (.var 6) (.rev (.var 6)))) (.cons (.set (.nm 8) (.idx (.own 5) (.var 7))) (.cons (.ite (.cmp .Eq (.var 4) (.cst (.int 1))) (.cons (.dpn 5 (.var 7) 3 (.bin .Add (.lst (.cons (.var 3) .nil)) (.slc (.var 8) .no (.so (.neg (.cst (.int 1)))))) (.idx (.var 8) (.neg (.cst (.int 1))))) .nil) (.cons (.dpn 5 (.var 7) 3 (.bin .Add (.slc (.var 8) (.so (.cst (.int 1))) .no) (.lst (.cons (.var 3) .nil))) (.idx (.var 8) (.cst (.int 0)))) .nil)) .nil))) (.cons (.ret (.tup (.cons (.blt .tuple (.lc [9] (.blt .tuple (.idx (.own 5) (.idx (.var 9) (.cst (.int 0))))) (.nm 9) (.seq (.idx (.var 0) (.cst (.int 0)))) .no)) (.cons (.var 3) .nil)))) .nil))))
def n__law_push : List Str := ["net", "state", "way", "slug", "by", "rows", "names", "name", "row", "pipe"]
def c_look_way : Ss := (.cons (.ite (.bop .Or (.cons (.not (.call "is_name" (.cons (.var 1) .nil))) (.cons (.cmp .NotIn (.var 1) (.call "ways_in" (.cons (.var 0) .nil))) .nil))) (.cons (.rai "NoWay") .nil) (.nil)) .nil)
def n_look_way : List Str := ["net", "thing"]
def c_is_run_of : Ss := (.cons (.ret (.bop .And (.cons (.isi (.var 1) .list) (.cons (.cmp .LtE (.blt .len (.var 1)) (.glb (.int 3000))) (.cons (.blt .all (.lc [2] (.call "is_push_of" (.cons (.var 0) (.cons (.var 2) .nil))) (.nm 2) (.seq (.var 1)) .no)) .nil))))) .nil)
def n_is_run_of : List Str := ["net", "thing", "push"]
def c_is_run : Ss := (.cons (.exp (.call "look_net" (.cons (.var 0) .nil))) (.cons (.ret (.call "is_run_of" (.cons (.var 0) (.cons (.var 1) .nil)))) .nil))
def n_is_run : List Str := ["net", "thing"]
def c_look_run : Ss := (.cons (.ite (.not (.call "is_run_of" (.cons (.var 0) (.cons (.var 1) .nil)))) (.cons (.rai "NoRun") .nil) (.nil)) .nil)
def n_look_run : List Str := ["net", "thing"]
def c_plain_run : Ss := (.cons (.own 3 (.lst (.nil))) (.cons (.for_ [4, 5] (.nm 4) (.seq (.var 2)) (.cons (.set (.tp (.cons (.nm 1) (.cons (.nm 5) .nil))) (.call "plain_pushed" (.cons (.var 0) (.cons (.var 1) (.cons (.var 4) .nil))))) (.cons (.app 3 (.tup (.cons (.idx (.var 4) (.cst (.int 0))) (.cons (.var 5) .nil)))) .nil))) (.cons (.frz 3) (.cons (.ret (.tup (.cons (.var 1) (.cons (.var 3) .nil)))) .nil))))
def n_plain_run : List Str := ["net", "state", "run", "outs", "push", "out"]
def c_behind : Ss := (.cons (.exp (.call "look_net" (.cons (.var 0) .nil))) (.cons (.exp (.call "look_state" (.cons (.var 0) (.cons (.var 1) .nil)))) (.cons (.exp (.call "look_run" (.cons (.var 0) (.cons (.var 2) .nil)))) (.cons (.ret (.call "plain_run" (.cons (.var 0) (.cons (.var 1) (.cons (.var 2) .nil))))) .nil))))
def n_behind : List Str := ["net", "state", "run"]
def c_outs_of : Ss := (.cons (.exp (.call "look_net" (.cons (.var 0) .nil))) (.cons (.exp (.call "look_state" (.cons (.var 0) (.cons (.var 1) .nil)))) (.cons (.exp (.call "look_run" (.cons (.var 0) (.cons (.var 2) .nil)))) (.cons (.exp (.call "look_way" (.cons (.var 0) (.cons (.var 3) .nil)))) (.cons (.ret (.lc [4, 5] (.var 5) (.tp (.cons (.nm 4) (.cons (.nm 5) .nil))) (.seq (.idx (.call "plain_run" (.cons (.var 0) (.cons (.var 1) (.cons (.var 2) .nil)))) (.cst (.int 1)))) (.so (.cmp .Eq (.var 4) (.var 3))))) .nil)))))
def n_outs_of : List Str := ["net", "state", "run", "way", "one", "out"]
def c_is_spot_of : Ss := (.cons (.ite (.bop .Or (.cons (.not (.call "is_pair" (.cons (.var 1) .nil))) (.cons (.cmp .NotIn (.idx (.var 1) (.cst (.int 0))) (.call "pipes_in" (.cons (.var 0) .nil))) .nil))) (.cons (.ret (.cst (.bool false))) .nil) (.nil)) (.cons (.ret (.call "is_whole" (.cons (.idx (.var 1) (.cst (.int 1))) (.cons (.cst (.int 0)) (.cons (.bin .Sub (.idx (.dct (.idx (.var 0) (.cst (.int 0)))) (.idx (.var 1) (.cst (.int 0)))) (.cst (.int 1))) .nil))))) .nil))
def n_is_spot_of : List Str := ["net", "thing"]
def c_look_spot : Ss := (.cons (.ite (.not (.call "is_spot_of" (.cons (.var 0) (.cons (.var 1) .nil)))) (.cons (.rai "NoSpot") .nil) (.nil)) .nil)
def n_look_spot : List Str := ["net", "thing"]
def c_spots_in : Ss := (.cons (.ret (.lc2 [1, 2, 3] (.tup (.cons (.var 1) (.cons (.var 3) .nil))) (.tp (.cons (.nm 1) (.cons (.nm 2) .nil))) (.seq (.idx (.var 0) (.cst (.int 0)))) (.nm 3) (.rng (.var 2)) .no)) .nil)
def n_spots_in : List Str := ["net", "name", "length", "place"]
def c_marked : Ss := (.cons (.ret (.blt .tuple (.lc [1, 2] (.blt .tuple (.lc [3] (.tup (.cons (.var 1) (.cons (.var 3) .nil))) (.nm 3) (.rng (.var 2)) .no)) (.tp (.cons (.nm 1) (.cons (.nm 2) .nil))) (.seq (.idx (.var 0) (.cst (.int 0)))) .no))) .nil)
def n_marked : List Str := ["net", "name", "length", "place"]
def c_traced : Ss := (.cons (.set (.tp (.cons (.nm 2) (.cons (.nm 3) .nil))) (.call "plain_run" (.cons (.var 0) (.cons (.call "marked" (.cons (.var 0) .nil)) (.cons (.lc [4, 5] (.tup (.cons (.idx (.var 5) (.cst (.int 0))) (.cons (.var 4) .nil))) (.tp (.cons (.nm 4) (.cons (.nm 5) .nil))) (.enm (.var 1)) .no) .nil))))) (.cons (.ret (.tup (.cons (.var 2) (.cons (.lc [6, 7] (.var 7) (.tp (.cons (.nm 6) (.cons (.nm 7) .nil))) (.seq (.var 3)) .no) .nil)))) .nil))
def n_traced : List Str := ["net", "run", "state", "outs", "number", "push", "way", "out"]
def c_places_of : Ss := (.cons (.ret (.lc [2] (.tup (.cons (.var 2) (.cons (.idx (.idx (.var 1) (.mth .index (.call "pipes_in" (.cons (.var 0) .nil)) (.idx (.var 2) (.cst (.int 0))))) (.idx (.var 2) (.cst (.int 1)))) .nil))) (.nm 2) (.seq (.call "spots_in" (.cons (.var 0) .nil))) .no)) .nil)
def n_places_of : List Str := ["net", "state", "spot"]
def c_look_asked : Ss := (.cons (.exp (.call "look_net" (.cons (.var 0) .nil))) (.cons (.exp (.call "look_run" (.cons (.var 0) (.cons (.var 1) .nil)))) (.cons (.exp (.call "look_spot" (.cons (.var 0) (.cons (.var 2) .nil)))) .nil)))
def n_look_asked : List Str := ["net", "run", "spot"]
def c_where : Ss := (.cons (.exp (.call "look_asked" (.cons (.var 0) (.cons (.var 1) (.cons (.var 2) .nil))))) (.cons (.set (.tp (.cons (.nm 3) (.cons (.nm 4) .nil))) (.call "traced" (.cons (.var 0) (.cons (.var 1) .nil)))) (.cons (.ite (.cmp .In (.var 2) (.var 4)) (.cons (.ret (.mth .index (.var 4) (.var 2))) .nil) (.nil)) (.cons (.ret (.idx (.lc [5, 6] (.var 5) (.tp (.cons (.nm 5) (.cons (.nm 6) .nil))) (.seq (.call "places_of" (.cons (.var 0) (.cons (.var 3) .nil)))) (.so (.cmp .Eq (.var 6) (.var 2)))) (.cst (.int 0)))) .nil))))
def n_where : List Str := ["net", "run", "spot", "state", "outs", "place", "mark"]
def c_whence : Ss := (.cons (.exp (.call "look_asked" (.cons (.var 0) (.cons (.var 1) (.cons (.var 2) .nil))))) (.cons (.ret (.dix (.call "places_of" (.cons (.var 0) (.cons (.idx (.call "traced" (.cons (.var 0) (.cons (.var 1) .nil))) (.cst (.int 0))) .nil))) (.var 2))) .nil))
def n_whence : List Str := ["net", "run", "spot"]
def c_delay : Ss := (.cons (.exp (.call "look_net" (.cons (.var 0) .nil))) (.cons (.exp (.call "look_way" (.cons (.var 0) (.cons (.var 1) .nil)))) (.cons (.ret (.blt .sum (.lc [2] (.idx (.dct (.idx (.var 0) (.cst (.int 0)))) (.var 2)) (.nm 2) (.seq (.call "row_of" (.cons (.var 0) (.cons (.var 1) .nil)))) .no))) .nil)))
def n_delay : List Str := ["net", "way", "pipe"]
def c__law_unlike : Ss := (.cons (.par [(1, true), (2, false)] (.cons (.lst (.nil)) (.cons (.cst (.int 0)) .nil))) (.cons (.for_ [3, 4] (.tp (.cons (.nm 3) (.cons (.nm 4) .nil))) (.seq (.idx (.var 0) (.cst (.int 0)))) (.cons (.app 1 (.blt .tuple (.lc [5] (.bin .Add (.cst (.str "u")) (.idx (.cst (.str "abcdefghijklmnopqrstuvwxyz")) (.bin .Add (.var 2) (.var 5)))) (.nm 5) (.rng (.var 4)) .no))) (.cons (.set (.nm 2) (.bin .Add (.var 2) (.var 4))) .nil))) (.cons (.ret (.blt .tuple (.own 1))) .nil)))
def n__law_unlike : List Str := ["net", "rows", "k", "name", "length", "n"]
def c__law_run_2 : Ss := (.cons (.set (.nm 4) (.call "_law_drawn" (.cons (.var 0) (.cons (.var 1) (.cons (.bin .Add (.var 3) (.cst (.int 1))) .nil))))) (.cons (.own 5 (.lst (.nil))) (.cons (.for_ [6, 7] (.nm 6) (.rng (.var 4)) (.cons (.set (.nm 7) (.idx (.idx (.idx (.var 2) (.cst (.int 1))) (.call "_law_drawn" (.cons (.var 0) (.cons (.bin .Add (.bin .Add (.var 1) (.cst (.int 1))) (.bin .Mult (.cst (.int 2)) (.var 6))) (.cons (.blt .len (.idx (.var 2) (.cst (.int 1)))) .nil))))) (.cst (.int 0)))) (.cons (.app 5 (.tup (.cons (.var 7) (.cons (.idx (.lst (.cons (.cst (.str "x")) (.cons (.cst (.str "y")) (.cons (.cst (.str "new")) .nil)))) (.call "_law_drawn" (.cons (.var 0) (.cons (.bin .Add (.bin .Add (.var 1) (.cst (.int 2))) (.bin .Mult (.cst (.int 2)) (.var 6))) (.cons (.cst (.int 3)) .nil))))) .nil)))) .nil))) (.cons (.frz 5) (.cons (.ret (.var 5)) .nil)))))
def n__law_run_2 : List Str := ["script", "at", "net", "most", "many", "found", "k", "way"]
def c__law_run : Ss := (.cons (.own 5 (.lst (.nil))) (.cons (.for_ [6, 7] (.nm 6) (.rng (.call "_law_pick" (.cons (.var 0) (.cons (.var 1) (.cons (.bin .Add (.var 3) (.cst (.int 1))) .nil))))) (.cons (.set (.nm 7) (.idx (.idx (.idx (.var 2) (.cst (.int 1))) (.call "_law_pick" (.cons (.var 0) (.cons (.bin .Add (.bin .Add (.var 1) (.cst (.int 1))) (.bin .Mult (.cst (.int 2)) (.var 6))) (.cons (.blt .len (.idx (.var 2) (.cst (.int 1)))) .nil))))) (.cst (.int 0)))) (.cons (.app 5 (.tup (.cons (.var 7) (.cons (.idx (.var 4) (.call "_law_pick" (.cons (.var 0) (.cons (.bin .Add (.bin .Add (.var 1) (.cst (.int 2))) (.bin .Mult (.cst (.int 2)) (.var 6))) (.cons (.blt .len (.var 4)) .nil))))) .nil)))) .nil))) (.cons (.frz 5) (.cons (.ret (.var 5)) .nil))))
def n__law_run : List Str := ["script", "at", "net", "many", "slugs", "made", "k", "way"]
def c__law_went : Ss := (.cons (.own 3 (.lst (.nil))) (.cons (.for_ [4, 5, 6] (.tp (.cons (.nm 4) (.cons (.nm 5) .nil))) (.seq (.var 2)) (.cons (.set (.tp (.cons (.nm 1) (.cons (.nm 6) .nil))) (.call "_law_push" (.cons (.var 0) (.cons (.var 1) (.cons (.var 4) (.cons (.var 5) (.cons (.cst (.int 1)) .nil))))))) (.cons (.app 3 (.tup (.cons (.var 4) (.cons (.var 6) .nil)))) .nil))) (.cons (.frz 3) (.cons (.ret (.tup (.cons (.var 1) (.cons (.var 3) .nil)))) .nil))))
def n__law_went : List Str := ["net", "state", "run", "outs", "way", "slug", "out"]
def c__law_refused : Ss := (.cons (.set (.nm 4) (.lst (.cons (.cst .none) (.cons (.tup (.nil)) (.cons (.lst (.cons (.cst .none) .nil)) (.cons (.lst (.cons (.tup (.cons (.cst (.str "zz")) (.cons (.cst (.str "x")) .nil))) .nil)) (.cons (.lst (.cons (.tup (.cons (.cst (.str "a")) (.cons (.cst (.str "X")) .nil))) .nil)) (.cons (.lst (.cons (.tup (.cons (.cst (.str "a")) .nil)) .nil)) (.cons (.lst (.cons (.lst (.cons (.cst (.str "a")) (.cons (.cst (.str "x")) .nil))) .nil)) (.cons (.blt .tuple (.var 3)) .nil)))))))))) (.cons (.set (.nm 5) (.idx (.var 4) (.call "_law_drawn" (.cons (.var 0) (.cons (.cst (.int 200)) (.cons (.cst (.int 8)) .nil)))))) (.cons (.set (.nm 6) (.idx (.lst (.cons (.cst .none) (.cons (.tup (.nil)) (.cons (.tup (.cons (.cst (.str "p")) .nil)) (.cons (.tup (.cons (.cst (.str "p")) (.cons (.neg (.cst (.int 1))) .nil))) (.cons (.tup (.cons (.cst (.str "p")) (.cons (.cst (.int 4)) .nil))) (.cons (.tup (.cons (.cst (.str "zz")) (.cons (.cst (.int 0)) .nil))) (.cons (.tup (.cons (.cst (.str "p")) (.cons (.cst (.bool true)) .nil))) (.cons (.lst (.cons (.cst (.str "p")) (.cons (.cst (.int 0)) .nil))) (.cons (.cst (.str "P")) .nil)))))))))) (.call "_law_drawn" (.cons (.var 0) (.cons (.cst (.int 201)) (.cons (.cst (.int 9)) .nil)))))) (.cons (.set (.nm 7) (.idx (.lst (.cons (.cst .none) (.cons (.tup (.nil)) (.cons (.slc (.var 2) (.so (.cst (.int 1))) .no) (.cons (.blt .list (.var 2)) .nil))))) (.call "_law_drawn" (.cons (.var 0) (.cons (.cst (.int 202)) (.cons (.cst (.int 4)) .nil)))))) (.cons (.set (.nm 8) (.lc [9] (.call "_law_no" (.cons (.var 9) (.cons (.slc (.var 1) .no (.so (.cst (.int 1)))) (.cons (.var 7) (.cons (.var 5) (.cons (.var 6) .nil)))))) (.nm 9) (.rng (.cst (.int 6))) .no)) (.cons (.set (.nm 8) (.bin .Add (.var 8) (.lc [9] (.call "_law_no" (.cons (.var 9) (.cons (.var 1) (.cons (.var 7) (.cons (.var 5) (.cons (.var 6) .nil)))))) (.nm 9) (.rng (.cst (.int 2))) .no))) (.cons (.set (.nm 8) (.bin .Add (.var 8) (.lc [9] (.call "_law_no" (.cons (.var 9) (.cons (.var 1) (.cons (.var 2) (.cons (.var 5) (.cons (.var 6) .nil)))))) (.nm 9) (.rng (.cst (.int 4))) .no))) (.cons (.set (.nm 8) (.bin .Add (.var 8) (.lc [9] (.call "_law_no" (.cons (.var 9) (.cons (.var 1) (.cons (.var 2) (.cons (.var 3) (.cons (.var 6) .nil)))))) (.nm 9) (.seq (.tup (.cons (.cst (.int 1)) (.cons (.cst (.int 2)) (.cons (.cst (.int 3)) (.cons (.cst (.int 5)) .nil)))))) .no))) (.cons (.ite (.cmp .NotEq (.var 8) (.bin .Add (.bin .Add (.bin .Add (.bin .Mult (.lst (.cons (.cst (.int 0)) .nil)) (.cst (.int 6))) (.lst (.cons (.cst (.int 1)) (.cons (.cst (.int 1)) .nil)))) (.bin .Mult (.lst (.cons (.cst (.int 2)) .nil)) (.cst (.int 4)))) (.lst (.cons (.cst (.int 4)) (.cons (.cst (.int 3)) (.cons (.cst (.int 3)) (.cons (.cst (.int 4)) .nil))))))) (.cons (.ret (.cst (.bool false))) .nil) (.nil)) (.cons (.ret (.bop .And (.cons (.cmp .Is (.call "is_run" (.cons (.var 1) (.cons (.var 5) .nil))) (.cst (.bool false))) (.cons (.cmp .Is (.call "is_run" (.cons (.var 1) (.cons (.var 3) .nil))) (.cst (.bool true))) .nil)))) .nil))))))))))
def n__law_refused : List Str := ["script", "net", "state", "run", "bad", "no_run", "odd", "no_state", "told", "way"]
def c__law_at : Ss := (.cons (.ret (.idx (.idx (.dct (.lc [3, 4] (.tup (.cons (.idx (.var 3) (.cst (.int 0))) (.cons (.var 4) .nil))) (.tp (.cons (.nm 3) (.cons (.nm 4) .nil))) (.zip (.idx (.var 0) (.cst (.int 0))) (.var 1)) .no)) (.idx (.var 2) (.cst (.int 0)))) (.idx (.var 2) (.cst (.int 1))))) .nil)
def n__law_at : List Str := ["net", "state", "spot", "pipe", "row"]
def c__law_delays : Ss := (.cons (.for_ [2, 3, 4, 5, 6] (.tp (.cons (.nm 2) (.cons (.nm 3) .nil))) (.seq (.idx (.var 0) (.cst (.int 1)))) (.cons (.set (.nm 4) (.call "delay" (.cons (.var 0) (.cons (.var 2) .nil)))) (.cons (.set (.nm 5) (.bin .Add (.lst (.cons (.tup (.cons (.var 2) (.cons (.cst (.str "new")) .nil))) .nil)) (.bin .Mult (.lst (.cons (.tup (.cons (.var 2) (.cons (.cst (.str "old")) .nil))) .nil)) (.var 4)))) (.cons (.set (.nm 6) (.call "outs_of" (.cons (.var 0) (.cons (.blt .tuple (.lc [7, 8] (.bin .Mult (.tup (.cons (.cst (.str "old")) .nil)) (.var 8)) (.tp (.cons (.nm 7) (.cons (.nm 8) .nil))) (.seq (.idx (.var 0) (.cst (.int 0)))) .no)) (.cons (.var 5) (.cons (.var 2) .nil)))))) (.cons (.ite (.cmp .NotEq (.var 6) (.bin .Add (.bin .Mult (.lst (.cons (.cst (.str "old")) .nil)) (.var 4)) (.lst (.cons (.cst (.str "new")) .nil)))) (.cons (.ret (.cst (.bool false))) .nil) (.nil)) (.cons (.ite (.cmp .NotEq (.idx (.call "pushed" (.cons (.var 0) (.cons (.var 1) (.cons (.tup (.cons (.var 2) (.cons (.cst (.str "new")) .nil))) .nil)))) (.cst (.int 1))) (.idx (.call "outs_of" (.cons (.var 0) (.cons (.var 1) (.cons (.var 5) (.cons (.var 2) .nil))))) (.cst (.int 0)))) (.cons (.ret (.cst (.bool false))) .nil) (.nil)) .nil)))))) (.cons (.ret (.cst (.bool true))) .nil))
def n__law_delays : List Str := ["net", "state", "way", "row", "many", "alone", "told", "name", "length"]
def c_is_order_of : Ss := (.cons (.ite (.bop .Or (.cons (.not (.isi (.var 1) .list)) (.cons (.cmp .Gt (.blt .len (.var 1)) (.glb (.int 40))) .nil))) (.cons (.ret (.cst (.bool false))) .nil) (.nil)) (.cons (.ret (.blt .all (.lc [2] (.bop .And (.cons (.call "is_name" (.cons (.var 2) .nil)) (.cons (.cmp .In (.var 2) (.call "ways_in" (.cons (.var 0) .nil))) .nil))) (.nm 2) (.seq (.var 1)) .no))) .nil))
def n_is_order_of : List Str := ["net", "thing", "way"]
def c_is_order : Ss := (.cons (.exp (.call "look_net" (.cons (.var 0) .nil))) (.cons (.ret (.call "is_order_of" (.cons (.var 0) (.cons (.var 1) .nil)))) .nil))
def n_is_order : List Str := ["net", "thing"]
def c_look_order : Ss := (.cons (.ite (.not (.call "is_order_of" (.cons (.var 0) (.cons (.var 1) .nil)))) (.cons (.rai "NoOrder") .nil) (.nil)) .nil)
def n_look_order : List Str := ["net", "thing"]
def c_meet : Ss := (.cons (.ret (.blt .any (.lc [3] (.cmp .In (.var 3) (.call "row_of" (.cons (.var 0) (.cons (.var 2) .nil)))) (.nm 3) (.seq (.call "row_of" (.cons (.var 0) (.cons (.var 1) .nil)))) .no))) .nil)
def n_meet : List Str := ["net", "one", "other", "pipe"]
def c_do_meet : Ss := (.cons (.exp (.call "look_net" (.cons (.var 0) .nil))) (.cons (.exp (.call "look_way" (.cons (.var 0) (.cons (.var 1) .nil)))) (.cons (.exp (.call "look_way" (.cons (.var 0) (.cons (.var 2) .nil)))) (.cons (.ret (.call "meet" (.cons (.var 0) (.cons (.var 1) (.cons (.var 2) .nil))))) .nil))))
def n_do_meet : List Str := ["net", "one", "other"]
def c_plain_passing : Ss := (.cons (.ret (.lc [3] (.var 3) (.nm 3) (.seq (.var 1)) (.so (.cmp .In (.var 2) (.call "row_of" (.cons (.var 0) (.cons (.var 3) .nil))))))) .nil)
def n_plain_passing : List Str := ["net", "order", "pipe", "way"]
def c_passing : Ss := (.cons (.exp (.call "look_net" (.cons (.var 0) .nil))) (.cons (.exp (.call "look_order" (.cons (.var 0) (.cons (.var 1) .nil)))) (.cons (.exp (.call "look_pipe" (.cons (.var 0) (.cons (.var 2) .nil)))) (.cons (.ret (.call "plain_passing" (.cons (.var 0) (.cons (.var 1) (.cons (.var 2) .nil))))) .nil))))
def n_passing : List Str := ["net", "order", "pipe"]
def c_are_exchanged : Ss := (.cons (.exp (.call "look_net" (.cons (.var 0) .nil))) (.cons (.exp (.call "look_order" (.cons (.var 0) (.cons (.var 1) .nil)))) (.cons (.exp (.call "look_order" (.cons (.var 0) (.cons (.var 2) .nil)))) (.cons (.ret (.blt .all (.lc [3] (.cmp .Eq (.call "plain_passing" (.cons (.var 0) (.cons (.var 1) (.cons (.var 3) .nil)))) (.call "plain_passing" (.cons (.var 0) (.cons (.var 2) (.cons (.var 3) .nil))))) (.nm 3) (.seq (.call "pipes_in" (.cons (.var 0) .nil))) .no))) .nil))))
def n_are_exchanged : List Str := ["net", "one", "other", "pipe"]
def c_look_both : Ss := (.cons (.exp (.call "look_net" (.cons (.var 0) .nil))) (.cons (.exp (.call "look_order" (.cons (.var 0) (.cons (.var 1) .nil)))) (.cons (.exp (.call "look_order" (.cons (.var 0) (.cons (.var 2) .nil)))) (.cons (.ite (.cmp .NotEq (.blt .sorted (.var 1)) (.blt .sorted (.var 2))) (.cons (.rai "NoOrder") .nil) (.nil)) .nil))))
def n_look_both : List Str := ["net", "one", "other"]
def c_unlike_slugs : Ss := (.cons (.ret (.slc (.lc2 [1, 2] (.bin .Add (.var 1) (.var 2)) (.nm 1) (.seq (.glb (.str "abcdefghijklmnopqrstuvwxyz"))) (.nm 2) (.seq (.glb (.str "abcdefghijklmnopqrstuvwxyz"))) .no) .no (.so (.var 0)))) .nil)
def n_unlike_slugs : List Str := ["many", "one", "other"]
def c_unlike_start : Ss := (.cons (.set (.nm 2) (.bin .Add (.lc [6, 7] (.var 7) (.tp (.cons (.nm 6) (.cons (.nm 7) .nil))) (.seq (.idx (.var 0) (.cst (.int 0)))) .no) (.lc [8] (.mth .count (.var 1) (.var 8)) (.nm 8) (.seq (.call "ways_in" (.cons (.var 0) .nil))) .no))) (.cons (.par [(3, false), (4, true)] (.cons (.call "unlike_slugs" (.cons (.blt .sum (.var 2)) .nil)) (.cons (.lst (.nil)) .nil))) (.cons (.for_ [5] (.nm 5) (.seq (.var 2)) (.cons (.app 4 (.blt .tuple (.slc (.var 3) .no (.so (.var 5))))) (.cons (.set (.nm 3) (.slc (.var 3) (.so (.var 5)) .no)) .nil))) (.cons (.ret (.tup (.cons (.blt .tuple (.slc (.own 4) .no (.so (.blt .len (.idx (.var 0) (.cst (.int 0))))))) (.cons (.blt .tuple (.slc (.own 4) (.so (.blt .len (.idx (.var 0) (.cst (.int 0))))) .no)) .nil)))) .nil))))
def n_unlike_start : List Str := ["net", "order", "sizes", "left", "rows", "size", "name", "length", "way"]
def c_is_start : Ss := (.cons (.ite (.bop .Or (.cons (.not (.isi (.var 2) .tuple)) (.cons (.cmp .NotEq (.blt .len (.var 2)) (.cst (.int 2))) (.cons (.not (.call "is_state_of" (.cons (.var 0) (.cons (.idx (.var 2) (.cst (.int 0))) .nil)))) .nil)))) (.cons (.ret (.cst (.bool false))) .nil) (.nil)) (.cons (.par [(3, false), (4, false)] (.cons (.idx (.var 2) (.cst (.int 1))) (.cons (.call "ways_in" (.cons (.var 0) .nil)) .nil))) (.cons (.ite (.bop .Or (.cons (.not (.isi (.var 3) .tuple)) (.cons (.cmp .NotEq (.blt .len (.var 3)) (.blt .len (.var 4))) (.cons (.not (.blt .all (.lc [5] (.isi (.var 5) .tuple) (.nm 5) (.seq (.var 3)) .no))) .nil)))) (.cons (.ret (.cst (.bool false))) .nil) (.nil)) (.cons (.ite (.not (.blt .all (.lc [5, 7] (.cmp .Eq (.blt .len (.var 5)) (.mth .count (.var 1) (.var 7))) (.tp (.cons (.nm 5) (.cons (.nm 7) .nil))) (.zip (.var 3) (.var 4)) .no))) (.cons (.ret (.cst (.bool false))) .nil) (.nil)) (.cons (.ret (.blt .all (.lc2 [5, 6] (.call "is_name" (.cons (.var 6) .nil)) (.nm 5) (.seq (.var 3)) (.nm 6) (.seq (.var 5)) .no))) .nil)))))
def n_is_start : List Str := ["net", "order", "thing", "rows", "ways", "row", "slug", "way"]
def c_free_in : Ss := (.cons (.ret (.lc [2, 3] (.var 2) (.tp (.cons (.nm 2) (.cons (.nm 3) .nil))) (.enm (.var 1)) (.so (.not (.blt .any (.lc [4] (.call "meet" (.cons (.var 0) (.cons (.var 3) (.cons (.var 4) .nil)))) (.nm 4) (.seq (.slc (.var 1) .no (.so (.var 2)))) .no)))))) .nil)
def n_free_in : List Str := ["net", "order", "at", "way", "other"]
def c_rounds : Ss := (.cons (.exp (.call "look_net" (.cons (.var 0) .nil))) (.cons (.exp (.call "look_order" (.cons (.var 0) (.cons (.var 1) .nil)))) (.cons (.par [(2, false), (3, true)] (.cons (.blt .list (.var 1)) (.cons (.lst (.nil)) .nil))) (.cons (.whl 100000 [4] (.cmp .NotEq (.var 2) (.lst (.nil))) (.cons (.set (.nm 4) (.call "free_in" (.cons (.var 0) (.cons (.var 2) .nil)))) (.cons (.app 3 (.blt .sorted (.lc [5] (.idx (.var 2) (.var 5)) (.nm 5) (.seq (.var 4)) .no))) (.cons (.set (.nm 2) (.lc [5, 6] (.var 6) (.tp (.cons (.nm 5) (.cons (.nm 6) .nil))) (.enm (.var 2)) (.so (.cmp .NotIn (.var 5) (.var 4))))) .nil)))) (.cons (.frz 3) (.cons (.ret (.var 3)) .nil))))))
def n_rounds : List Str := ["net", "order", "left", "found", "some", "at", "way"]
def c__law_order : Ss := (.cons (.set (.nm 4) (.call "_law_drawn" (.cons (.var 0) (.cons (.var 1) (.cons (.bin .Add (.var 3) (.cst (.int 1))) .nil))))) (.cons (.ret (.lc [5] (.idx (.idx (.idx (.var 2) (.cst (.int 1))) (.call "_law_drawn" (.cons (.var 0) (.cons (.bin .Add (.bin .Add (.var 1) (.cst (.int 1))) (.var 5)) (.cons (.blt .len (.idx (.var 2) (.cst (.int 1)))) .nil))))) (.cst (.int 0))) (.nm 5) (.rng (.var 4)) .no)) .nil))
def n__law_order : List Str := ["script", "at", "net", "most", "many", "k"]
def c__law_meet : Ss := (.cons (.dst 3 (.idx (.var 0) (.cst (.int 1)))) (.cons (.ret (.cmp .NotEq (.lc [4] (.var 4) (.nm 4) (.seq (.idx (.own 3) (.var 1))) (.so (.cmp .In (.var 4) (.idx (.own 3) (.var 2))))) (.lst (.nil)))) .nil))
def n__law_meet : List Str := ["net", "one", "other", "rows", "name"]
def c__law_all : Ss := (.cons (.par [(2, true), (3, true)] (.cons (.lst (.cons (.var 1) .nil)) (.cons (.lst (.cons (.var 1) .nil)) .nil))) (.cons (.whl 100000 [4, 5, 6] (.cmp .NotEq (.own 3) (.lst (.nil))) (.cons (.pop 4 3 .no) (.cons (.for_ [5, 6] (.nm 5) (.rng (.bin .Sub (.blt .len (.var 4)) (.cst (.int 1)))) (.cons (.ite (.not (.call "_law_meet" (.cons (.var 0) (.cons (.idx (.var 4) (.var 5)) (.cons (.idx (.var 4) (.bin .Add (.var 5) (.cst (.int 1)))) .nil))))) (.cons (.set (.nm 6) (.bin .Add (.bin .Add (.slc (.var 4) .no (.so (.var 5))) (.lst (.cons (.idx (.var 4) (.bin .Add (.var 5) (.cst (.int 1)))) (.cons (.idx (.var 4) (.var 5)) .nil)))) (.slc (.var 4) (.so (.bin .Add (.var 5) (.cst (.int 2)))) .no))) (.cons (.ite (.cmp .NotIn (.var 6) (.own 2)) (.cons (.app 2 (.var 6)) (.cons (.app 3 (.var 6)) .nil)) (.nil)) .nil)) (.nil)) .nil)) .nil))) (.cons (.frz 2) (.cons (.ret (.var 2)) .nil))))
def n__law_all : List Str := ["net", "order", "found", "line", "here", "k", "there"]
def c__law_slugs : Ss := (.cons (.par [(2, true), (3, false)] (.cons (.lst (.nil)) (.cons (.cst (.int 0)) .nil))) (.cons (.for_ [4, 5] (.tp (.cons (.nm 4) (.cons (.nm 5) .nil))) (.seq (.idx (.var 0) (.cst (.int 1)))) (.cons (.app 2 (.blt .tuple (.lc [6] (.bin .Add (.cst (.str "v")) (.idx (.cst (.str "abcdefghijklmnopqrstuvwxyz")) (.bin .Add (.var 3) (.var 6)))) (.nm 6) (.rng (.mth .count (.var 1) (.var 4))) .no))) (.cons (.set (.nm 3) (.bin .Add (.var 3) (.mth .count (.var 1) (.var 4)))) .nil))) (.cons (.ret (.blt .tuple (.own 2))) .nil)))
def n__law_slugs : List Str := ["net", "order", "rows", "k", "way", "row", "n"]
def c__law_named : Ss := (.cons (.par [(3, true), (4, true)] (.cons (.slc (.blt .list (.cst (.str "abcdefgh"))) .no (.so (.var 2))) (.cons (.lst (.nil)) .nil))) (.cons (.whl 100000 [] (.cmp .NotEq (.own 3) (.lst (.nil))) (.cons (.apop 4 3 (.call "_law_drawn" (.cons (.var 0) (.cons (.bin .Add (.var 1) (.blt .len (.own 3))) (.cons (.blt .len (.own 3)) .nil))))) .nil)) (.cons (.frz 4) (.cons (.ret (.var 4)) .nil))))
def n__law_named : List Str := ["script", "at", "many", "left", "found"]
def c_are_feeds_of : Ss := (.cons (.ite (.bop .Or (.cons (.not (.isi (.var 1) .tuple)) (.cons (.cmp .NotEq (.blt .len (.var 1)) (.blt .len (.idx (.var 0) (.cst (.int 0))))) (.cons (.not (.blt .all (.lc [2] (.isi (.var 2) .tuple) (.nm 2) (.seq (.var 1)) .no))) .nil)))) (.cons (.ret (.cst (.bool false))) .nil) (.nil)) (.cons (.ret (.bop .And (.cons (.blt .all (.lc [2] (.cmp .LtE (.blt .len (.var 2)) (.glb (.int 40))) (.nm 2) (.seq (.var 1)) .no)) (.cons (.blt .all (.lc2 [2, 3] (.call "is_name" (.cons (.var 3) .nil)) (.nm 2) (.seq (.var 1)) (.nm 3) (.seq (.var 2)) .no)) .nil)))) .nil))
def n_are_feeds_of : List Str := ["net", "thing", "row", "slug"]
def c_are_feeds : Ss := (.cons (.exp (.call "look_net" (.cons (.var 0) .nil))) (.cons (.ret (.call "are_feeds_of" (.cons (.var 0) (.cons (.var 1) .nil)))) .nil))
def n_are_feeds : List Str := ["net", "thing"]
def c_look_feeds : Ss := (.cons (.ite (.not (.call "are_feeds_of" (.cons (.var 0) (.cons (.var 1) .nil)))) (.cons (.rai "NoFeeds") .nil) (.nil)) .nil)
def n_look_feeds : List Str := ["net", "thing"]
def c_ahead_of : Ss := (.cons (.set (.nm 3) (.call "row_of" (.cons (.var 0) (.cons (.var 1) .nil)))) (.cons (.ret (.slc (.var 3) .no (.so (.mth .index (.var 3) (.var 2))))) .nil))
def n_ahead_of : List Str := ["net", "way", "pipe", "row"]
def c_is_plain_counted : Ss := (.cons (.set (.nm 2) (.call "plain_through" (.cons (.var 0) (.cons (.var 1) .nil)))) (.cons (.set (.nm 3) (.lc [4] (.call "ahead_of" (.cons (.var 0) (.cons (.var 4) (.cons (.var 1) .nil)))) (.nm 4) (.seq (.var 2)) .no)) (.cons (.ite (.blt .any (.lc [5] (.cmp .NotEq (.var 5) (.idx (.var 3) (.cst (.int 0)))) (.nm 5) (.seq (.var 3)) .no)) (.cons (.ret (.cst (.bool false))) .nil) (.nil)) (.cons (.ret (.blt .all (.lc2 [5, 6] (.cmp .Eq (.call "plain_through" (.cons (.var 0) (.cons (.var 6) .nil))) (.var 2)) (.nm 5) (.seq (.var 3)) (.nm 6) (.seq (.var 5)) .no))) .nil))))
def n_is_plain_counted : List Str := ["net", "pipe", "ways", "rows", "way", "row", "other"]
def c_is_counted : Ss := (.cons (.exp (.call "look_net" (.cons (.var 0) .nil))) (.cons (.exp (.call "look_pipe" (.cons (.var 0) (.cons (.var 1) .nil)))) (.cons (.ret (.call "is_plain_counted" (.cons (.var 0) (.cons (.var 1) .nil)))) .nil)))
def n_is_counted : List Str := ["net", "pipe"]
def c_counted_state : Ss := (.cons (.exp (.call "look_net" (.cons (.var 0) .nil))) (.cons (.exp (.call "look_state" (.cons (.var 0) (.cons (.var 1) .nil)))) (.cons (.exp (.call "look_pipe" (.cons (.var 0) (.cons (.var 2) .nil)))) (.cons (.ite (.not (.call "is_plain_counted" (.cons (.var 0) (.cons (.var 2) .nil)))) (.cons (.rai "NoPipe") .nil) (.nil)) (.cons (.exp (.call "look_feeds" (.cons (.var 0) (.cons (.var 3) .nil)))) (.cons (.par [(5, false), (6, false)] (.cons (.call "pipes_in" (.cons (.var 0) .nil)) (.cons (.call "plain_through" (.cons (.var 0) (.cons (.var 2) .nil))) .nil))) (.cons (.set (.nm 7) (.bin .Add (.ite (.cmp .NotEq (.var 6) (.lst (.nil))) (.call "ahead_of" (.cons (.var 0) (.cons (.idx (.var 6) (.cst (.int 0))) (.cons (.var 2) .nil)))) (.tup (.nil))) (.tup (.cons (.var 2) .nil)))) (.cons (.set (.nm 8) (.idx (.var 3) (.mth .index (.var 5) (.idx (.var 7) (.cst (.int 0)))))) (.cons (.ite (.bop .Or (.cons (.not (.call "is_whole" (.cons (.var 4) (.cons (.cst (.int 0)) (.cons (.glb (.int 40)) .nil))))) (.cons (.cmp .Gt (.var 4) (.blt .len (.var 8))) (.cons (.bop .And (.cons (.cmp .Gt (.var 4) (.cst (.int 0))) (.cons (.cmp .Eq (.var 6) (.lst (.nil))) .nil))) .nil)))) (.cons (.rai "NoNumber") .nil) (.nil)) (.cons (.set (.nm 9) (.rev (.slc (.var 8) .no (.so (.var 4))))) (.cons (.for_ [10] (.nm 10) (.seq (.var 7)) (.cons (.set (.nm 9) (.bin .Add (.var 9) (.idx (.var 1) (.mth .index (.var 5) (.var 10))))) .nil)) (.cons (.set (.nm 11) (.blt .sum (.lc [10] (.blt .len (.idx (.var 1) (.mth .index (.var 5) (.var 10)))) (.nm 10) (.seq (.slc (.var 7) .no (.so (.neg (.cst (.int 1)))))) .no))) (.cons (.ret (.slc (.var 9) (.so (.var 11)) (.so (.bin .Add (.var 11) (.blt .len (.idx (.var 1) (.mth .index (.var 5) (.var 2)))))))) .nil)))))))))))))
def n_counted_state : List Str := ["net", "state", "pipe", "feeds", "many", "names", "ways", "row", "feed", "line", "name", "before"]
def c_unlike_feeds : Ss := (.cons (.set (.nm 2) (.blt .sum (.lc [5, 6] (.var 6) (.tp (.cons (.nm 5) (.cons (.nm 6) .nil))) (.seq (.idx (.var 0) (.cst (.int 0)))) .no))) (.cons (.par [(3, false), (4, true)] (.cons (.call "unlike_slugs" (.cons (.bin .Add (.var 2) (.bin .Mult (.blt .len (.var 1)) (.blt .len (.idx (.var 0) (.cst (.int 0)))))) .nil)) (.cons (.lst (.nil)) .nil))) (.cons (.for_ [5, 6] (.tp (.cons (.nm 5) (.cons (.nm 6) .nil))) (.seq (.idx (.var 0) (.cst (.int 0)))) (.cons (.app 4 (.blt .tuple (.slc (.var 3) .no (.so (.var 6))))) (.cons (.set (.nm 3) (.slc (.var 3) (.so (.var 6)) .no)) .nil))) (.cons (.set (.nm 7) (.blt .len (.var 1))) (.cons (.ret (.tup (.cons (.blt .tuple (.own 4)) (.cons (.blt .tuple (.lc [8] (.blt .tuple (.slc (.var 3) (.so (.bin .Mult (.var 8) (.var 7))) (.so (.bin .Mult (.bin .Add (.var 8) (.cst (.int 1))) (.var 7))))) (.nm 8) (.rng (.blt .len (.idx (.var 0) (.cst (.int 0))))) .no)) .nil)))) .nil)))))
def n_unlike_feeds : List Str := ["net", "order", "size", "left", "state", "name", "length", "many", "at"]
def c__law_feeds : Ss := (.cons (.own 4 (.lst (.nil))) (.cons (.for_ [5, 6, 7, 8] (.tp (.cons (.nm 5) (.cons (.nm 6) .nil))) (.enm (.idx (.var 2) (.cst (.int 0)))) (.cons (.set (.nm 7) (.bin .Add (.var 1) (.bin .Mult (.cst (.int 12)) (.var 5)))) (.cons (.set (.nm 8) (.call "_law_drawn" (.cons (.var 0) (.cons (.var 7) (.cons (.var 3) .nil))))) (.cons (.app 4 (.blt .tuple (.lc [9] (.idx (.lst (.cons (.cst (.str "x")) (.cons (.cst (.str "y")) (.cons (.cst (.str "z")) .nil)))) (.call "_law_drawn" (.cons (.var 0) (.cons (.bin .Add (.bin .Add (.var 7) (.cst (.int 1))) (.var 9)) (.cons (.cst (.int 3)) .nil))))) (.nm 9) (.rng (.var 8)) .no))) .nil)))) (.cons (.ret (.blt .tuple (.own 4))) .nil)))
def n__law_feeds : List Str := ["script", "at", "net", "many", "rows", "k", "pipe", "here", "size", "n"]
def c__law_counted : Ss := (.cons (.set (.nm 2) (.lc [4, 6] (.tup (.cons (.var 6) (.cons (.var 4) .nil))) (.tp (.cons (.nm 6) (.cons (.nm 4) .nil))) (.seq (.idx (.var 0) (.cst (.int 1)))) (.so (.cmp .In (.var 1) (.var 4))))) (.cons (.set (.nm 3) (.lc [4, 6] (.slc (.var 4) .no (.so (.mth .index (.var 4) (.var 1)))) (.tp (.cons (.nm 6) (.cons (.nm 4) .nil))) (.seq (.var 2)) .no)) (.cons (.ite (.cmp .NotEq (.lc [4] (.var 4) (.nm 4) (.seq (.var 3)) (.so (.cmp .NotEq (.var 4) (.idx (.var 3) (.cst (.int 0)))))) (.lst (.nil))) (.cons (.ret (.cst (.bool false))) .nil) (.nil)) (.cons (.for_ [4, 5] (.nm 4) (.seq (.slc (.var 3) .no (.so (.cst (.int 1))))) (.cons (.for_ [5] (.nm 5) (.seq (.var 4)) (.cons (.ite (.cmp .NotEq (.lc [6, 7] (.var 6) (.tp (.cons (.nm 6) (.cons (.nm 7) .nil))) (.seq (.idx (.var 0) (.cst (.int 1)))) (.so (.cmp .In (.var 5) (.var 7)))) (.lc [6, 7] (.var 6) (.tp (.cons (.nm 6) (.cons (.nm 7) .nil))) (.seq (.var 2)) .no)) (.cons (.ret (.cst (.bool false))) .nil) (.nil)) .nil)) .nil)) (.cons (.ret (.cst (.bool true))) .nil)))))
def n__law_counted : List Str := ["net", "name", "through", "ahead", "row", "other", "way", "line"]
def c__law_unlike_feeds : Ss := (.cons (.own 2 (.lst (.nil))) (.cons (.for_ [3, 4] (.tp (.cons (.nm 3) (.cons (.nm 4) .nil))) (.enm (.idx (.var 0) (.cst (.int 0)))) (.cons (.app 2 (.blt .tuple (.lc [5] (.bin .Add (.bin .Add (.idx (.cst (.str "fghk")) (.var 3)) (.idx (.cst (.str "abcdefgh")) (.bin .FloorDiv (.var 5) (.cst (.int 8))))) (.idx (.cst (.str "abcdefgh")) (.bin .Mod (.var 5) (.cst (.int 8))))) (.nm 5) (.rng (.var 1)) .no))) .nil)) (.cons (.ret (.blt .tuple (.own 2))) .nil)))
def n__law_unlike_feeds : List Str := ["net", "many", "rows", "k", "pipe", "n"]
def c_is_turn_of : Ss := (.cons (.ite (.bop .Or (.cons (.not (.call "is_pair" (.cons (.var 1) .nil))) (.cons (.cmp .NotIn (.idx (.var 1) (.cst (.int 0))) (.call "ways_in" (.cons (.var 0) .nil))) .nil))) (.cons (.ret (.cst (.bool false))) .nil) (.nil)) (.cons (.ret (.bop .And (.cons (.isi (.idx (.var 1) (.cst (.int 1))) .int) (.cons (.not (.isi (.idx (.var 1) (.cst (.int 1))) .bool)) (.cons (.cmp .In (.idx (.var 1) (.cst (.int 1))) (.tup (.cons (.cst (.int 1)) (.cons (.neg (.cst (.int 1))) .nil)))) .nil))))) .nil))
def n_is_turn_of : List Str := ["net", "thing"]
def c_plain_turned : Ss := (.cons (.set (.tp (.cons (.nm 3) (.cons (.nm 4) .nil))) (.var 2)) (.cons (.par [(5, false), (6, false)] (.cons (.call "row_of" (.cons (.var 0) (.cons (.var 3) .nil))) (.cons (.call "pipes_in" (.cons (.var 0) .nil)) .nil))) (.cons (.ite (.cmp .Eq (.var 4) (.cst (.int 1))) (.cons (.ret (.idx (.call "plain_pushed" (.cons (.var 0) (.cons (.var 1) (.cons (.tup (.cons (.var 3) (.cons (.idx (.idx (.var 1) (.mth .index (.var 6) (.idx (.var 5) (.neg (.cst (.int 1)))))) (.neg (.cst (.int 1)))) .nil))) .nil)))) (.cst (.int 0)))) .nil) (.nil)) (.cons (.ret (.idx (.call "plain_drawn" (.cons (.var 0) (.cons (.var 1) (.cons (.tup (.cons (.var 3) (.cons (.idx (.idx (.var 1) (.mth .index (.var 6) (.idx (.var 5) (.cst (.int 0))))) (.cst (.int 0))) .nil))) .nil)))) (.cst (.int 0)))) .nil))))
def n_plain_turned : List Str := ["net", "state", "turn", "way", "by", "row", "names"]
def c_turned : Ss := (.cons (.exp (.call "look_net" (.cons (.var 0) .nil))) (.cons (.exp (.call "look_state" (.cons (.var 0) (.cons (.var 1) .nil)))) (.cons (.ite (.not (.call "is_turn_of" (.cons (.var 0) (.cons (.var 2) .nil)))) (.cons (.rai "NoTurn") .nil) (.nil)) (.cons (.ret (.call "plain_turned" (.cons (.var 0) (.cons (.var 1) (.cons (.var 2) .nil))))) .nil))))
def n_turned : List Str := ["net", "state", "turn"]
def c_are_turns_of : Ss := (.cons (.ret (.bop .And (.cons (.isi (.var 1) .list) (.cons (.cmp .LtE (.blt .len (.var 1)) (.glb (.int 3000))) (.cons (.blt .all (.lc [2] (.call "is_turn_of" (.cons (.var 0) (.cons (.var 2) .nil))) (.nm 2) (.seq (.var 1)) .no)) .nil))))) .nil)
def n_are_turns_of : List Str := ["net", "thing", "turn"]
def c_plain_turns : Ss := (.cons (.for_ [3] (.nm 3) (.seq (.var 2)) (.cons (.set (.nm 1) (.call "plain_turned" (.cons (.var 0) (.cons (.var 1) (.cons (.var 3) .nil))))) .nil)) (.cons (.ret (.var 1)) .nil))
def n_plain_turns : List Str := ["net", "state", "turns", "turn"]
def c_behind_turns : Ss := (.cons (.exp (.call "look_net" (.cons (.var 0) .nil))) (.cons (.exp (.call "look_state" (.cons (.var 0) (.cons (.var 1) .nil)))) (.cons (.ite (.not (.call "are_turns_of" (.cons (.var 0) (.cons (.var 2) .nil)))) (.cons (.rai "NoTurns") .nil) (.nil)) (.cons (.ret (.call "plain_turns" (.cons (.var 0) (.cons (.var 1) (.cons (.var 2) .nil))))) .nil))))
def n_behind_turns : List Str := ["net", "state", "turns"]
def c_all_turns : Ss := (.cons (.ret (.lc2 [1, 2] (.tup (.cons (.var 1) (.cons (.var 2) .nil))) (.nm 1) (.seq (.call "ways_in" (.cons (.var 0) .nil))) (.nm 2) (.seq (.tup (.cons (.neg (.cst (.int 1))) (.cons (.cst (.int 1)) .nil)))) .no)) .nil)
def n_all_turns : List Str := ["net", "way", "by"]
def c_look_goal : Ss := (.cons (.exp (.call "look_net" (.cons (.var 0) .nil))) (.cons (.exp (.call "look_state" (.cons (.var 0) (.cons (.var 1) .nil)))) (.cons (.exp (.call "look_state" (.cons (.var 0) (.cons (.var 2) .nil)))) .nil)))
def n_look_goal : List Str := ["net", "state", "goal"]
def c_sorting : Ss := (.cons (.exp (.call "look_goal" (.cons (.var 0) (.cons (.var 1) (.cons (.var 2) .nil))))) .nay)
def n_sorting : List Str := ["net", "state", "goal", "found"]
def c_are_sorting : Ss := (.cons (.exp (.call "look_goal" (.cons (.var 0) (.cons (.var 1) (.cons (.var 2) .nil))))) (.cons (.ret (.bop .And (.cons (.call "are_turns_of" (.cons (.var 0) (.cons (.var 3) .nil))) (.cons (.cmp .Eq (.call "plain_turns" (.cons (.var 0) (.cons (.var 1) (.cons (.var 3) .nil)))) (.var 2)) .nil)))) .nil))
def n_are_sorting : List Str := ["net", "state", "goal", "thing"]
def c_reached : Ss := (.cons (.exp (.call "look_net" (.cons (.var 0) .nil))) (.cons (.exp (.call "look_state" (.cons (.var 0) (.cons (.var 1) .nil)))) .nay))
def n_reached : List Str := ["net", "state"]
def c_is_closed : Ss := (.cons (.exp (.call "look_net" (.cons (.var 0) .nil))) .nay)
def n_is_closed : List Str := ["net", "thing", "known", "state", "turn"]
def c_slugs_in : Ss := (.cons (.ret (.lc2 [1, 2] (.var 2) (.nm 1) (.seq (.var 0)) (.nm 2) (.seq (.var 1)) .no)) .nil)
def n_slugs_in : List Str := ["state", "row", "slug"]
def c_is_even : Ss := (.cons (.exp (.call "look_net" (.cons (.var 0) .nil))) (.cons (.exp (.call "look_state" (.cons (.var 0) (.cons (.var 1) .nil)))) (.cons (.set (.nm 3) (.call "slugs_in" (.cons (.var 1) .nil))) (.cons (.ite (.blt .any (.lc [5, 6] (.cmp .In (.var 5) (.slc (.var 3) .no (.so (.var 6)))) (.tp (.cons (.nm 6) (.cons (.nm 5) .nil))) (.enm (.var 3)) .no)) (.cons (.rai "NoState") .nil) (.nil)) (.cons (.ite (.bop .Or (.cons (.not (.call "is_state_of" (.cons (.var 0) (.cons (.var 2) .nil)))) (.cons (.cmp .NotEq (.blt .sorted (.call "slugs_in" (.cons (.var 2) .nil))) (.blt .sorted (.var 3))) .nil))) (.cons (.rai "NoState") .nil) (.nil)) (.cons (.set (.nm 4) (.lc [5] (.mth .index (.var 3) (.var 5)) (.nm 5) (.seq (.call "slugs_in" (.cons (.var 2) .nil))) .no)) (.cons (.ret (.cmp .Eq (.bin .Mod (.blt .len (.lc2 [6, 7, 8] (.cst (.int 1)) (.tp (.cons (.nm 6) (.cons (.nm 7) .nil))) (.enm (.var 4)) (.nm 8) (.seq (.slc (.var 4) (.so (.bin .Add (.var 6) (.cst (.int 1)))) .no)) (.so (.cmp .Gt (.var 7) (.var 8))))) (.cst (.int 2))) (.cst (.int 0)))) .nil)))))))
def n_is_even : List Str := ["net", "state", "goal", "slugs", "numbers", "slug", "at", "one", "other"]
def c_are_turns_even : Ss := (.cons (.exp (.call "look_net" (.cons (.var 0) .nil))) (.cons (.dst 1 (.idx (.var 0) (.cst (.int 0)))) (.cons (.ret (.blt .all (.lc [2, 3] (.cmp .Eq (.bin .Mod (.blt .sum (.lc [4] (.idx (.own 1) (.var 4)) (.nm 4) (.seq (.var 3)) .no)) (.cst (.int 2))) (.cst (.int 1))) (.tp (.cons (.nm 2) (.cons (.nm 3) .nil))) (.seq (.idx (.var 0) (.cst (.int 1)))) .no))) .nil)))
def n_are_turns_even : List Str := ["net", "lengths", "way", "row", "pipe"]
def c__law_turn : Ss := (.cons (.set (.nm 4) (.idx (.dct (.idx (.var 0) (.cst (.int 1)))) (.var 2))) (.cons (.dst 5 (.lc [6, 7] (.tup (.cons (.idx (.var 6) (.cst (.int 0))) (.cons (.var 7) .nil))) (.tp (.cons (.nm 6) (.cons (.nm 7) .nil))) (.zip (.idx (.var 0) (.cst (.int 0))) (.var 1)) .no)) (.cons (.ret (.idx (.call "_law_push" (.cons (.var 0) (.cons (.var 1) (.cons (.var 2) (.cons (.ite (.cmp .Eq (.var 3) (.cst (.int 1))) (.idx (.idx (.own 5) (.idx (.var 4) (.neg (.cst (.int 1))))) (.neg (.cst (.int 1)))) (.idx (.idx (.own 5) (.idx (.var 4) (.cst (.int 0)))) (.cst (.int 0)))) (.cons (.var 3) .nil)))))) (.cst (.int 0)))) .nil)))
def n__law_turn : List Str := ["net", "state", "way", "by", "row", "rows", "pipe", "slugs"]
def c__law_small : Ss := (.cons (.set (.nm 2) (.blt .tuple (.lc [7] (.tup (.cons (.idx (.cst (.str "pq")) (.var 7)) (.cons (.bin .Add (.cst (.int 1)) (.call "_law_drawn" (.cons (.var 0) (.cons (.bin .Add (.var 1) (.var 7)) (.cons (.cst (.int 2)) .nil))))) .nil))) (.nm 7) (.rng (.bin .Add (.cst (.int 1)) (.call "_law_drawn" (.cons (.var 0) (.cons (.bin .Add (.var 1) (.cst (.int 2))) (.cons (.cst (.int 2)) .nil)))))) .no))) (.cons (.set (.nm 3) (.lc [6] (.idx (.var 6) (.cst (.int 0))) (.nm 6) (.seq (.var 2)) .no)) (.cons (.set (.nm 4) (.lst (.cons (.blt .tuple (.var 3)) (.cons (.blt .tuple (.rev (.var 3))) (.cons (.tup (.cons (.idx (.var 3) (.cst (.int 0))) .nil)) (.cons (.tup (.cons (.idx (.var 3) (.neg (.cst (.int 1)))) .nil)) .nil)))))) (.cons (.set (.nm 5) (.lc [7] (.tup (.cons (.idx (.cst (.str "abc")) (.var 7)) (.cons (.idx (.var 4) (.call "_law_drawn" (.cons (.var 0) (.cons (.bin .Add (.bin .Add (.var 1) (.cst (.int 4))) (.var 7)) (.cons (.cst (.int 4)) .nil))))) .nil))) (.nm 7) (.rng (.bin .Add (.cst (.int 1)) (.call "_law_drawn" (.cons (.var 0) (.cons (.bin .Add (.var 1) (.cst (.int 3))) (.cons (.cst (.int 3)) .nil)))))) .no)) (.cons (.ret (.tup (.cons (.var 2) (.cons (.blt .tuple (.var 5)) .nil)))) .nil)))))
def n__law_small : List Str := ["script", "at", "pipes", "names", "rows", "ways", "pipe", "k"]
def c__law_times : Ss := (.cons (.set (.nm 1) (.cst (.int 1))) (.cons (.for_ [2] (.nm 2) (.rng2 (.cst (.int 1)) (.bin .Add (.var 0) (.cst (.int 1)))) (.cons (.set (.nm 1) (.bin .Mult (.var 1) (.var 2))) .nil)) (.cons (.ret (.var 1)) .nil)))
def n__law_times : List Str := ["many", "found", "k"]
def c__wall : Ss := (.cons (.whl 100000 [] (.cst (.bool true)) (.cons .pas .nil)) .nil)
def n__wall : List Str := ["k"]
def c_look_slug : Ss := (.cons (.ite (.not (.call "is_name" (.cons (.var 0) .nil))) (.cons (.rai "NoSlug") .nil) (.nil)) .nil)
def n_look_slug : List Str := ["thing"]
def c_is_wish_of : Ss := (.cons (.ite (.bop .Or (.cons (.not (.isi (.var 1) .tuple)) (.cons (.cmp .Eq (.var 1) (.tup (.nil))) (.cons (.not (.isi (.idx (.var 1) (.cst (.int 0))) .str)) .nil)))) (.cons (.ret (.cst (.bool false))) .nil) (.nil)) (.cons (.ite (.cmp .Eq (.idx (.var 1) (.cst (.int 0))) (.cst (.str "is"))) (.cons (.ret (.bop .And (.cons (.cmp .Eq (.blt .len (.var 1)) (.cst (.int 2))) (.cons (.call "is_state_of" (.cons (.var 0) (.cons (.idx (.var 1) (.cst (.int 1))) .nil))) .nil)))) .nil) (.nil)) (.cons (.ite (.bop .Or (.cons (.cmp .NotEq (.blt .len (.var 1)) (.cst (.int 3))) (.cons (.not (.call "is_name" (.cons (.idx (.var 1) (.cst (.int 1))) .nil))) .nil))) (.cons (.ret (.cst (.bool false))) .nil) (.nil)) (.cons (.ite (.cmp .Eq (.idx (.var 1) (.cst (.int 0))) (.cst (.str "full"))) (.cons (.ret (.bop .And (.cons (.cmp .In (.idx (.var 1) (.cst (.int 1))) (.call "pipes_in" (.cons (.var 0) .nil))) (.cons (.call "is_name" (.cons (.idx (.var 1) (.cst (.int 2))) .nil)) .nil)))) .nil) (.nil)) (.cons (.ite (.bop .Or (.cons (.cmp .NotEq (.idx (.var 1) (.cst (.int 0))) (.cst (.str "out"))) (.cons (.cmp .NotIn (.idx (.var 1) (.cst (.int 1))) (.call "ways_in" (.cons (.var 0) .nil))) (.cons (.not (.isi (.idx (.var 1) (.cst (.int 2))) .tuple)) .nil)))) (.cons (.ret (.cst (.bool false))) .nil) (.nil)) (.cons (.ret (.bop .And (.cons (.chn .LtE .LtE (.cst (.int 1)) (.blt .len (.idx (.var 1) (.cst (.int 2)))) (.glb (.int 3))) (.cons (.blt .all (.lc [2] (.call "is_name" (.cons (.var 2) .nil)) (.nm 2) (.seq (.idx (.var 1) (.cst (.int 2)))) .no)) .nil)))) .nil))))))
def n_is_wish_of : List Str := ["net", "thing", "slug"]
def c_is_wish : Ss := (.cons (.exp (.call "look_net" (.cons (.var 0) .nil))) (.cons (.ret (.call "is_wish_of" (.cons (.var 0) (.cons (.var 1) .nil)))) .nil))
def n_is_wish : List Str := ["net", "thing"]
def c_look_wish : Ss := (.cons (.ite (.not (.call "is_wish_of" (.cons (.var 0) (.cons (.var 1) .nil)))) (.cons (.rai "NoWish") .nil) (.nil)) .nil)
def n_look_wish : List Str := ["net", "wish"]
def c_look_stock : Ss := (.cons (.ite (.bop .Or (.cons (.not (.isi (.var 0) .tuple)) (.cons (.not (.chn .LtE .LtE (.cst (.int 1)) (.blt .len (.var 0)) (.glb (.int 3)))) (.cons (.not (.blt .all (.lc [1] (.call "is_name" (.cons (.var 1) .nil)) (.nm 1) (.seq (.var 0)) .no))) .nil)))) (.cons (.rai "NoStock") .nil) (.nil)) (.cons (.ite (.not (.call "is_rising" (.cons (.var 0) .nil))) (.cons (.rai "NoStock") .nil) (.nil)) .nil))
def n_look_stock : List Str := ["stock", "one"]
def c_tail_behind : Ss := (.cons (.ite (.bop .Or (.cons (.cmp .NotEq (.idx (.var 0) (.cst (.int 0))) (.cst (.str "out"))) (.cons (.cmp .NotEq (.idx (.var 0) (.cst (.int 1))) (.var 2)) .nil))) (.cons (.ret (.var 1)) .nil) (.nil)) (.cons (.ret (.slc (.bin .Add (.var 1) (.tup (.cons (.var 3) .nil))) (.so (.bin .Sub (.cst (.int 0)) (.blt .len (.idx (.var 0) (.cst (.int 2)))))) .no)) .nil))
def n_tail_behind : List Str := ["wish", "tail", "way", "out"]
def c_is_met_by : Ss := (.cons (.ite (.cmp .Eq (.idx (.var 3) (.cst (.int 0))) (.cst (.str "is"))) (.cons (.ret (.cmp .Eq (.var 1) (.idx (.var 3) (.cst (.int 1))))) .nil) (.nil)) (.cons (.ite (.cmp .Eq (.idx (.var 3) (.cst (.int 0))) (.cst (.str "full"))) (.cons (.ret (.blt .all (.lc [4] (.cmp .Eq (.var 4) (.idx (.var 3) (.cst (.int 2)))) (.nm 4) (.seq (.idx (.var 1) (.mth .index (.call "pipes_in" (.cons (.var 0) .nil)) (.idx (.var 3) (.cst (.int 1)))))) .no))) .nil) (.nil)) (.cons (.ret (.cmp .Eq (.var 2) (.idx (.var 3) (.cst (.int 2))))) .nil)))
def n_is_met_by : List Str := ["net", "state", "tail", "wish", "slug"]
def c_look_cost : Ss := (.cons (.ite (.bop .Or (.cons (.not (.isi (.var 0) .str)) (.cons (.cmp .NotIn (.var 0) (.tup (.cons (.glb (.str "pushes")) (.cons (.glb (.str "mixing")) .nil)))) .nil))) (.cons (.rai "NoCost") .nil) (.nil)) .nil)
def n_look_cost : List Str := ["word"]
def c_line_of : Ss := (.cons (.par [(3, false), (4, false)] (.cons (.call "pipes_in" (.cons (.var 0) .nil)) (.cons (.tup (.cons (.idx (.var 2) (.cst (.int 1))) .nil)) .nil))) (.cons (.for_ [5] (.nm 5) (.seq (.call "row_of" (.cons (.var 0) (.cons (.idx (.var 2) (.cst (.int 0))) .nil)))) (.cons (.set (.nm 4) (.bin .Add (.var 4) (.idx (.var 1) (.mth .index (.var 3) (.var 5))))) .nil)) (.cons (.ret (.var 4)) .nil)))
def n_line_of : List Str := ["net", "state", "push", "names", "made", "pipe"]
def c_plain_cost : Ss := (.cons (.ite (.cmp .Eq (.var 3) (.glb (.str "pushes"))) (.cons (.ret (.cst (.int 1))) .nil) (.nil)) (.cons (.set (.nm 4) (.call "line_of" (.cons (.var 0) (.cons (.var 1) (.cons (.var 2) .nil))))) (.cons (.ret (.blt .len (.lc [5, 6] (.cst (.int 1)) (.tp (.cons (.nm 5) (.cons (.nm 6) .nil))) (.zip (.var 4) (.slc (.var 4) (.so (.cst (.int 1))) .no)) (.so (.cmp .NotEq (.var 5) (.var 6)))))) .nil)))
def n_plain_cost : List Str := ["net", "state", "push", "word", "line", "one", "other"]
def c_pushes_of : Ss := (.cons (.ret (.lc2 [2, 3] (.tup (.cons (.var 2) (.cons (.var 3) .nil))) (.nm 2) (.seq (.call "ways_in" (.cons (.var 0) .nil))) (.nm 3) (.seq (.var 1)) .no)) .nil)
def n_pushes_of : List Str := ["net", "stock", "way", "slug"]
def c_steps_from : Ss := (.cons (.own 5 (.lst (.nil))) (.cons (.for_ [6, 7, 8, 9] (.nm 6) (.seq (.call "pushes_of" (.cons (.var 0) (.cons (.var 2) .nil)))) (.cons (.set (.tp (.cons (.nm 7) (.cons (.nm 8) .nil))) (.call "plain_pushed" (.cons (.var 0) (.cons (.idx (.var 1) (.cst (.int 0))) (.cons (.var 6) .nil))))) (.cons (.set (.nm 9) (.call "tail_behind" (.cons (.var 3) (.cons (.idx (.var 1) (.cst (.int 1))) (.cons (.idx (.var 6) (.cst (.int 0))) (.cons (.var 8) .nil)))))) (.cons (.app 5 (.tup (.cons (.var 6) (.cons (.call "plain_cost" (.cons (.var 0) (.cons (.idx (.var 1) (.cst (.int 0))) (.cons (.var 6) (.cons (.var 4) .nil))))) (.cons (.tup (.cons (.var 7) (.cons (.var 9) .nil))) .nil))))) .nil)))) (.cons (.frz 5) (.cons (.ret (.var 5)) .nil))))
def n_steps_from : List Str := ["net", "knot", "stock", "wish", "word", "made", "push", "there", "out", "tail"]
def c_look_task : Ss := (.cons (.exp (.call "look_net" (.cons (.var 0) .nil))) (.cons (.exp (.call "look_state" (.cons (.var 0) (.cons (.var 1) .nil)))) (.cons (.exp (.call "look_stock" (.cons (.var 2) .nil))) (.cons (.exp (.call "look_wish" (.cons (.var 0) (.cons (.var 3) .nil)))) (.cons (.exp (.call "look_cost" (.cons (.var 4) .nil))) .nil)))))
def n_look_task : List Str := ["net", "state", "stock", "wish", "word"]
def c_cheapest : Ss := (.cons (.exp (.call "look_task" (.cons (.var 0) (.cons (.var 1) (.cons (.var 2) (.cons (.var 3) (.cons (.var 4) .nil))))))) .nay)
def n_cheapest : List Str := ["net", "state", "stock", "wish", "word", "best", "rows", "knot"]
def c_bound : Ss := (.cons (.exp (.call "look_task" (.cons (.var 0) (.cons (.var 1) (.cons (.var 2) (.cons (.var 3) (.cons (.var 4) .nil))))))) .nay)
def n_bound : List Str := ["net", "state", "stock", "wish", "word", "best", "knot"]
def c_look_leak : Ss := (.cons (.ite (.bop .And (.cons (.not (.bop .And (.cons (.isi (.var 1) .tuple) (.cons (.cmp .Eq (.var 1) (.glb (.tuple []))) .nil)))) (.cons (.not (.call "is_spot_of" (.cons (.var 0) (.cons (.var 1) .nil)))) .nil))) (.cons (.rai "NoSpot") .nil) (.nil)) .nil)
def n_look_leak : List Str := ["net", "spot"]
def c_leaked : Ss := (.cons (.set (.tp (.cons (.nm 5) (.cons (.nm 6) .nil))) (.call "plain_pushed" (.cons (.var 0) (.cons (.var 1) (.cons (.var 2) .nil))))) (.cons (.ite (.bop .Or (.cons (.cmp .Eq (.var 3) (.glb (.tuple []))) (.cons (.cmp .NotIn (.idx (.var 3) (.cst (.int 0))) (.call "row_of" (.cons (.var 0) (.cons (.idx (.var 2) (.cst (.int 0))) .nil)))) .nil))) (.cons (.ret (.tup (.cons (.var 5) (.cons (.var 6) .nil)))) .nil) (.nil)) (.cons (.set (.nm 7) (.mth .index (.call "pipes_in" (.cons (.var 0) .nil)) (.idx (.var 3) (.cst (.int 0))))) (.cons (.set (.nm 8) (.bin .Add (.bin .Add (.slc (.idx (.var 5) (.var 7)) .no (.so (.idx (.var 3) (.cst (.int 1))))) (.tup (.cons (.var 4) .nil))) (.slc (.idx (.var 5) (.var 7)) (.so (.bin .Add (.idx (.var 3) (.cst (.int 1))) (.cst (.int 1)))) .no))) (.cons (.ret (.tup (.cons (.bin .Add (.bin .Add (.slc (.var 5) .no (.so (.var 7))) (.tup (.cons (.var 8) .nil))) (.slc (.var 5) (.so (.bin .Add (.var 7) (.cst (.int 1)))) .no)) (.cons (.var 6) .nil)))) .nil)))))
def n_leaked : List Str := ["net", "state", "push", "spot", "slug", "there", "out", "at", "pipe"]
def c_leak_run : Ss := (.cons (.exp (.call "look_net" (.cons (.var 0) .nil))) (.cons (.exp (.call "look_state" (.cons (.var 0) (.cons (.var 1) .nil)))) (.cons (.exp (.call "look_stock" (.cons (.var 2) .nil))) (.cons (.exp (.call "look_slug" (.cons (.var 3) .nil))) (.cons (.exp (.call "look_leak" (.cons (.var 0) (.cons (.var 4) .nil)))) (.cons (.exp (.call "look_leak" (.cons (.var 0) (.cons (.var 5) .nil)))) .nay))))))
def n_leak_run : List Str := ["net", "state", "stock", "slug", "one", "other", "found", "line", "later", "runs", "here", "push", "first", "out", "then", "more"]
def c__law_pick : Ss := (.cons (.set (.nm 3) (.ite (.cmp .NotEq (.var 0) (.lst (.nil))) (.idx (.var 0) (.bin .Mod (.var 1) (.blt .len (.var 0)))) (.cst (.int 0)))) (.cons (.par [(4, false), (5, false)] (.cons (.bin .FloorDiv (.var 3) (.bin .Pow (.cst (.int 10)) (.cst (.int 18)))) (.cons (.bin .FloorDiv (.var 1) (.blt2 .max (.blt .len (.var 0)) (.cst (.int 1)))) .nil))) (.cons (.whl 100000 [] (.bop .And (.cons (.cmp .Gt (.var 4) (.cst (.int 0))) (.cons (.cmp .Gt (.var 5) (.cst (.int 0))) .nil))) (.cons (.par [(4, false), (5, false)] (.cons (.bin .FloorDiv (.var 4) (.cst (.int 840))) (.cons (.bin .Sub (.var 5) (.cst (.int 1))) .nil))) .nil)) (.cons (.ite (.cmp .Gt (.var 4) (.cst (.int 0))) (.cons (.ret (.bin .Mod (.bin .Mod (.var 4) (.cst (.int 840))) (.var 2))) .nil) (.nil)) (.cons (.set (.nm 6) (.bin .Mod (.bin .Mult (.bin .Add (.bin .Mult (.var 3) (.cst (.int 31))) (.bin .Mult (.cst (.int 6151)) (.bin .Add (.var 1) (.cst (.int 1))))) (.cst (.int 40692))) (.cst (.int 2147483399)))) (.cons (.ret (.bin .Mod (.bin .Mod (.bin .Add (.bin .Mult (.var 6) (.var 6)) (.bin .FloorDiv (.var 6) (.cst (.int 31)))) (.cst (.int 2147483629))) (.var 2))) .nil))))))
def n__law_pick : List Str := ["script", "k", "many", "cell", "rest", "again", "mixed"]
def c__law_wish : Ss := (.cons (.set (.nm 4) (.call "_law_pick" (.cons (.var 0) (.cons (.var 1) (.cons (.cst (.int 5)) .nil))))) (.cons (.ite (.cmp .Lt (.var 4) (.cst (.int 2))) (.cons (.set (.nm 5) (.lc [7] (.idx (.var 3) (.call "_law_pick" (.cons (.var 0) (.cons (.bin .Add (.bin .Add (.var 1) (.cst (.int 2))) (.var 7)) (.cons (.blt .len (.var 3)) .nil))))) (.nm 7) (.rng (.bin .Add (.cst (.int 1)) (.call "_law_pick" (.cons (.var 0) (.cons (.bin .Add (.var 1) (.cst (.int 1))) (.cons (.cst (.int 2)) .nil)))))) .no)) (.cons (.ret (.tup (.cons (.cst (.str "out")) (.cons (.idx (.idx (.idx (.var 2) (.cst (.int 1))) (.call "_law_pick" (.cons (.var 0) (.cons (.bin .Add (.var 1) (.cst (.int 5))) (.cons (.blt .len (.idx (.var 2) (.cst (.int 1)))) .nil))))) (.cst (.int 0))) (.cons (.blt .tuple (.var 5)) .nil))))) .nil)) (.nil)) (.cons (.ite (.cmp .Lt (.var 4) (.cst (.int 4))) (.cons (.set (.nm 6) (.idx (.idx (.idx (.var 2) (.cst (.int 0))) (.call "_law_pick" (.cons (.var 0) (.cons (.bin .Add (.var 1) (.cst (.int 6))) (.cons (.blt .len (.idx (.var 2) (.cst (.int 0)))) .nil))))) (.cst (.int 0)))) (.cons (.ret (.tup (.cons (.cst (.str "full")) (.cons (.var 6) (.cons (.idx (.var 3) (.call "_law_pick" (.cons (.var 0) (.cons (.bin .Add (.var 1) (.cst (.int 7))) (.cons (.blt .len (.var 3)) .nil))))) .nil))))) .nil)) (.nil)) (.cons (.ret (.tup (.cons (.cst (.str "is")) (.cons (.call "_law_state" (.cons (.var 0) (.cons (.bin .Add (.var 1) (.cst (.int 8))) (.cons (.var 2) (.cons (.var 3) .nil))))) .nil)))) .nil))))
def n__law_wish : List Str := ["script", "at", "net", "slugs", "case", "row", "pipe", "k"]
def c__law_odd : Ss := (.cons (.set (.nm 2) (.lst (.cons (.cst .none) (.cons (.cst (.bool true)) (.cons (.cst (.str "")) (.cons (.cst (.str "A")) (.cons (.cst (.str "5")) (.cons (.lst (.cons (.cst (.int 1)) .nil)) (.cons (.tup (.cons (.cst .none) .nil)) (.cons (.bin .Sub (.neg (.cst (.int 1))) (.call "_law_pick" (.cons (.var 0) (.cons (.var 1) (.cons (.cst (.int 9)) .nil))))) (.cons (.cst (.str "abcde")) .nil))))))))))) (.cons (.ret (.bin .Add (.var 2) (.lst (.cons (.lst (.cons (.lst (.cons (.cst (.str "a")) .nil)) .nil)) (.cons (.bin .Pow (.cst (.int 10)) (.cst (.int 9))) (.cons (.tup (.cons (.cst (.str "a")) (.cons (.cst (.int 1)) .nil))) .nil)))))) .nil))
def n__law_odd : List Str := ["script", "at", "made"]
def c_is_met : Ss := (.cons (.exp (.call "look_net" (.cons (.var 0) .nil))) (.cons (.exp (.call "look_state" (.cons (.var 0) (.cons (.var 1) .nil)))) (.cons (.exp (.call "look_run" (.cons (.var 0) (.cons (.var 2) .nil)))) (.cons (.exp (.call "look_wish" (.cons (.var 0) (.cons (.var 3) .nil)))) (.cons (.set (.tp (.cons (.nm 4) (.cons (.nm 5) .nil))) (.call "plain_run" (.cons (.var 0) (.cons (.var 1) (.cons (.var 2) .nil))))) (.cons (.set (.nm 6) (.tup (.nil))) (.cons (.for_ [7, 8] (.tp (.cons (.nm 7) (.cons (.nm 8) .nil))) (.seq (.var 5)) (.cons (.set (.nm 6) (.call "tail_behind" (.cons (.var 3) (.cons (.var 6) (.cons (.var 7) (.cons (.var 8) .nil)))))) .nil)) (.cons (.ret (.call "is_met_by" (.cons (.var 0) (.cons (.var 4) (.cons (.var 6) (.cons (.var 3) .nil)))))) .nil))))))))
def n_is_met : List Str := ["net", "state", "run", "wish", "there", "outs", "tail", "way", "out"]
def c__law_gone : Ss := (.cons (.dsz 4 (.lc [5] (.idx (.var 5) (.cst (.int 0))) (.nm 5) (.seq (.idx (.var 0) (.cst (.int 0)))) .no) (.var 1)) (.cons (.for_ [5, 6] (.nm 5) (.seq (.idx (.dct (.idx (.var 0) (.cst (.int 1)))) (.var 2))) (.cons (.set (.nm 6) (.bin .Add (.tup (.cons (.var 3) .nil)) (.idx (.own 4) (.var 5)))) (.cons (.dpn 4 (.var 5) 3 (.slc (.var 6) .no (.so (.neg (.cst (.int 1))))) (.idx (.var 6) (.neg (.cst (.int 1))))) .nil))) (.cons (.ret (.tup (.cons (.blt .tuple (.lc [5] (.idx (.own 4) (.idx (.var 5) (.cst (.int 0)))) (.nm 5) (.seq (.idx (.var 0) (.cst (.int 0)))) .no)) (.cons (.var 3) .nil)))) .nil)))
def n__law_gone : List Str := ["net", "state", "way", "slug", "lying", "pipe", "row"]
def c_cost : Ss := (.cons (.exp (.call "look_net" (.cons (.var 0) .nil))) (.cons (.exp (.call "look_state" (.cons (.var 0) (.cons (.var 1) .nil)))) (.cons (.exp (.call "look_push" (.cons (.var 0) (.cons (.var 2) .nil)))) (.cons (.exp (.call "look_cost" (.cons (.var 3) .nil))) (.cons (.ret (.call "plain_cost" (.cons (.var 0) (.cons (.var 1) (.cons (.var 2) (.cons (.var 3) .nil)))))) .nil)))))
def n_cost : List Str := ["net", "state", "push", "word"]
def c_cost_of : Ss := (.cons (.exp (.call "look_net" (.cons (.var 0) .nil))) (.cons (.exp (.call "look_state" (.cons (.var 0) (.cons (.var 1) .nil)))) (.cons (.exp (.call "look_run" (.cons (.var 0) (.cons (.var 2) .nil)))) (.cons (.exp (.call "look_cost" (.cons (.var 3) .nil))) (.cons (.set (.nm 4) (.cst (.int 0))) (.cons (.for_ [5] (.nm 5) (.seq (.var 2)) (.cons (.set (.nm 4) (.bin .Add (.var 4) (.call "plain_cost" (.cons (.var 0) (.cons (.var 1) (.cons (.var 5) (.cons (.var 3) .nil))))))) (.cons (.set (.nm 1) (.idx (.call "plain_pushed" (.cons (.var 0) (.cons (.var 1) (.cons (.var 5) .nil)))) (.cst (.int 0)))) .nil))) (.cons (.ret (.var 4)) .nil)))))))
def n_cost_of : List Str := ["net", "state", "run", "word", "made", "push"]
def c_is_knot : Ss := (.cons (.ite (.bop .Or (.cons (.not (.isi (.var 2) .tuple)) (.cons (.cmp .NotEq (.blt .len (.var 2)) (.cst (.int 2))) (.cons (.not (.call "is_state_of" (.cons (.var 0) (.cons (.idx (.var 2) (.cst (.int 0))) .nil)))) .nil)))) (.cons (.ret (.cst (.bool false))) .nil) (.nil)) (.cons (.ite (.bop .Or (.cons (.not (.isi (.idx (.var 2) (.cst (.int 1))) .tuple)) (.cons (.not (.blt .all (.lc [3] (.call "is_name" (.cons (.var 3) .nil)) (.nm 3) (.seq (.idx (.var 2) (.cst (.int 1)))) .no))) .nil))) (.cons (.ret (.cst (.bool false))) .nil) (.nil)) (.cons (.ret (.cmp .LtE (.blt .len (.idx (.var 2) (.cst (.int 1)))) (.ite (.cmp .Eq (.idx (.var 1) (.cst (.int 0))) (.cst (.str "out"))) (.blt .len (.idx (.var 1) (.cst (.int 2)))) (.cst (.int 0))))) .nil)))
def n_is_knot : List Str := ["net", "wish", "thing", "slug"]
def c_is_weighted : Ss := (.cons (.ite (.bop .Or (.cons (.not (.isi (.var 2) .tuple)) (.cons (.cmp .NotEq (.blt .len (.var 2)) (.cst (.int 2))) (.cons (.not (.call "is_knot" (.cons (.var 0) (.cons (.var 1) (.cons (.idx (.var 2) (.cst (.int 0))) .nil))))) .nil)))) (.cons (.ret (.cst (.bool false))) .nil) (.nil)) (.cons (.ret (.bop .And (.cons (.isi (.idx (.var 2) (.cst (.int 1))) .int) (.cons (.not (.isi (.idx (.var 2) (.cst (.int 1))) .bool)) .nil)))) .nil))
def n_is_weighted : List Str := ["net", "wish", "thing"]
def c__law_next : Ss := (.cons (.set (.tp (.cons (.nm 4) (.cons (.nm 5) .nil))) (.call "_law_gone" (.cons (.var 0) (.cons (.idx (.var 1) (.cst (.int 0))) (.cons (.idx (.var 2) (.cst (.int 0))) (.cons (.idx (.var 2) (.cst (.int 1))) .nil)))))) (.cons (.set (.nm 6) (.idx (.var 1) (.cst (.int 1)))) (.cons (.ite (.bop .And (.cons (.cmp .Eq (.idx (.var 3) (.cst (.int 0))) (.cst (.str "out"))) (.cons (.cmp .Eq (.idx (.var 3) (.cst (.int 1))) (.idx (.var 2) (.cst (.int 0)))) .nil))) (.cons (.set (.nm 6) (.slc (.bin .Add (.var 6) (.tup (.cons (.var 5) .nil))) (.so (.bin .Sub (.cst (.int 0)) (.blt .len (.idx (.var 3) (.cst (.int 2)))))) .no)) .nil) (.nil)) (.cons (.ret (.tup (.cons (.var 4) (.cons (.var 6) .nil)))) .nil))))
def n__law_next : List Str := ["net", "knot", "push", "wish", "state", "out", "tail"]
def c__law_met : Ss := (.cons (.ite (.cmp .Eq (.idx (.var 2) (.cst (.int 0))) (.cst (.str "out"))) (.cons (.ret (.cmp .Eq (.idx (.var 1) (.cst (.int 1))) (.idx (.var 2) (.cst (.int 2))))) .nil) (.nil)) (.cons (.ite (.cmp .Eq (.idx (.var 2) (.cst (.int 0))) (.cst (.str "is"))) (.cons (.ret (.cmp .Eq (.idx (.var 1) (.cst (.int 0))) (.idx (.var 2) (.cst (.int 1))))) .nil) (.nil)) (.cons (.set (.nm 3) (.idx (.dcz (.lc [4] (.idx (.var 4) (.cst (.int 0))) (.nm 4) (.seq (.idx (.var 0) (.cst (.int 0)))) .no) (.idx (.var 1) (.cst (.int 0)))) (.idx (.var 2) (.cst (.int 1))))) (.cons (.ret (.cmp .Eq (.var 3) (.bin .Mult (.tup (.cons (.idx (.var 2) (.cst (.int 2))) .nil)) (.blt .len (.var 3))))) .nil))))
def n__law_met : List Str := ["net", "knot", "wish", "row", "pipe"]
def c__law_shows : Ss := (.cons (.set (.nm 7) (.lc [15] (.idx (.var 15) (.cst (.int 0))) (.nm 15) (.seq (.var 6)) .no)) (.cons (.ite (.blt .any (.lc [16, 17] (.cmp .GtE (.var 16) (.var 17)) (.tp (.cons (.nm 16) (.cons (.nm 17) .nil))) (.zip (.var 7) (.slc (.var 7) (.so (.cst (.int 1))) .no)) .no)) (.cons (.ret (.cst (.bool false))) .nil) (.nil)) (.cons (.dst 8 (.var 6)) (.cons (.ite (.bop .Or (.cons (.cmp .NotIn (.tup (.cons (.var 1) (.cons (.tup (.nil)) .nil))) (.own 8)) (.cons (.cmp .Gt (.idx (.own 8) (.tup (.cons (.var 1) (.cons (.tup (.nil)) .nil)))) (.cst (.int 0))) .nil))) (.cons (.ret (.cst (.bool false))) .nil) (.nil)) (.cons (.for_ [9, 10, 11, 12, 13, 14] (.tp (.cons (.nm 9) (.cons (.nm 10) .nil))) (.seq (.var 6)) (.cons (.ite (.bop .And (.cons (.call "_law_met" (.cons (.var 0) (.cons (.var 9) (.cons (.var 3) .nil)))) (.cons (.cmp .Lt (.var 10) (.var 5)) .nil))) (.cons (.ret (.cst (.bool false))) .nil) (.nil)) (.cons (.for_ [11, 12, 13, 14] (.nm 11) (.seq (.idx (.var 0) (.cst (.int 1)))) (.cons (.for_ [12, 13, 14] (.nm 12) (.seq (.var 2)) (.cons (.set (.nm 13) (.call "_law_next" (.cons (.var 0) (.cons (.var 9) (.cons (.tup (.cons (.idx (.var 11) (.cst (.int 0))) (.cons (.var 12) .nil))) (.cons (.var 3) .nil)))))) (.cons (.set (.nm 14) (.bin .Add (.var 10) (.call "cost" (.cons (.var 0) (.cons (.idx (.var 9) (.cst (.int 0))) (.cons (.tup (.cons (.idx (.var 11) (.cst (.int 0))) (.cons (.var 12) .nil))) (.cons (.var 4) .nil))))))) (.cons (.ite (.bop .Or (.cons (.cmp .NotIn (.var 13) (.own 8)) (.cons (.cmp .Gt (.idx (.own 8) (.var 13)) (.var 14)) .nil))) (.cons (.ret (.cst (.bool false))) .nil) (.nil)) .nil)))) .nil)) .nil))) (.cons (.ret (.cst (.bool true))) .nil))))))
def n__law_shows : List Str := ["net", "state", "stock", "wish", "word", "much", "rows", "knots", "weights", "knot", "weight", "way", "slug", "there", "more", "row", "one", "other"]
def c_plain_leak : Ss := (.cons (.own 5 (.lst (.nil))) (.cons (.for_ [6, 7] (.nm 6) (.seq (.var 2)) (.cons (.set (.tp (.cons (.nm 1) (.cons (.nm 7) .nil))) (.call "leaked" (.cons (.var 0) (.cons (.var 1) (.cons (.var 6) (.cons (.var 3) (.cons (.var 4) .nil))))))) (.cons (.app 5 (.tup (.cons (.idx (.var 6) (.cst (.int 0))) (.cons (.var 7) .nil)))) .nil))) (.cons (.frz 5) (.cons (.ret (.tup (.cons (.var 1) (.cons (.var 5) .nil)))) .nil))))
def n_plain_leak : List Str := ["net", "state", "run", "spot", "slug", "outs", "push", "out"]
def c_behind_leak : Ss := (.cons (.exp (.call "look_net" (.cons (.var 0) .nil))) (.cons (.exp (.call "look_state" (.cons (.var 0) (.cons (.var 1) .nil)))) (.cons (.exp (.call "look_run" (.cons (.var 0) (.cons (.var 2) .nil)))) (.cons (.exp (.call "look_leak" (.cons (.var 0) (.cons (.var 3) .nil)))) (.cons (.exp (.call "look_slug" (.cons (.var 4) .nil))) (.cons (.ret (.call "plain_leak" (.cons (.var 0) (.cons (.var 1) (.cons (.var 2) (.cons (.var 3) (.cons (.var 4) .nil))))))) .nil))))))
def n_behind_leak : List Str := ["net", "state", "run", "spot", "slug"]
def c_all_leaks : Ss := (.cons (.ret (.bin .Add (.lst (.cons (.glb (.tuple [])) .nil)) (.blt .sorted (.call "spots_in" (.cons (.var 0) .nil))))) .nil)
def n_all_leaks : List Str := ["net"]
def c_is_out : Ss := (.cons (.ret (.bop .And (.cons (.call "is_pair" (.cons (.var 1) .nil)) (.cons (.cmp .In (.idx (.var 1) (.cst (.int 0))) (.call "ways_in" (.cons (.var 0) .nil))) (.cons (.call "is_name" (.cons (.idx (.var 1) (.cst (.int 1))) .nil)) .nil))))) .nil)
def n_is_out : List Str := ["net", "thing"]
def c_suspects : Ss := (.cons (.exp (.call "look_net" (.cons (.var 0) .nil))) (.cons (.exp (.call "look_state" (.cons (.var 0) (.cons (.var 1) .nil)))) (.cons (.exp (.call "look_run" (.cons (.var 0) (.cons (.var 2) .nil)))) (.cons (.exp (.call "look_slug" (.cons (.var 3) .nil))) (.cons (.ite (.bop .Or (.cons (.not (.isi (.var 4) .list)) (.cons (.cmp .NotEq (.blt .len (.var 4)) (.blt .len (.var 2))) (.cons (.not (.blt .all (.lc [6] (.call "is_out" (.cons (.var 0) (.cons (.var 6) .nil))) (.nm 6) (.seq (.var 4)) .no))) .nil)))) (.cons (.rai "NoOuts") .nil) (.nil)) (.cons (.ret (.lc [5] (.var 5) (.nm 5) (.seq (.call "all_leaks" (.cons (.var 0) .nil))) (.so (.cmp .Eq (.idx (.call "plain_leak" (.cons (.var 0) (.cons (.var 1) (.cons (.var 2) (.cons (.var 5) (.cons (.var 3) .nil)))))) (.cst (.int 1))) (.var 4))))) .nil))))))
def n_suspects : List Str := ["net", "state", "run", "slug", "outs", "spot", "out"]
def c__law_leaked : Ss := (.cons (.par [(5, false), (6, true)] (.cons (.lc [12] (.idx (.var 12) (.cst (.int 0))) (.nm 12) (.seq (.idx (.var 0) (.cst (.int 0)))) .no) (.cons (.lst (.nil)) .nil))) (.cons (.for_ [7, 8, 9, 10, 11] (.tp (.cons (.nm 7) (.cons (.nm 8) .nil))) (.seq (.var 2)) (.cons (.set (.tp (.cons (.nm 1) (.cons (.nm 9) .nil))) (.call "_law_gone" (.cons (.var 0) (.cons (.var 1) (.cons (.var 7) (.cons (.var 8) .nil)))))) (.cons (.app 6 (.tup (.cons (.var 7) (.cons (.var 9) .nil)))) (.cons (.ite (.bop .And (.cons (.cmp .NotEq (.var 3) (.tup (.nil))) (.cons (.cmp .In (.idx (.var 3) (.cst (.int 0))) (.idx (.dct (.idx (.var 0) (.cst (.int 1)))) (.var 7))) .nil))) (.cons (.set (.nm 10) (.mth .index (.var 5) (.idx (.var 3) (.cst (.int 0))))) (.cons (.own 11 (.blt .list (.idx (.var 1) (.var 10)))) (.cons (.put 11 (.idx (.var 3) (.cst (.int 1))) (.var 4)) (.cons (.set (.nm 1) (.bin .Add (.bin .Add (.slc (.var 1) .no (.so (.var 10))) (.tup (.cons (.blt .tuple (.own 11)) .nil))) (.slc (.var 1) (.so (.bin .Add (.var 10) (.cst (.int 1)))) .no))) .nil)))) (.nil)) .nil)))) (.cons (.frz 6) (.cons (.ret (.tup (.cons (.var 1) (.cons (.var 6) .nil)))) .nil))))
def n__law_leaked : List Str := ["net", "state", "run", "spot", "slug", "names", "outs", "way", "one", "out", "at", "row", "pipe"]
def c__law_spots : Ss := (.cons (.own 1 (.lst (.nil))) (.cons (.for_ [2, 3] (.tp (.cons (.nm 2) (.cons (.nm 3) .nil))) (.seq (.idx (.var 0) (.cst (.int 0)))) (.cons (.ext 1 (.lc [4] (.tup (.cons (.var 2) (.cons (.var 4) .nil))) (.nm 4) (.rng (.var 3)) .no)) .nil)) (.cons (.frz 1) (.cons (.ret (.var 1)) .nil))))
def n__law_spots : List Str := ["net", "made", "name", "length", "place"]
def c__law_refuses : Ss := (.cons (.own 4 (.bin .Add (.lst (.cons (.blt .tuple (.var 3)) (.cons (.bin .Add (.var 3) (.lst (.cons (.tup (.cons (.idx (.idx (.idx (.var 0) (.cst (.int 1))) (.cst (.int 0))) (.cst (.int 0))) (.cons (.cst (.str "a")) .nil))) .nil))) .nil))) (.ite (.cmp .NotEq (.var 2) (.lst (.nil))) (.lst (.cons (.slc (.var 3) (.so (.cst (.int 1))) .no) .nil)) (.lst (.nil))))) (.cons (.set (.nm 5) (.idx (.idx (.idx (.var 0) (.cst (.int 1))) (.cst (.int 0))) (.cst (.int 0)))) (.cons (.for_ [6] (.nm 6) (.seq (.lst (.cons (.tup (.cons (.cst (.str "zz")) (.cons (.cst (.str "a")) .nil))) (.cons (.tup (.cons (.var 5) (.cons (.cst (.str "A")) .nil))) (.cons (.tup (.cons (.var 5) .nil)) (.cons (.lst (.cons (.var 5) (.cons (.cst (.str "a")) .nil))) (.cons (.tup (.cons (.var 5) (.cons (.cst (.str "a")) (.cons (.cst (.str "a")) .nil)))) (.cons (.cst .none) .nil)))))))) (.cons (.ext 4 (.ite (.cmp .NotEq (.var 2) (.lst (.nil))) (.lst (.cons (.bin .Add (.lst (.cons (.var 6) .nil)) (.slc (.var 3) (.so (.cst (.int 1))) .no)) .nil)) (.lst (.nil)))) .nil)) (.cons (.frz 4) (.cons (.for_ [6] (.nm 6) (.seq (.var 4)) (.cons (.ite (.cmp .NotEq (.told "_law_told" (.call "suspects" (.cons (.var 0) (.cons (.var 1) (.cons (.var 2) (.cons (.cst (.str "x")) (.cons (.var 6) .nil))))))) (.tup (.cons (.cst (.str "refused")) (.cons (.cst (.str "NoOuts")) .nil)))) (.cons (.ret (.cst (.bool false))) .nil) (.nil)) .nil)) (.cons (.ret (.cst (.bool true))) .nil))))))
def n__law_refuses : List Str := ["net", "state", "run", "outs", "bad", "name", "thing"]
def c_origins : Ss := (.cons (.exp (.call "look_net" (.cons (.var 0) .nil))) (.cons (.exp (.call "look_run" (.cons (.var 0) (.cons (.var 1) .nil)))) (.cons (.ret (.idx (.call "traced" (.cons (.var 0) (.cons (.var 1) .nil))) (.cst (.int 1)))) .nil)))
def n_origins : List Str := ["net", "run"]
def c_plain_goes : Ss := (.cons (.set (.nm 2) (.call "marked" (.cons (.var 0) .nil))) (.cons (.for_ [3] (.nm 3) (.seq (.var 1)) (.cons (.set (.nm 2) (.call "plain_turned" (.cons (.var 0) (.cons (.var 2) (.cons (.tup (.cons (.var 3) (.cons (.cst (.int 1)) .nil))) .nil))))) .nil)) (.cons (.ret (.blt .sorted (.lc [4, 5] (.tup (.cons (.var 5) (.cons (.var 4) .nil))) (.tp (.cons (.nm 4) (.cons (.nm 5) .nil))) (.seq (.call "places_of" (.cons (.var 0) (.cons (.var 2) .nil)))) .no))) .nil)))
def n_plain_goes : List Str := ["net", "order", "state", "way", "spot", "mark"]
def c_goes_to : Ss := (.cons (.exp (.call "look_net" (.cons (.var 0) .nil))) (.cons (.exp (.call "look_order" (.cons (.var 0) (.cons (.var 1) .nil)))) (.cons (.ret (.call "plain_goes" (.cons (.var 0) (.cons (.var 1) .nil)))) .nil)))
def n_goes_to : List Str := ["net", "order"]
end Fp
set_option maxHeartbeats 1000000
namespace Fp
open PySem
/-! shapes -/
def sh (n : Nat) (d : D) : Prop := d.canLay0 = true ∧ d.depth ≤ n
theorem layAll {xs : List D} : PyData.canLayAll0 xs = true ↔ ∀ x ∈ xs, x.canLay0 = true := by
  induction xs with
  | nil => simp [PyData.canLayAll0]
  | cons x xs ih => simp [PyData.canLayAll0, ih]
theorem depAll {xs : List D} {n : Nat} : PyData.depthAll xs ≤ n ↔ ∀ x ∈ xs, x.depth ≤ n := by
  induction xs with
  | nil => simp [PyData.depthAll]
  | cons x xs ih => simp [PyData.depthAll, Nat.max_le, ih]
theorem sh_none {n : Nat} : sh n .none := ⟨rfl, Nat.zero_le _⟩
theorem sh_bool {n : Nat} {b : Bool} : sh n (.bool b) := ⟨rfl, Nat.zero_le _⟩
theorem sh_int {n : Nat} {i : Int} : sh n (.int i) := ⟨rfl, Nat.zero_le _⟩
theorem sh_str {n : Nat} {s : Str} (h : (PyData.str s).canLay0 = true) : sh n (.str s) := ⟨h, Nat.zero_le _⟩
theorem sh_tup {n : Nat} {xs : List D} : sh (n + 1) (.tuple xs) ↔ ∀ x ∈ xs, sh n x := by
  unfold sh
  simp only [PyData.canLay0, PyData.depth, layAll, Nat.add_le_add_iff_right, depAll]
  exact ⟨fun h x hx => ⟨h.1 x hx, h.2 x hx⟩, fun h => ⟨fun x hx => (h x hx).1, fun x hx => (h x hx).2⟩⟩
theorem sh_lst {n : Nat} {xs : List D} : sh (n + 1) (.list xs) ↔ ∀ x ∈ xs, sh n x := by
  unfold sh
  simp only [PyData.canLay0, PyData.depth, layAll, Nat.add_le_add_iff_right, depAll]
  exact ⟨fun h x hx => ⟨h.1 x hx, h.2 x hx⟩, fun h => ⟨fun x hx => (h x hx).1, fun x hx => (h x hx).2⟩⟩
theorem sh.mono {n m : Nat} {d : D} (h : sh n d) (hm : n ≤ m) : sh m d := ⟨h.1, Nat.le_trans h.2 hm⟩
theorem sh.ok {n : Nat} {d : D} (h : sh n d) (hn : n ≤ 64) : SeqAt.shaped d = true := by
  unfold SeqAt.shaped
  rw [h.1, decide_eq_true (Nat.le_trans h.2 hn)]
  rfl
theorem eqD_sh {n m : Nat} {x y : D} (h1 : sh n x) (h2 : sh m y) (hn : n ≤ 64) (hm : m ≤ 64) : eqD x y = .ok (PyData.eqv x y) := if_pos ⟨h1.ok hn, h2.ok hm⟩
theorem inD_lst {n m : Nat} {x : D} {ys : List D} (h1 : sh n x) (h2 : sh m (.list ys)) (hn : n ≤ 64) (hm : m ≤ 64) : inD x (.list ys) = .ok (ys.any fun z => PyData.eqv z x) := if_pos ⟨h1.ok hn, h2.ok hm⟩
theorem inD_tup {n m : Nat} {x : D} {ys : List D} (h1 : sh n x) (h2 : sh m (.tuple ys)) (hn : n ≤ 64) (hm : m ≤ 64) : inD x (.tuple ys) = .ok (ys.any fun z => PyData.eqv z x) := if_pos ⟨h1.ok hn, h2.ok hm⟩
@[simp] theorem eqv_str {a b : Str} : PyData.eqv (.str a) (.str b) = (a == b) := by simp [PyData.eqv]
@[simp] theorem eqv_int {a b : Int} : PyData.eqv (.int a) (.int b) = (a == b) := by simp [PyData.eqv]
/-! cuts -/
theorem cut_1 {α : Type} (xs : List α) : cutD xs (some 1) none = xs.drop 1 := by
  unfold cutD
  have e : HT.sIx xs.length 0 (some 1) = min 1 xs.length := HT.sIx_nat _ _ 1
  rw [e, HT.sIx_none]
  cases xs with
  | nil => rfl
  | cons x xs => simp
theorem cut_to {α : Type} (xs : List α) (k : Nat) : cutD xs none (some (k : Int)) = xs.take k := by
  unfold cutD
  rw [HT.sIx_none, HT.sIx_nat, List.drop_zero, Nat.sub_zero]
  rcases Nat.le_total k xs.length with q | q
  · rw [Nat.min_eq_left q]
  · rw [Nat.min_eq_right q, List.take_length, List.take_of_length_le q]
theorem cut_from {α : Type} (xs : List α) (k : Nat) : cutD xs (some (k : Int)) none = xs.drop k := by
  unfold cutD
  rw [HT.sIx_none, HT.sIx_nat]
  have h : xs.drop (min k xs.length) = xs.drop k := by
    rcases Nat.le_total k xs.length with q | q
    · rw [Nat.min_eq_left q]
    · rw [Nat.min_eq_right q, List.drop_eq_nil_of_le q, List.drop_length]
  rw [h]
  refine List.take_of_length_le ?_
  rw [List.length_drop]
  omega
@[simp] theorem ite_and {p : Prop} [Decidable p] {b : Bool} : (if p then Res.ok (PyData.bool b) else Res.ok (PyData.bool false)) = Res.ok (PyData.bool (decide p && b)) := by
  by_cases h : p <;> simp [h]
@[simp] theorem ite_or {p : Prop} [Decidable p] {b : Bool} : (if p then Res.ok (PyData.bool true) else Res.ok (PyData.bool b)) = Res.ok (PyData.bool (decide p || b)) := by
  by_cases h : p <;> simp [h]
@[simp] theorem match_and {a b : Bool} : (match a with
  | true => Res.ok (PyData.bool b)
  | false => Res.ok (PyData.bool false)) = Res.ok (PyData.bool (a && b)) := by cases a <;> rfl
@[simp] theorem match_or {a b : Bool} : (match a with
  | true => Res.ok (PyData.bool true)
  | false => Res.ok (PyData.bool b)) = Res.ok (PyData.bool (a || b)) := by cases a <;> rfl
end Fp
set_option maxHeartbeats 1000000
namespace Fp
open PySem
variable {G : Str → List D → Res D}
def isWhole (a : D) (l m : Int) : Bool := match a with
  | .int n => decide (l ≤ n) && decide (n ≤ m)
  | _ => false
theorem v_is_whole (a : D) (l m : Int) : fnD G 3 0 c_is_whole [a, .int l, .int m] = .ok (.bool (isWhole a l m)) := by
  cases a <;> simp [c_is_whole, isWhole]
def small : Str := "abcdefghijklmnopqrstuvwxyz"
def isNm (s : Str) : Bool := decide ((1 : Int) ≤ s.length) && decide ((s.length : Int) ≤ 4) && s.cps.toList.all fun c => decide (c ∈ small.cps.toList)
def isName : D → Bool
  | .str s => isNm s
  | _ => false
@[simp] theorem in_sign {c : Nat} {b : Str} : inD (.str ⟨#[c]⟩) (.str b) = .ok (decide (c ∈ b.cps.toList)) := rfl
theorem v_is_name (d : D) : fnD G 1 1 c_is_name [d] = .ok (.bool (isName d)) := by
  cases d with
  | str s =>
    simp [c_is_name, isName, signsD]
    rw [lc_map (fun c => .str ⟨#[c]⟩) (fun c => [.fz (.str s), .fz (.str ⟨#[c]⟩)]) (fun c => .bool (decide (c ∈ small.cps.toList))) (by simp) (by simp) (by simp [small])]
    simp [isNm, small]
  | _ => simp [c_is_name, isName]
/-- names that rise -/
def rises (ss : List Str) : Bool := (ss.zip ss.tail).all fun p => decide (p.1.cps.toList < p.2.cps.toList)
theorem v_is_rising (ss : List Str) : fnD G 1 2 c_is_rising [.list (ss.map .str)] = .ok (.bool (rises ss)) := by
  simp [c_is_rising, cut_1, pairsD]
  rw [← List.map_tail, List.zip_map, List.map_map]
  rw [lc_map _ (fun p : Str × Str => [.fz (.list (ss.map .str)), .fz (.str p.1), .fz (.str p.2)]) (fun p => .bool (decide (p.1.cps.toList < p.2.cps.toList))) (by simp) (by simp) (by simp)]
  simp [rises]
def isPair : D → Bool
  | .tuple [a, b] => isName a
  | _ => false
@[simp] theorem at_0 {α : Type} {x : α} {xs : List α} : L2.atI (x :: xs) 0 = some x := by
  unfold L2.atI L2.ixN
  simp
@[simp] theorem at_1 {α : Type} {x y : α} {xs : List α} : L2.atI (x :: y :: xs) 1 = some y := by
  unfold L2.atI L2.ixN
  have : (1 : Int) < (xs.length : Int) + 1 + 1 := by omega
  simp [this]
theorem v_is_pair (h : ∀ d, G "is_name" [d] = .ok (.bool (isName d))) (d : D) : fnD G 1 0 c_is_pair [d] = .ok (.bool (isPair d)) := by
  cases d with
  | tuple xs =>
    match xs with
    | [] => simp [c_is_pair, isPair]
    | [a] => simp [c_is_pair, isPair]
    | [a, b] => simp [c_is_pair, isPair, h]
    | a :: b :: c :: l =>
      have : ¬ ((l.length : Int) + 1 + 1 + 1 = 2) := by omega
      simp [c_is_pair, isPair, this]
  | _ => simp [c_is_pair, isPair]
def fstS : D → Str
  | .tuple (.str s :: _) => s
  | _ => ""
def sndD : D → D
  | .tuple [_, b] => b
  | _ => .none
theorem pair_of {x : D} (h : isPair x = true) : x = .tuple [.str (fstS x), sndD x] ∧ isNm (fstS x) = true := by
  unfold isPair at h
  split at h
  · rename_i a b
    cases a <;> first | (exact ⟨rfl, h⟩) | (cases h)
  · cases h
theorem idx1_pair {x : D} (h : isPair x = true) : idxD x (.int 1) = .ok (sndD x) := by
  unfold isPair at h
  split at h
  · simp [sndD]
  · cases h
theorem idx0_pair {x : D} (h : isPair x = true) : idxD x (.int 0) = .ok (.str (fstS x)) := by
  unfold isPair at h
  split at h
  · rename_i a b
    cases a <;> first | (simp [fstS]; done) | (cases h)
  · cases h
def arePipes : D → Bool
  | .tuple xs => (decide ((1 : Int) ≤ xs.length) && decide ((xs.length : Int) ≤ 6)) && xs.all isPair && (xs.all (fun x => isWhole (sndD x) 1 4) && rises (xs.map fstS))
  | _ => false
theorem v_are_pipes (h1 : ∀ d, G "is_pair" [d] = .ok (.bool (isPair d))) (h2 : ∀ d l m, G "is_whole" [d, .int l, .int m] = .ok (.bool (isWhole d l m))) (h3 : ∀ ss, G "is_rising" [.list (ss.map .str)] = .ok (.bool (rises ss))) (d : D) :
    fnD G 1 1 c_are_pipes [d] = .ok (.bool (arePipes d)) := by
  cases d with
  | tuple xs =>
    have e1 : lcGo (.nm 1) [.fz (.tuple xs), .no] (fun ρ1 => Res.ok true) (fun ρ1 => slotD ρ1 1 >>= fun d => G "is_pair" [d]) xs = .ok (xs.map fun x => .bool (isPair x)) :=
      lc_all (fun x => [.fz (.tuple xs), .fz x]) _ (by simp) (by simp) (by simp [h1])
    simp [c_are_pipes, e1]
    split
    · rename_i hc
      have : arePipes (.tuple xs) = false := by
        rcases hc with (hc | hc) | ⟨x, hx, hc⟩
        · have q : decide ((1 : Int) ≤ xs.length) = false := decide_eq_false (by omega)
          simp [arePipes, q]
        · have q : decide ((xs.length : Int) ≤ 6) = false := decide_eq_false (by omega)
          simp [arePipes, q]
        · have q : xs.all isPair = false := by
            rw [List.all_eq_false]
            exact ⟨x, hx, by simp [hc]⟩
          simp [arePipes, q]
      simp [this]
    · rename_i hc
      have hl1 : (1 : Int) ≤ xs.length := by
        apply Int.not_lt.mp
        exact fun q => hc (.inl (.inl q))
      have hl2 : (xs.length : Int) ≤ 6 := by
        apply Int.not_lt.mp
        exact fun q => hc (.inl (.inr q))
      have hp' : ∀ x ∈ xs, isPair x = true := fun x hx => by
        cases hq : isPair x with
        | true => rfl
        | false => exact absurd (.inr ⟨x, hx, hq⟩) hc
      have e2 : lcGo (.nm 1) [.fz (.tuple xs), .no] (fun ρ1 => Res.ok true) (fun ρ1 => slotD ρ1 1 >>= fun x => idxD x (.int 1) >>= fun d => G "is_whole" [d, .int 1, .int 4]) xs = .ok (xs.map fun x => .bool (isWhole (sndD x) 1 4)) :=
        lc_all (fun x => [.fz (.tuple xs), .fz x]) _ (by simp) (by simp) (fun x hx => by
          obtain ⟨e, _⟩ := pair_of (hp' x hx)
          simp
          rw [e]
          simp [h2, sndD])
      have e3 : lcGo (.nm 1) [.fz (.tuple xs), .no] (fun ρ1 => Res.ok true) (fun ρ1 => slotD ρ1 1 >>= fun x => idxD x (.int 0)) xs = .ok (xs.map fun x => .str (fstS x)) :=
        lc_all (fun x => [.fz (.tuple xs), .fz x]) _ (by simp) (by simp) (fun x hx => by
          obtain ⟨e, _⟩ := pair_of (hp' x hx)
          simp
          rw [e]
          simp [fstS])
      have e4 : xs.map (fun x => PyData.str (fstS x)) = (xs.map fstS).map .str := by simp
      have e5 : xs.all isPair = true := by simpa using hp'
      simp only [then_nx, slot_0, ok_bind, items_t, List.set_cons_succ, List.set_cons_zero, e2, e3, e4, h3]
      simp [arePipes, hl1, hl2, e5]
  | _ => simp [c_are_pipes, arePipes]
/-! rows, nets -/
@[simp] theorem at_n {α : Type} {xs : List α} {i : Nat} : L2.atI xs (i : Int) = xs[i]? := by
  unfold L2.atI L2.ixN
  rw [if_pos (by omega)]
  by_cases h : i < xs.length
  · rw [if_pos (by omega)]
    simp
  · rw [if_neg (by omega), List.getElem?_eq_none (by omega)]
    rfl
def inS (ss : List Str) (s : Str) : Bool := ss.any fun z => z == s
def isRow (names : List Str) : D → Bool
  | .tuple xs => (decide ((1 : Int) ≤ xs.length) && decide ((xs.length : Int) ≤ 4)) && ((List.range xs.length).zip xs).all fun p => isName p.2 && ((names.any fun z => PyData.eqv (.str z) p.2) && !((xs.take p.1).any fun z => PyData.eqv z p.2))
  | _ => false
theorem small_lt : ∀ c ∈ small.cps.toList, c < 0x110000 := by decide +kernel
theorem nm_lay {s : Str} (h : isNm s = true) : (PyData.str s).canLay0 = true := by
  unfold isNm at h
  simp only [Bool.and_eq_true, List.all_eq_true, decide_eq_true_eq] at h
  show (s.cps.all (· < 0x110000)) = true
  rw [Array.all_eq_true]
  intro i hi
  exact decide_eq_true (small_lt _ (h.2 _ (by simp)))
theorem name_str {d : D} (h : isName d = true) : ∃ s, d = .str s ∧ isNm s = true := by
  cases d <;> first | (exact ⟨_, rfl, h⟩) | (cases h)
theorem names_sh {names : List Str} (hn : ∀ s ∈ names, isNm s = true) : sh 1 (.list (names.map .str)) := by
  rw [sh_lst]
  intro x hx
  obtain ⟨s, hs, rfl⟩ := List.mem_map.mp hx
  exact sh_str (nm_lay (hn s hs))
theorem v_is_row (h1 : ∀ d, G "is_name" [d] = .ok (.bool (isName d))) (names : List Str) (hn : ∀ s ∈ names, isNm s = true) (d : D) (hd : sh 60 d) : fnD G 2 2 c_is_row [.list (names.map .str), d] = .ok (.bool (isRow names d)) := by
  cases d with
  | tuple xs =>
    simp [c_is_row]
    split
    · rename_i hc
      have : isRow names (.tuple xs) = false := by
        rcases hc with hc | hc
        · have q : decide ((1 : Int) ≤ xs.length) = false := decide_eq_false (by omega)
          simp [isRow, q]
        · have q : decide ((xs.length : Int) ≤ 4) = false := decide_eq_false (by omega)
          simp [isRow, q]
      simp [this]
    · rename_i hc
      have hl1 : (1 : Int) ≤ xs.length := Int.not_lt.mp fun q => hc (.inl q)
      have hl2 : (xs.length : Int) ≤ 4 := Int.not_lt.mp fun q => hc (.inr q)
      simp [numbD]
      rw [lc_map (fun p : Nat × D => .tuple [.int (p.1 : Nat), p.2]) (fun p => [.fz (.list (names.map .str)), .fz (.tuple xs), .fz (.int (p.1 : Nat)), .fz p.2])
        (fun p => .bool (isName p.2 && ((names.any fun z => PyData.eqv (.str z) p.2) && !((xs.take p.1).any fun z => PyData.eqv z p.2)))) (by simp) (by simp) fun p hp => ?_]
      · simp [isRow, hl1, hl2]
      · simp [h1]
        cases hq : isName p.2 with
        | false => simp
        | true =>
          obtain ⟨s, e, hs⟩ := name_str hq
          have hsh : sh 0 p.2 := by rw [e]; exact sh_str (nm_lay hs)
          have hts : sh 60 (.tuple (xs.take p.1)) := sh_tup.mpr fun x hx => (sh_tup (n := 59)).mp hd x (List.mem_of_mem_take hx) |>.mono (by decide)
          rw [inD_lst hsh (names_sh hn) (by decide) (by decide)]
          simp [cut_to]
          rw [inD_tup hsh hts (by decide) (by decide)]
          simp
          rfl
  | _ => simp [c_is_row, isRow]
def itemsT : D → List D
  | .tuple xs => xs
  | _ => []
def namesD (p : D) : List Str := (itemsT p).map fstS
def areWays (names : List Str) : D → Bool
  | .tuple ws => (decide ((1 : Int) ≤ ws.length) && decide ((ws.length : Int) ≤ 8)) && ws.all (fun w => isPair w && isRow names (sndD w)) && rises (ws.map fstS)
  | _ => false
def isNet : D → Bool
  | .tuple [p, w] => arePipes p && areWays (namesD p) w
  | _ => false
theorem pipes_of {p : D} (h : arePipes p = true) : ∃ xs, p = .tuple xs ∧ (∀ x ∈ xs, isPair x = true) ∧ (1 : Int) ≤ xs.length ∧ (xs.length : Int) ≤ 6 ∧ (∀ x ∈ xs, isWhole (sndD x) 1 4 = true) ∧ rises (xs.map fstS) = true := by
  cases p <;> first | (cases h; done) | skip
  rename_i xs
  unfold arePipes at h
  simp only [Bool.and_eq_true, List.all_eq_true, decide_eq_true_eq] at h
  exact ⟨xs, rfl, h.1.2, h.1.1.1, h.1.1.2, h.2.1, h.2.2⟩
theorem names_nm {p : D} (h : arePipes p = true) : ∀ s ∈ namesD p, isNm s = true := by
  obtain ⟨xs, rfl, h1, _⟩ := pipes_of h
  intro s hs
  obtain ⟨x, hx, rfl⟩ := List.mem_map.mp hs
  exact (pair_of (h1 x hx)).2
theorem sh_snd {n : Nat} {x : D} (hp : isPair x = true) (h : sh (n + 1) x) : sh n (sndD x) := by
  obtain ⟨e, _⟩ := pair_of hp
  rw [e] at h
  exact sh_tup.mp h _ (by simp)
theorem fst_map {xs : List D} {G : Str → List D → Res D} {ρ : Slots} {i : Nat} (hi : i < ρ.length) (h : ∀ x ∈ xs, isPair x = true) (hs : ∀ x, slotD (ρ.set i (.fz x)) i = .ok x) : lcGo (.nm i) ρ (fun _ => .ok true) (fun ρ1 => slotD ρ1 i >>= fun x => idxD x (.int 0)) xs = .ok ((xs.map fstS).map .str) := by
  rw [lc_all (fun x => ρ.set i (.fz x)) (fun x => .str (fstS x)) (by simp [hi]) (by simp) (fun x hx => ?_)]
  · simp
  · rw [hs]
    obtain ⟨e, _⟩ := pair_of (h x hx)
    rw [ok_bind, e]
    simp [fstS]
theorem v_is_net (h1 : ∀ d, G "are_pipes" [d] = .ok (.bool (arePipes d))) (h2 : ∀ d, G "is_pair" [d] = .ok (.bool (isPair d))) (h3 : ∀ names d, (∀ s ∈ names, isNm s = true) → sh 60 d → G "is_row" [.list (names.map .str), d] = .ok (.bool (isRow names d)))
    (h4 : ∀ ss, G "is_rising" [.list (ss.map .str)] = .ok (.bool (rises ss))) (d : D) (hd : sh 63 d) : fnD G 1 5 c_is_net [d] = .ok (.bool (isNet d)) := by
  cases d with
  | tuple xs =>
    match xs with
    | [] => simp [c_is_net, isNet]
    | [a] => simp [c_is_net, isNet]
    | a :: b :: c :: l =>
      have : ¬ ((l.length : Int) + 1 + 1 + 1 = 2) := by omega
      simp [c_is_net, isNet, this]
    | [p, w] =>
      simp [c_is_net, h1]
      cases hp : arePipes p with
      | false => simp [isNet, hp]
      | true =>
        obtain ⟨ps, rfl, q1, _⟩ := pipes_of hp
        cases w with
        | tuple ws =>
          simp
          rw [fst_map (G := G) (by simp) q1 (by simp)]
          simp
          have hws : ∀ x ∈ ws, sh 61 x := fun x hx => (sh_tup (n := 61)).mp ((sh_tup (n := 62)).mp hd (.tuple ws) (by simp)) x hx
          rw [lc_all (fun x => [.fz (.tuple [.tuple ps, .tuple ws]), .fz (.tuple ps), .fz (.tuple ws), .fz (.list ((ps.map fstS).map .str)), .no, .fz x]) (fun x => .bool (isPair x && isRow (ps.map fstS) (sndD x))) (by simp) (by simp) (fun x hx => ?_)]
          · simp
            split
            · rename_i hc
              have : areWays (ps.map fstS) (.tuple ws) = false := by
                rcases hc with (hc | hc) | ⟨x, hx, hc⟩
                · have q : decide ((1 : Int) ≤ ws.length) = false := decide_eq_false (by omega)
                  simp [areWays, q]
                · have q : decide ((ws.length : Int) ≤ 8) = false := decide_eq_false (by omega)
                  simp [areWays, q]
                · have q : ws.all (fun w => isPair w && isRow (ps.map fstS) (sndD w)) = false := by
                    rw [List.all_eq_false]
                    refine ⟨x, hx, ?_⟩
                    cases hq : isPair x with
                    | true => simp [hc hq]
                    | false => simp
                  simp only [areWays, q, Bool.and_false, Bool.false_and]
              have e : isNet (.tuple [.tuple ps, .tuple ws]) = false := by
                show (arePipes (.tuple ps) && areWays (ps.map fstS) (.tuple ws)) = false
                rw [this, Bool.and_false]
              simp [e]
            · rename_i hc
              have hl1 : (1 : Int) ≤ ws.length := Int.not_lt.mp fun q => hc (.inl (.inl q))
              have hl2 : (ws.length : Int) ≤ 8 := Int.not_lt.mp fun q => hc (.inl (.inr q))
              have hw : ∀ x ∈ ws, isPair x = true ∧ isRow (ps.map fstS) (sndD x) = true := fun x hx => by
                cases hq : isPair x with
                | false => exact absurd (.inr ⟨x, hx, fun z => by rw [hq] at z; cases z⟩) hc
                | true =>
                  cases hr : isRow (ps.map fstS) (sndD x) with
                  | true => exact ⟨rfl, rfl⟩
                  | false => exact absurd (.inr ⟨x, hx, fun _ => hr⟩) hc
              have hall : ws.all (fun w => isPair w && isRow (ps.map fstS) (sndD w)) = true := by
                rw [List.all_eq_true]
                intro x hx
                rw [(hw x hx).1, (hw x hx).2]
                rfl
              simp
              rw [fst_map (G := G) (by simp) (fun x hx => (hw x hx).1) (by simp)]
              rw [ok_bind, h4]
              simp only [liftR_ok, then_rt, fin_rt]
              have e : isNet (.tuple [.tuple ps, .tuple ws]) = rises (ws.map fstS) := by
                show (arePipes (.tuple ps) && ((decide ((1 : Int) ≤ ws.length) && decide ((ws.length : Int) ≤ 8)) && ws.all (fun w => isPair w && isRow (ps.map fstS) (sndD w)) && rises (ws.map fstS))) = _
                rw [hp, hall, decide_eq_true hl1, decide_eq_true hl2]
                rfl
              rw [e]
          · simp [h2]
            cases hx2 : isPair x with
            | false => simp
            | true =>
              have hsx := sh_snd (n := 60) hx2 (hws x hx)
              have := h3 (ps.map fstS) (sndD x) (names_nm hp) hsx
              rw [List.map_map] at this
              simp [idx1_pair hx2, this]
        | _ => simp [isNet, hp, areWays]
  | _ => simp [c_is_net, isNet]
end Fp
set_option maxHeartbeats 1000000
namespace Fp
open PySem
variable {G : Str → List D → Res D}
theorem v_look_net (h : ∀ d, sh 63 d → G "is_net" [d] = .ok (.bool (isNet d))) (d : D) (hd : sh 63 d) : fnD G 1 0 c_look_net [d] = if isNet d = true then .ok .none else .exc "NoNet" := by
  cases hn : isNet d <;> simp [c_look_net, h d hd, hn]
/-- a net by its parts -/
abbrev PipeT := Str × Int
abbrev WayT := Str × List Str
def pipeD (q : PipeT) : D := .tuple [.str q.1, .int q.2]
def rowD (r : List Str) : D := .tuple (r.map .str)
def wayD (q : WayT) : D := .tuple [.str q.1, rowD q.2]
def netD (ps : List PipeT) (ws : List WayT) : D := .tuple [.tuple (ps.map pipeD), .tuple (ws.map wayD)]
@[simp] theorem itemsT_t {xs : List D} : itemsT (.tuple xs) = xs := rfl
def isTup : D → Bool
  | .tuple _ => true
  | _ => false
theorem isi_t {d : D} : isiD d .tuple = isTup d := by cases d <;> rfl
def isStateOf (ps : List PipeT) : D → Bool
  | .tuple rows => decide (rows.length = ps.length) && rows.all isTup && (rows.zip ps).all (fun p => decide (((itemsT p.1).length : Int) = p.2.2)) && (rows.flatMap itemsT).all isName
  | _ => false
theorem v_is_state (h1 : ∀ d, sh 63 d → G "look_net" [d] = if isNet d = true then .ok .none else .exc "NoNet") (n d : D) (hn : sh 63 n) (r : Res D) (h2 : isNet n = true → G "is_state_of" [n, d] = r) : fnD G 2 0 c_is_state [n, d] = if isNet n = true then r else .exc "NoNet" := by
  cases hq : isNet n with
  | false => simp [c_is_state, h1 n hn, hq]
  | true =>
    simp [c_is_state, h1 n hn, hq, h2 hq]
    cases r <;> rfl
theorem lc2_map {γ : Type} {tg : Tg} {ρ : Slots} {inner : Slots → Res (List D)} (enc : γ → D) (f : γ → Slots) (g : γ → List D) : ∀ {l : List γ}, (∀ x ∈ l, bindT tg (enc x) ρ = .ok (f x)) → (∀ x ∈ l, inner (f x) = .ok (g x)) → lc2Go tg ρ inner (l.map enc) = .ok (l.flatMap g)
  | [], _, _ => rfl
  | x :: l, h1, h2 => by
    rw [List.map_cons]
    unfold lc2Go
    rw [h1 x List.mem_cons_self]
    show (inner (f x) >>= _) = _
    rw [h2 x List.mem_cons_self, lc2_map enc f g (fun y hy => h1 y (List.mem_cons_of_mem _ hy)) (fun y hy => h2 y (List.mem_cons_of_mem _ hy))]
    rfl
theorem lc2_all {tg : Tg} {ρ : Slots} {inner : Slots → Res (List D)} (f : D → Slots) (g : D → List D) {l : List D} (h1 : ∀ x ∈ l, bindT tg x ρ = .ok (f x)) (h2 : ∀ x ∈ l, inner (f x) = .ok (g x)) : lc2Go tg ρ inner l = .ok (l.flatMap g) := by
  have := lc2_map (tg := tg) (ρ := ρ) (inner := inner) id f g (l := l) h1 h2
  rwa [List.map_id] at this
theorem flat_len {rows : List D} {ps : List PipeT} : rows.length = ps.length → (∀ p ∈ rows.zip ps, ((itemsT p.1).length : Int) = p.2.2) → (∀ p ∈ ps, p.2 ≤ 4) → (rows.flatMap itemsT).length ≤ 4 * ps.length := by
  induction rows generalizing ps with
  | nil => intro _ _ _; simp
  | cons r rows ih =>
    intro hl hz hp
    cases ps with
    | nil => cases hl
    | cons p ps =>
      have h1 := hz (r, p) (by simp)
      have h2 := hp p (by simp)
      have h3 := ih (ps := ps) (by simpa using hl) (fun q hq => hz q (by simp [hq])) (fun q hq => hp q (by simp [hq]))
      simp only [List.flatMap_cons, List.length_append, List.length_cons]
      have h1 : ((itemsT r).length : Int) = p.2 := h1
      omega
theorem v_is_state_of (h : ∀ d, G "is_name" [d] = .ok (.bool (isName d))) (ps : List PipeT) (hp : ∀ p ∈ ps, p.2 ≤ 4) (hl : ps.length ≤ 6) (w d : D) : fnD G 2 3 c_is_state_of [.tuple [.tuple (ps.map pipeD), w], d] = .ok (.bool (isStateOf ps d)) := by
  cases d with
  | tuple rows =>
    simp [c_is_state_of]
    rw [lc_all (fun x => [.fz (.tuple [.tuple (ps.map pipeD), w]), .fz (.tuple rows), .fz x, .no, .no]) (fun x => .bool (isTup x)) (by simp) (by simp) (by simp [isi_t])]
    simp
    by_cases hlen : rows.length = ps.length
    · by_cases ht : ∃ x ∈ rows, isTup x = false
      · have : isStateOf ps (.tuple rows) = false := by
          obtain ⟨x, hx, q⟩ := ht
          have : rows.all isTup = false := by
            rw [List.all_eq_false]
            exact ⟨x, hx, by simp [q]⟩
          simp [isStateOf, this]
        simp [ht, this]
      · have ht' : ∀ x ∈ rows, isTup x = true := fun x hx => by
          cases hq : isTup x with
          | true => rfl
          | false => exact absurd ⟨x, hx, hq⟩ ht
        have hall : rows.all isTup = true := by simpa using ht'
        have hti : ∀ x ∈ rows, x = .tuple (itemsT x) := fun x hx => by
          have := ht' x hx
          cases x <;> first | rfl | cases this
        simp [hlen, ht]
        simp only [pairsD]
        rw [List.zip_map_right, List.map_map]
        rw [lc_map _ (fun p : D × PipeT => [.fz (.tuple [.tuple (ps.map pipeD), w]), .fz (.tuple rows), .fz p.1, .no, .fz (pipeD p.2)]) (fun p => .bool (decide (((itemsT p.1).length : Int) = p.2.2))) (by simp) (by simp) (fun p hp2 => ?_)]
        · simp
          split
          · rename_i hc
            have : isStateOf ps (.tuple rows) = false := by
              have q : (rows.zip ps).all (fun p => decide (((itemsT p.1).length : Int) = p.2.2)) = false := by simpa using hc
              simp only [isStateOf, q, Bool.and_false, Bool.false_and]
            simp [this]
          · rename_i hc
            have q : (rows.zip ps).all (fun p => decide (((itemsT p.1).length : Int) = p.2.2)) = true := by simpa using hc
            have hz : ∀ p ∈ rows.zip ps, ((itemsT p.1).length : Int) = p.2.2 := fun p hp => by
              rw [List.all_eq_true] at q
              exact of_decide_eq_true (q p hp)
            have hfl := flat_len hlen hz hp
            have hsz : 24 ≤ sizeLine := by decide
            have e : isStateOf ps (.tuple rows) = (rows.flatMap itemsT).all isName := by
              simp only [isStateOf, q, hall, hlen, decide_true, Bool.true_and]
            simp
            rw [lc2_all (fun x => [.fz (.tuple [.tuple (ps.map pipeD), w]), .fz (.tuple rows), .fz x, .no, .no]) (fun x => (itemsT x).map fun y => .bool (isName y)) (by simp) (fun x hx => ?_)]
            · have el : (rows.flatMap fun x => (itemsT x).map fun y => PyData.bool (isName y)) = (rows.flatMap itemsT).map fun y => .bool (isName y) := by
                rw [List.map_flatMap]
              rw [el, ok_bind, if_pos (by rw [List.length_map]; omega)]
              simp [e]
            · rw [hti x hx]
              simp [tgIx]
              rw [lc_all (fun y => [.fz (.tuple [.tuple (ps.map pipeD), w]), .fz (.tuple rows), .fz (.tuple (itemsT x)), .fz y, .no]) (fun y => .bool (isName y)) (by simp) (by simp) (by simp [h])]
        · rw [hti p.1 (List.of_mem_zip hp2).1]
          simp [pipeD]
          exact decide_eq_decide.mpr Iff.rfl
    · have : isStateOf ps (.tuple rows) = false := by simp [isStateOf, hlen]
      have h2 : ¬ ((rows.length : Int) = ps.length) := by omega
      simp [h2, this]
  | _ => simp [c_is_state_of, isStateOf]
end Fp
set_option maxHeartbeats 1000000
namespace Fp
open PySem
variable {G : Str → List D → Res D}
/-- what is drawn -/
structure Draws (g : List Int → Int → Int → Int) : Prop where
  lo : ∀ ns k m, 0 < m → 0 ≤ g ns k m
  hi : ∀ ns k m, 0 < m → g ns k m < m
theorem wh_drawn {a b c d : Slot} : ∀ (n : Nat) (turn rest : Int), turn.toNat < n → ∃ turn' rest', whGo [] (fun ρ => ev G (.bop .And (.cons (.cmp .Gt (.var 5) (.cst (.int 0))) (.cons (.cmp .Gt (.var 4) (.cst (.int 0))) .nil))) ρ >>= asBool)
    (fun ρ => exSs G (.cons (.set (.nm 5) (.bin .FloorDiv (.var 5) (.cst (.int 1000000)))) (.cons (.set (.nm 4) (.bin .Sub (.var 4) (.cst (.int 1)))) .nil)) ρ) n [a, b, c, d, .fz (.int turn), .fz (.int rest)] = .nx [a, b, c, d, .fz (.int turn'), .fz (.int rest')] := by
  intro n
  induction n with
  | zero => intro turn rest h; omega
  | succ n ih =>
    intro turn rest h
    unfold whGo
    by_cases h1 : 0 < rest
    · by_cases h2 : 0 < turn
      · obtain ⟨t', r', e⟩ := ih (turn - 1) (rest / 1000000) (by omega)
        refine ⟨t', r', ?_⟩
        simp [h1, h2] at e ⊢
        exact e
      · exact ⟨turn, rest, by simp [h1, h2]⟩
    · exact ⟨turn, rest, by simp [h1]⟩
def mix1 (k cell : Int) : Int := (cell % 2147483563 * 69069 + 104723 * (k + 1)) % 2147483563
def mix2 (c : Int) : Int := (c * c + c / 3) % 2147483399
def mix3 (m c : Int) : Int := (c * c + c / 7) % 2147483647 / 11 % m
section
variable {a e f : Slot} {k m cell c : Int}
theorem mx1 : ev G (.bin .Mod (.bin .Add (.bin .Mult (.bin .Mod (.var 3) (.cst (.int 2147483563))) (.cst (.int 69069))) (.bin .Mult (.cst (.int 104723)) (.bin .Add (.var 1) (.cst (.int 1))))) (.cst (.int 2147483563))) [a, .fz (.int k), .fz (.int m), .fz (.int cell), e, f] = .ok (.int (mix1 k cell)) := by
  simp [mix1]
theorem mx2 (h : -(2 ^ 64) < c ∧ c < 2 ^ 64) : ev G (.bin .Mod (.bin .Add (.bin .Mult (.var 3) (.var 3)) (.bin .FloorDiv (.var 3) (.cst (.int 3)))) (.cst (.int 2147483399))) [a, .fz (.int k), .fz (.int m), .fz (.int c), e, f] = .ok (.int (mix2 c)) := by
  simp only [ev_bin, ev_var, ev_cst, slot_s, slot_0, ok_bind, bin_mul, if_pos (Or.inl h)]
  simp [mix2]
theorem mx3 (hm : 0 < m) (h : -(2 ^ 64) < c ∧ c < 2 ^ 64) : ev G (.bin .Mod (.bin .FloorDiv (.bin .Mod (.bin .Add (.bin .Mult (.var 3) (.var 3)) (.bin .FloorDiv (.var 3) (.cst (.int 7)))) (.cst (.int 2147483647))) (.cst (.int 11))) (.var 2)) [a, .fz (.int k), .fz (.int m), .fz (.int c), e, f] = .ok (.int (mix3 m c)) := by
  simp only [ev_bin, ev_var, ev_cst, slot_s, slot_0, ok_bind, bin_mul, if_pos (Or.inl h)]
  simp [mix3, hm]
end
theorem drawn_tail {a e f : Slot} {k m cell : Int} (hm : 0 < m) : exSs G (.cons (.set (.nm 3) (.bin .Mod (.bin .Add (.bin .Mult (.bin .Mod (.var 3) (.cst (.int 2147483563))) (.cst (.int 69069))) (.bin .Mult (.cst (.int 104723)) (.bin .Add (.var 1) (.cst (.int 1))))) (.cst (.int 2147483563)))) (.cons (.set (.nm 3) (.bin .Mod (.bin .Add (.bin .Mult (.var 3) (.var 3)) (.bin .FloorDiv (.var 3) (.cst (.int 3)))) (.cst (.int 2147483399)))) (.cons (.ret (.bin .Mod (.bin .FloorDiv (.bin .Mod (.bin .Add (.bin .Mult (.var 3) (.var 3)) (.bin .FloorDiv (.var 3) (.cst (.int 7)))) (.cst (.int 2147483647))) (.cst (.int 11))) (.var 2))) .nil))) [a, .fz (.int k), .fz (.int m), .fz (.int cell), e, f]
    = .rt (.int (mix3 m (mix2 (mix1 k cell)))) := by
  have h1 : 0 ≤ mix1 k cell ∧ mix1 k cell < 2147483563 := ⟨Int.emod_nonneg _ (by decide), Int.emod_lt_of_pos _ (by decide)⟩
  have h2 : 0 ≤ mix2 (mix1 k cell) ∧ mix2 (mix1 k cell) < 2147483399 := ⟨Int.emod_nonneg _ (by decide), Int.emod_lt_of_pos _ (by decide)⟩
  have g1 : -(2 ^ 64) < mix1 k cell ∧ mix1 k cell < 2 ^ 64 := by omega
  have g2 : -(2 ^ 64) < mix2 (mix1 k cell) ∧ mix2 (mix1 k cell) < 2 ^ 64 := by omega
  simp only [ex_cons, ex_set, ex_ret]
  rw [mx1]
  simp only [liftR_ok, bind_nm]
  rw [if_pos (by simp)]
  simp only [ofR_ok, then_nx, List.set_cons_succ, List.set_cons_zero]
  rw [mx2 g1]
  simp only [liftR_ok]
  rw [if_pos (by simp)]
  simp only [ofR_ok, then_nx, List.set_cons_succ, List.set_cons_zero]
  rw [mx3 hm g2]
  simp
theorem mix3_in {m c : Int} (hm : 0 < m) : 0 ≤ mix3 m c ∧ mix3 m c < m := ⟨Int.emod_nonneg _ (by omega), Int.emod_lt_of_pos _ hm⟩
@[simp] theorem pow18 : binD .Pow (.int 10) (.int 18) = .ok (.int 1000000000000000000) := by
  show (if (0 : Int) ≤ 18 ∧ (18 : Int) ≤ 1000000 ∧ (10 : Int).natAbs < 2 ^ 64 then Res.ok (PyData.int ((10 : Int) ^ (18 : Int).toNat)) else Res.err) = _
  rw [if_pos (by decide)]
  rfl
def dT : Ss := (.cons (.set (.nm 3) (.bin .Mod (.bin .Add (.bin .Mult (.bin .Mod (.var 3) (.cst (.int 2147483563))) (.cst (.int 69069))) (.bin .Mult (.cst (.int 104723)) (.bin .Add (.var 1) (.cst (.int 1))))) (.cst (.int 2147483563)))) (.cons (.set (.nm 3) (.bin .Mod (.bin .Add (.bin .Mult (.var 3) (.var 3)) (.bin .FloorDiv (.var 3) (.cst (.int 3)))) (.cst (.int 2147483399)))) (.cons (.ret (.bin .Mod (.bin .FloorDiv (.bin .Mod (.bin .Add (.bin .Mult (.var 3) (.var 3)) (.bin .FloorDiv (.var 3) (.cst (.int 7)))) (.cst (.int 2147483647))) (.cst (.int 11))) (.var 2))) .nil)))
def dW : S := (.whl 100000 [] (.bop .And (.cons (.cmp .Gt (.var 5) (.cst (.int 0))) (.cons (.cmp .Gt (.var 4) (.cst (.int 0))) .nil))) (.cons (.set (.nm 5) (.bin .FloorDiv (.var 5) (.cst (.int 1000000)))) (.cons (.set (.nm 4) (.bin .Sub (.var 4) (.cst (.int 1)))) .nil)))
def dI : Ss := .cons (.set (.nm 5) (.bin .FloorDiv (.var 3) (.bin .Pow (.cst (.int 10)) (.cst (.int 18))))) (.cons dW (.cons (.ite (.cmp .Gt (.var 5) (.cst (.int 0))) (.cons (.ret (.bin .Mod (.bin .Mod (.var 5) (.cst (.int 1000000))) (.var 2))) .nil) (.nil)) .nil))
def dB : Ss := (.cons (.set (.nm 3) (.idx (.var 0) (.bin .Mod (.var 1) (.blt .len (.var 0))))) (.cons (.set (.nm 4) (.bin .FloorDiv (.var 1) (.blt .len (.var 0)))) (.cons (.ite (.bop .And (.cons (.cmp .GtE (.var 3) (.bin .Pow (.cst (.int 10)) (.cst (.int 18)))) (.cons (.cmp .Lt (.var 4) (.cst (.int 60))) .nil))) dI (.nil)) (.cons (.set (.nm 3) (.bin .Add (.var 3) (.bin .Mult (.cst (.int 6553)) (.bin .FloorDiv (.var 1) (.blt .len (.var 0)))))) .nil))))
theorem dT_ok {a e f : Slot} {k m cell : Int} (hm : 0 < m) : exSs G dT [a, .fz (.int k), .fz (.int m), .fz (.int cell), e, f] = .rt (.int (mix3 m (mix2 (mix1 k cell)))) := drawn_tail hm
theorem drawn_code : c__law_drawn = .cons (.set (.nm 3) (.bin .Mult (.cst (.int 7)) (.var 1))) (.cons (.ite (.cmp .NotEq (.var 0) (.lst .nil)) dB .nil) dT) := rfl
theorem dI_ok {a b d : Slot} {m cell turn : Int} (hm : 0 < m) (ht : turn < 60) : (∃ r, exSs G dI [a, b, .fz (.int m), .fz (.int cell), .fz (.int turn), d] = .rt (.int r) ∧ 0 ≤ r ∧ r < m) ∨ ∃ x y, exSs G dI [a, b, .fz (.int m), .fz (.int cell), .fz (.int turn), d] = .nx [a, b, .fz (.int m), .fz (.int cell), x, y] := by
  obtain ⟨t', r', e⟩ := wh_drawn (G := G) (a := a) (b := b) (c := .fz (.int m)) (d := .fz (.int cell)) 100000 turn (cell / 1000000000000000000) (by omega)
  have e2 : exSs G dI [a, b, .fz (.int m), .fz (.int cell), .fz (.int turn), d] = exSs G (.cons (.ite (.cmp .Gt (.var 5) (.cst (.int 0))) (.cons (.ret (.bin .Mod (.bin .Mod (.var 5) (.cst (.int 1000000))) (.var 2))) .nil) (.nil)) .nil) [a, b, .fz (.int m), .fz (.int cell), .fz (.int t'), .fz (.int r')] := by
    have e4 : exS G dW [a, b, .fz (.int m), .fz (.int cell), .fz (.int turn), .fz (.int (cell / 1000000000000000000))] = .nx [a, b, .fz (.int m), .fz (.int cell), .fz (.int t'), .fz (.int r')] := e
    have e3 : exS G (.set (.nm 5) (.bin .FloorDiv (.var 3) (.bin .Pow (.cst (.int 10)) (.cst (.int 18))))) [a, b, .fz (.int m), .fz (.int cell), .fz (.int turn), d] = .nx [a, b, .fz (.int m), .fz (.int cell), .fz (.int turn), .fz (.int (cell / 1000000000000000000))] := by simp
    show (exS G _ _).then (fun ρ' => (exS G dW ρ').then fun ρ'' => exSs G _ ρ'') = _
    rw [e3, then_nx, e4, then_nx]
  rw [e2]
  by_cases h : 0 < r'
  · exact .inl ⟨r' % 1000000 % m, by simp [h, hm], Int.emod_nonneg _ (by omega), Int.emod_lt_of_pos _ hm⟩
  · exact .inr ⟨.fz (.int t'), .fz (.int r'), by simp [h]⟩
theorem dB_ok {ns : List Int} {c : Slot} {k m : Int} (hm : 0 < m) (hn : ns ≠ []) (hns : ns.length < 2 ^ 62) : (∃ r, exSs G dB [.fz (.list (ns.map .int)), .fz (.int k), .fz (.int m), c, .no, .no] = .rt (.int r) ∧ 0 ≤ r ∧ r < m) ∨ ∃ cell x y, exSs G dB [.fz (.list (ns.map .int)), .fz (.int k), .fz (.int m), c, .no, .no] = .nx [.fz (.list (ns.map .int)), .fz (.int k), .fz (.int m), .fz (.int cell), x, y] := by
  have hl : 0 < ns.length := List.length_pos_iff.mpr hn
  have hk1 : 0 ≤ k % ns.length := Int.emod_nonneg _ (by omega)
  have hk2 : k % ns.length < ns.length := Int.emod_lt_of_pos _ (by omega)
  obtain ⟨j, hj⟩ : ∃ j : Nat, k % ns.length = j := ⟨(k % ns.length).toNat, by omega⟩
  have hjl : j < ns.length := by omega
  have e1 : exS G (.set (.nm 3) (.idx (.var 0) (.bin .Mod (.var 1) (.blt .len (.var 0))))) [.fz (.list (ns.map .int)), .fz (.int k), .fz (.int m), c, .no, .no] = .nx [.fz (.list (ns.map .int)), .fz (.int k), .fz (.int m), .fz (.int ns[j]), .no, .no] := by
    simp [hl, hj, hjl]
  have e2 : exS G (.set (.nm 4) (.bin .FloorDiv (.var 1) (.blt .len (.var 0)))) [.fz (.list (ns.map .int)), .fz (.int k), .fz (.int m), .fz (.int ns[j]), .no, .no] = .nx [.fz (.list (ns.map .int)), .fz (.int k), .fz (.int m), .fz (.int ns[j]), .fz (.int (k / ns.length)), .no] := by
    have : (0 : Int) < ns.length ∧ (ns.length : Int) < 2 ^ 64 := by omega
    simp only [ex_set, ev_bin, ev_var, ev_blt, slot_s, slot_0, ok_bind, len_lst, List.length_map, bin_div, if_pos this]
    simp
  have e5 : ∀ x y, exSs G (.cons (.set (.nm 3) (.bin .Add (.var 3) (.bin .Mult (.cst (.int 6553)) (.bin .FloorDiv (.var 1) (.blt .len (.var 0)))))) .nil) [.fz (.list (ns.map .int)), .fz (.int k), .fz (.int m), .fz (.int ns[j]), x, y] = .nx [.fz (.list (ns.map .int)), .fz (.int k), .fz (.int m), .fz (.int (ns[j] + 6553 * (k / ns.length))), x, y] := fun x y => by
    have : (0 : Int) < ns.length ∧ (ns.length : Int) < 2 ^ 64 := by omega
    simp only [ex_cons, ex_nil, ex_set, ev_bin, ev_var, ev_cst, ev_blt, slot_s, slot_0, ok_bind, len_lst, List.length_map, bin_div, if_pos this]
    simp
  have eq : exSs G dB [.fz (.list (ns.map .int)), .fz (.int k), .fz (.int m), c, .no, .no] = (exS G (.ite (.bop .And (.cons (.cmp .GtE (.var 3) (.bin .Pow (.cst (.int 10)) (.cst (.int 18)))) (.cons (.cmp .Lt (.var 4) (.cst (.int 60))) .nil))) dI (.nil)) [.fz (.list (ns.map .int)), .fz (.int k), .fz (.int m), .fz (.int ns[j]), .fz (.int (k / ns.length)), .no]).then fun ρ' => exSs G (.cons (.set (.nm 3) (.bin .Add (.var 3) (.bin .Mult (.cst (.int 6553)) (.bin .FloorDiv (.var 1) (.blt .len (.var 0)))))) .nil) ρ' := by
    show (exS G _ _).then (fun ρ' => (exS G _ ρ').then fun ρ'' => exSs G _ ρ'') = _
    rw [e1, then_nx, e2, then_nx]
    rfl
  rw [eq]
  by_cases hc : 1000000000000000000 ≤ ns[j] ∧ k / ns.length < 60
  · have e3 : exS G (.ite (.bop .And (.cons (.cmp .GtE (.var 3) (.bin .Pow (.cst (.int 10)) (.cst (.int 18)))) (.cons (.cmp .Lt (.var 4) (.cst (.int 60))) .nil))) dI (.nil)) [.fz (.list (ns.map .int)), .fz (.int k), .fz (.int m), .fz (.int ns[j]), .fz (.int (k / ns.length)), .no] = exSs G dI [.fz (.list (ns.map .int)), .fz (.int k), .fz (.int m), .fz (.int ns[j]), .fz (.int (k / ns.length)), .no] := by
      simp [hc.1, hc.2]
    rw [e3]
    rcases dI_ok (G := G) (a := .fz (.list (ns.map .int))) (b := .fz (.int k)) (d := .no) (cell := ns[j]) hm hc.2 with ⟨r, e, h1, h2⟩ | ⟨x, y, e⟩
    · exact .inl ⟨r, by rw [e]; rfl, h1, h2⟩
    · exact .inr ⟨_, x, y, by rw [e, then_nx, e5]⟩
  · have e3 : exS G (.ite (.bop .And (.cons (.cmp .GtE (.var 3) (.bin .Pow (.cst (.int 10)) (.cst (.int 18)))) (.cons (.cmp .Lt (.var 4) (.cst (.int 60))) .nil))) dI (.nil)) [.fz (.list (ns.map .int)), .fz (.int k), .fz (.int m), .fz (.int ns[j]), .fz (.int (k / ns.length)), .no] = .nx [.fz (.list (ns.map .int)), .fz (.int k), .fz (.int m), .fz (.int ns[j]), .fz (.int (k / ns.length)), .no] := by
      simp
      intro h1 h2
      exact absurd ⟨h1, h2⟩ hc
    exact .inr ⟨_, _, _, by rw [e3, then_nx, e5]⟩
theorem v_drawn (ns : List Int) (hns : ns.length < 2 ^ 62) (k m : Int) (hm : 0 < m) : ∃ r, fnD G 3 3 c__law_drawn [.list (ns.map .int), .int k, .int m] = .ok (.int r) ∧ 0 ≤ r ∧ r < m := by
  rw [fnD_eq (by rfl), drawn_code]
  have h7 : exS G (.set (.nm 3) (.bin .Mult (.cst (.int 7)) (.var 1))) [.fz (.list (ns.map .int)), .fz (.int k), .fz (.int m), .no, .no, .no] = .nx [.fz (.list (ns.map .int)), .fz (.int k), .fz (.int m), .fz (.int (7 * k)), .no, .no] := by simp
  show ∃ r, finD (exSs G (.cons (.set (.nm 3) (.bin .Mult (.cst (.int 7)) (.var 1))) (.cons (.ite (.cmp .NotEq (.var 0) (.lst .nil)) dB .nil) dT)) [.fz (.list (ns.map .int)), .fz (.int k), .fz (.int m), .no, .no, .no]) = _ ∧ _
  rw [ex_cons, h7, then_nx, ex_cons]
  by_cases hn : ns = []
  · subst hn
    refine ⟨mix3 m (mix2 (mix1 k (7 * k))), ?_, mix3_in hm⟩
    have hne : exS G (.ite (.cmp .NotEq (.var 0) (.lst .nil)) dB .nil) [.fz (.list []), .fz (.int k), .fz (.int m), .fz (.int (7 * k)), .no, .no] = .nx [.fz (.list []), .fz (.int k), .fz (.int m), .fz (.int (7 * k)), .no, .no] := rfl
    rw [List.map_nil, hne, then_nx]
    rw [dT_ok hm]
    rfl
  · have hsh : eqD (.list (ns.map .int)) (.list []) = .ok false := by
      rw [eqD_sh (n := 1) (m := 1) (sh_lst.mpr fun x hx => ?_) (sh_lst.mpr fun x hx => by cases hx) (by decide) (by decide)]
      · cases ns with
        | nil => exact absurd rfl hn
        | cons a l => simp [PyData.eqv, PyData.eqvAll]
      · obtain ⟨i, _, rfl⟩ := List.mem_map.mp hx
        exact sh_int
    have hne : exS G (.ite (.cmp .NotEq (.var 0) (.lst .nil)) dB .nil) [.fz (.list (ns.map .int)), .fz (.int k), .fz (.int m), .fz (.int (7 * k)), .no, .no] = exSs G dB [.fz (.list (ns.map .int)), .fz (.int k), .fz (.int m), .fz (.int (7 * k)), .no, .no] := by
      simp [hsh]
    rw [hne]
    rcases dB_ok (G := G) (c := .fz (.int (7 * k))) (k := k) hm hn hns with ⟨r, e, h1, h2⟩ | ⟨cell, x, y, e⟩
    · exact ⟨r, by rw [e]; rfl, h1, h2⟩
    · refine ⟨mix3 m (mix2 (mix1 k cell)), ?_, mix3_in hm⟩
      rw [e, then_nx, dT_ok hm]
      rfl
end Fp
set_option maxHeartbeats 1000000
namespace Fp
open PySem
variable {G : Str → List D → Res D}
theorem for_inv {t : Tg} {ws : List Nat} {body : Slots → Fl} (Inv : Nat → Slots → Prop) : ∀ {xs : List D} {ρ : Slots} (k : Nat), Inv k ρ → (∀ i x ρ, xs[i]? = some x → Inv (k + i) ρ → ∃ ρ1 ρ2, bindT t x ρ = .ok ρ1 ∧ body ρ1 = .nx ρ2 ∧ Inv (k + i + 1) (wipeE ρ2 ws)) → ∃ ρ', forGo t ws body xs ρ = .nx ρ' ∧ Inv (k + xs.length) ρ'
  | [], ρ, k, h0, _ => ⟨ρ, rfl, h0⟩
  | x :: xs, ρ, k, h0, hs => by
    obtain ⟨ρ1, ρ2, e1, e2, h1⟩ := hs 0 x ρ rfl h0
    obtain ⟨ρ', e, h⟩ := for_inv Inv (xs := xs) (ρ := wipeE ρ2 ws) (k + 1) h1 fun i y ρ hy hi => by
      have := hs (i + 1) y ρ (by simpa using hy) (by rw [show k + (i + 1) = k + 1 + i by omega]; exact hi)
      rwa [show k + (i + 1) = k + 1 + i by omega] at this
    refine ⟨ρ', ?_, by rw [show k + (x :: xs).length = k + 1 + xs.length by simp; omega]; exact h⟩
    unfold forGo
    rw [e1]
    show (body ρ1).then _ = _
    rw [e2, then_nx, e]
theorem range_ok {j : Int} (h0 : 0 ≤ j) (h : j ≤ 1000) : rangeD 0 j = .ok ((List.range j.toNat).map fun i => .int ((i : Nat) : Int)) := by
  unfold rangeD
  have hs : 1000 ≤ sizeLine := by decide
  rw [if_pos ⟨by omega, by omega, by omega, by omega, by omega⟩]
  simp
def signsS (s : Str) : List Str := s.cps.toList.map fun c => ⟨#[c]⟩
theorem idx_sign {s : Str} {k : Nat} (h : k < (signsS s).length) : idxD (.str s) (.int (k : Nat)) = .ok (.str (signsS s)[k]) := by
  have h' : k < s.cps.toList.length := by simpa [signsS] using h
  rw [idx_s, at_n, List.getElem?_eq_getElem h']
  simp [signsS]
def pn : List Str := signsS "pqrs"
def wn : List Str := signsS "abcd"
theorem pn_len : pn.length = 4 := by decide +kernel
theorem wn_len : wn.length = 4 := by decide +kernel
theorem pn_at {k : Nat} (h : k < pn.length) : idxD (.str "pqrs") (.int (k : Nat)) = .ok (.str pn[k]) := idx_sign h
theorem wn_at {k : Nat} (h : k < wn.length) : idxD (.str "abcd") (.int (k : Nat)) = .ok (.str wn[k]) := idx_sign h
/-- the law's nets -/
structure GoodP (ps : List PipeT) : Prop where
  n1 : 1 ≤ ps.length
  n2 : ps.length ≤ 4
  nm : ps.map (·.1) = pn.take ps.length
  lo : ∀ p ∈ ps, 1 ≤ p.2 ∧ p.2 ≤ 3
structure GoodR (names : List Str) (r : List Str) : Prop where
  n1 : 1 ≤ r.length
  n2 : r.length ≤ 3
  nd : r.Nodup
  sub : ∀ x ∈ r, x ∈ names
structure GoodN (ps : List PipeT) (ws : List WayT) : Prop where
  p : GoodP ps
  n1 : 1 ≤ ws.length
  n2 : ws.length ≤ 4
  nm : ws.map (·.1) = wn.take ws.length
  r : ∀ w ∈ ws, GoodR (ps.map (·.1)) w.2
def DrawOk (G : Str → List D → Res D) (ns : List Int) : Prop := ∀ k m : Int, 0 < m → ∃ r, G "_law_drawn" [.list (ns.map .int), .int k, .int m] = .ok (.int r) ∧ 0 ≤ r ∧ r < m
theorem take_succ' {α : Type} {l : List α} {i : Nat} (h : i < l.length) : l.take (i + 1) = l.take i ++ [l[i]] := by
  rw [List.take_succ, List.getElem?_eq_getElem h]
  rfl
def apopD (i j : Nat) (n : D) (ρ : Slots) : Fl := match n with
  | .int n => .ofR (popD j (some n) ρ >>= fun yρ => appD i yρ.1 yρ.2)
  | _ => .bad
@[simp] theorem ex_apop {i j : Nat} {a : E} {ρ : Slots} : exS G (.apop i j a) ρ = liftR ρ (slotL ρ i) fun _ => liftR ρ (slotL ρ j) fun _ => liftR ρ (ev G a ρ) fun n => apopD i j n ρ := rfl
@[simp] theorem apop_int {i j : Nat} {n : Int} {ρ : Slots} : apopD i j (.int n) ρ = .ofR (popD j (some n) ρ >>= fun yρ => appD i yρ.1 yρ.2) := rfl
theorem ixN_n {n j : Nat} (h : j < n) : L2.ixN n (j : Int) = some j := by
  unfold L2.ixN
  rw [if_pos (by omega), if_pos (by omega)]
  simp
theorem erase_map {α β : Type} {f : α → β} : ∀ {l : List α} {j : Nat}, (l.map f).eraseIdx j = (l.eraseIdx j).map f
  | [], _ => rfl
  | _ :: _, 0 => rfl
  | a :: l, j + 1 => by
    show f a :: (l.map f).eraseIdx j = f a :: (l.eraseIdx j).map f
    rw [erase_map]
theorem perm_erase {α : Type} : ∀ {l : List α} {j : Nat} (h : j < l.length), (l[j] :: l.eraseIdx j).Perm l
  | [], _, h => by cases h
  | a :: l, 0, _ => List.Perm.refl _
  | a :: l, j + 1, h => by
    have hj : j < l.length := by simpa using h
    have ih := perm_erase (l := l) (j := j) hj
    show (l[j] :: a :: l.eraseIdx j).Perm (a :: l)
    exact (List.Perm.swap a l[j] _).trans (ih.cons a)
def rowC : Ss := (.cons (.apop 6 5 (.call "_law_drawn" (.cons (.var 0) (.cons (.bin .Add (.bin .Add (.bin .Add (.var 1) (.cst (.int 7))) (.bin .Mult (.cst (.int 4)) (.var 3))) (.var 7)) (.cons (.blt .len (.own 5)) .nil))))) .nil)
theorem row_loop {ns : List Int} (h : DrawOk G ns) {at_ : Int} {P W : D} {k : Nat} {names : List Str} {c : Nat} (hc : c ≤ names.length) (hl : names.length ≤ 4) :
    ∃ row left : List Str, row.length = c ∧ (row ++ left).Perm names ∧ forGo (.nm 7) [7] (fun ρ => exSs G rowC ρ) ((List.range c).map fun i => .int ((i : Nat) : Int)) [.fz (.list (ns.map .int)), .fz (.int at_), .ow P, .fz (.int (k : Nat)), .ow W, .ow (.list (names.map .str)), .ow (.list []), .no, .no]
      = .nx [.fz (.list (ns.map .int)), .fz (.int at_), .ow P, .fz (.int (k : Nat)), .ow W, .ow (.list (left.map .str)), .ow (.list (row.map .str)), .no, .no] := by
  have hs : 1000 ≤ sizeLine := by decide
  obtain ⟨ρ', e, _, left, row, h1, h2, rfl⟩ := for_inv (t := .nm 7) (ws := [7]) (body := fun ρ => exSs G rowC ρ)
    (fun i ρ => i ≤ c ∧ ∃ left row : List Str, row.length = i ∧ (row ++ left).Perm names ∧ ρ = [.fz (.list (ns.map .int)), .fz (.int at_), .ow P, .fz (.int (k : Nat)), .ow W, .ow (.list (left.map .str)), .ow (.list (row.map .str)), .no, .no])
    (xs := (List.range c).map fun i => .int ((i : Nat) : Int)) 0 ⟨Nat.zero_le _, names, [], rfl, List.Perm.refl _, rfl⟩ (fun i x ρ hx hi => by
      obtain ⟨_, left, row, hlr, hp, rfl⟩ := hi
      have hi' : i < c := by
        rcases Nat.lt_or_ge i c with q | q
        · exact q
        · rw [List.getElem?_eq_none (by simpa using q)] at hx; cases hx
      rw [List.getElem?_map, List.getElem?_range hi'] at hx
      cases hx
      have hll := hp.length_eq
      rw [List.length_append] at hll
      have hpos : 0 < left.length := by omega
      obtain ⟨r, er, hr1, hr2⟩ := h (at_ + 7 + 4 * (k : Nat) + (i : Nat)) left.length (by omega)
      obtain ⟨j, rfl⟩ : ∃ j : Nat, r = j := ⟨r.toNat, by omega⟩
      have hj : j < left.length := by omega
      have hsz : row.length < sizeLine := by omega
      refine ⟨[.fz (.list (ns.map .int)), .fz (.int at_), .ow P, .fz (.int (k : Nat)), .ow W, .ow (.list (left.map .str)), .ow (.list (row.map .str)), .fz (.int (i : Nat)), .no], [.fz (.list (ns.map .int)), .fz (.int at_), .ow P, .fz (.int (k : Nat)), .ow W, .ow (.list ((left.eraseIdx j).map .str)), .ow (.list ((row ++ [left[j]]).map .str)), .fz (.int (i : Nat)), .no], by simp, ?_, by omega, left.eraseIdx j, row ++ [left[j]], by simp; omega, ?_, by simp⟩
      · simp [rowC, er, popD, ixN_n hj, hj, appD, hsz]
        exact erase_map
      · refine List.Perm.trans ?_ hp
        rw [List.append_assoc]
        exact List.Perm.append_left row (perm_erase hj))
  have hlen : 0 + ((List.range c).map fun i => PyData.int ((i : Nat) : Int)).length = c := by simp
  rw [hlen] at h1
  exact ⟨row, left, h1, h2, e⟩
def wayC : Ss := (.cons (.par [(5, true), (6, true)] (.cons (.lc [8] (.idx (.var 8) (.cst (.int 0))) (.nm 8) (.seq (.own 2)) .no) (.cons (.lst (.nil)) .nil))) (.cons (.for_ [7] (.nm 7) (.rng (.bin .Add (.cst (.int 1)) (.call "_law_drawn" (.cons (.var 0) (.cons (.bin .Add (.bin .Add (.var 1) (.cst (.int 6))) (.bin .Mult (.cst (.int 4)) (.var 3))) (.cons (.blt2 .min (.cst (.int 3)) (.blt .len (.own 2))) .nil)))))) rowC) (.cons (.app 4 (.tup (.cons (.idx (.cst (.str "abcd")) (.var 3)) (.cons (.blt .tuple (.own 6)) .nil)))) .nil)))
theorem way_body {ns : List Int} (h : DrawOk G ns) {at_ : Int} {ps : List PipeT} (hp : GoodP ps) {ws : List WayT} {k : Nat} (hk : k < 4) (hw : ws.length = k) :
    ∃ row left, GoodR (ps.map (·.1)) row ∧ exSs G wayC [.fz (.list (ns.map .int)), .fz (.int at_), .ow (.list (ps.map pipeD)), .fz (.int (k : Nat)), .ow (.list (ws.map wayD)), .no, .no, .no, .no] = .nx [.fz (.list (ns.map .int)), .fz (.int at_), .ow (.list (ps.map pipeD)), .fz (.int (k : Nat)), .ow (.list ((ws ++ [(wn[k]'(by rw [wn_len]; exact hk), row)]).map wayD)), left, .ow (.list (row.map .str)), .no, .no] := by
  have hs : 1000 ≤ sizeLine := by decide
  have hn1 := hp.n1
  have hn2 := hp.n2
  have hkw : k < wn.length := by rw [wn_len]; exact hk
  have hmin : (0 : Int) < (if ((ps.length : Nat) : Int) < 3 then ((ps.length : Nat) : Int) else 3) := by split <;> omega
  obtain ⟨r, er, hr1, hr2⟩ := h (at_ + 6 + 4 * (k : Nat)) _ hmin
  have hrl : r < ps.length := by split at hr2 <;> omega
  have hr3 : r < 3 := by split at hr2 <;> omega
  obtain ⟨row, left, h1, h2, e⟩ := row_loop (G := G) h (at_ := at_) (P := .list (ps.map pipeD)) (W := .list (ws.map wayD)) (k := k) (names := ps.map (·.1)) (c := (1 + r).toNat) (by rw [List.length_map]; omega) (by rw [List.length_map]; omega)
  have hnd : (ps.map (·.1)).Nodup := by
    rw [hp.nm]
    have : ∀ n, n ≤ 4 → (pn.take n).Nodup := by decide +kernel
    exact this _ hn2
  refine ⟨row, .ow (.list (left.map .str)), ⟨by omega, by omega, ?_, fun x hx => ?_⟩, ?_⟩
  · exact (List.nodup_append.mp (h2.nodup_iff.mpr hnd)).1
  · exact h2.mem_iff.mp (List.mem_append.mpr (.inl hx))
  · have e1 : exS G (.par [(5, true), (6, true)] (.cons (.lc [8] (.idx (.var 8) (.cst (.int 0))) (.nm 8) (.seq (.own 2)) .no) (.cons (.lst (.nil)) .nil))) [.fz (.list (ns.map .int)), .fz (.int at_), .ow (.list (ps.map pipeD)), .fz (.int (k : Nat)), .ow (.list (ws.map wayD)), .no, .no, .no, .no] = .nx [.fz (.list (ns.map .int)), .fz (.int at_), .ow (.list (ps.map pipeD)), .fz (.int (k : Nat)), .ow (.list (ws.map wayD)), .ow (.list ((ps.map (·.1)).map .str)), .ow (.list []), .no, .no] := by
      simp
      rw [lc_map pipeD (fun p => [.fz (.list (ns.map .int)), .fz (.int at_), .ow (.list (ps.map pipeD)), .fz (.int (k : Nat)), .ow (.list (ws.map wayD)), .no, .no, .no, .fz (pipeD p)]) (fun p => .str p.1) (by simp) (by simp) (by simp [pipeD])]
      simp
    have e2 : exS G (.for_ [7] (.nm 7) (.rng (.bin .Add (.cst (.int 1)) (.call "_law_drawn" (.cons (.var 0) (.cons (.bin .Add (.bin .Add (.var 1) (.cst (.int 6))) (.bin .Mult (.cst (.int 4)) (.var 3))) (.cons (.blt2 .min (.cst (.int 3)) (.blt .len (.own 2))) .nil)))))) rowC) [.fz (.list (ns.map .int)), .fz (.int at_), .ow (.list (ps.map pipeD)), .fz (.int (k : Nat)), .ow (.list (ws.map wayD)), .ow (.list ((ps.map (·.1)).map .str)), .ow (.list []), .no, .no] = .nx [.fz (.list (ns.map .int)), .fz (.int at_), .ow (.list (ps.map pipeD)), .fz (.int (k : Nat)), .ow (.list (ws.map wayD)), .ow (.list (left.map .str)), .ow (.list (row.map .str)), .no, .no] := by
      rw [← e]
      simp [er]
      rw [range_ok (by omega) (by omega)]
      simp
    show (exS G _ _).then (fun ρ' => (exS G _ ρ').then fun ρ'' => exSs G _ ρ'') = _
    rw [e1, then_nx, e2, then_nx]
    have hsz : ws.length < sizeLine := by omega
    simp [wn_at hkw, appD, hsz, wayD, rowD]
theorem v_law_net (ns : List Int) (h : DrawOk G ns) (at_ : Int) : ∃ ps ws, fnD G 2 7 c__law_net [.list (ns.map .int), .int at_] = .ok (netD ps ws) ∧ GoodN ps ws := by
  obtain ⟨n0, en, hn1, hn2⟩ := h at_ 4 (by decide)
  obtain ⟨m0, em, hm1, hm2⟩ := h (at_ + 5) 4 (by decide)
  have hs : 1000 ≤ sizeLine := by decide
  -- the pipes
  have L1 := for_inv (t := .nm 3) (ws := [3]) (body := fun ρ => exSs G (.cons (.app 2 (.tup (.cons (.idx (.cst (.str "pqrs")) (.var 3)) (.cons (.bin .Add (.cst (.int 1)) (.call "_law_drawn" (.cons (.var 0) (.cons (.bin .Add (.bin .Add (.var 1) (.cst (.int 1))) (.var 3)) (.cons (.cst (.int 3)) .nil))))) .nil)))) .nil) ρ)
    (fun i ρ => i ≤ 4 ∧ ∃ ps : List PipeT, ps.length = i ∧ ps.map (·.1) = pn.take i ∧ (∀ p ∈ ps, 1 ≤ p.2 ∧ p.2 ≤ 3) ∧ ρ = [.fz (.list (ns.map .int)), .fz (.int at_), .ow (.list (ps.map pipeD)), .no, .no, .no, .no, .no, .no])
    (xs := (List.range (1 + n0).toNat).map fun i => .int ((i : Nat) : Int)) (ρ := [.fz (.list (ns.map .int)), .fz (.int at_), .ow (.list []), .no, .no, .no, .no, .no, .no]) 0 ⟨by omega, [], rfl, rfl, fun _ z => (by cases z), rfl⟩ (fun i x ρ hx hi => by
      obtain ⟨hi4, ps, hl, hnm, hlo, rfl⟩ := hi
      have hi' : i < (1 + n0).toNat := by
        rcases Nat.lt_or_ge i (1 + n0).toNat with q | q
        · exact q
        · rw [List.getElem?_eq_none (by simpa using q)] at hx; cases hx
      rw [List.getElem?_map, List.getElem?_range hi'] at hx
      cases hx
      obtain ⟨r, er, hr1, hr2⟩ := h (at_ + 1 + (i : Nat)) 3 (by decide)
      have hip : i < pn.length := by rw [pn_len]; omega
      have hsz : ps.length < sizeLine := by omega
      refine ⟨[.fz (.list (ns.map .int)), .fz (.int at_), .ow (.list (ps.map pipeD)), .fz (.int (i : Nat)), .no, .no, .no, .no, .no], [.fz (.list (ns.map .int)), .fz (.int at_), .ow (.list (ps.map pipeD ++ [pipeD (pn[i], 1 + r)])), .fz (.int (i : Nat)), .no, .no, .no, .no, .no], by simp, by simp [pn_at hip, er, appD, hsz, pipeD], by omega, ps ++ [(pn[i], 1 + r)], by simp [hl], ?_, ?_, by simp⟩
      · rw [List.map_append, hnm, show 0 + i + 1 = i + 1 by omega, take_succ' hip]
        simp
      · intro p hp
        rcases List.mem_append.mp hp with q | q
        · exact hlo p q
        · rcases List.mem_singleton.mp q with rfl
          exact ⟨by show 1 ≤ 1 + r; omega, by show 1 + r ≤ 3; omega⟩)
  obtain ⟨ρ1, e1, _, ps, hl, hnm, hlo, rfl⟩ := L1
  have hlr : 0 + ((List.range (1 + n0).toNat).map fun i => PyData.int ((i : Nat) : Int)).length = (1 + n0).toNat := by simp
  rw [hlr] at hl hnm
  have hp : GoodP ps := ⟨by omega, by omega, by rw [hnm, hl], hlo⟩
  have L2 := for_inv (t := .nm 3) (ws := [3, 5, 6, 7]) (body := fun ρ => exSs G wayC ρ)
    (fun i ρ => i ≤ 4 ∧ ∃ ws : List WayT, ws.length = i ∧ ws.map (·.1) = wn.take i ∧ (∀ w ∈ ws, GoodR (ps.map (·.1)) w.2) ∧ ρ = [.fz (.list (ns.map .int)), .fz (.int at_), .ow (.list (ps.map pipeD)), .no, .ow (.list (ws.map wayD)), .no, .no, .no, .no])
    (xs := (List.range (1 + m0).toNat).map fun i => .int ((i : Nat) : Int)) (ρ := [.fz (.list (ns.map .int)), .fz (.int at_), .ow (.list (ps.map pipeD)), .no, .ow (.list []), .no, .no, .no, .no]) 0 ⟨by omega, [], rfl, rfl, fun _ z => (by cases z), rfl⟩ (fun i x ρ hx hi => by
      obtain ⟨hi4, ws, hwl, hwn, hwr, rfl⟩ := hi
      have hi' : i < (1 + m0).toNat := by
        rcases Nat.lt_or_ge i (1 + m0).toNat with q | q
        · exact q
        · rw [List.getElem?_eq_none (by simpa using q)] at hx; cases hx
      rw [List.getElem?_map, List.getElem?_range hi'] at hx
      cases hx
      have hk : i < 4 := by omega
      have hkw : i < wn.length := by rw [wn_len]; exact hk
      obtain ⟨row, left, hrow, e⟩ := way_body (G := G) h (at_ := at_) hp (ws := ws) (k := i) hk (by omega)
      refine ⟨[.fz (.list (ns.map .int)), .fz (.int at_), .ow (.list (ps.map pipeD)), .fz (.int (i : Nat)), .ow (.list (ws.map wayD)), .no, .no, .no, .no], _, by simp, e, by omega, ws ++ [(wn[i], row)], by simp; omega, ?_, fun w hw => ?_, by simp⟩
      · rw [List.map_append, hwn, show 0 + i + 1 = i + 1 by omega, take_succ' hkw]
        simp
      · rcases List.mem_append.mp hw with q | q
        · exact hwr w q
        · rcases List.mem_singleton.mp q with rfl
          exact hrow)
  obtain ⟨ρ2, e2, _, ws, hwl, hwn, hwr, rfl⟩ := L2
  have hlr2 : 0 + ((List.range (1 + m0).toNat).map fun i => PyData.int ((i : Nat) : Int)).length = (1 + m0).toNat := by simp
  rw [hlr2] at hwl hwn
  refine ⟨ps, ws, ?_, hp, by omega, by omega, by rw [hwn, hwl], hwr⟩
  have c1 : exS G (.for_ [3] (.nm 3) (.rng (.bin .Add (.cst (.int 1)) (.call "_law_drawn" (.cons (.var 0) (.cons (.var 1) (.cons (.cst (.int 4)) .nil)))))) (.cons (.app 2 (.tup (.cons (.idx (.cst (.str "pqrs")) (.var 3)) (.cons (.bin .Add (.cst (.int 1)) (.call "_law_drawn" (.cons (.var 0) (.cons (.bin .Add (.bin .Add (.var 1) (.cst (.int 1))) (.var 3)) (.cons (.cst (.int 3)) .nil))))) .nil)))) .nil)) [.fz (.list (ns.map .int)), .fz (.int at_), .ow (.list []), .no, .no, .no, .no, .no, .no] = .nx [.fz (.list (ns.map .int)), .fz (.int at_), .ow (.list (ps.map pipeD)), .no, .no, .no, .no, .no, .no] := by
    rw [← e1, ex_for, evi_rng]
    simp [en]
    rw [range_ok (by omega) (by omega)]
    simp
  have c2 : exS G (.for_ [3, 5, 6, 7] (.nm 3) (.rng (.bin .Add (.cst (.int 1)) (.call "_law_drawn" (.cons (.var 0) (.cons (.bin .Add (.var 1) (.cst (.int 5))) (.cons (.cst (.int 4)) .nil)))))) wayC) [.fz (.list (ns.map .int)), .fz (.int at_), .ow (.list (ps.map pipeD)), .no, .ow (.list []), .no, .no, .no, .no] = .nx [.fz (.list (ns.map .int)), .fz (.int at_), .ow (.list (ps.map pipeD)), .no, .ow (.list (ws.map wayD)), .no, .no, .no, .no] := by
    rw [← e2, ex_for, evi_rng]
    simp only [ev_bin, ev_cst, ev_call, evs_cons, evs_nil, ev_var, slot_0, slot_s, ok_bind, bin_add, em, rngD_int, liftR_ok]
    rw [range_ok (by omega) (by omega)]
    simp
  have cc : c__law_net = .cons (.own 2 (.lst (.nil))) (.cons (.for_ [3] (.nm 3) (.rng (.bin .Add (.cst (.int 1)) (.call "_law_drawn" (.cons (.var 0) (.cons (.var 1) (.cons (.cst (.int 4)) .nil)))))) (.cons (.app 2 (.tup (.cons (.idx (.cst (.str "pqrs")) (.var 3)) (.cons (.bin .Add (.cst (.int 1)) (.call "_law_drawn" (.cons (.var 0) (.cons (.bin .Add (.bin .Add (.var 1) (.cst (.int 1))) (.var 3)) (.cons (.cst (.int 3)) .nil))))) .nil)))) .nil)) (.cons (.own 4 (.lst (.nil))) (.cons (.for_ [3, 5, 6, 7] (.nm 3) (.rng (.bin .Add (.cst (.int 1)) (.call "_law_drawn" (.cons (.var 0) (.cons (.bin .Add (.var 1) (.cst (.int 5))) (.cons (.cst (.int 4)) .nil)))))) wayC) (.cons (.ret (.tup (.cons (.blt .tuple (.own 2)) (.cons (.blt .tuple (.own 4)) .nil)))) .nil)))) := rfl
  rw [fnD_eq (by rfl), cc]
  show finD ((exS G _ _).then fun ρ' => (exS G _ ρ').then fun ρ' => (exS G _ ρ').then fun ρ' => (exS G _ ρ').then fun ρ' => exSs G _ ρ') = _
  have c0 : exS G (.own 2 (.lst (.nil))) ([PyData.list (ns.map .int), .int at_].map Slot.fz ++ List.replicate 7 Slot.no) = .nx [.fz (.list (ns.map .int)), .fz (.int at_), .ow (.list []), .no, .no, .no, .no, .no, .no] := rfl
  have c3 : exS G (.own 4 (.lst (.nil))) [.fz (.list (ns.map .int)), .fz (.int at_), .ow (.list (ps.map pipeD)), .no, .no, .no, .no, .no, .no] = .nx [.fz (.list (ns.map .int)), .fz (.int at_), .ow (.list (ps.map pipeD)), .no, .ow (.list []), .no, .no, .no, .no] := rfl
  rw [c0, then_nx, c1, then_nx, c3, then_nx, c2, then_nx]
  rfl
end Fp
set_option maxHeartbeats 1000000
namespace Fp
open PySem
variable {G : Str → List D → Res D}
def sl : List Str := ["x", "y", "z", "oil"]
def stateD (rows : List (List Str)) : D := .tuple (rows.map rowD)
structure GoodS (ps : List PipeT) (st : List (List Str)) : Prop where
  len : st.map (fun r => (r.length : Int)) = ps.map (·.2)
  slug : ∀ r ∈ st, ∀ x ∈ r, x ∈ sl
def slotC : E := (.idx (.lst (.cons (.cst (.str "x")) (.cons (.cst (.str "y")) (.cons (.cst (.str "z")) (.cons (.cst (.str "oil")) .nil))))) (.call "_law_drawn" (.cons (.var 0) (.cons (.bin .Add (.bin .Add (.var 1) (.var 4)) (.var 7)) (.cons (.cst (.int 4)) .nil)))))
theorem sl_at {r : Int} (h1 : 0 ≤ r) (h2 : r < 4) : ∃ x ∈ sl, idxD (.list [.str "x", .str "y", .str "z", .str "oil"]) (.int r) = .ok (.str x) := by
  obtain ⟨j, rfl⟩ : ∃ j : Nat, r = j := ⟨r.toNat, by omega⟩
  have hj : j < 4 := by omega
  match j, hj with
  | 0, _ => exact ⟨"x", by decide, rfl⟩
  | 1, _ => exact ⟨"y", by decide, rfl⟩
  | 2, _ => exact ⟨"z", by decide, rfl⟩
  | 3, _ => exact ⟨"oil", by decide, rfl⟩
theorem v_law_state (ns : List Int) (h : DrawOk G ns) (at_ : Int) (ps : List PipeT) (hp : GoodP ps) (w : D) : ∃ st, fnD G 3 5 c__law_state [.list (ns.map .int), .int at_, .tuple [.tuple (ps.map pipeD), w]] = .ok (stateD st) ∧ GoodS ps st := by
  have hs : 1000 ≤ sizeLine := by decide
  have hn2 := hp.n2
  have L := for_inv (t := .tp (.cons (.nm 5) (.cons (.nm 6) .nil))) (ws := [5, 6]) (body := fun ρ => exSs G (.cons (.app 3 (.blt .tuple (.lc [7] slotC (.nm 7) (.rng (.var 6)) .no))) (.cons (.set (.nm 4) (.bin .Add (.var 4) (.var 6))) .nil)) ρ)
    (fun i ρ => ∃ (st : List (List Str)) (k : Int), st.length = i ∧ st.map (fun r => (r.length : Int)) = (ps.take i).map (·.2) ∧ (∀ r ∈ st, ∀ x ∈ r, x ∈ sl) ∧ ρ = [.fz (.list (ns.map .int)), .fz (.int at_), .fz (.tuple [.tuple (ps.map pipeD), w]), .ow (.list (st.map rowD)), .fz (.int k), .no, .no, .no])
    (xs := ps.map pipeD) (ρ := [.fz (.list (ns.map .int)), .fz (.int at_), .fz (.tuple [.tuple (ps.map pipeD), w]), .ow (.list []), .fz (.int 0), .no, .no, .no]) 0 ⟨[], 0, rfl, rfl, fun _ z => (by cases z), rfl⟩ (fun i x ρ hx hi => by
      obtain ⟨st, k, hl, hlen, hsl, rfl⟩ := hi
      have hi' : i < ps.length := by
        rcases Nat.lt_or_ge i ps.length with q | q
        · exact q
        · rw [List.getElem?_eq_none (by simpa using q)] at hx; cases hx
      rw [List.getElem?_map, List.getElem?_eq_getElem hi'] at hx
      cases hx
      obtain ⟨lo1, lo2⟩ := hp.lo ps[i] (List.getElem_mem hi')
      have ch : ∀ n : Nat, ∃ x, x ∈ sl ∧ ∃ r, G "_law_drawn" [.list (ns.map .int), .int (at_ + k + (n : Nat)), .int 4] = .ok (.int r) ∧ idxD (.list [.str "x", .str "y", .str "z", .str "oil"]) (.int r) = .ok (.str x) := fun n => by
        obtain ⟨r, er, h1, h2⟩ := h (at_ + k + (n : Nat)) 4 (by decide)
        obtain ⟨x, hx, ex⟩ := sl_at h1 h2
        exact ⟨x, hx, r, er, ex⟩
      let f : Nat → Str := fun n => Classical.choose (ch n)
      have hf : ∀ n, f n ∈ sl ∧ ∃ r, G "_law_drawn" [.list (ns.map .int), .int (at_ + k + (n : Nat)), .int 4] = .ok (.int r) ∧ idxD (.list [.str "x", .str "y", .str "z", .str "oil"]) (.int r) = .ok (.str (f n)) := fun n => Classical.choose_spec (ch n)
      have hsz : st.length < sizeLine := by omega
      have hk : 0 + i = i := by omega
      rw [hk] at hl hlen
      refine ⟨[.fz (.list (ns.map .int)), .fz (.int at_), .fz (.tuple [.tuple (ps.map pipeD), w]), .ow (.list (st.map rowD)), .fz (.int k), .fz (.str ps[i].1), .fz (.int ps[i].2), .no],
        [.fz (.list (ns.map .int)), .fz (.int at_), .fz (.tuple [.tuple (ps.map pipeD), w]), .ow (.list ((st ++ [(List.range ps[i].2.toNat).map f]).map rowD)), .fz (.int (k + ps[i].2)), .fz (.str ps[i].1), .fz (.int ps[i].2), .no], by simp [pipeD], ?_, st ++ [(List.range ps[i].2.toNat).map f], k + ps[i].2, by simp [hl], ?_, ?_, by simp⟩
      · simp
        rw [range_ok (by omega) (by omega)]
        simp only [ok_bind]
        rw [lc_map (fun n : Nat => .int (n : Int)) (fun n => [.fz (.list (ns.map .int)), .fz (.int at_), .fz (.tuple [.tuple (ps.map pipeD), w]), .ow (.list (st.map rowD)), .fz (.int k), .fz (.str ps[i].1), .fz (.int ps[i].2), .fz (.int (n : Int))]) (fun n => .str (f n)) (by simp) (by simp) (fun n _ => ?_)]
        · simp [appD, hsz, rowD]
        · obtain ⟨_, r, er, ex⟩ := hf n
          simp [slotC, er]
          exact ex
      · rw [hk, List.map_append, hlen, take_succ' hi', List.map_append]
        simp
        omega
      · intro r hr x hx
        rcases List.mem_append.mp hr with q | q
        · exact hsl r q x hx
        · rcases List.mem_singleton.mp q with rfl
          obtain ⟨n, _, rfl⟩ := List.mem_map.mp hx
          exact (hf n).1)
  obtain ⟨ρ1, e1, st, k, hl, hlen, hsl, rfl⟩ := L
  refine ⟨st, ?_, ⟨by rw [hlen]; simp, hsl⟩⟩
  have cc : c__law_state = .cons (.par [(3, true), (4, false)] (.cons (.lst (.nil)) (.cons (.cst (.int 0)) .nil))) (.cons (.for_ [5, 6] (.tp (.cons (.nm 5) (.cons (.nm 6) .nil))) (.seq (.idx (.var 2) (.cst (.int 0)))) (.cons (.app 3 (.blt .tuple (.lc [7] slotC (.nm 7) (.rng (.var 6)) .no))) (.cons (.set (.nm 4) (.bin .Add (.var 4) (.var 6))) .nil))) (.cons (.ret (.blt .tuple (.own 3))) .nil)) := rfl
  rw [fnD_eq (by rfl), cc]
  show finD ((exS G _ _).then fun ρ' => (exS G _ ρ').then fun ρ' => exSs G _ ρ') = _
  have c0 : exS G (.par [(3, true), (4, false)] (.cons (.lst (.nil)) (.cons (.cst (.int 0)) .nil))) ([PyData.list (ns.map .int), .int at_, .tuple [.tuple (ps.map pipeD), w]].map Slot.fz ++ List.replicate 5 Slot.no) = .nx [.fz (.list (ns.map .int)), .fz (.int at_), .fz (.tuple [.tuple (ps.map pipeD), w]), .ow (.list []), .fz (.int 0), .no, .no, .no] := rfl
  have c1 : exS G (.for_ [5, 6] (.tp (.cons (.nm 5) (.cons (.nm 6) .nil))) (.seq (.idx (.var 2) (.cst (.int 0)))) (.cons (.app 3 (.blt .tuple (.lc [7] slotC (.nm 7) (.rng (.var 6)) .no))) (.cons (.set (.nm 4) (.bin .Add (.var 4) (.var 6))) .nil))) [.fz (.list (ns.map .int)), .fz (.int at_), .fz (.tuple [.tuple (ps.map pipeD), w]), .ow (.list []), .fz (.int 0), .no, .no, .no] = .nx [.fz (.list (ns.map .int)), .fz (.int at_), .fz (.tuple [.tuple (ps.map pipeD), w]), .ow (.list (st.map rowD)), .fz (.int k), .no, .no, .no] := by
    rw [← e1]
    rfl
  rw [c0, then_nx, c1, then_nx]
  rfl
end Fp
set_option maxHeartbeats 1000000
namespace Fp
open PySem
variable {G : Str → List D → Res D} {ps : List PipeT} {ws : List WayT}
theorem atI_last {α : Type} {xs : List α} {x : α} : L2.atI (xs ++ [x]) (-1) = some x := by
  unfold L2.atI L2.ixN
  rw [if_neg (by decide), if_pos (by simp; omega)]
  have : (-1 + ((xs ++ [x]).length : Int)).toNat = xs.length := by simp; omega
  rw [this]
  simp
theorem cut_last {α : Type} {xs : List α} {x : α} : cutD (xs ++ [x]) none (some (-1)) = xs := by
  unfold cutD
  have e1 : HT.sIx (xs ++ [x]).length 0 none = 0 := rfl
  have e2 : HT.sIx (xs ++ [x]).length (xs ++ [x]).length (some (-1)) = xs.length := by
    unfold HT.sIx
    simp
    omega
  rw [e1, e2]
  simp
theorem pn_nm : ∀ s ∈ pn, isNm s = true := by decide +kernel
theorem wn_nm : ∀ s ∈ wn, isNm s = true := by decide +kernel
theorem pn_rises : ∀ n, n ≤ 4 → rises (pn.take n) = true := by decide +kernel
theorem wn_rises : ∀ n, n ≤ 4 → rises (wn.take n) = true := by decide +kernel
theorem GoodP.names (h : GoodP ps) : ∀ s ∈ ps.map (·.1), s ∈ pn := fun s hs => by
  rw [h.nm] at hs
  exact List.mem_of_mem_take hs
theorem map_fstS {ps : List PipeT} : (ps.map pipeD).map fstS = ps.map (·.1) := by
  rw [List.map_map]
  rfl
theorem map_fstW {ws : List WayT} : (ws.map wayD).map fstS = ws.map (·.1) := by
  rw [List.map_map]
  rfl
theorem GoodP.pipes (h : GoodP ps) : arePipes (.tuple (ps.map pipeD)) = true := by
  have h1 := h.n1
  have h2 := h.n2
  have a1 : (ps.map pipeD).all isPair = true := by
    rw [List.all_eq_true]
    intro x hx
    obtain ⟨p, hp, rfl⟩ := List.mem_map.mp hx
    exact pn_nm _ (h.names p.1 (List.mem_map.mpr ⟨p, hp, rfl⟩))
  have a2 : (ps.map pipeD).all (fun x => isWhole (sndD x) 1 4) = true := by
    rw [List.all_eq_true]
    intro x hx
    obtain ⟨p, hp, rfl⟩ := List.mem_map.mp hx
    have := h.lo p hp
    show (decide ((1 : Int) ≤ p.2) && decide (p.2 ≤ 4)) = true
    rw [decide_eq_true (by omega), decide_eq_true (by omega)]
    rfl
  have a3 : rises ((ps.map pipeD).map fstS) = true := by
    rw [map_fstS, h.nm]
    exact pn_rises _ h2
  unfold arePipes
  dsimp only
  rw [a1, a2, a3, List.length_map, decide_eq_true (by omega), decide_eq_true (by omega)]
  rfl
theorem row_ok {names r : List Str} (hn : ∀ s ∈ names, isNm s = true) (h : GoodR names r) : isRow names (rowD r) = true := by
  have h1 := h.n1
  have h2 := h.n2
  unfold isRow rowD
  dsimp only
  rw [List.length_map, decide_eq_true (by omega), decide_eq_true (by omega)]
  simp only [Bool.and_self, Bool.true_and]
  rw [List.all_eq_true]
  rintro ⟨i, x⟩ hx
  obtain ⟨k, hk⟩ := List.getElem?_of_mem hx
  rw [List.getElem?_zip_eq_some] at hk
  obtain ⟨k1, k2⟩ := hk
  dsimp only at k1 k2
  rw [List.getElem?_map] at k2
  have hkl : k < r.length := by
    rcases Nat.lt_or_ge k r.length with q | q
    · exact q
    · rw [List.getElem?_eq_none q] at k2; cases k2
  rw [List.getElem?_range hkl] at k1
  have k1 : k = i := Option.some.inj k1
  subst k1
  rw [List.getElem?_eq_getElem hkl] at k2
  have k2 : PyData.str r[k] = x := Option.some.inj k2
  subst k2
  have hm : r[k] ∈ names := h.sub _ (List.getElem_mem hkl)
  have q1 : isName (.str r[k]) = true := hn _ hm
  have q2 : (names.any fun z => PyData.eqv (.str z) (.str r[k])) = true := by
    rw [List.any_eq_true]
    exact ⟨r[k], hm, by simp⟩
  have q3 : (((r.map PyData.str).take k).any fun z => PyData.eqv z (.str r[k])) = false := by
    rw [List.any_eq_false]
    intro z hz
    rw [← List.map_take] at hz
    obtain ⟨s, hs, rfl⟩ := List.mem_map.mp hz
    obtain ⟨j, hj⟩ := List.getElem?_of_mem hs
    have hjk : j < k := by
      rcases Nat.lt_or_ge j k with q | q
      · exact q
      · rw [List.getElem?_eq_none (by rw [List.length_take]; omega)] at hj; cases hj
    rw [List.getElem?_take_of_lt hjk, List.getElem?_eq_getElem (by omega)] at hj
    cases hj
    simp
    intro e
    exact List.pairwise_iff_getElem.mp h.nd j k (by omega) hkl hjk e
  show (isName (.str r[k]) && ((names.any fun z => PyData.eqv (.str z) (.str r[k])) && !(((r.map PyData.str).take k).any fun z => PyData.eqv z (.str r[k])))) = true
  rw [q1, q2, q3]
  rfl
theorem GoodN.net (h : GoodN ps ws) : isNet (netD ps ws) = true := by
  have h1 := h.n1
  have h2 := h.n2
  have hnm : ∀ s ∈ ps.map (·.1), isNm s = true := fun s hs => pn_nm s (h.p.names s hs)
  have e : namesD (.tuple (ps.map pipeD)) = ps.map (·.1) := map_fstS
  have a1 : (ws.map wayD).all (fun w => isPair w && isRow (ps.map (·.1)) (sndD w)) = true := by
    rw [List.all_eq_true]
    intro x hx
    obtain ⟨w, hw, rfl⟩ := List.mem_map.mp hx
    have hwn : w.1 ∈ wn := by
      have : w.1 ∈ ws.map (·.1) := List.mem_map.mpr ⟨w, hw, rfl⟩
      rw [h.nm] at this
      exact List.mem_of_mem_take this
    show (isNm w.1 && isRow (ps.map (·.1)) (rowD w.2)) = true
    rw [wn_nm _ hwn, row_ok hnm (h.r w hw)]
    rfl
  have a2 : rises ((ws.map wayD).map fstS) = true := by
    rw [map_fstW, h.nm]
    exact wn_rises _ h2
  show (arePipes (.tuple (ps.map pipeD)) && areWays (namesD (.tuple (ps.map pipeD))) (.tuple (ws.map wayD))) = true
  rw [h.p.pipes, e]
  show (true && ((decide ((1 : Int) ≤ (ws.map wayD).length) && decide (((ws.map wayD).length : Int) ≤ 8)) && (ws.map wayD).all (fun w => isPair w && isRow (ps.map (·.1)) (sndD w)) && rises ((ws.map wayD).map fstS))) = true
  rw [a1, a2, List.length_map, decide_eq_true (by omega), decide_eq_true (by omega)]
  rfl
theorem sh_t {n : Nat} {xs : List D} (h : ∀ x ∈ xs, sh n x) : sh (n + 1) (.tuple xs) := sh_tup.mpr h
theorem sh_l {n : Nat} {xs : List D} (h : ∀ x ∈ xs, sh n x) : sh (n + 1) (.list xs) := sh_lst.mpr h
theorem sh_nil {n : Nat} : ∀ x ∈ ([] : List D), sh n x := fun x hx => by cases hx
theorem sh_cons {n : Nat} {x : D} {xs : List D} (h : sh n x) (hs : ∀ y ∈ xs, sh n y) : ∀ y ∈ x :: xs, sh n y := fun y hy => by
  rcases List.mem_cons.mp hy with rfl | q
  · exact h
  · exact hs y q
theorem sh_app {n : Nat} {xs ys : List D} (h : ∀ y ∈ xs, sh n y) (hs : ∀ y ∈ ys, sh n y) : ∀ y ∈ xs ++ ys, sh n y := fun y hy => by
  rcases List.mem_append.mp hy with q | q
  · exact h y q
  · exact hs y q
theorem sh_rev {n : Nat} {xs : List D} (h : ∀ y ∈ xs, sh n y) : ∀ y ∈ xs.reverse, sh n y := fun y hy => h y (List.mem_reverse.mp hy)
theorem pipes_sh {ps : List PipeT} (h : GoodP ps) : ∀ x ∈ ps.map pipeD, sh 1 x := fun x hx => by
  obtain ⟨p, hp, rfl⟩ := List.mem_map.mp hx
  exact sh_t (sh_cons (sh_str (nm_lay (pn_nm _ (h.names p.1 (List.mem_map.mpr ⟨p, hp, rfl⟩))))) (sh_cons sh_int sh_nil))
theorem row_sh {r : List Str} (h : ∀ x ∈ r, isNm x = true) : sh 1 (rowD r) := sh_t fun x hx => by
  obtain ⟨s, hs, rfl⟩ := List.mem_map.mp hx
  exact sh_str (nm_lay (h s hs))
theorem ways_sh {ps : List PipeT} {ws : List WayT} (h : GoodN ps ws) : ∀ x ∈ ws.map wayD, sh 2 x := fun x hx => by
  obtain ⟨w, hw, rfl⟩ := List.mem_map.mp hx
  have hwn : w.1 ∈ wn := by
    have : w.1 ∈ ws.map (·.1) := List.mem_map.mpr ⟨w, hw, rfl⟩
    rw [h.nm] at this
    exact List.mem_of_mem_take this
  exact sh_t (sh_cons (sh_str (nm_lay (wn_nm _ hwn))) (sh_cons (row_sh fun x hx => pn_nm x (h.p.names x ((h.r w hw).sub x hx))) sh_nil))
theorem net_sh {ps : List PipeT} {ws : List WayT} (h : GoodN ps ws) : sh 4 (netD ps ws) :=
  sh_t (sh_cons ((sh_t (pipes_sh h.p)).mono (by decide)) (sh_cons (sh_t (ways_sh h)) sh_nil))
theorem sl_nm : ∀ s ∈ sl, isNm s = true := by decide +kernel
theorem st_true {ps : List PipeT} {st : List (List Str)} (h : GoodS ps st) : isStateOf ps (stateD st) = true := by
  have hl : st.length = ps.length := by
    have := congrArg List.length h.len
    simpa using this
  have a1 : (st.map rowD).all isTup = true := by
    rw [List.all_eq_true]
    intro x hx
    obtain ⟨r, _, rfl⟩ := List.mem_map.mp hx
    rfl
  have a2 : ((st.map rowD).zip ps).all (fun p => decide (((itemsT p.1).length : Int) = p.2.2)) = true := by
    rw [List.all_eq_true]
    rintro ⟨x, p⟩ hx
    obtain ⟨k, hk⟩ := List.getElem?_of_mem hx
    rw [List.getElem?_zip_eq_some] at hk
    obtain ⟨k1, k2⟩ := hk
    dsimp only at k1 k2
    rw [List.getElem?_map] at k1
    cases hr : st[k]? with
    | none => rw [hr] at k1; cases k1
    | some r =>
      rw [hr] at k1
      have k1 : rowD r = x := Option.some.inj k1
      subst k1
      have e1 : (st.map (fun r => (r.length : Int)))[k]? = some (r.length : Int) := by rw [List.getElem?_map, hr]; rfl
      have e2 : (ps.map (·.2))[k]? = some p.2 := by rw [List.getElem?_map, k2]; rfl
      rw [h.len, e2] at e1
      have e1 : p.2 = (r.length : Int) := Option.some.inj e1
      show decide (((r.map PyData.str).length : Int) = p.2) = true
      rw [List.length_map]
      exact decide_eq_true e1.symm
  have a3 : ((st.map rowD).flatMap itemsT).all isName = true := by
    rw [List.all_eq_true]
    intro x hx
    obtain ⟨y, hy, hx⟩ := List.mem_flatMap.mp hx
    obtain ⟨r, hr, rfl⟩ := List.mem_map.mp hy
    obtain ⟨s, hs, rfl⟩ := List.mem_map.mp (show x ∈ r.map PyData.str from hx)
    exact sl_nm s (h.slug r hr s hs)
  unfold isStateOf stateD
  dsimp only
  rw [a1, a2, a3, List.length_map, decide_eq_true hl]
  rfl
theorem so_len {ps : List PipeT} {xs : List D} (h : xs.length ≠ ps.length) : isStateOf ps (.tuple xs) = false := by
  unfold isStateOf
  dsimp only
  rw [decide_eq_false h]
  rfl
theorem so_row {p : PipeT} {ps : List PipeT} {x : D} {xs : List D} (h : ((itemsT x).length : Int) ≠ p.2 ∨ isTup x = false ∨ ∃ y ∈ itemsT x, isName y = false) : isStateOf (p :: ps) (.tuple (x :: xs)) = false := by
  unfold isStateOf
  dsimp only
  rcases h with h | h | ⟨y, hy, h⟩
  · have : ((x :: xs).zip (p :: ps)).all (fun p => decide (((itemsT p.1).length : Int) = p.2.2)) = false := by
      rw [List.all_eq_false]
      exact ⟨(x, p), by simp, by simpa using h⟩
    rw [this]
    simp
  · have : (x :: xs).all isTup = false := by
      rw [List.all_eq_false]
      exact ⟨x, by simp, by simp [h]⟩
    rw [this]
    simp
  · have : ((x :: xs).flatMap itemsT).all isName = false := by
      rw [List.all_eq_false]
      exact ⟨y, List.mem_flatMap.mpr ⟨x, by simp, hy⟩, by simp [h]⟩
    rw [this]
    simp
theorem for_skip {t : Tg} {ws : List Nat} {body : Slots → Fl} {ρ : Slots} : ∀ {xs : List D}, (∀ x ∈ xs, ∃ ρ1 ρ2, bindT t x ρ = .ok ρ1 ∧ body ρ1 = .nx ρ2 ∧ wipeE ρ2 ws = ρ) → forGo t ws body xs ρ = .nx ρ
  | [], _ => rfl
  | x :: xs, h => by
    obtain ⟨ρ1, ρ2, e1, e2, e3⟩ := h x List.mem_cons_self
    unfold forGo
    rw [e1]
    show (body ρ1).then _ = _
    rw [e2, then_nx, e3, for_skip fun y hy => h y (List.mem_cons_of_mem _ hy)]
end Fp
set_option maxHeartbeats 1000000
/-! pushes, by value -/
namespace Fp
open PySem
variable {G : Str → List D → Res D} {ps : List PipeT} {ws : List WayT}
/-- a net, by what the program asks of it -/
structure NetG (ps : List PipeT) (ws : List WayT) : Prop where
  np : (ps.map (·.1)).Nodup
  nw : (ws.map (·.1)).Nodup
  p1 : 1 ≤ ps.length
  pl : ps.length ≤ 6
  w1 : 1 ≤ ws.length
  wl : ws.length ≤ 8
  nmp : ∀ p ∈ ps, isNm p.1 = true
  nmw : ∀ w ∈ ws, isNm w.1 = true
  lo : ∀ p ∈ ps, 1 ≤ p.2 ∧ p.2 ≤ 4
  sub : ∀ w ∈ ws, ∀ x ∈ w.2, x ∈ ps.map (·.1)
  rn : ∀ w ∈ ws, w.2.Nodup
  r1 : ∀ w ∈ ws, 1 ≤ w.2.length
  rl : ∀ w ∈ ws, w.2.length ≤ 4
  net : isNet (netD ps ws) = true
  shp : sh 4 (netD ps ws)
theorem pn_nd : ∀ n, n ≤ 4 → (pn.take n).Nodup := by decide +kernel
theorem wn_nd : ∀ n, n ≤ 4 → (wn.take n).Nodup := by decide +kernel
theorem GoodN.g (h : GoodN ps ws) : NetG ps ws where
  np := by rw [h.p.nm]; exact pn_nd _ h.p.n2
  nw := by rw [h.nm]; exact wn_nd _ h.n2
  p1 := h.p.n1
  pl := by have := h.p.n2; omega
  w1 := h.n1
  wl := by have := h.n2; omega
  nmp := fun p hp => pn_nm _ (h.p.names _ (List.mem_map_of_mem hp))
  nmw := fun w hw => wn_nm _ (by
    have : w.1 ∈ ws.map (·.1) := List.mem_map_of_mem hw
    rw [h.nm] at this
    exact List.mem_of_mem_take this)
  lo := fun p hp => by have := h.p.lo p hp; omega
  sub := fun w hw => (h.r w hw).sub
  rn := fun w hw => (h.r w hw).nd
  r1 := fun w hw => (h.r w hw).n1
  rl := fun w hw => by have := (h.r w hw).n2; omega
  net := h.net
  shp := net_sh h
/-! ### rows by their pipes -/
abbrev KV := List (Str × List D)
def getA (kv : KV) (x : Str) : List D := ((kv.find? fun p => p.1 == x).map (·.2)).getD []
def setA (kv : KV) (x : Str) (r : List D) : KV := kv.map fun p => if p.1 == x then (p.1, r) else p
def pushA : List Str → KV → D → KV × D
  | [], kv, s => (kv, s)
  | x :: row, kv, s => pushA row (setA kv x (s :: (getA kv x).dropLast)) ((getA kv x).getLast?.getD .none)
def drawA : List Str → KV → D → KV × D
  | [], kv, s => (kv, s)
  | x :: row, kv, s => drawA row (setA kv x ((getA kv x).drop 1 ++ [s])) ((getA kv x).head?.getD .none)
def kvD (kv : KV) : D := .tuple (kv.map fun p => .tuple p.2)
theorem split_kv {kv : KV} {x : Str} (hn : (kv.map (·.1)).Nodup) (hx : x ∈ kv.map (·.1)) : ∃ A r B, kv = A ++ (x, r) :: B ∧ x ∉ A.map (·.1) ∧ x ∉ B.map (·.1) := by
  obtain ⟨⟨y, r⟩, hp, rfl⟩ := List.mem_map.mp hx
  obtain ⟨A, B, rfl⟩ := List.append_of_mem hp
  refine ⟨A, r, B, rfl, ?_, ?_⟩
  · rw [List.map_append, List.nodup_append] at hn
    exact fun h => hn.2.2 _ h _ (by simp) rfl
  · rw [List.map_append, List.map_cons, List.nodup_append] at hn
    exact (List.nodup_cons.mp hn.2.1).1
theorem find_no {A : KV} {x : Str} (h : x ∉ A.map (·.1)) : A.find? (fun p => p.1 == x) = none := by
  rw [List.find?_eq_none]
  intro p hp
  simp only [beq_iff_eq]
  exact fun e => h (by rw [← e]; exact List.mem_map_of_mem hp)
theorem getA_split {A B : KV} {x : Str} {r : List D} (h : x ∉ A.map (·.1)) : getA (A ++ (x, r) :: B) x = r := by
  unfold getA
  rw [List.find?_append, find_no h, List.find?_cons]
  simp
theorem map_no {A : KV} {x : Str} {r : List D} (h : x ∉ A.map (·.1)) : A.map (fun p => if p.1 == x then (p.1, r) else p) = A := by
  have : ∀ p ∈ A, (if p.1 == x then (p.1, r) else p) = p := fun p hp => by
    rw [if_neg]
    simp only [beq_iff_eq]
    exact fun e => h (by rw [← e]; exact List.mem_map_of_mem hp)
  rw [List.map_congr_left this, List.map_id'']
  exact fun _ => rfl
theorem setA_split {A B : KV} {x : Str} {r r' : List D} (h : x ∉ A.map (·.1)) (h2 : x ∉ B.map (·.1)) : setA (A ++ (x, r) :: B) x r' = A ++ (x, r') :: B := by
  unfold setA
  rw [List.map_append, map_no h, List.map_cons, map_no h2]
  simp
theorem setA_fst {kv : KV} {x : Str} {r : List D} : (setA kv x r).map (·.1) = kv.map (·.1) := by
  unfold setA
  rw [List.map_map]
  refine List.map_congr_left fun p _ => ?_
  show (if p.1 == x then (p.1, r) else p).1 = p.1
  split <;> rfl
structure KvOk (names : List Str) (kv : KV) : Prop where
  nm : kv.map (·.1) = names
  ln : ∀ p ∈ kv, 1 ≤ p.2.length ∧ p.2.length ≤ 4
theorem getA_mem {kv : KV} {x : Str} (hn : (kv.map (·.1)).Nodup) (hx : x ∈ kv.map (·.1)) : (x, getA kv x) ∈ kv := by
  obtain ⟨A, r, B, rfl, h1, h2⟩ := split_kv hn hx
  rw [getA_split h1]
  simp
theorem KvOk.set {names : List Str} {kv : KV} {x : Str} {r : List D} (h : KvOk names kv) (hr : 1 ≤ r.length ∧ r.length ≤ 4) : KvOk names (setA kv x r) where
  nm := by rw [setA_fst, h.nm]
  ln := fun p hp => by
    obtain ⟨q, hq, rfl⟩ := List.mem_map.mp hp
    split
    · exact hr
    · exact h.ln q hq
theorem KvOk.get {names : List Str} {kv : KV} {x : Str} (h : KvOk names kv) (hn : names.Nodup) (hx : x ∈ names) : 1 ≤ (getA kv x).length ∧ (getA kv x).length ≤ 4 := h.ln _ (getA_mem (by rw [h.nm]; exact hn) (by rw [h.nm]; exact hx))
theorem KvOk.push {names : List Str} (hn : names.Nodup) : ∀ {row : List Str} {kv : KV} {s : D}, (∀ x ∈ row, x ∈ names) → KvOk names kv → KvOk names (pushA row kv s).1
  | [], _, _, _, h => h
  | x :: row, kv, s, hx, h => by
    have := h.get hn (hx x (by simp))
    unfold pushA
    exact KvOk.push hn (fun y hy => hx y (by simp [hy])) (h.set (by simp; omega))
theorem KvOk.draw {names : List Str} (hn : names.Nodup) : ∀ {row : List Str} {kv : KV} {s : D}, (∀ x ∈ row, x ∈ names) → KvOk names kv → KvOk names (drawA row kv s).1
  | [], _, _, _, h => h
  | x :: row, kv, s, hx, h => by
    have := h.get hn (hx x (by simp))
    unfold drawA
    exact KvOk.draw hn (fun y hy => hx y (by simp [hy])) (h.set (by simp; omega))
/-! ### small defs -/
theorem v_look_state {n d : D} {b : Bool} (h : G "is_state_of" [n, d] = .ok (.bool b)) : fnD G 2 0 c_look_state [n, d] = if b = true then .ok .none else .exc "NoState" := by
  cases b <;> simp [c_look_state, h]
theorem v_ways_in (p : D) : fnD G 1 1 c_ways_in [.tuple [p, .tuple (ws.map wayD)]] = .ok (.list ((ws.map (·.1)).map .str)) := by
  simp [c_ways_in]
  rw [lc_map wayD (fun w => [.fz (.tuple [p, .tuple (ws.map wayD)]), .fz (wayD w)]) (fun w => .str w.1) (by simp) (by simp) (by simp [wayD])]
  simp
theorem v_pipes_in (w : D) : fnD G 1 1 c_pipes_in [.tuple [.tuple (ps.map pipeD), w]] = .ok (.list ((ps.map (·.1)).map .str)) := by
  simp [c_pipes_in]
  rw [lc_map pipeD (fun q => [.fz (.tuple [.tuple (ps.map pipeD), w]), .fz (pipeD q)]) (fun q => .str q.1) (by simp) (by simp) (by simp [pipeD])]
  simp
theorem find_str {A B : List Str} {x : Str} (h : x ∉ A) : ((A ++ x :: B).map PyData.str).findIdx? (fun z => PyData.eqv z (.str x)) = some A.length := by
  induction A with
  | nil => simp [List.findIdx?_cons]
  | cons a A ih =>
    have ha : ¬ a = x := fun e => h (by rw [e]; simp)
    have := ih (fun q => h (by simp [q]))
    simp only [List.cons_append, List.map_cons, List.findIdx?_cons, eqv_str]
    rw [if_neg (by simpa using ha), this]
    rfl
theorem findD_str {A B : List Str} {x : Str} (h : x ∉ A) (hs : ∀ s ∈ A ++ x :: B, isNm s = true) : findD ((A ++ x :: B).map .str) (.str x) = .ok (.int (A.length : Nat)) := by
  unfold findD
  have h1 : SeqAt.shaped (.str x) = true := (sh_str (n := 0) (nm_lay (hs x (by simp)))).ok (by decide)
  have h2 : PyData.canLayAll0 ((A ++ x :: B).map PyData.str) = true := by
    rw [layAll]
    intro y hy
    obtain ⟨s, hs', rfl⟩ := List.mem_map.mp hy
    exact nm_lay (hs s hs')
  rw [if_pos ⟨h1, h2⟩, find_str h]
  rfl
/-- a way of a net -/
theorem NetG.way (h : NetG ps ws) {w : WayT} (hw : w ∈ ws) : ∃ A B, ws = A ++ w :: B ∧ w.1 ∉ A.map (·.1) := by
  obtain ⟨A, B, e⟩ := List.append_of_mem hw
  refine ⟨A, B, e, ?_⟩
  have hn := h.nw
  rw [e, List.map_append, List.nodup_append] at hn
  exact fun q => hn.2.2 _ q _ (by simp) rfl
theorem v_row_of (h : NetG ps ws) (h1 : G "ways_in" [netD ps ws] = .ok (.list ((ws.map (·.1)).map .str))) {w : WayT} (hw : w ∈ ws) : fnD G 2 0 c_row_of [netD ps ws, .str w.1] = .ok (rowD w.2) := by
  obtain ⟨A, B, rfl, hA⟩ := h.way hw
  have hf : findD (((A ++ w :: B).map (·.1)).map .str) (.str w.1) = .ok (.int (A.length : Nat)) := by
    rw [List.map_append, List.map_cons]
    have := findD_str (B := B.map (·.1)) hA (fun s hs => by
      have hs : s ∈ (A ++ w :: B).map (·.1) := by simpa using hs
      obtain ⟨q, hq, rfl⟩ := List.mem_map.mp hs
      exact h.nmw q hq)
    rwa [List.length_map] at this
  simp only [c_row_of, fnD_eq (G := G) (show [netD ps (A ++ w :: B), PyData.str w.1].length = 2 from rfl)]
  simp [h1]
  rw [show (List.map (PyData.str ∘ fun x => x.1) A ++ PyData.str w.1 :: List.map (PyData.str ∘ fun x => x.1) B) = ((A ++ w :: B).map (·.1)).map .str by simp, hf]
  simp [netD, at_n, wayD]
end Fp
set_option maxHeartbeats 1000000
/-! pushes, by value -/
namespace Fp
open PySem
variable {G : Str → List D → Res D} {ps : List PipeT} {ws : List WayT}
theorem slot_i1 {xs : List D} {r : List D} {l : D} (hr : r = xs ++ [l]) : L2.atI r (-1) = some l := by rw [hr]; exact atI_last
theorem set_mid {α : Type} {A B : List α} {x y : α} : (A ++ x :: B).set A.length y = A ++ y :: B := by
  rw [List.set_append_right _ _ (Nat.le_refl _), Nat.sub_self]
  rfl
theorem get_mid {α : Type} {A B : List α} {x : α} : (A ++ x :: B)[A.length]? = some x := by
  rw [List.getElem?_append_right (Nat.le_refl _), Nat.sub_self]
  rfl
/-- a net, a state, a push -/
def pushC : Ss := (.cons (.set (.nm 7) (.mth .index (.var 3) (.var 6))) (.cons (.set (.nm 8) (.idx (.idx (.own 4) (.var 7)) (.neg (.cst (.int 1))))) (.cons (.put 4 (.var 7) (.bin .Add (.tup (.cons (.var 5) .nil)) (.slc (.idx (.own 4) (.var 7)) .no (.so (.neg (.cst (.int 1))))))) (.cons (.set (.nm 5) (.var 8)) .nil))))
def drawC : Ss := (.cons (.set (.nm 7) (.mth .index (.var 3) (.var 6))) (.cons (.set (.nm 8) (.idx (.idx (.own 4) (.var 7)) (.cst (.int 0)))) (.cons (.put 4 (.var 7) (.bin .Add (.slc (.idx (.own 4) (.var 7)) (.so (.cst (.int 1))) .no) (.tup (.cons (.var 5) .nil)))) (.cons (.set (.nm 5) (.var 8)) .nil))))
theorem snoc_of {α : Type} {r : List α} (h : 1 ≤ r.length) : ∃ xs l, r = xs ++ [l] := by
  have : r ≠ [] := fun e => by subst e; simp at h
  exact ⟨r.dropLast, r.getLast this, (List.dropLast_concat_getLast this).symm⟩
theorem cons_of {α : Type} {r : List α} (h : 1 ≤ r.length) : ∃ l xs, r = l :: xs := by
  cases r with
  | nil => simp at h
  | cons l xs => exact ⟨l, xs, rfl⟩
theorem push_loop {a b c : Slot} {names : List Str} (hn : names.Nodup) (hs : ∀ s ∈ names, isNm s = true) : ∀ {row : List Str} {kv : KV} {s : D}, (∀ x ∈ row, x ∈ names) → KvOk names kv →
    forGo (.nm 6) [6, 7, 8] (fun ρ => exSs G pushC ρ) (row.map .str) [a, b, c, .fz (.list (names.map .str)), .ow (.list (kv.map fun p => .tuple p.2)), .fz s, .no, .no, .no]
      = .nx [a, b, c, .fz (.list (names.map .str)), .ow (.list ((pushA row kv s).1.map fun p => .tuple p.2)), .fz (pushA row kv s).2, .no, .no, .no]
  | [], kv, s, _, _ => rfl
  | x :: row, kv, s, hx, hk => by
    have hz : 1000 ≤ sizeLine := by decide
    have hxn := hx x (by simp)
    have hk' := hk.set (x := x) (r := s :: (getA kv x).dropLast) (by have := hk.get hn hxn; simp; omega)
    have ih := push_loop (a := a) (b := b) (c := c) hn hs (row := row) (kv := setA kv x (s :: (getA kv x).dropLast)) (s := (getA kv x).getLast?.getD .none) (fun y hy => hx y (by simp [hy])) hk'
    obtain ⟨A, r, B, rfl, h1, h2⟩ := split_kv (x := x) (by rw [hk.nm]; exact hn) (by rw [hk.nm]; exact hxn)
    have hln := hk.ln (x, r) (by simp)
    obtain ⟨xs, l, rfl⟩ := snoc_of hln.1
    rw [getA_split h1, setA_split h1 h2] at ih
    have enm : names = A.map (·.1) ++ x :: B.map (·.1) := by rw [← hk.nm]; simp
    have hf : findD (names.map .str) (.str x) = .ok (.int (A.length : Nat)) := by
      rw [enm]
      have := findD_str (B := B.map (·.1)) h1 (fun s hs' => hs s (by rw [enm]; exact hs'))
      rwa [List.length_map] at this
    have hlen : xs.length ≤ 3 := by simp at hln; omega
    have hsz : xs.length + 1 ≤ sizeLine := by omega
    unfold pushA
    rw [getA_split h1, setA_split h1 h2, ← ih, List.map_cons]
    conv => lhs; unfold forGo
    have hix : L2.ixN (A.length + (B.length + 1)) ((A.length : Nat) : Int) = some A.length := ixN_n (by omega)
    have hat : ∀ y : D, L2.atI (A.map (fun p => PyData.tuple p.2) ++ y :: B.map fun p => PyData.tuple p.2) ((A.length : Nat) : Int) = some y := fun y => by
      rw [at_n]
      have := get_mid (A := A.map fun p => PyData.tuple p.2) (B := B.map fun p => PyData.tuple p.2) (x := y)
      rwa [List.length_map] at this
    have hset : ∀ y z : D, (A.map (fun p => PyData.tuple p.2) ++ y :: B.map fun p => PyData.tuple p.2).set A.length z = A.map (fun p => PyData.tuple p.2) ++ z :: B.map fun p => PyData.tuple p.2 := fun y z => by
      have := set_mid (A := A.map fun p => PyData.tuple p.2) (B := B.map fun p => PyData.tuple p.2) (x := y) (y := z)
      rwa [List.length_map] at this
    simp [pushC, hf, hat, atI_last, cut_last, putD, hix, hset, hsz, Nat.add_comm]
theorem draw_loop {a b c : Slot} {names : List Str} (hn : names.Nodup) (hs : ∀ s ∈ names, isNm s = true) : ∀ {row : List Str} {kv : KV} {s : D}, (∀ x ∈ row, x ∈ names) → KvOk names kv →
    forGo (.nm 6) [6, 7, 8] (fun ρ => exSs G drawC ρ) (row.map .str) [a, b, c, .fz (.list (names.map .str)), .ow (.list (kv.map fun p => .tuple p.2)), .fz s, .no, .no, .no]
      = .nx [a, b, c, .fz (.list (names.map .str)), .ow (.list ((drawA row kv s).1.map fun p => .tuple p.2)), .fz (drawA row kv s).2, .no, .no, .no]
  | [], kv, s, _, _ => rfl
  | x :: row, kv, s, hx, hk => by
    have hz : 1000 ≤ sizeLine := by decide
    have hxn := hx x (by simp)
    have hk' := hk.set (x := x) (r := (getA kv x).drop 1 ++ [s]) (by have := hk.get hn hxn; simp; omega)
    have ih := draw_loop (a := a) (b := b) (c := c) hn hs (row := row) (kv := setA kv x ((getA kv x).drop 1 ++ [s])) (s := (getA kv x).head?.getD .none) (fun y hy => hx y (by simp [hy])) hk'
    obtain ⟨A, r, B, rfl, h1, h2⟩ := split_kv (x := x) (by rw [hk.nm]; exact hn) (by rw [hk.nm]; exact hxn)
    have hln := hk.ln (x, r) (by simp)
    obtain ⟨l, xs, rfl⟩ := cons_of hln.1
    rw [getA_split h1, setA_split h1 h2] at ih
    have enm : names = A.map (·.1) ++ x :: B.map (·.1) := by rw [← hk.nm]; simp
    have hf : findD (names.map .str) (.str x) = .ok (.int (A.length : Nat)) := by
      rw [enm]
      have := findD_str (B := B.map (·.1)) h1 (fun s hs' => hs s (by rw [enm]; exact hs'))
      rwa [List.length_map] at this
    have hlen : xs.length ≤ 3 := by simp at hln; omega
    have hsz : xs.length + 1 ≤ sizeLine := by omega
    unfold drawA
    rw [getA_split h1, setA_split h1 h2, ← ih, List.map_cons]
    conv => lhs; unfold forGo
    have hix : L2.ixN (A.length + (B.length + 1)) ((A.length : Nat) : Int) = some A.length := ixN_n (by omega)
    have hat : ∀ y : D, L2.atI (A.map (fun p => PyData.tuple p.2) ++ y :: B.map fun p => PyData.tuple p.2) ((A.length : Nat) : Int) = some y := fun y => by
      rw [at_n]
      have := get_mid (A := A.map fun p => PyData.tuple p.2) (B := B.map fun p => PyData.tuple p.2) (x := y)
      rwa [List.length_map] at this
    have hset : ∀ y z : D, (A.map (fun p => PyData.tuple p.2) ++ y :: B.map fun p => PyData.tuple p.2).set A.length z = A.map (fun p => PyData.tuple p.2) ++ z :: B.map fun p => PyData.tuple p.2 := fun y z => by
      have := set_mid (A := A.map fun p => PyData.tuple p.2) (B := B.map fun p => PyData.tuple p.2) (x := y) (y := z)
      rwa [List.length_map] at this
    simp [drawC, hf, hat, cut_1, putD, hix, hset, hsz]
def pp0 : S := (.par [(3, false), (4, true), (5, false)] (.cons (.call "pipes_in" (.cons (.var 0) .nil)) (.cons (.blt .list (.var 1)) (.cons (.idx (.var 2) (.cst (.int 1))) .nil))))
def pp2 : S := (.ret (.tup (.cons (.blt .tuple (.own 4)) (.cons (.var 5) .nil))))
theorem pp0_ok (h1 : G "pipes_in" [netD ps ws] = .ok (.list ((ps.map (·.1)).map .str))) {kv : KV} {w s : D} : exS G pp0 [.fz (netD ps ws), .fz (kvD kv), .fz (.tuple [w, s]), .no, .no, .no, .no, .no, .no] = .nx [.fz (netD ps ws), .fz (kvD kv), .fz (.tuple [w, s]), .fz (.list ((ps.map (·.1)).map .str)), .ow (.list (kv.map fun p => .tuple p.2)), .fz s, .no, .no, .no] := by
  simp only [List.map_map] at h1
  simp [pp0, h1, kvD]
theorem v_plain_pushed (h : NetG ps ws) (h1 : G "pipes_in" [netD ps ws] = .ok (.list ((ps.map (·.1)).map .str))) {w : WayT} (hw : w ∈ ws) (h2 : G "row_of" [netD ps ws, .str w.1] = .ok (rowD w.2)) {kv : KV} (hk : KvOk (ps.map (·.1)) kv) (s : D) :
    fnD G 3 6 c_plain_pushed [netD ps ws, kvD kv, .tuple [.str w.1, s]] = .ok (.tuple [kvD (pushA w.2 kv s).1, (pushA w.2 kv s).2]) := by
  have L := push_loop (G := G) (a := .fz (netD ps ws)) (b := .fz (kvD kv)) (c := .fz (.tuple [.str w.1, s])) h.np (fun x hx => by
    obtain ⟨p, hp, rfl⟩ := List.mem_map.mp hx
    exact h.nmp p hp) (row := w.2) (kv := kv) (s := s) (h.sub w hw) hk
  rw [fnD_eq (by rfl)]
  show finD (exSs G (.cons pp0 (.cons (.for_ [6, 7, 8] (.nm 6) (.seq (.call "row_of" (.cons (.var 0) (.cons (.idx (.var 2) (.cst (.int 0))) .nil)))) pushC) (.cons pp2 .nil))) [.fz (netD ps ws), .fz (kvD kv), .fz (.tuple [.str w.1, s]), .no, .no, .no, .no, .no, .no]) = _
  rw [ex_cons, pp0_ok h1, then_nx, ex_cons, ex_for]
  have ei : evi G (.seq (.call "row_of" (.cons (.var 0) (.cons (.idx (.var 2) (.cst (.int 0))) .nil)))) [.fz (netD ps ws), .fz (kvD kv), .fz (.tuple [.str w.1, s]), .fz (.list ((ps.map (·.1)).map .str)), .ow (.list (kv.map fun p => .tuple p.2)), .fz s, .no, .no, .no] = .ok (w.2.map .str) := by simp [h2, rowD]
  rw [ei, liftR_ok]
  simp only [wipe_cons, wipe_nil, List.set_cons_succ, List.set_cons_zero]
  rw [L, then_nx]
  simp [pp2, kvD]
theorem v_plain_drawn (h : NetG ps ws) (h1 : G "pipes_in" [netD ps ws] = .ok (.list ((ps.map (·.1)).map .str))) {w : WayT} (hw : w ∈ ws) (h2 : G "row_of" [netD ps ws, .str w.1] = .ok (rowD w.2)) {kv : KV} (hk : KvOk (ps.map (·.1)) kv) (s : D) :
    fnD G 3 6 c_plain_drawn [netD ps ws, kvD kv, .tuple [.str w.1, s]] = .ok (.tuple [kvD (drawA w.2.reverse kv s).1, (drawA w.2.reverse kv s).2]) := by
  have L := draw_loop (G := G) (a := .fz (netD ps ws)) (b := .fz (kvD kv)) (c := .fz (.tuple [.str w.1, s])) h.np (fun x hx => by
    obtain ⟨p, hp, rfl⟩ := List.mem_map.mp hx
    exact h.nmp p hp) (row := w.2.reverse) (kv := kv) (s := s) (fun x hx => h.sub w hw x (List.mem_reverse.mp hx)) hk
  rw [fnD_eq (by rfl)]
  show finD (exSs G (.cons pp0 (.cons (.for_ [6, 7, 8] (.nm 6) (.seq (.rev (.call "row_of" (.cons (.var 0) (.cons (.idx (.var 2) (.cst (.int 0))) .nil))))) drawC) (.cons pp2 .nil))) [.fz (netD ps ws), .fz (kvD kv), .fz (.tuple [.str w.1, s]), .no, .no, .no, .no, .no, .no]) = _
  rw [ex_cons, pp0_ok h1, then_nx, ex_cons, ex_for]
  have ei : evi G (.seq (.rev (.call "row_of" (.cons (.var 0) (.cons (.idx (.var 2) (.cst (.int 0))) .nil))))) [.fz (netD ps ws), .fz (kvD kv), .fz (.tuple [.str w.1, s]), .fz (.list ((ps.map (·.1)).map .str)), .ow (.list (kv.map fun p => .tuple p.2)), .fz s, .no, .no, .no] = .ok (w.2.reverse.map .str) := by simp [h2, rowD]
  rw [ei, liftR_ok]
  simp only [wipe_cons, wipe_nil, List.set_cons_succ, List.set_cons_zero]
  rw [L, then_nx]
  simp [pp2, kvD]
/-! ### what is looked at -/
def isPushOf (ws : List WayT) : D → Bool
  | .tuple [.str x, s] => isNm x && ((ws.map (·.1)).any (fun z => z == x) && isName s)
  | _ => false
theorem push_pair {d : D} (h : isPair d = true) : ∃ x s, d = .tuple [.str x, s] ∧ isNm x = true := by
  obtain ⟨e, h⟩ := pair_of h
  exact ⟨_, _, e, h⟩
theorem any_map {α β : Type} {f : α → β} {p : β → Bool} {l : List α} : (l.map f).any p = l.any fun x => p (f x) := by
  rw [List.any_map]; rfl
theorem in_names {names : List Str} {x : Str} (hs : ∀ s ∈ names, isNm s = true) (hx : isNm x = true) : inD (.str x) (.list (names.map .str)) = .ok (names.any fun z => z == x) := by
  rw [inD_lst (n := 1) (m := 1) (sh_str (nm_lay hx)) (names_sh hs) (by decide) (by decide), any_map]
  simp
theorem v_is_push_of (h : NetG ps ws) (h1 : G "ways_in" [netD ps ws] = .ok (.list ((ws.map (·.1)).map .str))) (h2 : ∀ d, G "is_pair" [d] = .ok (.bool (isPair d))) (h3 : ∀ d, G "is_name" [d] = .ok (.bool (isName d))) (d : D) : fnD G 2 0 c_is_push_of [netD ps ws, d] = .ok (.bool (isPushOf ws d)) := by
  cases hp : isPair d with
  | false =>
    have : isPushOf ws d = false := by
      unfold isPushOf
      split
      · rename_i x s
        have hx : isNm x = false := hp
        rw [hx]; rfl
      · rfl
    simp [c_is_push_of, h2, hp, this]
  | true =>
    obtain ⟨x, s, rfl, hx⟩ := push_pair hp
    have hin := in_names (names := ws.map (·.1)) (x := x) (fun y hy => by
      obtain ⟨w, hw, rfl⟩ := List.mem_map.mp hy
      exact h.nmw w hw) hx
    rw [fnD_eq (by rfl)]
    show finD (exSs G c_is_push_of [.fz (netD ps ws), .fz (.tuple [.str x, s])]) = _
    simp only [c_is_push_of, ex_cons, ex_ret, ev_bop, evb_a, ev_call, evs_cons, evs_nil, ev_var, slot_0, slot_s, ok_bind, h2, hp, andGo_t, ev_cmp, ev_idx, ev_cst, idx_t, at_0, must_some, h1, cmp_in, hin, evb_1, at_1, h3, andGo_b, liftR_ok, then_rt, fin_rt, isPushOf, hx, Bool.true_and]
theorem v_look_push {n d : D} {b : Bool} (h : G "is_push_of" [n, d] = .ok (.bool b)) : fnD G 2 0 c_look_push [n, d] = if b = true then .ok .none else .exc "NoPush" := by
  cases b <;> simp [c_look_push, h]
end Fp
set_option maxHeartbeats 1000000
/-! pushes, by value; dicts -/
namespace Fp
open PySem
variable {G : Str → List D → Res D} {ps : List PipeT} {ws : List WayT}
theorem v_look_pushed {n d e : D} {r1 r2 r3 : Res D} (h1 : G "look_net" [n] = r1) (h2 : G "look_state" [n, d] = r2) (h3 : G "look_push" [n, e] = r3) : fnD G 3 0 c_look_pushed [n, d, e] = r1 >>= fun _ => r2 >>= fun _ => r3 >>= fun _ => .ok .none := by
  cases r1 <;> cases r2 <;> cases r3 <;> simp [c_look_pushed, h1, h2, h3] <;> rfl
theorem v_pushed {n d e : D} {r1 r2 : Res D} (h1 : G "look_pushed" [n, d, e] = r1) (h2 : r1 = .ok .none → G "plain_pushed" [n, d, e] = r2) : fnD G 3 0 c_pushed [n, d, e] = r1 >>= fun _ => G "plain_pushed" [n, d, e] := by
  cases r1 with
  | ok a => cases hp : G "plain_pushed" [n, d, e] <;> simp [c_pushed, h1, hp] <;> rfl
  | exc c => simp [c_pushed, h1]
  | err => simp [c_pushed, h1]; rfl
theorem v_drawn_ {n d e : D} {r1 r2 : Res D} (h1 : G "look_pushed" [n, d, e] = r1) (h2 : r1 = .ok .none → G "plain_drawn" [n, d, e] = r2) : fnD G 3 0 c_drawn [n, d, e] = r1 >>= fun _ => G "plain_drawn" [n, d, e] := by
  cases r1 with
  | ok a => cases hp : G "plain_drawn" [n, d, e] <;> simp [c_drawn, h1, hp] <;> rfl
  | exc c => simp [c_drawn, h1]
  | err => simp [c_drawn, h1]; rfl
/-! ### dicts -/
theorem pairsK_map (l : List (Str × D)) : pairsK (l.map fun p => .tuple [.str p.1, p.2]) = some (l.map fun p => (.str p.1, p.2)) := by
  induction l with
  | nil => rfl
  | cons p l ih => simp [pairsK, pairD, isKey, ih]
@[simp] theorem keq_str {a b : Str} : keq (.str a) (.str b) = decide (a = b) := rfl
theorem keq_no {α : Type} {f : α → Str} {g : α → D} {A : List α} {x : Str} (h : x ∉ A.map f) : ((A.map fun p => (PyData.str (f p), g p)).any fun p => keq p.1 (.str x)) = false := by
  rw [List.any_eq_false]
  intro p hp
  obtain ⟨q, hq, rfl⟩ := List.mem_map.mp hp
  simp only [keq_str, decide_eq_true_eq]
  exact fun e => h (by rw [← e]; exact List.mem_map_of_mem hq)
theorem dput_new {α : Type} {f : α → Str} {g : α → D} {A : List α} {x : Str} {v : D} (h : x ∉ A.map f) : dputD (A.map fun p => (PyData.str (f p), g p)) (.str x) v = (A.map fun p => (PyData.str (f p), g p)) ++ [(.str x, v)] := by
  unfold dputD
  rw [keq_no h]
  rfl
theorem foldl_dput : ∀ (l acc : List (Str × D)), ((acc ++ l).map (·.1)).Nodup → (l.map fun p => (PyData.str p.1, p.2)).foldl (fun acc p => dputD acc p.1 p.2) (acc.map fun p => (PyData.str p.1, p.2)) = (acc ++ l).map fun p => (PyData.str p.1, p.2)
  | [], acc, _ => by simp
  | p :: l, acc, h => by
    have hp : p.1 ∉ acc.map (·.1) := by
      rw [List.map_append, List.nodup_append] at h
      exact fun q => h.2.2 _ q _ (by simp) rfl
    have ih := foldl_dput l (acc ++ [p]) (by simpa using h)
    rw [List.map_cons, List.foldl_cons]
    rw [dput_new (f := fun p : Str × D => p.1) (g := fun p : Str × D => p.2) hp]
    simpa using ih
theorem dict_of {l : List (Str × D)} (h : (l.map (·.1)).Nodup) : dictD (.list (l.map fun p => .tuple [.str p.1, p.2])) = .ok (.dict (l.map fun p => (.str p.1, p.2))) ∧ dictD (.tuple (l.map fun p => .tuple [.str p.1, p.2])) = .ok (.dict (l.map fun p => (.str p.1, p.2))) := by
  have := foldl_dput l [] (by simpa using h)
  simp only [List.map_nil, List.nil_append] at this
  unfold dictD
  simp only [seq_l, seq_t, ok_bind, pairsK_map, Option.map_some, must_some, this, and_self]
theorem dget_no {α : Type} {f : α → Str} {g : α → D} {A : List α} {x : Str} (h : x ∉ A.map f) : (A.map fun p => (PyData.str (f p), g p)).find? (fun p => keq p.1 (.str x)) = none := by
  rw [List.find?_eq_none]
  intro p hp
  obtain ⟨q, hq, rfl⟩ := List.mem_map.mp hp
  simp only [keq_str, decide_eq_true_eq]
  exact fun e => h (by rw [← e]; exact List.mem_map_of_mem hq)
theorem dget_mid {α : Type} {f : α → Str} {g : α → D} {A B : List α} {q : α} (h : f q ∉ A.map f) : dgetD ((A ++ q :: B).map fun p => (PyData.str (f p), g p)) (.str (f q)) = some (g q) := by
  unfold dgetD
  rw [List.map_append, List.find?_append, dget_no h, List.map_cons, List.find?_cons]
  simp
theorem dput_mid {α : Type} {f : α → Str} {g : α → D} {A B : List α} {q : α} {v : D} (h : f q ∉ A.map f) (h2 : f q ∉ B.map f) : dputD ((A ++ q :: B).map fun p => (PyData.str (f p), g p)) (.str (f q)) v = (A.map fun p => (PyData.str (f p), g p)) ++ (.str (f q), v) :: (B.map fun p => (PyData.str (f p), g p)) := by
  unfold dputD
  have hany : (((A ++ q :: B).map fun p => (PyData.str (f p), g p)).any fun p => keq p.1 (.str (f q))) = true := by
    rw [List.any_eq_true]
    exact ⟨(.str (f q), g q), by simp, by simp⟩
  have hid : ∀ {C : List α}, f q ∉ C.map f → (C.map fun p => (PyData.str (f p), g p)).map (fun p => if keq p.1 (.str (f q)) = true then (p.1, v) else p) = C.map fun p => (PyData.str (f p), g p) := fun {C} hC => by
    rw [List.map_map]
    refine List.map_congr_left fun p hp => ?_
    have : ¬ f p = f q := fun e => hC (by rw [← e]; exact List.mem_map_of_mem hp)
    simp [this]
  rw [if_pos hany, List.map_append, List.map_cons, List.map_append, List.map_cons, hid h, hid h2]
  simp
/-! ### `_law_push` -/
def kvK (kv : KV) : List (D × D) := kv.map fun p => (.str p.1, .list p.2)
def lpC : Ss := (.cons (.set (.nm 8) (.idx (.own 5) (.var 7))) (.cons (.ite (.cmp .Eq (.var 4) (.cst (.int 1))) (.cons (.dpn 5 (.var 7) 3 (.bin .Add (.lst (.cons (.var 3) .nil)) (.slc (.var 8) .no (.so (.neg (.cst (.int 1)))))) (.idx (.var 8) (.neg (.cst (.int 1))))) .nil) (.cons (.dpn 5 (.var 7) 3 (.bin .Add (.slc (.var 8) (.so (.cst (.int 1))) .no) (.lst (.cons (.var 3) .nil))) (.idx (.var 8) (.cst (.int 0)))) .nil)) .nil))
theorem kvK_get {A B : KV} {x : Str} {r : List D} (h : x ∉ A.map (·.1)) : dgetD (kvK (A ++ (x, r) :: B)) (.str x) = some (.list r) := dget_mid (f := fun p : Str × List D => p.1) (g := fun p => .list p.2) (q := (x, r)) h
theorem kvK_put {A B : KV} {x : Str} {r r' : List D} (h : x ∉ A.map (·.1)) (h2 : x ∉ B.map (·.1)) : dputD (kvK (A ++ (x, r) :: B)) (.str x) (.list r') = kvK (A ++ (x, r') :: B) := by
  have := dput_mid (f := fun p : Str × List D => p.1) (g := fun p => PyData.list p.2) (q := (x, r)) (v := .list r') h h2
  unfold kvK
  rw [this]
  simp
theorem kvK_len {kv : KV} : (kvK kv).length = kv.length := by simp [kvK]
theorem lp_loop {a b c d : Slot} {names : List Str} (hn : names.Nodup) (hl : names.length ≤ 6) : ∀ {row : List Str} {kv : KV} {s : D}, (∀ x ∈ row, x ∈ names) → KvOk names kv →
    forGo (.nm 7) [7, 8] (fun ρ => exSs G lpC ρ) (row.map .str) [a, b, c, .fz s, .fz (.int 1), .ow (.dict (kvK kv)), d, .no, .no, .no]
      = .nx [a, b, c, .fz (pushA row kv s).2, .fz (.int 1), .ow (.dict (kvK (pushA row kv s).1)), d, .no, .no, .no]
  | [], kv, s, _, _ => rfl
  | x :: row, kv, s, hx, hk => by
    have hz : 1000 ≤ sizeLine := by decide
    have hxn := hx x (by simp)
    have hk' := hk.set (x := x) (r := s :: (getA kv x).dropLast) (by have := hk.get hn hxn; simp; omega)
    have ih := lp_loop (a := a) (b := b) (c := c) (d := d) hn hl (row := row) (kv := setA kv x (s :: (getA kv x).dropLast)) (s := (getA kv x).getLast?.getD .none) (fun y hy => hx y (by simp [hy])) hk'
    obtain ⟨A, r, B, rfl, h1, h2⟩ := split_kv (x := x) (by rw [hk.nm]; exact hn) (by rw [hk.nm]; exact hxn)
    have hln := hk.ln (x, r) (by simp)
    obtain ⟨xs, l, rfl⟩ := snoc_of hln.1
    rw [getA_split h1, setA_split h1 h2] at ih
    have hlen : xs.length ≤ 3 := by simp at hln; omega
    have hsz : xs.length + 1 ≤ sizeLine := by omega
    have hkl : (kvK (A ++ (x, xs ++ [l]) :: B)).length < sizeLine := by
      rw [kvK_len]
      have := congrArg List.length hk.nm
      rw [List.length_map] at this
      omega
    unfold pushA
    rw [getA_split h1, setA_split h1 h2, ← ih, List.map_cons]
    conv => lhs; unfold forGo
    have hkl2 : isKey (.str x) = true ∧ (kvK (A ++ (x, xs ++ [l]) :: B)).length < sizeLine := ⟨rfl, hkl⟩
    simp [lpC, kvK_get h1, atI_last, cut_last, dputS, kvK_put h1 h2, hsz, hkl2, isKey, hkl, Nat.add_comm]
theorem ld_loop {a b c d : Slot} {names : List Str} (hn : names.Nodup) (hl : names.length ≤ 6) : ∀ {row : List Str} {kv : KV} {s : D}, (∀ x ∈ row, x ∈ names) → KvOk names kv →
    forGo (.nm 7) [7, 8] (fun ρ => exSs G lpC ρ) (row.map .str) [a, b, c, .fz s, .fz (.int (-1)), .ow (.dict (kvK kv)), d, .no, .no, .no]
      = .nx [a, b, c, .fz (drawA row kv s).2, .fz (.int (-1)), .ow (.dict (kvK (drawA row kv s).1)), d, .no, .no, .no]
  | [], kv, s, _, _ => rfl
  | x :: row, kv, s, hx, hk => by
    have hz : 1000 ≤ sizeLine := by decide
    have hxn := hx x (by simp)
    have hk' := hk.set (x := x) (r := (getA kv x).drop 1 ++ [s]) (by have := hk.get hn hxn; simp; omega)
    have ih := ld_loop (a := a) (b := b) (c := c) (d := d) hn hl (row := row) (kv := setA kv x ((getA kv x).drop 1 ++ [s])) (s := (getA kv x).head?.getD .none) (fun y hy => hx y (by simp [hy])) hk'
    obtain ⟨A, r, B, rfl, h1, h2⟩ := split_kv (x := x) (by rw [hk.nm]; exact hn) (by rw [hk.nm]; exact hxn)
    have hln := hk.ln (x, r) (by simp)
    obtain ⟨l, xs, rfl⟩ := cons_of hln.1
    rw [getA_split h1, setA_split h1 h2] at ih
    have hlen : xs.length ≤ 3 := by simp at hln; omega
    have hsz : xs.length + 1 ≤ sizeLine := by omega
    have hkl : (kvK (A ++ (x, l :: xs) :: B)).length < sizeLine := by
      rw [kvK_len]
      have := congrArg List.length hk.nm
      rw [List.length_map] at this
      omega
    unfold drawA
    rw [getA_split h1, setA_split h1 h2, ← ih, List.map_cons]
    conv => lhs; unfold forGo
    simp [lpC, kvK_get h1, cut_1, dputS, kvK_put h1 h2, hsz, isKey, hkl]
end Fp
set_option maxHeartbeats 1000000
/-! `_law_push` by value; ways through a pipe -/
namespace Fp
open PySem
variable {G : Str → List D → Res D} {ps : List PipeT} {ws : List WayT}
def lp0 : S := (.dst 5 (.lc [8, 9] (.tup (.cons (.idx (.var 9) (.cst (.int 0))) (.cons (.blt .list (.var 8)) .nil))) (.tp (.cons (.nm 9) (.cons (.nm 8) .nil))) (.zip (.idx (.var 0) (.cst (.int 0))) (.var 1)) .no))
def lp1 : S := (.set (.nm 6) (.blt .list (.idx (.dct (.idx (.var 0) (.cst (.int 1)))) (.var 2))))
def lpI : It := (.seq (.ite (.cmp .Eq (.var 4) (.cst (.int 1))) (.var 6) (.rev (.var 6))))
def lp3 : S := (.ret (.tup (.cons (.blt .tuple (.lc [9] (.blt .tuple (.idx (.own 5) (.idx (.var 9) (.cst (.int 0))))) (.nm 9) (.seq (.idx (.var 0) (.cst (.int 0)))) .no)) (.cons (.var 3) .nil))))
theorem lp_code : c__law_push = .cons lp0 (.cons lp1 (.cons (.for_ [7, 8] (.nm 7) lpI lpC) (.cons lp3 .nil))) := rfl
theorem kv_zip {kv : KV} (h : kv.map (·.1) = ps.map (·.1)) : (ps.map pipeD).zip (kv.map fun p => PyData.tuple p.2) = (ps.zip kv).map fun q => (pipeD q.1, .tuple q.2.2) := by
  rw [List.zip_map]
  rfl
theorem zip_fst : ∀ {ps : List PipeT} {kv : KV}, kv.map (·.1) = ps.map (·.1) → (ps.zip kv).map (fun q => (q.1.1, PyData.list q.2.2)) = kv.map fun p => (p.1, PyData.list p.2)
  | [], [], _ => rfl
  | [], _ :: _, h => by simp at h
  | _ :: _, [], h => by simp at h
  | p :: ps, k :: kv, h => by
    simp only [List.map_cons, List.cons.injEq] at h
    simp only [List.zip_cons_cons, List.map_cons, zip_fst h.2, h.1]
theorem lp0_ok (h : NetG ps ws) {kv : KV} (hk : KvOk (ps.map (·.1)) kv) {b c d : Slot} : exS G lp0 [.fz (netD ps ws), .fz (kvD kv), b, c, d, .no, .no, .no, .no, .no] = .nx [.fz (netD ps ws), .fz (kvD kv), b, c, d, .ow (.dict (kvK kv)), .no, .no, .no, .no] := by
  have hn : (kv.map (·.1)).Nodup := by rw [hk.nm]; exact h.np
  have hd := (dict_of (l := kv.map fun p => (p.1, PyData.list p.2)) (by rw [List.map_map]; exact hn)).1
  simp only [lp0, ex_dst, ev_lc, evi_zip, ev_idx, ev_var, ev_cst, slot_0, slot_s, ok_bind, netD, idx_t, at_0, must_some, kvD, seq_t, pairsD, kv_zip hk.nm, List.map_map, wipe_cons, wipe_nil, List.set_cons_succ, List.set_cons_zero]
  rw [lc_map _ (fun q : PipeT × (Str × List D) => [.fz (.tuple [.tuple (ps.map pipeD), .tuple (ws.map wayD)]), .fz (.tuple (kv.map fun p => .tuple p.2)), b, c, d, .no, .no, .no, .fz (.tuple q.2.2), .fz (pipeD q.1)]) (fun q => .tuple [.str q.1.1, .list q.2.2]) (by simp) (by simp) (by simp [pipeD])]
  have e : (ps.zip kv).map (fun q => PyData.tuple [.str q.1.1, .list q.2.2]) = (kv.map fun p => (p.1, PyData.list p.2)).map fun p => PyData.tuple [.str p.1, p.2] := by
    rw [← zip_fst hk.nm, List.map_map]
    rfl
  simp only [ok_bind]
  rw [e, hd]
  simp [kvK]
theorem lp1_ok (h : NetG ps ws) {w : WayT} (hw : w ∈ ws) {a b c d : Slot} : exS G lp1 [.fz (netD ps ws), a, .fz (.str w.1), b, c, d, .no, .no, .no, .no] = .nx [.fz (netD ps ws), a, .fz (.str w.1), b, c, d, .fz (.list (w.2.map .str)), .no, .no, .no] := by
  have hd := (dict_of (l := ws.map fun w => (w.1, rowD w.2)) (by rw [List.map_map]; exact h.nw)).2
  have hd' : dictD (.tuple (ws.map wayD)) = .ok (.dict (ws.map fun w => (.str w.1, rowD w.2))) := by
    rw [List.map_map, List.map_map] at hd
    exact hd
  obtain ⟨A, B, e, hA⟩ := h.way hw
  have hg : dgetD (ws.map fun w => (PyData.str w.1, rowD w.2)) (.str w.1) = some (rowD w.2) := by
    rw [e]
    exact dget_mid (f := fun w : WayT => w.1) (g := fun w => rowD w.2) (q := w) hA
  simp [lp1, netD, hd', hg]
  simp [rowD]
theorem lp3_ok (h : NetG ps ws) {kv : KV} (hk : KvOk (ps.map (·.1)) kv) {a b d f : Slot} {s : D} : exS G lp3 [.fz (netD ps ws), a, b, .fz s, d, .ow (.dict (kvK kv)), f, .no, .no, .no] = .rt (.tuple [kvD kv, s]) := by
  have hn : (kv.map (·.1)).Nodup := by rw [hk.nm]; exact h.np
  have hg : ∀ q ∈ ps, dgetD (kvK kv) (.str q.1) = some (.list (getA kv q.1)) := fun q hq => by
    have hx : q.1 ∈ kv.map (·.1) := by rw [hk.nm]; exact List.mem_map_of_mem hq
    obtain ⟨A, r, B, rfl, h1, h2⟩ := split_kv hn hx
    rw [kvK_get h1, getA_split h1]
  simp only [lp3, ex_ret, ev_tup, evs_cons, ev_blt, ev_lc, evi_seq, ev_idx, ev_var, ev_cst, slot_0, slot_s, ok_bind, netD, idx_t, at_0, must_some, items_t, wipe_cons, wipe_nil, List.set_cons_succ, List.set_cons_zero]
  rw [lc_map pipeD (fun q => [.fz (.tuple [.tuple (ps.map pipeD), .tuple (ws.map wayD)]), a, b, .fz s, d, .ow (.dict (kvK kv)), f, .no, .no, .fz (pipeD q)]) (fun q => .tuple (getA kv q.1)) (by simp) (by simp) (fun q hq => by simp [pipeD, hg q hq])]
  have e : ps.map (fun q => PyData.tuple (getA kv q.1)) = kv.map fun p => PyData.tuple p.2 := by
    have e1 : ps.map (fun q => PyData.tuple (getA kv q.1)) = (ps.map (·.1)).map fun x => PyData.tuple (getA kv x) := by rw [List.map_map]; rfl
    rw [e1, ← hk.nm, List.map_map]
    refine List.map_congr_left fun p hp => ?_
    obtain ⟨A, B, e2⟩ := List.append_of_mem hp
    have h1 : p.1 ∉ A.map (·.1) := by
      rw [e2, List.map_append, List.nodup_append] at hn
      exact fun q => hn.2.2 _ q _ (by simp) rfl
    show PyData.tuple (getA kv p.1) = .tuple p.2
    rw [e2]
    have := getA_split (B := B) (r := p.2) h1
    rw [this]
  simp [e, kvD]
theorem v_law_push (h : NetG ps ws) {w : WayT} (hw : w ∈ ws) {kv : KV} (hk : KvOk (ps.map (·.1)) kv) (s : D) :
    fnD G 5 5 c__law_push [netD ps ws, kvD kv, .str w.1, s, .int 1] = .ok (.tuple [kvD (pushA w.2 kv s).1, (pushA w.2 kv s).2]) := by
  have L := lp_loop (G := G) (a := .fz (netD ps ws)) (b := .fz (kvD kv)) (c := .fz (.str w.1)) (d := .fz (.list (w.2.map .str))) h.np (by simpa using h.pl) (row := w.2) (kv := kv) (s := s) (h.sub w hw) hk
  rw [fnD_eq (by rfl), lp_code]
  show finD (exSs G _ [.fz (netD ps ws), .fz (kvD kv), .fz (.str w.1), .fz s, .fz (.int 1), .no, .no, .no, .no, .no]) = _
  rw [ex_cons, lp0_ok h hk, then_nx, ex_cons, lp1_ok h hw, then_nx, ex_cons, ex_for]
  have ei : evi G lpI [.fz (netD ps ws), .fz (kvD kv), .fz (.str w.1), .fz s, .fz (.int 1), .ow (.dict (kvK kv)), .fz (.list (w.2.map .str)), .no, .no, .no] = .ok (w.2.map .str) := by simp [lpI]
  rw [ei, liftR_ok]
  simp only [wipe_cons, wipe_nil, List.set_cons_succ, List.set_cons_zero]
  rw [L, then_nx, ex_cons, lp3_ok h (KvOk.push h.np (h.sub w hw) hk)]
  rfl
theorem v_law_push_ (h : NetG ps ws) {w : WayT} (hw : w ∈ ws) {kv : KV} (hk : KvOk (ps.map (·.1)) kv) (s : D) :
    fnD G 5 5 c__law_push [netD ps ws, kvD kv, .str w.1, s, .int (-1)] = .ok (.tuple [kvD (drawA w.2.reverse kv s).1, (drawA w.2.reverse kv s).2]) := by
  have hsub : ∀ x ∈ w.2.reverse, x ∈ ps.map (·.1) := fun x hx => h.sub w hw x (List.mem_reverse.mp hx)
  have L := ld_loop (G := G) (a := .fz (netD ps ws)) (b := .fz (kvD kv)) (c := .fz (.str w.1)) (d := .fz (.list (w.2.map .str))) h.np (by simpa using h.pl) (row := w.2.reverse) (kv := kv) (s := s) hsub hk
  rw [fnD_eq (by rfl), lp_code]
  show finD (exSs G _ [.fz (netD ps ws), .fz (kvD kv), .fz (.str w.1), .fz s, .fz (.int (-1)), .no, .no, .no, .no, .no]) = _
  rw [ex_cons, lp0_ok h hk, then_nx, ex_cons, lp1_ok h hw, then_nx, ex_cons, ex_for]
  have ei : evi G lpI [.fz (netD ps ws), .fz (kvD kv), .fz (.str w.1), .fz s, .fz (.int (-1)), .ow (.dict (kvK kv)), .fz (.list (w.2.map .str)), .no, .no, .no] = .ok (w.2.reverse.map .str) := by simp [lpI]
  rw [ei, liftR_ok]
  simp only [wipe_cons, wipe_nil, List.set_cons_succ, List.set_cons_zero]
  rw [L, then_nx, ex_cons, lp3_ok h (KvOk.draw h.np hsub hk)]
  rfl
/-! ### ways through a pipe -/
def through (ws : List WayT) (x : Str) : List Str := (ws.filter fun w => w.2.any fun z => z == x).map (·.1)
theorem in_row {r : List Str} {x : Str} (hr : ∀ s ∈ r, isNm s = true) (hx : isNm x = true) : inD (.str x) (rowD r) = .ok (r.any fun z => z == x) := by
  unfold rowD
  rw [inD_tup (n := 1) (m := 1) (sh_str (nm_lay hx)) (row_sh hr) (by decide) (by decide), any_map]
  simp
theorem NetG.row_nm (h : NetG ps ws) {w : WayT} (hw : w ∈ ws) : ∀ s ∈ w.2, isNm s = true := fun s hs => by
  obtain ⟨p, hp, e⟩ := List.mem_map.mp (h.sub w hw s hs)
  rw [← e]
  exact h.nmp p hp
theorem v_plain_through (h : NetG ps ws) {x : Str} (hx : isNm x = true) : fnD G 2 1 c_plain_through [netD ps ws, .str x] = .ok (.list ((through ws x).map .str)) := by
  rw [fnD_eq (by rfl)]
  show finD (exSs G c_plain_through [.fz (netD ps ws), .fz (.str x), .no]) = _
  simp only [c_plain_through, ex_cons, ex_ret, ev_lc, evi_seq, ev_idx, ev_var, ev_cst, slot_0, slot_s, ok_bind, netD, idx_t, at_0, at_1, must_some, items_t, wipe_cons, wipe_nil, List.set_cons_succ, List.set_cons_zero]
  rw [lc_filter wayD (fun w => [.fz (.tuple [.tuple (ps.map pipeD), .tuple (ws.map wayD)]), .fz (.str x), .fz (wayD w)]) (fun w => w.2.any fun z => z == x) (fun w => .str w.1) (by simp) (fun w hw => by simp [wayD, in_row (h.row_nm hw) hx]) (by simp [wayD])]
  simp [through]
def isPipeOf (ps : List PipeT) (d : D) : Bool := isName d && (match d with
  | .str x => (ps.map (·.1)).any fun z => z == x
  | _ => false)
theorem NetG.names (h : NetG ps ws) : ∀ s ∈ ps.map (·.1), isNm s = true := fun s hs => by
  obtain ⟨p, hp, e⟩ := List.mem_map.mp hs
  rw [← e]
  exact h.nmp p hp
theorem NetG.wnames (h : NetG ps ws) : ∀ s ∈ ws.map (·.1), isNm s = true := fun s hs => by
  obtain ⟨p, hp, e⟩ := List.mem_map.mp hs
  rw [← e]
  exact h.nmw p hp
theorem v_look_pipe (h : NetG ps ws) (h1 : G "pipes_in" [netD ps ws] = .ok (.list ((ps.map (·.1)).map .str))) (h3 : ∀ d, G "is_name" [d] = .ok (.bool (isName d))) (d : D) : fnD G 2 0 c_look_pipe [netD ps ws, d] = if isPipeOf ps d = true then .ok .none else .exc "NoPipe" := by
  cases hn : isName d with
  | false => simp [c_look_pipe, h3, hn, isPipeOf]
  | true =>
    obtain ⟨x, rfl, hx⟩ := name_str hn
    have hin := in_names h.names hx
    rw [fnD_eq (by rfl)]
    show finD (exSs G c_look_pipe [.fz (netD ps ws), .fz (.str x)]) = _
    simp only [c_look_pipe, ex_cons, ex_ite, ev_bop, evb_o, ev_not, ev_call, evs_cons, evs_nil, ev_var, slot_0, slot_s, ok_bind, h3, hn, asBool_bool, Bool.not_true, orGo_f, evb_1, ev_cmp, h1, cmp_nin, hin, liftR_ok, isPipeOf, Bool.true_and]
    cases (ps.map (·.1)).any fun z => z == x <;> rfl
theorem v_ways_through {n d : D} {r1 r2 : Res D} (h1 : G "look_net" [n] = r1) (h2 : G "look_pipe" [n, d] = r2) : fnD G 2 0 c_ways_through [n, d] = r1 >>= fun _ => r2 >>= fun _ => G "plain_through" [n, d] := by
  cases r1 <;> cases r2 <;> cases hp : G "plain_through" [n, d] <;> simp [c_ways_through, h1, h2, hp] <;> rfl
end Fp
set_option maxHeartbeats 1000000
/-! what the defs promise, one by one: Sp_f of a def f, s_f from the promises of what it calls -/
namespace Fp
open PySem
variable {G : Str → List D → Res D} {ps : List PipeT} {ws : List WayT}
mutual
theorem eqv_rfl : ∀ {d : D}, d.canLay0 = true → PyData.eqv d d = true
  | .none, _ => by simp [PyData.eqv]
  | .bool b, _ => by simp [PyData.eqv]
  | .int i, _ => by simp [PyData.eqv]
  | .str s, _ => by simp [PyData.eqv]
  | .list xs, h => by rw [PyData.eqv]; exact eqvs_rfl (by simpa [PyData.canLay0] using h)
  | .tuple xs, h => by rw [PyData.eqv]; exact eqvs_rfl (by simpa [PyData.canLay0] using h)
  | .dict xs, h => by cases h
theorem eqvs_rfl : ∀ {ds : List D}, PyData.canLayAll0 ds = true → PyData.eqvAll ds ds = true
  | [], _ => by simp [PyData.eqvAll]
  | d :: ds, h => by
    simp only [PyData.canLayAll0, Bool.and_eq_true] at h
    rw [PyData.eqvAll, eqv_rfl h.1, eqvs_rfl h.2]
    rfl
end
theorem eqD_rfl {n : Nat} {d : D} (h : sh n d) (hn : n ≤ 64) : eqD d d = .ok true := by rw [eqD_sh h h hn hn, eqv_rfl h.1]
def Sp_is_whole (F : List D → Res D) : Prop := ∀ a l m, F [a, .int l, .int m] = .ok (.bool (isWhole a l m))
theorem s_is_whole : Sp_is_whole (fnD G 3 0 c_is_whole) := v_is_whole
def Sp_is_name (F : List D → Res D) : Prop := ∀ d, F [d] = .ok (.bool (isName d))
theorem s_is_name : Sp_is_name (fnD G 1 1 c_is_name) := v_is_name
def Sp_is_rising (F : List D → Res D) : Prop := ∀ ss : List Str, F [.list (ss.map .str)] = .ok (.bool (rises ss))
theorem s_is_rising : Sp_is_rising (fnD G 1 2 c_is_rising) := v_is_rising
def Sp_is_pair (F : List D → Res D) : Prop := ∀ d, F [d] = .ok (.bool (isPair d))
theorem s_is_pair (h1 : Sp_is_name (G "is_name")) : Sp_is_pair (fnD G 1 0 c_is_pair) := v_is_pair h1
def Sp_are_pipes (F : List D → Res D) : Prop := ∀ d, F [d] = .ok (.bool (arePipes d))
theorem s_are_pipes (h1 : Sp_is_pair (G "is_pair")) (h2 : Sp_is_whole (G "is_whole")) (h3 : Sp_is_rising (G "is_rising")) : Sp_are_pipes (fnD G 1 1 c_are_pipes) := v_are_pipes h1 h2 h3
def Sp_is_row (F : List D → Res D) : Prop := ∀ (names : List Str) d, (∀ s ∈ names, isNm s = true) → sh 60 d → F [.list (names.map .str), d] = .ok (.bool (isRow names d))
theorem s_is_row (h1 : Sp_is_name (G "is_name")) : Sp_is_row (fnD G 2 2 c_is_row) := fun names d hn hd => v_is_row h1 names hn d hd
def Sp_is_net (F : List D → Res D) : Prop := ∀ d, sh 63 d → F [d] = .ok (.bool (isNet d))
theorem s_is_net (h1 : Sp_are_pipes (G "are_pipes")) (h2 : Sp_is_pair (G "is_pair")) (h3 : Sp_is_row (G "is_row")) (h4 : Sp_is_rising (G "is_rising")) : Sp_is_net (fnD G 1 5 c_is_net) := v_is_net h1 h2 h3 h4
def Sp_look_net (F : List D → Res D) : Prop := ∀ d, sh 63 d → F [d] = if isNet d = true then .ok .none else .exc "NoNet"
theorem s_look_net (h1 : Sp_is_net (G "is_net")) : Sp_look_net (fnD G 1 0 c_look_net) := v_look_net h1
theorem Sp_look_net.yes {F : List D → Res D} (h : Sp_look_net F) (hn : NetG ps ws) : F [netD ps ws] = .ok .none := by
  rw [h _ (hn.shp.mono (by decide)), if_pos hn.net]
theorem Sp_look_net.no {F : List D → Res D} (h : Sp_look_net F) {d : D} (hd : sh 63 d) (hn : isNet d = false) : F [d] = .exc "NoNet" := by
  rw [h _ hd, hn]
  rfl
def Sp_is_state_of (F : List D → Res D) : Prop := ∀ ps ws d, NetG ps ws → F [netD ps ws, d] = .ok (.bool (isStateOf ps d))
theorem s_is_state_of (h1 : Sp_is_name (G "is_name")) : Sp_is_state_of (fnD G 2 3 c_is_state_of) := fun ps ws d h => v_is_state_of h1 ps (fun p hp => (h.lo p hp).2) h.pl _ d
def Sp_is_state (F : List D → Res D) : Prop := (∀ ps ws d, NetG ps ws → F [netD ps ws, d] = .ok (.bool (isStateOf ps d))) ∧ ∀ n d, sh 63 n → isNet n = false → F [n, d] = .exc "NoNet"
theorem s_is_state (h1 : Sp_look_net (G "look_net")) (h2 : Sp_is_state_of (G "is_state_of")) : Sp_is_state (fnD G 2 0 c_is_state) :=
  ⟨fun ps ws d h => by rw [v_is_state h1 _ d (h.shp.mono (by decide)) _ (fun _ => h2 ps ws d h), if_pos h.net], fun n d hs hn => by
    rw [v_is_state h1 n d hs .err (fun z => by rw [hn] at z; cases z), hn]
    rfl⟩
def Sp_look_state (F : List D → Res D) : Prop := ∀ ps ws d, NetG ps ws → F [netD ps ws, d] = if isStateOf ps d = true then .ok .none else .exc "NoState"
theorem s_look_state (h1 : Sp_is_state_of (G "is_state_of")) : Sp_look_state (fnD G 2 0 c_look_state) := fun ps ws d h => v_look_state (h1 ps ws d h)
def Sp_ways_in (F : List D → Res D) : Prop := ∀ (ps : List PipeT) (ws : List WayT), F [netD ps ws] = .ok (.list ((ws.map (·.1)).map .str))
theorem s_ways_in : Sp_ways_in (fnD G 1 1 c_ways_in) := fun ps ws => v_ways_in _
def Sp_pipes_in (F : List D → Res D) : Prop := ∀ (ps : List PipeT) (ws : List WayT), F [netD ps ws] = .ok (.list ((ps.map (·.1)).map .str))
theorem s_pipes_in : Sp_pipes_in (fnD G 1 1 c_pipes_in) := fun ps ws => v_pipes_in _
def Sp_row_of (F : List D → Res D) : Prop := ∀ ps ws, NetG ps ws → ∀ w ∈ ws, F [netD ps ws, .str w.1] = .ok (rowD w.2)
theorem s_row_of (h1 : Sp_ways_in (G "ways_in")) : Sp_row_of (fnD G 2 0 c_row_of) := fun ps ws h w hw => v_row_of h (h1 ps ws) hw
def isWayOf (ws : List WayT) (d : D) : Bool := isName d && (match d with
  | .str x => (ws.map (·.1)).any fun z => z == x
  | _ => false)
def Sp_look_way (F : List D → Res D) : Prop := ∀ ps ws d, NetG ps ws → F [netD ps ws, d] = if isWayOf ws d = true then .ok .none else .exc "NoWay"
theorem s_look_way (h1 : Sp_is_name (G "is_name")) (h2 : Sp_ways_in (G "ways_in")) : Sp_look_way (fnD G 2 0 c_look_way) := fun ps ws d h => by
  cases hn : isName d with
  | false => simp [c_look_way, h1 d, hn, isWayOf]
  | true =>
    obtain ⟨x, rfl, hx⟩ := name_str hn
    have hin := in_names h.wnames hx
    have e1 := h1 (.str x)
    rw [hn] at e1
    rw [fnD_eq (by rfl)]
    show finD (exSs G c_look_way [.fz (netD ps ws), .fz (.str x)]) = _
    simp only [c_look_way, ex_cons, ex_ite, ev_bop, evb_o, ev_not, ev_call, evs_cons, evs_nil, ev_var, slot_0, slot_s, ok_bind, e1, hn, asBool_bool, Bool.not_true, orGo_f, evb_1, ev_cmp, h2 ps ws, cmp_nin, hin, liftR_ok, isWayOf, Bool.true_and]
    cases (ws.map (·.1)).any fun z => z == x <;> rfl
def Sp_look_pipe (F : List D → Res D) : Prop := ∀ ps ws d, NetG ps ws → F [netD ps ws, d] = if isPipeOf ps d = true then .ok .none else .exc "NoPipe"
theorem s_look_pipe (h1 : Sp_pipes_in (G "pipes_in")) (h2 : Sp_is_name (G "is_name")) : Sp_look_pipe (fnD G 2 0 c_look_pipe) := fun ps ws d h => v_look_pipe h (h1 ps ws) h2 d
def Sp_is_push_of (F : List D → Res D) : Prop := ∀ ps ws d, NetG ps ws → F [netD ps ws, d] = .ok (.bool (isPushOf ws d))
theorem s_is_push_of (h1 : Sp_ways_in (G "ways_in")) (h2 : Sp_is_pair (G "is_pair")) (h3 : Sp_is_name (G "is_name")) : Sp_is_push_of (fnD G 2 0 c_is_push_of) := fun ps ws d h => v_is_push_of h (h1 ps ws) h2 h3 d
def Sp_look_push (F : List D → Res D) : Prop := ∀ ps ws d, NetG ps ws → F [netD ps ws, d] = if isPushOf ws d = true then .ok .none else .exc "NoPush"
theorem s_look_push (h1 : Sp_is_push_of (G "is_push_of")) : Sp_look_push (fnD G 2 0 c_look_push) := fun ps ws d h => v_look_push (h1 ps ws d h)
def Sp_plain_pushed (F : List D → Res D) : Prop := ∀ ps ws, NetG ps ws → ∀ w ∈ ws, ∀ kv, KvOk (ps.map (·.1)) kv → ∀ s, F [netD ps ws, kvD kv, .tuple [.str w.1, s]] = .ok (.tuple [kvD (pushA w.2 kv s).1, (pushA w.2 kv s).2])
theorem s_plain_pushed (h1 : Sp_pipes_in (G "pipes_in")) (h2 : Sp_row_of (G "row_of")) : Sp_plain_pushed (fnD G 3 6 c_plain_pushed) := fun ps ws h w hw kv hk s => v_plain_pushed h (h1 ps ws) hw (h2 ps ws h w hw) hk s
def Sp_plain_drawn (F : List D → Res D) : Prop := ∀ ps ws, NetG ps ws → ∀ w ∈ ws, ∀ kv, KvOk (ps.map (·.1)) kv → ∀ s, F [netD ps ws, kvD kv, .tuple [.str w.1, s]] = .ok (.tuple [kvD (drawA w.2.reverse kv s).1, (drawA w.2.reverse kv s).2])
theorem s_plain_drawn (h1 : Sp_pipes_in (G "pipes_in")) (h2 : Sp_row_of (G "row_of")) : Sp_plain_drawn (fnD G 3 6 c_plain_drawn) := fun ps ws h w hw kv hk s => v_plain_drawn h (h1 ps ws) hw (h2 ps ws h w hw) hk s
def Sp_look_pushed (F : List D → Res D) : Prop := (∀ ps ws d e, NetG ps ws → F [netD ps ws, d, e] = if isStateOf ps d = true then (if isPushOf ws e = true then .ok .none else .exc "NoPush") else .exc "NoState") ∧ ∀ n d e, sh 63 n → isNet n = false → F [n, d, e] = .exc "NoNet"
theorem s_look_pushed (h1 : Sp_look_net (G "look_net")) (h2 : Sp_look_state (G "look_state")) (h3 : Sp_look_push (G "look_push")) : Sp_look_pushed (fnD G 3 0 c_look_pushed) :=
  ⟨fun ps ws d e h => by
    rw [v_look_pushed (h1.yes h) (h2 ps ws d h) (h3 ps ws e h)]
    cases isStateOf ps d <;> cases isPushOf ws e <;> rfl, fun n d e hs hn => by
    rw [v_look_pushed (h1.no hs hn) rfl rfl]
    rfl⟩
/-- a push's name -/
theorem push_yes {w : WayT} (h : NetG ps ws) (hw : w ∈ ws) {s : D} (hs : isName s = true) : isPushOf ws (.tuple [.str w.1, s]) = true := by
  show (isNm w.1 && (((ws.map (·.1)).any fun z => z == w.1) && isName s)) = true
  have : ((ws.map (·.1)).any fun z => z == w.1) = true := by
    rw [List.any_eq_true]
    exact ⟨w.1, List.mem_map_of_mem hw, by simp⟩
  rw [h.nmw w hw, this, hs]
  rfl
structure Pushed (F : List D → Res D) (pu : List Str → KV → D → KV × D) : Prop where
  yes : ∀ ps ws, NetG ps ws → ∀ w ∈ ws, ∀ kv, KvOk (ps.map (·.1)) kv → isStateOf ps (kvD kv) = true → ∀ s, isName s = true → F [netD ps ws, kvD kv, .tuple [.str w.1, s]] = .ok (.tuple [kvD (pu w.2 kv s).1, (pu w.2 kv s).2])
  net : ∀ n d e, sh 63 n → isNet n = false → F [n, d, e] = .exc "NoNet"
  st : ∀ ps ws d e, NetG ps ws → isStateOf ps d = false → F [netD ps ws, d, e] = .exc "NoState"
  pu : ∀ ps ws d e, NetG ps ws → isStateOf ps d = true → isPushOf ws e = false → F [netD ps ws, d, e] = .exc "NoPush"
def Sp_pushed (F : List D → Res D) : Prop := Pushed F pushA
def Sp_drawn (F : List D → Res D) : Prop := Pushed F fun r kv s => drawA r.reverse kv s
theorem s_pushed (h1 : Sp_look_pushed (G "look_pushed")) (h2 : Sp_plain_pushed (G "plain_pushed")) : Sp_pushed (fnD G 3 0 c_pushed) where
  yes ps ws h w hw kv hk hst s hs := by
    rw [v_pushed (h1.1 ps ws _ _ h) (fun _ => rfl), if_pos hst, if_pos (push_yes h hw hs)]
    exact h2 ps ws h w hw kv hk s
  net n d e hs hn := by rw [v_pushed (h1.2 n d e hs hn) (fun _ => rfl)]; rfl
  st ps ws d e h hst := by rw [v_pushed (h1.1 ps ws _ _ h) (fun _ => rfl), hst]; rfl
  pu ps ws d e h hst hp := by rw [v_pushed (h1.1 ps ws _ _ h) (fun _ => rfl), hst, hp]; rfl
theorem s_drawn (h1 : Sp_look_pushed (G "look_pushed")) (h2 : Sp_plain_drawn (G "plain_drawn")) : Sp_drawn (fnD G 3 0 c_drawn) where
  yes ps ws h w hw kv hk hst s hs := by
    rw [v_drawn_ (h1.1 ps ws _ _ h) (fun _ => rfl), if_pos hst, if_pos (push_yes h hw hs)]
    exact h2 ps ws h w hw kv hk s
  net n d e hs hn := by rw [v_drawn_ (h1.2 n d e hs hn) (fun _ => rfl)]; rfl
  st ps ws d e h hst := by rw [v_drawn_ (h1.1 ps ws _ _ h) (fun _ => rfl), hst]; rfl
  pu ps ws d e h hst hp := by rw [v_drawn_ (h1.1 ps ws _ _ h) (fun _ => rfl), hst, hp]; rfl
def Sp_plain_through (F : List D → Res D) : Prop := ∀ ps ws, NetG ps ws → ∀ x : Str, isNm x = true → F [netD ps ws, .str x] = .ok (.list ((through ws x).map .str))
theorem s_plain_through : Sp_plain_through (fnD G 2 1 c_plain_through) := fun ps ws h x hx => v_plain_through h hx
structure Sp_ways_through (F : List D → Res D) : Prop where
  yes : ∀ ps ws, NetG ps ws → ∀ p ∈ ps, F [netD ps ws, .str p.1] = .ok (.list ((through ws p.1).map .str))
  net : ∀ n d, sh 63 n → isNet n = false → F [n, d] = .exc "NoNet"
  no : ∀ ps ws d, NetG ps ws → isPipeOf ps d = false → F [netD ps ws, d] = .exc "NoPipe"
theorem s_ways_through (h1 : Sp_look_net (G "look_net")) (h2 : Sp_look_pipe (G "look_pipe")) (h3 : Sp_plain_through (G "plain_through")) : Sp_ways_through (fnD G 2 0 c_ways_through) where
  yes ps ws h p hp := by
    rw [v_ways_through (h1.yes h) (h2 ps ws _ h)]
    have hn : isName (.str p.1) = true := h.nmp p hp
    have : ((ps.map (·.1)).any fun z => z == p.1) = true := by
      rw [List.any_eq_true]
      exact ⟨p.1, List.mem_map_of_mem hp, by simp⟩
    rw [if_pos (by unfold isPipeOf; rw [hn]; exact this)]
    exact h3 ps ws h p.1 (h.nmp p hp)
  net n d hs hn := by rw [v_ways_through (h1.no hs hn) rfl]; rfl
  no ps ws d h hp := by
    rw [v_ways_through (h1.yes h) (h2 ps ws _ h), hp]
    rfl
/-! ### the laws' own defs -/
def Sp__law_drawn (F : List D → Res D) : Prop := ∀ ns : List Int, ns.length ≤ 63 → ∀ k m : Int, 0 < m → ∃ r, F [.list (ns.map .int), .int k, .int m] = .ok (.int r) ∧ 0 ≤ r ∧ r < m
theorem s__law_drawn : Sp__law_drawn (fnD G 3 3 c__law_drawn) := fun ns hl k m hm => v_drawn ns (by omega) k m hm
def Sp__law_net (F : List D → Res D) : Prop := ∀ ns : List Int, ns.length ≤ 63 → ∀ at_ : Int, ∃ ps ws, F [.list (ns.map .int), .int at_] = .ok (netD ps ws) ∧ GoodN ps ws
theorem s__law_net (h1 : Sp__law_drawn (G "_law_drawn")) : Sp__law_net (fnD G 2 7 c__law_net) := fun ns hl at_ => v_law_net ns (fun k m hm => h1 ns hl k m hm) at_
def Sp__law_state (F : List D → Res D) : Prop := ∀ ns : List Int, ns.length ≤ 63 → ∀ (at_ : Int) ps w, GoodP ps → ∃ st, F [.list (ns.map .int), .int at_, .tuple [.tuple (ps.map pipeD), w]] = .ok (stateD st) ∧ GoodS ps st
theorem s__law_state (h1 : Sp__law_drawn (G "_law_drawn")) : Sp__law_state (fnD G 3 5 c__law_state) := fun ns hl at_ ps w hp => v_law_state ns (fun k m hm => h1 ns hl k m hm) at_ ps hp w
structure Sp__law_push (F : List D → Res D) : Prop where
  pu : ∀ ps ws, NetG ps ws → ∀ w ∈ ws, ∀ kv, KvOk (ps.map (·.1)) kv → ∀ s, F [netD ps ws, kvD kv, .str w.1, s, .int 1] = .ok (.tuple [kvD (pushA w.2 kv s).1, (pushA w.2 kv s).2])
  dr : ∀ ps ws, NetG ps ws → ∀ w ∈ ws, ∀ kv, KvOk (ps.map (·.1)) kv → ∀ s, F [netD ps ws, kvD kv, .str w.1, s, .int (-1)] = .ok (.tuple [kvD (drawA w.2.reverse kv s).1, (drawA w.2.reverse kv s).2])
theorem s__law_push : Sp__law_push (fnD G 5 5 c__law_push) := ⟨fun ps ws h w hw kv hk s => v_law_push h hw hk s, fun ps ws h w hw kv hk s => v_law_push_ h hw hk s⟩
theorem tre_rt {xs : List Str} {c t : Str} {i : Nat} {h : Slots → Fl} {ρ : Slots} {d : D} (h1 : c ∈ xs) (h2 : subX c t = true) (h3 : h (ρ.set i (.ex c)) = .rt d) : treGo xs t i h (.ex c ρ) = .rt d := by
  unfold treGo
  dsimp only
  rw [if_pos h1, if_pos h2, h3]
/-! ### states -/
theorem state_kv {names : List Str} : ∀ {st : List (List Str)}, names.length = st.length → ∃ kv : KV, kvD kv = stateD st ∧ kv.map (·.1) = names ∧ kv.map (·.2) = st.map fun r => r.map .str := by
  induction names with
  | nil =>
    intro st h
    cases st with
    | nil => exact ⟨[], rfl, rfl, rfl⟩
    | cons r st => simp at h
  | cons n names ih =>
    intro st h
    cases st with
    | nil => simp at h
    | cons r st =>
      obtain ⟨kv, e1, e2, e3⟩ := ih (st := st) (by simpa using h)
      refine ⟨(n, r.map .str) :: kv, ?_, by simp [e2], by simp [e3]⟩
      unfold kvD stateD at e1 ⊢
      simp only [PyData.tuple.injEq] at e1
      simp [e1, rowD]
theorem GoodS.kv {st : List (List Str)} (hp : GoodP ps) (h : GoodS ps st) : ∃ kv : KV, kvD kv = stateD st ∧ KvOk (ps.map (·.1)) kv ∧ kv.map (·.2) = st.map fun r => r.map .str := by
  have hl : (ps.map (·.1)).length = st.length := by
    have := congrArg List.length h.len
    simp only [List.length_map] at this ⊢
    omega
  obtain ⟨kv, e1, e2, e3⟩ := state_kv hl
  refine ⟨kv, e1, ⟨e2, fun p hpk => ?_⟩, e3⟩
  have h1 : p.2 ∈ kv.map (·.2) := List.mem_map_of_mem hpk
  rw [e3] at h1
  obtain ⟨r, hr, e⟩ := List.mem_map.mp h1
  have h2 : (r.length : Int) ∈ st.map fun r => (r.length : Int) := List.mem_map_of_mem hr
  rw [h.len] at h2
  obtain ⟨q, hq, e4⟩ := List.mem_map.mp h2
  have := hp.lo q hq
  have hl2 : p.2.length = r.length := by rw [← e]; simp
  omega
/-- slugs that are names -/
def KvNm (kv : KV) : Prop := ∀ p ∈ kv, ∀ s ∈ p.2, isName s = true
theorem KvNm.sh {kv : KV} (h : KvNm kv) : sh 2 (kvD kv) := sh_t fun x hx => by
  obtain ⟨p, hp, rfl⟩ := List.mem_map.mp hx
  refine sh_t fun s hs => ?_
  obtain ⟨x, rfl, hx⟩ := name_str (h p hp s hs)
  exact sh_str (nm_lay hx)
theorem KvNm.get {kv : KV} (h : KvNm kv) (x : Str) : ∀ s ∈ getA kv x, isName s = true := fun s hs => by
  unfold getA at hs
  cases hf : kv.find? (fun p => p.1 == x) with
  | none => rw [hf] at hs; simp at hs
  | some p =>
    rw [hf] at hs
    exact h p (List.mem_of_find?_eq_some hf) s (by simpa using hs)
theorem KvNm.set {kv : KV} (h : KvNm kv) {x : Str} {r : List D} (hr : ∀ s ∈ r, isName s = true) : KvNm (setA kv x r) := fun p hp s hs => by
  obtain ⟨q, hq, rfl⟩ := List.mem_map.mp hp
  split at hs
  · exact hr s hs
  · exact h q hq s hs
theorem KvNm.push {names : List Str} (hn : names.Nodup) : ∀ {row : List Str} {kv : KV} {s : D}, (∀ x ∈ row, x ∈ names) → KvOk names kv → KvNm kv → isName s = true → KvNm (pushA row kv s).1 ∧ isName (pushA row kv s).2 = true
  | [], kv, s, _, _, h, hs => ⟨h, hs⟩
  | x :: row, kv, s, hx, hk, h, hs => by
    have hl := hk.get hn (hx x (by simp))
    obtain ⟨xs, l, e⟩ := snoc_of hl.1
    have hg := h.get x
    unfold pushA
    refine KvNm.push hn (fun y hy => hx y (by simp [hy])) (hk.set (by simp; omega)) (h.set fun y hy => ?_) ?_
    · rcases List.mem_cons.mp hy with rfl | hy
      · exact hs
      · exact hg y (List.dropLast_subset _ hy)
    · rw [e] at hg ⊢
      simpa using hg l (by simp)
theorem KvNm.draw {names : List Str} (hn : names.Nodup) : ∀ {row : List Str} {kv : KV} {s : D}, (∀ x ∈ row, x ∈ names) → KvOk names kv → KvNm kv → isName s = true → KvNm (drawA row kv s).1 ∧ isName (drawA row kv s).2 = true
  | [], kv, s, _, _, h, hs => ⟨h, hs⟩
  | x :: row, kv, s, hx, hk, h, hs => by
    have hl := hk.get hn (hx x (by simp))
    obtain ⟨l, xs, e⟩ := cons_of hl.1
    have hg := h.get x
    unfold drawA
    refine KvNm.draw hn (fun y hy => hx y (by simp [hy])) (hk.set (by simp; omega)) (h.set fun y hy => ?_) ?_
    · rcases List.mem_append.mp hy with hy | hy
      · exact hg y (List.mem_of_mem_drop hy)
      · rcases List.mem_singleton.mp hy with rfl
        exact hs
    · rw [e] at hg ⊢
      simpa using hg l (by simp)
theorem GoodS.nm {st : List (List Str)} (h : GoodS ps st) {kv : KV} (e : kv.map (·.2) = st.map fun r => r.map .str) : KvNm kv := fun p hp s hs => by
  have h1 : p.2 ∈ kv.map (·.2) := List.mem_map_of_mem hp
  rw [e] at h1
  obtain ⟨r, hr, e2⟩ := List.mem_map.mp h1
  rw [← e2] at hs
  obtain ⟨x, hx, rfl⟩ := List.mem_map.mp hs
  exact sl_nm x (h.slug r hr x hx)
end Fp
set_option maxHeartbeats 1000000
/-! runs, by value -/
namespace Fp
open PySem
variable {G : Str → List D → Res D} {ps : List PipeT} {ws : List WayT}
abbrev RunT := List (WayT × D)
def pushD (q : WayT × D) : D := .tuple [.str q.1.1, q.2]
def runD (r : RunT) : D := .list (r.map pushD)
def runA : RunT → KV → KV × List (Str × D)
  | [], kv => (kv, [])
  | q :: r, kv => ((runA r (pushA q.1.2 kv q.2).1).1, (q.1.1, (pushA q.1.2 kv q.2).2) :: (runA r (pushA q.1.2 kv q.2).1).2)
def outD (p : Str × D) : D := .tuple [.str p.1, p.2]
def outsD (os : List (Str × D)) : D := .list (os.map outD)
theorem runA_len : ∀ {r : RunT} {kv : KV}, (runA r kv).2.length = r.length
  | [], _ => rfl
  | q :: r, kv => by simp [runA, runA_len]
theorem KvOk.run (h : NetG ps ws) : ∀ {r : RunT} {kv : KV}, (∀ q ∈ r, q.1 ∈ ws) → KvOk (ps.map (·.1)) kv → KvOk (ps.map (·.1)) (runA r kv).1
  | [], _, _, hk => hk
  | q :: r, kv, hq, hk => by
    unfold runA
    exact KvOk.run h (fun x hx => hq x (by simp [hx])) (hk.push h.np (h.sub q.1 (hq q (by simp))))
theorem KvNm.run (h : NetG ps ws) : ∀ {r : RunT} {kv : KV}, (∀ q ∈ r, q.1 ∈ ws ∧ isName q.2 = true) → KvOk (ps.map (·.1)) kv → KvNm kv → KvNm (runA r kv).1 ∧ ∀ p ∈ (runA r kv).2, p.1 ∈ ws.map (·.1) ∧ isName p.2 = true
  | [], _, _, _, hn => ⟨hn, fun _ z => by cases z⟩
  | q :: r, kv, hq, hk, hn => by
    obtain ⟨h1, h2⟩ := hq q (by simp)
    have n1 := KvNm.push h.np (h.sub q.1 h1) hk hn h2
    have ih := KvNm.run h (r := r) (fun x hx => hq x (by simp [hx])) (hk.push h.np (h.sub q.1 h1)) n1.1
    unfold runA
    refine ⟨ih.1, fun p hp => ?_⟩
    rcases List.mem_cons.mp hp with rfl | hp
    · exact ⟨List.mem_map_of_mem h1, n1.2⟩
    · exact ih.2 p hp
def runC : Ss := (.cons (.set (.tp (.cons (.nm 1) (.cons (.nm 5) .nil))) (.call "plain_pushed" (.cons (.var 0) (.cons (.var 1) (.cons (.var 4) .nil))))) (.cons (.app 3 (.tup (.cons (.idx (.var 4) (.cst (.int 0))) (.cons (.var 5) .nil)))) .nil))
def Sp_plain_run (F : List D → Res D) : Prop := ∀ ps ws, NetG ps ws → ∀ (r : RunT) kv, (∀ q ∈ r, q.1 ∈ ws) → KvOk (ps.map (·.1)) kv → r.length ≤ 3000 → F [netD ps ws, kvD kv, runD r] = .ok (.tuple [kvD (runA r kv).1, outsD (runA r kv).2])
theorem run_loop (h : NetG ps ws) (h1 : Sp_plain_pushed (G "plain_pushed")) {b : Slot} : ∀ {r : RunT} {kv : KV} {acc : List (Str × D)}, (∀ q ∈ r, q.1 ∈ ws) → KvOk (ps.map (·.1)) kv → acc.length + r.length ≤ 3000 →
    forGo (.nm 4) [4, 5] (fun ρ => exSs G runC ρ) (r.map pushD) [.fz (netD ps ws), .fz (kvD kv), b, .ow (outsD acc), .no, .no] = .nx [.fz (netD ps ws), .fz (kvD (runA r kv).1), b, .ow (outsD (acc ++ (runA r kv).2)), .no, .no]
  | [], kv, acc, _, _, _ => by simp [forGo, runA]
  | q :: r, kv, acc, hq, hk, hl => by
    have hz : 10000 ≤ sizeLine := by decide
    have hw := hq q (by simp)
    have hp := h1 ps ws h q.1 hw kv hk q.2
    have ih := run_loop h h1 (b := b) (r := r) (kv := (pushA q.1.2 kv q.2).1) (acc := acc ++ [(q.1.1, (pushA q.1.2 kv q.2).2)]) (fun x hx => hq x (by simp [hx])) (hk.push h.np (h.sub q.1 hw)) (by simp at hl ⊢; omega)
    have hsz : acc.length < sizeLine := by simp at hl; omega
    rw [List.map_cons]
    conv => lhs; unfold forGo
    have e : (acc ++ [(q.1.1, (pushA q.1.2 kv q.2).2)]) ++ (runA r (pushA q.1.2 kv q.2).1).2 = acc ++ (runA (q :: r) kv).2 := by simp [runA]
    rw [e] at ih
    have e2 : (runA (q :: r) kv).1 = (runA r (pushA q.1.2 kv q.2).1).1 := rfl
    rw [e2, ← ih]
    have hp' : G "plain_pushed" [netD ps ws, kvD kv, pushD q] = .ok (.tuple [kvD (pushA q.1.2 kv q.2).1, (pushA q.1.2 kv q.2).2]) := hp
    simp [runC, hp', outsD, appD, hsz, outD, pushD]
    simp [pushD] at hp'
    simp [hp', hsz]
theorem s_plain_run (h1 : Sp_plain_pushed (G "plain_pushed")) : Sp_plain_run (fnD G 3 3 c_plain_run) := fun ps ws h r kv hr hk hl => by
  have L := run_loop (G := G) h h1 (b := .fz (runD r)) (r := r) (kv := kv) (acc := []) hr hk (by simpa using hl)
  rw [fnD_eq (by rfl)]
  show finD (exSs G (.cons (.own 3 (.lst (.nil))) (.cons (.for_ [4, 5] (.nm 4) (.seq (.var 2)) runC) (.cons (.frz 3) (.cons (.ret (.tup (.cons (.var 1) (.cons (.var 3) .nil)))) .nil)))) [.fz (netD ps ws), .fz (kvD kv), .fz (runD r), .no, .no, .no]) = _
  have c0 : exS G (.own 3 (.lst (.nil))) [.fz (netD ps ws), .fz (kvD kv), .fz (runD r), .no, .no, .no] = .nx [.fz (netD ps ws), .fz (kvD kv), .fz (runD r), .ow (outsD []), .no, .no] := by simp [outsD]
  rw [ex_cons, c0, then_nx, ex_cons, ex_for]
  have ei : evi G (.seq (.var 2)) [.fz (netD ps ws), .fz (kvD kv), .fz (runD r), .ow (outsD []), .no, .no] = .ok (r.map pushD) := by simp [runD]
  rw [ei, liftR_ok]
  simp only [wipe_cons, wipe_nil, List.set_cons_succ, List.set_cons_zero]
  rw [L, then_nx]
  simp [frzD, outsD]
/-! ### what is looked at -/
def isRunOf (ws : List WayT) : D → Bool
  | .list xs => decide ((xs.length : Int) ≤ 3000) && xs.all (isPushOf ws)
  | _ => false
def Sp_is_run_of (F : List D → Res D) : Prop := ∀ ps ws d, NetG ps ws → F [netD ps ws, d] = .ok (.bool (isRunOf ws d))
theorem s_is_run_of (h1 : Sp_is_push_of (G "is_push_of")) : Sp_is_run_of (fnD G 2 1 c_is_run_of) := fun ps ws d h => by
  cases d with
  | list xs =>
    have lc : ev G (.lc [2] (.call "is_push_of" (.cons (.var 0) (.cons (.var 2) .nil))) (.nm 2) (.seq (.var 1)) .no) [.fz (netD ps ws), .fz (.list xs), .no] = .ok (.list (xs.map fun x => .bool (isPushOf ws x))) := by
      simp only [ev_lc, evi_seq, ev_var, slot_0, slot_s, ok_bind, items_l, wipe_cons, wipe_nil, List.set_cons_succ, List.set_cons_zero]
      rw [lc_all (fun x => [.fz (netD ps ws), .fz (.list xs), .fz x]) (fun x => .bool (isPushOf ws x)) (by simp) (by simp) (fun x _ => by simp [h1 ps ws x h])]
      rfl
    rw [fnD_eq (by rfl)]
    show finD (exSs G c_is_run_of [.fz (netD ps ws), .fz (.list xs), .no]) = _
    simp only [c_is_run_of, ex_cons, ex_ret, ev_bop, evb_a, ev_isi, ev_var, slot_0, slot_s, ok_bind, isi_list, decide_true, andGo_t, ev_cmp, ev_blt, len_lst, ev_glb, cmp_le, evb_1, lc, all_lst, boolsD_map, Option.map_some, must_some, andGo_b, liftR_ok, then_rt, fin_rt, isRunOf]
    simp [List.all_map]
  | _ => simp [c_is_run_of, isRunOf]
def Sp_look_run (F : List D → Res D) : Prop := ∀ ps ws d, NetG ps ws → F [netD ps ws, d] = if isRunOf ws d = true then .ok .none else .exc "NoRun"
theorem s_look_run (h1 : Sp_is_run_of (G "is_run_of")) : Sp_look_run (fnD G 2 0 c_look_run) := fun ps ws d h => by
  cases hb : isRunOf ws d <;> simp [c_look_run, h1 ps ws d h, hb]
structure Sp_is_run (F : List D → Res D) : Prop where
  yes : ∀ ps ws d, NetG ps ws → F [netD ps ws, d] = .ok (.bool (isRunOf ws d))
  net : ∀ n d, sh 63 n → isNet n = false → F [n, d] = .exc "NoNet"
theorem s_is_run (h1 : Sp_look_net (G "look_net")) (h2 : Sp_is_run_of (G "is_run_of")) : Sp_is_run (fnD G 2 0 c_is_run) where
  yes ps ws d h := by simp [c_is_run, h1.yes h, h2 ps ws d h]
  net n d hs hn := by simp [c_is_run, h1.no hs hn]
/-- a run that is one -/
structure RunOk (ws : List WayT) (r : RunT) : Prop where
  ln : r.length ≤ 3000
  ok : ∀ q ∈ r, q.1 ∈ ws ∧ isName q.2 = true
theorem RunOk.is {r : RunT} (h : NetG ps ws) (hr : RunOk ws r) : isRunOf ws (runD r) = true := by
  unfold isRunOf runD
  have hl := hr.ln
  simp only [List.length_map, Bool.and_eq_true, decide_eq_true_eq, List.all_eq_true, List.mem_map]
  refine ⟨by omega, fun x hx => ?_⟩
  obtain ⟨q, hq, rfl⟩ := hx
  exact push_yes h (hr.ok q hq).1 (hr.ok q hq).2
structure Sp_behind (F : List D → Res D) : Prop where
  yes : ∀ ps ws, NetG ps ws → ∀ kv, KvOk (ps.map (·.1)) kv → isStateOf ps (kvD kv) = true → ∀ r, RunOk ws r → F [netD ps ws, kvD kv, runD r] = .ok (.tuple [kvD (runA r kv).1, outsD (runA r kv).2])
  net : ∀ n d e, sh 63 n → isNet n = false → F [n, d, e] = .exc "NoNet"
  st : ∀ ps ws d e, NetG ps ws → isStateOf ps d = false → F [netD ps ws, d, e] = .exc "NoState"
  ru : ∀ ps ws d e, NetG ps ws → isStateOf ps d = true → isRunOf ws e = false → F [netD ps ws, d, e] = .exc "NoRun"
theorem s_behind (h1 : Sp_look_net (G "look_net")) (h2 : Sp_look_state (G "look_state")) (h3 : Sp_look_run (G "look_run")) (h4 : Sp_plain_run (G "plain_run")) : Sp_behind (fnD G 3 0 c_behind) where
  yes ps ws h kv hk hst r hr := by
    have e2 := h2 ps ws (kvD kv) h
    rw [if_pos hst] at e2
    have e3 := h3 ps ws (runD r) h
    rw [if_pos (hr.is h)] at e3
    simp [c_behind, h1.yes h, e2, e3, h4 ps ws h r kv (fun q hq => (hr.ok q hq).1) hk hr.ln]
  net n d e hs hn := by simp [c_behind, h1.no hs hn]
  st ps ws d e h hst := by
    have e2 := h2 ps ws d h
    rw [hst] at e2
    simp [c_behind, h1.yes h, e2]
  ru ps ws d e h hst hr := by
    have e2 := h2 ps ws d h
    rw [if_pos hst] at e2
    have e3 := h3 ps ws e h
    rw [hr] at e3
    simp [c_behind, h1.yes h, e2, e3]
def outsOf (os : List (Str × D)) (x : Str) : List D := (os.filter fun p => p.1 == x).map (·.2)
theorem way_yes (h : NetG ps ws) {w : WayT} (hw : w ∈ ws) : isWayOf ws (.str w.1) = true := by
  show (isNm w.1 && ((ws.map (·.1)).any fun z => z == w.1)) = true
  have : ((ws.map (·.1)).any fun z => z == w.1) = true := by
    rw [List.any_eq_true]
    exact ⟨w.1, List.mem_map_of_mem hw, by simp⟩
  rw [h.nmw w hw, this]
  rfl
theorem eq_str {a b : Str} (ha : isNm a = true) (hb : isNm b = true) : eqD (.str a) (.str b) = .ok (a == b) := by
  rw [eqD_sh (n := 0) (m := 0) (sh_str (nm_lay ha)) (sh_str (nm_lay hb)) (by decide) (by decide), eqv_str]
structure Sp_outs_of (F : List D → Res D) : Prop where
  yes : ∀ ps ws, NetG ps ws → ∀ kv, KvOk (ps.map (·.1)) kv → isStateOf ps (kvD kv) = true → KvNm kv → ∀ r, RunOk ws r → ∀ w ∈ ws, F [netD ps ws, kvD kv, runD r, .str w.1] = .ok (.list (outsOf (runA r kv).2 w.1))
  net : ∀ n d e w, sh 63 n → isNet n = false → F [n, d, e, w] = .exc "NoNet"
  st : ∀ ps ws d e w, NetG ps ws → isStateOf ps d = false → F [netD ps ws, d, e, w] = .exc "NoState"
  ru : ∀ ps ws d e w, NetG ps ws → isStateOf ps d = true → isRunOf ws e = false → F [netD ps ws, d, e, w] = .exc "NoRun"
  wy : ∀ ps ws d e w, NetG ps ws → isStateOf ps d = true → isRunOf ws e = true → isWayOf ws w = false → F [netD ps ws, d, e, w] = .exc "NoWay"
theorem s_outs_of (h1 : Sp_look_net (G "look_net")) (h2 : Sp_look_state (G "look_state")) (h3 : Sp_look_run (G "look_run")) (h4 : Sp_look_way (G "look_way")) (h5 : Sp_plain_run (G "plain_run")) : Sp_outs_of (fnD G 4 2 c_outs_of) where
  yes ps ws h kv hk hst hn r hr w hw := by
    have e2 := h2 ps ws (kvD kv) h
    rw [if_pos hst] at e2
    have e3 := h3 ps ws (runD r) h
    rw [if_pos (hr.is h)] at e3
    have e4 := h4 ps ws (.str w.1) h
    rw [if_pos (way_yes h hw)] at e4
    have e5 := h5 ps ws h r kv (fun q hq => (hr.ok q hq).1) hk hr.ln
    have ho := (KvNm.run h hr.ok hk hn).2
    have lc : ev G (.lc [4, 5] (.var 5) (.tp (.cons (.nm 4) (.cons (.nm 5) .nil))) (.seq (.idx (.call "plain_run" (.cons (.var 0) (.cons (.var 1) (.cons (.var 2) .nil)))) (.cst (.int 1)))) (.so (.cmp .Eq (.var 4) (.var 3)))) [.fz (netD ps ws), .fz (kvD kv), .fz (runD r), .fz (.str w.1), .no, .no] = .ok (.list (outsOf (runA r kv).2 w.1)) := by
      simp only [ev_lc, evi_seq, ev_idx, ev_call, evs_cons, evs_nil, ev_var, ev_cst, slot_0, slot_s, ok_bind, e5, idx_t, at_1, must_some, outsD, items_l, wipe_cons, wipe_nil, List.set_cons_succ, List.set_cons_zero]
      rw [lc_filter outD (fun p => [.fz (netD ps ws), .fz (kvD kv), .fz (runD r), .fz (.str w.1), .fz (.str p.1), .fz p.2]) (fun p => p.1 == w.1) (fun p => p.2) (by simp [outD]) (fun p hp => by
        obtain ⟨z1, z2⟩ := ho p hp
        simp [eq_str (h.wnames _ z1) (h.nmw w hw)]) (by simp)]
      rfl
    rw [fnD_eq (by rfl)]
    show finD (exSs G c_outs_of [.fz (netD ps ws), .fz (kvD kv), .fz (runD r), .fz (.str w.1), .no, .no]) = _
    simp only [c_outs_of, ex_cons, ex_exp, ex_ret, lc, ev_call, evs_cons, evs_nil, ev_var, slot_0, slot_s, ok_bind, h1.yes h, e2, e3, e4, liftR_ok, then_nx, then_rt, fin_rt]
  net n d e w hs hn := by simp [c_outs_of, h1.no hs hn]
  st ps ws d e w h hst := by
    have e2 := h2 ps ws d h
    rw [hst] at e2
    simp [c_outs_of, h1.yes h, e2]
  ru ps ws d e w h hst hr := by
    have e2 := h2 ps ws d h
    rw [if_pos hst] at e2
    have e3 := h3 ps ws e h
    rw [hr] at e3
    simp [c_outs_of, h1.yes h, e2, e3]
  wy ps ws d e w h hst hr hw := by
    have e2 := h2 ps ws d h
    rw [if_pos hst] at e2
    have e3 := h3 ps ws e h
    rw [if_pos hr] at e3
    have e4 := h4 ps ws w h
    rw [hw] at e4
    simp [c_outs_of, h1.yes h, e2, e3, e4]
end Fp
set_option maxHeartbeats 1000000
/-! spots, by value -/
namespace Fp
open PySem
variable {G : Str → List D → Res D} {ps : List PipeT} {ws : List WayT}
def lenOf (ps : List PipeT) (x : Str) : Int := ((ps.find? fun p => p.1 == x).map (·.2)).getD 0
theorem split_ps {p : PipeT} (h : NetG ps ws) (hp : p ∈ ps) : ∃ A B, ps = A ++ p :: B ∧ p.1 ∉ A.map (·.1) ∧ p.1 ∉ B.map (·.1) := by
  obtain ⟨A, B, e⟩ := List.append_of_mem hp
  have hn := h.np
  rw [e, List.map_append, List.map_cons, List.nodup_append] at hn
  exact ⟨A, B, e, fun q => hn.2.2 _ q _ (by simp) rfl, (List.nodup_cons.mp hn.2.1).1⟩
theorem lenOf_mem (h : NetG ps ws) {p : PipeT} (hp : p ∈ ps) : lenOf ps p.1 = p.2 := by
  obtain ⟨A, B, e, h1, h2⟩ := split_ps h hp
  unfold lenOf
  have hA : A.find? (fun q => q.1 == p.1) = none := by
    rw [List.find?_eq_none]
    intro q hq
    simp only [beq_iff_eq]
    exact fun e => h1 (by rw [← e]; exact List.mem_map_of_mem hq)
  rw [e, List.find?_append, hA, List.find?_cons]
  simp
theorem dict_pipes (h : NetG ps ws) : dictD (.tuple (ps.map pipeD)) = .ok (.dict (ps.map fun p => (.str p.1, .int p.2))) := by
  have := (dict_of (l := ps.map fun p => (p.1, PyData.int p.2)) (by rw [List.map_map]; exact h.np)).2
  rw [List.map_map, List.map_map] at this
  exact this
theorem dget_pipe (h : NetG ps ws) {p : PipeT} (hp : p ∈ ps) : dgetD (ps.map fun p => (PyData.str p.1, PyData.int p.2)) (.str p.1) = some (.int p.2) := by
  obtain ⟨A, B, e, h1, h2⟩ := split_ps h hp
  rw [e]
  exact dget_mid (f := fun p : PipeT => p.1) (g := fun p => .int p.2) (q := p) h1
def isSpotOf (ps : List PipeT) (d : D) : Bool := isPair d && (((ps.map (·.1)).any fun z => z == fstS d) && isWhole (sndD d) 0 (lenOf ps (fstS d) - 1))
def Sp_is_spot_of (F : List D → Res D) : Prop := ∀ ps ws d, NetG ps ws → F [netD ps ws, d] = .ok (.bool (isSpotOf ps d))
theorem s_is_spot_of (h1 : Sp_is_pair (G "is_pair")) (h2 : Sp_pipes_in (G "pipes_in")) (h3 : Sp_is_whole (G "is_whole")) : Sp_is_spot_of (fnD G 2 0 c_is_spot_of) := fun ps ws d h => by
  cases hp : isPair d with
  | false => simp [c_is_spot_of, h1 d, hp, isSpotOf]
  | true =>
    obtain ⟨x, s, rfl, hx⟩ := push_pair hp
    have hin := in_names h.names hx
    have e1 := h1 (.tuple [.str x, s])
    rw [hp] at e1
    have e0 : fstS (.tuple [.str x, s]) = x := rfl
    have e9 : sndD (.tuple [.str x, s]) = s := rfl
    cases hb : (ps.map (·.1)).any fun z => z == x with
    | false =>
      have : isSpotOf ps (.tuple [.str x, s]) = false := by
        unfold isSpotOf
        rw [e0, hb]
        simp
      rw [this, fnD_eq (by rfl)]
      show finD (exSs G c_is_spot_of [.fz (netD ps ws), .fz (.tuple [.str x, s])]) = _
      rw [hb] at hin
      simp only [c_is_spot_of, ex_cons, ex_ite, ev_bop, evb_o, ev_not, ev_call, evs_cons, evs_nil, ev_var, slot_0, slot_s, ok_bind, e1, asBool_bool, Bool.not_true, orGo_f, evb_1, ev_cmp, ev_idx, ev_cst, idx_t, at_0, must_some, h2 ps ws, cmp_nin, hin, Bool.not_false, liftR_ok, if_true, ex_ret, then_rt, fin_rt]
    | true =>
      have hm : x ∈ ps.map (·.1) := by
        rw [List.any_eq_true] at hb
        obtain ⟨z, hz, e⟩ := hb
        rw [← eq_of_beq e]
        exact hz
      obtain ⟨p, hp2, rfl⟩ := List.mem_map.mp hm
      have : isSpotOf ps (.tuple [.str p.1, s]) = isWhole s 0 (p.2 - 1) := by
        unfold isSpotOf
        rw [hp, e0, hb, e9, lenOf_mem h hp2]
        simp
      rw [this, fnD_eq (by rfl)]
      show finD (exSs G c_is_spot_of [.fz (netD ps ws), .fz (.tuple [.str p.1, s])]) = _
      rw [hb] at hin
      simp only [c_is_spot_of, ex_cons, ex_ite, ex_nil, ev_bop, evb_o, ev_not, ev_call, evs_cons, evs_nil, ev_var, slot_0, slot_s, ok_bind, e1, asBool_bool, Bool.not_true, orGo_f, evb_1, ev_cmp, ev_idx, ev_cst, idx_t, at_0, at_1, must_some, h2 ps ws, cmp_nin, hin, Bool.not_false, liftR_ok, Bool.false_eq_true, if_false, then_nx, ex_ret]
      simp only [ev_bin, ev_idx, ev_dct, ev_var, ev_cst, slot_0, slot_s, ok_bind, netD, idx_t, at_0, at_1, must_some, dict_pipes h, idx_ds, dget_pipe h hp2, bin_sub, h3 s 0 (p.2 - 1), liftR_ok, then_rt, fin_rt]
def Sp_look_spot (F : List D → Res D) : Prop := ∀ ps ws d, NetG ps ws → F [netD ps ws, d] = if isSpotOf ps d = true then .ok .none else .exc "NoSpot"
theorem s_look_spot (h1 : Sp_is_spot_of (G "is_spot_of")) : Sp_look_spot (fnD G 2 0 c_look_spot) := fun ps ws d h => by
  cases hb : isSpotOf ps d <;> simp [c_look_spot, h1 ps ws d h, hb]
/-! ### spots, marks -/
def spotD (x : Str) (i : Nat) : D := .tuple [.str x, .int (i : Nat)]
def spotsP (p : PipeT) : List D := (List.range p.2.toNat).map (spotD p.1)
def spotsL (ps : List PipeT) : List D := ps.flatMap spotsP
def markKv (ps : List PipeT) : KV := ps.map fun p => (p.1, spotsP p)
theorem spotsL_len : ∀ {ps : List PipeT}, (∀ p ∈ ps, p.2 ≤ 4) → (spotsL ps).length ≤ 4 * ps.length
  | [], _ => Nat.le_refl _
  | p :: ps, h => by
    have ih := spotsL_len (ps := ps) fun q hq => h q (by simp [hq])
    have := h p (by simp)
    unfold spotsL at ih ⊢
    rw [List.flatMap_cons, List.length_append, List.length_cons]
    have : (spotsP p).length ≤ 4 := by simp [spotsP]; omega
    omega
def Sp_spots_in (F : List D → Res D) : Prop := ∀ ps ws, NetG ps ws → F [netD ps ws] = .ok (.list (spotsL ps))
theorem range_lc {ρ : Slots} {i : Nat} {elt : Slots → Res D} (f : Nat → D) {n : Int} (hi : i < ρ.length) (h : ∀ k : Nat, elt (ρ.set i (.fz (.int (k : Nat)))) = .ok (f k)) : lcGo (.nm i) ρ (fun _ => .ok true) elt ((List.range n.toNat).map fun k => .int ((k : Nat) : Int)) = .ok ((List.range n.toNat).map f) := by
  rw [lc_map (fun k : Nat => .int (k : Int)) (fun k => ρ.set i (.fz (.int (k : Nat)))) f (by simp [hi]) (by simp) (fun k _ => h k)]
theorem s_spots_in : Sp_spots_in (fnD G 1 3 c_spots_in) := fun ps ws h => by
  have hz : 1000 ≤ sizeLine := by decide
  have hl := spotsL_len (ps := ps) fun p hp => (h.lo p hp).2
  have hpl := h.pl
  rw [fnD_eq (by rfl)]
  show finD (exSs G c_spots_in [.fz (netD ps ws), .no, .no, .no]) = _
  simp only [c_spots_in, ex_cons, ex_ret, ev_lc2, evi_seq, ev_idx, ev_var, ev_cst, slot_0, slot_s, ok_bind, netD, idx_t, at_0, must_some, items_t, wipe_cons, wipe_nil, List.set_cons_succ, List.set_cons_zero]
  rw [lc2_map pipeD (fun p => [.fz (.tuple [.tuple (ps.map pipeD), .tuple (ws.map wayD)]), .fz (.str p.1), .fz (.int p.2), .no]) (fun p => spotsP p) (by simp [pipeD]) (fun p hp => by
    obtain ⟨l1, l2⟩ := h.lo p hp
    simp [tgIx]
    rw [range_ok (by omega) (by omega)]
    simp only [tame_ok, ok_bind]
    rw [range_lc (spotD p.1) (by simp) (by simp [spotD])]
    rfl)]
  simp only [ok_bind]
  have : (ps.flatMap fun p => spotsP p).length ≤ sizeLine := by
    show (spotsL ps).length ≤ sizeLine
    omega
  rw [if_pos this]
  rfl
def Sp_marked (F : List D → Res D) : Prop := ∀ ps ws, NetG ps ws → F [netD ps ws] = .ok (kvD (markKv ps))
theorem s_marked : Sp_marked (fnD G 1 3 c_marked) := fun ps ws h => by
  rw [fnD_eq (by rfl)]
  show finD (exSs G c_marked [.fz (netD ps ws), .no, .no, .no]) = _
  simp only [c_marked, ex_cons, ex_ret, ev_blt, ev_lc, evi_seq, ev_idx, ev_var, ev_cst, slot_0, slot_s, ok_bind, netD, idx_t, at_0, must_some, items_t, wipe_cons, wipe_nil, List.set_cons_succ, List.set_cons_zero]
  rw [lc_map pipeD (fun p => [.fz (.tuple [.tuple (ps.map pipeD), .tuple (ws.map wayD)]), .fz (.str p.1), .fz (.int p.2), .no]) (fun p => .tuple (spotsP p)) (by simp [pipeD]) (by simp) (fun p hp => by
    obtain ⟨l1, l2⟩ := h.lo p hp
    simp
    rw [range_ok (by omega) (by omega)]
    simp only [ok_bind]
    rw [range_lc (spotD p.1) (by simp) (by simp [spotD])]
    rfl)]
  simp [kvD, markKv]
/-- names and lengths -/
structure KvL (ps : List PipeT) (kv : KV) : Prop where
  eq : kv.map (fun p => (p.1, (p.2.length : Int))) = ps
theorem KvL.nm {kv : KV} (h : KvL ps kv) : kv.map (·.1) = ps.map (·.1) := by
  rw [← h.eq, List.map_map]
  rfl
theorem KvL.ok {kv : KV} (h : KvL ps kv) (hn : NetG ps ws) : KvOk (ps.map (·.1)) kv := ⟨h.nm, fun p hp => by
  have : (p.1, (p.2.length : Int)) ∈ ps := by
    rw [← h.eq]
    exact List.mem_map_of_mem hp
  have := hn.lo _ this
  dsimp only at this
  omega⟩
theorem KvL.set {kv : KV} (h : KvL ps kv) (hn : (kv.map (·.1)).Nodup) {x : Str} {r : List D} (hr : r.length = (getA kv x).length) : KvL ps (setA kv x r) := ⟨by
  by_cases hx : x ∈ kv.map (·.1)
  · obtain ⟨A, r0, B, rfl, h1, h2⟩ := split_kv hn hx
    rw [getA_split h1] at hr
    rw [setA_split h1 h2, ← h.eq]
    simp [hr]
  · have : setA kv x r = kv := map_no hx
    rw [this, h.eq]⟩
theorem KvL.push {kv : KV} (hn : NetG ps ws) : ∀ {row : List Str} {kv : KV} {s : D}, (∀ x ∈ row, x ∈ ps.map (·.1)) → KvL ps kv → KvL ps (pushA row kv s).1
  | [], _, _, _, h => h
  | x :: row, kv, s, hx, h => by
    have hl := (h.ok hn).get hn.np (hx x (by simp))
    unfold pushA
    exact KvL.push (kv := kv) hn (fun y hy => hx y (by simp [hy])) (h.set (by rw [h.nm]; exact hn.np) (by simp; omega))
theorem KvL.run (hn : NetG ps ws) : ∀ {r : RunT} {kv : KV}, (∀ q ∈ r, q.1 ∈ ws) → KvL ps kv → KvL ps (runA r kv).1
  | [], _, _, h => h
  | q :: r, kv, hq, h => by
    unfold runA
    exact KvL.run hn (fun x hx => hq x (by simp [hx])) (KvL.push (kv := kv) hn (hn.sub q.1 (hq q (by simp))) h)
theorem markKv_l (hn : NetG ps ws) : KvL ps (markKv ps) := ⟨by
  unfold markKv
  rw [List.map_map]
  conv => rhs; rw [← List.map_id ps]
  refine List.map_congr_left fun p hp => ?_
  have := hn.lo p hp
  show (p.1, (((spotsP p).length : Nat) : Int)) = p
  have e : (((spotsP p).length : Nat) : Int) = p.2 := by simp [spotsP]; omega
  rw [e]⟩
/-! ### what a run does, told by spots -/
def numR (r : RunT) : RunT := ((List.range r.length).zip r).map fun p => (p.2.1, .int ((p.1 : Nat) : Int))
def trace (ps : List PipeT) (r : RunT) : KV × List (Str × D) := runA (numR r) (markKv ps)
theorem numR_ws {r : RunT} (h : ∀ q ∈ r, q.1 ∈ ws) : ∀ q ∈ numR r, q.1 ∈ ws := fun q hq => by
  obtain ⟨p, hp, rfl⟩ := List.mem_map.mp hq
  exact h p.2 (List.of_mem_zip hp).2
theorem numR_len {r : RunT} : (numR r).length = r.length := by simp [numR]
def Sp_traced (F : List D → Res D) : Prop := ∀ ps ws, NetG ps ws → ∀ r : RunT, (∀ q ∈ r, q.1 ∈ ws) → r.length ≤ 3000 → F [netD ps ws, runD r] = .ok (.tuple [kvD (trace ps r).1, .list ((trace ps r).2.map (·.2))])
theorem s_traced (h1 : Sp_plain_run (G "plain_run")) (h2 : Sp_marked (G "marked")) : Sp_traced (fnD G 2 6 c_traced) := fun ps ws h r hr hl => by
  have e1 := h1 ps ws h (numR r) (markKv ps) (numR_ws hr) ((markKv_l h).ok h) (by rw [numR_len]; exact hl)
  rw [fnD_eq (by rfl)]
  show finD (exSs G c_traced [.fz (netD ps ws), .fz (runD r), .no, .no, .no, .no, .no, .no]) = _
  have lc : ev G (.lc [4, 5] (.tup (.cons (.idx (.var 5) (.cst (.int 0))) (.cons (.var 4) .nil))) (.tp (.cons (.nm 4) (.cons (.nm 5) .nil))) (.enm (.var 1)) .no) [.fz (netD ps ws), .fz (runD r), .no, .no, .no, .no, .no, .no] = .ok (runD (numR r)) := by
    simp only [ev_lc, evi_enm, ev_var, slot_0, slot_s, ok_bind, runD, seq_l, numbD, List.length_map, List.zip_map_right, List.map_map, wipe_cons, wipe_nil, List.set_cons_succ, List.set_cons_zero]
    rw [lc_map _ (fun p : Nat × (WayT × D) => [.fz (netD ps ws), .fz (.list (r.map pushD)), .no, .no, .fz (.int (p.1 : Nat)), .fz (pushD p.2), .no, .no]) (fun p => .tuple [.str p.2.1.1, .int (p.1 : Nat)]) (by simp) (by simp) (by simp [pushD])]
    simp only [ok_bind, numR, List.map_map]
    rfl
  simp only [c_traced, ex_cons, ex_set, ev_call, evs_cons, evs_nil, lc, ev_var, slot_0, slot_s, ok_bind, h2 ps ws h, e1, liftR_ok]
  have b1 : bindT (.tp (.cons (.nm 2) (.cons (.nm 3) .nil))) (.tuple [kvD (runA (numR r) (markKv ps)).1, outsD (runA (numR r) (markKv ps)).2]) [.fz (netD ps ws), .fz (runD r), .no, .no, .no, .no, .no, .no] = .ok [.fz (netD ps ws), .fz (runD r), .fz (kvD (trace ps r).1), .fz (outsD (trace ps r).2), .no, .no, .no, .no] := by simp [trace]
  rw [b1]
  simp only [ofR_ok, then_nx, ex_ret, ev_tup, evs_cons, evs_nil, ev_var, slot_0, slot_s, ok_bind, ev_lc, evi_seq, outsD, items_l, wipe_cons, wipe_nil, List.set_cons_succ, List.set_cons_zero]
  rw [lc_map outD (fun p => [.fz (netD ps ws), .fz (runD r), .fz (kvD (trace ps r).1), .fz (.list ((trace ps r).2.map outD)), .no, .no, .fz (.str p.1), .fz p.2]) (fun p => p.2) (by simp [outD]) (by simp) (by simp)]
  rfl
end Fp
set_option maxHeartbeats 1000000
/-! where slugs come to, by value -/
namespace Fp
open PySem
variable {G : Str → List D → Res D} {ps : List PipeT} {ws : List WayT}
/-- something is so of all slugs -/
def KvAll (P : D → Prop) (kv : KV) : Prop := ∀ p ∈ kv, ∀ s ∈ p.2, P s
theorem KvAll.get {P : D → Prop} {kv : KV} (h : KvAll P kv) (x : Str) : ∀ s ∈ getA kv x, P s := fun s hs => by
  unfold getA at hs
  cases hf : kv.find? (fun p => p.1 == x) with
  | none => rw [hf] at hs; simp at hs
  | some p =>
    rw [hf] at hs
    exact h p (List.mem_of_find?_eq_some hf) s (by simpa using hs)
theorem KvAll.set {P : D → Prop} {kv : KV} (h : KvAll P kv) {x : Str} {r : List D} (hr : ∀ s ∈ r, P s) : KvAll P (setA kv x r) := fun p hp s hs => by
  obtain ⟨q, hq, rfl⟩ := List.mem_map.mp hp
  split at hs
  · exact hr s hs
  · exact h q hq s hs
theorem KvAll.push {P : D → Prop} {names : List Str} (hn : names.Nodup) : ∀ {row : List Str} {kv : KV} {s : D}, (∀ x ∈ row, x ∈ names) → KvOk names kv → KvAll P kv → P s → KvAll P (pushA row kv s).1 ∧ P (pushA row kv s).2
  | [], kv, s, _, _, h, hs => ⟨h, hs⟩
  | x :: row, kv, s, hx, hk, h, hs => by
    have hl := hk.get hn (hx x (by simp))
    obtain ⟨xs, l, e⟩ := snoc_of hl.1
    have hg := h.get x
    unfold pushA
    refine KvAll.push hn (fun y hy => hx y (by simp [hy])) (hk.set (by simp; omega)) (h.set fun y hy => ?_) ?_
    · rcases List.mem_cons.mp hy with rfl | hy
      · exact hs
      · exact hg y (List.dropLast_subset _ hy)
    · rw [e] at hg ⊢
      simpa using hg l (by simp)
theorem KvAll.run {P : D → Prop} (h : NetG ps ws) : ∀ {r : RunT} {kv : KV}, (∀ q ∈ r, q.1 ∈ ws ∧ P q.2) → KvOk (ps.map (·.1)) kv → KvAll P kv → KvAll P (runA r kv).1 ∧ ∀ p ∈ (runA r kv).2, P p.2
  | [], _, _, _, hn => ⟨hn, fun _ z => by cases z⟩
  | q :: r, kv, hq, hk, hn => by
    obtain ⟨h1, h2⟩ := hq q (by simp)
    have n1 := KvAll.push h.np (h.sub q.1 h1) hk hn h2
    have ih := KvAll.run h (r := r) (fun x hx => hq x (by simp [hx])) (hk.push h.np (h.sub q.1 h1)) n1.1
    unfold runA
    refine ⟨ih.1, fun p hp => ?_⟩
    rcases List.mem_cons.mp hp with rfl | hp
    · exact n1.2
    · exact ih.2 p hp
/-! ### places -/
def rowI (p : Str × List D) : List ((Str × Nat) × D) := ((List.range p.2.length).zip p.2).map fun q => ((p.1, q.1), q.2)
def plcI (kv : KV) : List ((Str × Nat) × D) := kv.flatMap rowI
def plcD (q : (Str × Nat) × D) : D := .tuple [spotD q.1.1 q.1.2, q.2]
theorem rowI_mem {p : Str × List D} {x : Str} {i : Nat} {d : D} : ((x, i), d) ∈ rowI p ↔ p.1 = x ∧ p.2[i]? = some d := by
  unfold rowI
  rw [List.mem_map]
  constructor
  · rintro ⟨⟨j, e⟩, hq, he⟩
    simp only [Prod.mk.injEq] at he
    obtain ⟨⟨rfl, rfl⟩, rfl⟩ := he
    refine ⟨rfl, ?_⟩
    obtain ⟨k, hk⟩ := List.getElem?_of_mem hq
    rw [List.getElem?_zip_eq_some] at hk
    obtain ⟨k1, k2⟩ := hk
    have hkl : k < p.2.length := by
      rcases Nat.lt_or_ge k p.2.length with q | q
      · exact q
      · rw [List.getElem?_eq_none q] at k2; cases k2
    rw [List.getElem?_range hkl] at k1
    have k1 : k = j := Option.some.inj k1
    rw [← k1]
    exact k2
  · rintro ⟨rfl, h⟩
    have hi : i < p.2.length := by
      rcases Nat.lt_or_ge i p.2.length with q | q
      · exact q
      · rw [List.getElem?_eq_none q] at h; cases h
    refine ⟨(i, d), ?_, rfl⟩
    refine List.mem_of_getElem? (i := i) ?_
    rw [List.getElem?_zip_eq_some]
    exact ⟨List.getElem?_range hi, h⟩
theorem plcI_mem {kv : KV} (hn : (kv.map (·.1)).Nodup) {x : Str} {i : Nat} {d : D} : ((x, i), d) ∈ plcI kv ↔ (getA kv x)[i]? = some d ∧ x ∈ kv.map (·.1) := by
  unfold plcI
  rw [List.mem_flatMap]
  constructor
  · rintro ⟨p, hp, hq⟩
    obtain ⟨rfl, h⟩ := rowI_mem.mp hq
    have hx : p.1 ∈ kv.map (·.1) := List.mem_map_of_mem hp
    refine ⟨?_, hx⟩
    obtain ⟨A, B, e⟩ := List.append_of_mem hp
    have h1 : p.1 ∉ A.map (·.1) := by
      rw [e, List.map_append, List.nodup_append] at hn
      exact fun q => hn.2.2 _ q _ (by simp) rfl
    rw [e]
    have := getA_split (B := B) (r := p.2) h1
    rw [this]
    exact h
  · rintro ⟨h, hx⟩
    exact ⟨_, getA_mem hn hx, rowI_mem.mpr ⟨rfl, h⟩⟩
theorem row_len {p : Str × List D} {q : PipeT} (h : (p.1, (p.2.length : Int)) = q) : spotsP q = (rowI p).map fun z => spotD z.1.1 z.1.2 := by
  subst h
  unfold spotsP rowI
  rw [List.map_map]
  have e : ((p.2.length : Int)).toNat = p.2.length := by simp
  rw [e]
  have : (List.range p.2.length).map (spotD p.1) = (((List.range p.2.length).zip p.2).map (·.1)).map (spotD p.1) := by
    rw [List.map_fst_zip (by simp)]
  rw [this, List.map_map]
  rfl
theorem spots_plc : ∀ {kv : KV} {ps : List PipeT}, kv.map (fun p => (p.1, (p.2.length : Int))) = ps → spotsL ps = (plcI kv).map fun z => spotD z.1.1 z.1.2
  | [], ps, h => by subst h; rfl
  | p :: kv, ps, h => by
    subst h
    have ih := spots_plc (kv := kv) rfl
    unfold spotsL plcI at ih ⊢
    rw [List.map_cons, List.flatMap_cons, List.flatMap_cons, List.map_append, ih, row_len rfl]
def Sp_places_of (F : List D → Res D) : Prop := ∀ ps ws, NetG ps ws → ∀ kv, KvL ps kv → F [netD ps ws, kvD kv] = .ok (.list ((plcI kv).map plcD))
theorem s_places_of (h1 : Sp_pipes_in (G "pipes_in")) (h2 : Sp_spots_in (G "spots_in")) : Sp_places_of (fnD G 2 1 c_places_of) := fun ps ws h kv hk => by
  have hn : (kv.map (·.1)).Nodup := by rw [hk.nm]; exact h.np
  rw [fnD_eq (by rfl)]
  show finD (exSs G c_places_of [.fz (netD ps ws), .fz (kvD kv), .no]) = _
  simp only [c_places_of, ex_cons, ex_ret, ev_lc, evi_seq, ev_call, evs_cons, evs_nil, ev_var, slot_0, slot_s, ok_bind, h2 ps ws h, items_l, spots_plc hk.eq, wipe_cons, wipe_nil, List.set_cons_succ, List.set_cons_zero]
  rw [lc_map (fun z : (Str × Nat) × D => spotD z.1.1 z.1.2) (fun z => [.fz (netD ps ws), .fz (kvD kv), .fz (spotD z.1.1 z.1.2)]) plcD (by simp) (by simp) (fun z hz => by
    obtain ⟨⟨x, i⟩, d⟩ := z
    obtain ⟨hg, hx⟩ := (plcI_mem hn).mp hz
    obtain ⟨A, r, B, rfl, h3, h4⟩ := split_kv hn hx
    rw [getA_split h3] at hg
    have enm : ps.map (·.1) = A.map (·.1) ++ x :: B.map (·.1) := by rw [← hk.nm]; simp
    have hf : findD ((ps.map (·.1)).map .str) (.str x) = .ok (.int (A.length : Nat)) := by
      rw [enm]
      have := findD_str (B := B.map (·.1)) h3 (fun s hs' => h.names s (by rw [enm]; exact hs'))
      rwa [List.length_map] at this
    have hat : L2.atI ((A ++ (x, r) :: B).map fun p => PyData.tuple p.2) ((A.length : Nat) : Int) = some (.tuple r) := by
      rw [at_n, List.map_append, List.map_cons]
      have := get_mid (A := A.map fun p => PyData.tuple p.2) (B := B.map fun p => PyData.tuple p.2) (x := PyData.tuple r)
      rwa [List.length_map] at this
    simp only [ev_tup, evs_cons, evs_nil, ev_idx, ev_mth, ev_call, ev_var, ev_cst, slot_0, slot_s, ok_bind, h1 ps ws, mthO_i, mth_i, spotD, idx_t, at_0, at_1, must_some, hf, kvD, hat, at_n, hg, plcD])]
  simp
structure Sp_look_asked (F : List D → Res D) : Prop where
  yes : ∀ ps ws, NetG ps ws → ∀ r d, RunOk ws r → isSpotOf ps d = true → F [netD ps ws, runD r, d] = .ok .none
  net : ∀ n e d, sh 63 n → isNet n = false → F [n, e, d] = .exc "NoNet"
  ru : ∀ ps ws e d, NetG ps ws → isRunOf ws e = false → F [netD ps ws, e, d] = .exc "NoRun"
  sp : ∀ ps ws e d, NetG ps ws → isRunOf ws e = true → isSpotOf ps d = false → F [netD ps ws, e, d] = .exc "NoSpot"
theorem s_look_asked (h1 : Sp_look_net (G "look_net")) (h2 : Sp_look_run (G "look_run")) (h3 : Sp_look_spot (G "look_spot")) : Sp_look_asked (fnD G 3 0 c_look_asked) where
  yes ps ws h r d hr hd := by
    have e2 := h2 ps ws (runD r) h
    rw [if_pos (hr.is h)] at e2
    have e3 := h3 ps ws d h
    rw [if_pos hd] at e3
    simp [c_look_asked, h1.yes h, e2, e3]
  net n e d hs hn := by simp [c_look_asked, h1.no hs hn]
  ru ps ws e d h hr := by
    have e2 := h2 ps ws e h
    rw [hr] at e2
    simp [c_look_asked, h1.yes h, e2]
  sp ps ws e d h hr hd := by
    have e2 := h2 ps ws e h
    rw [if_pos hr] at e2
    have e3 := h3 ps ws d h
    rw [hd] at e3
    simp [c_look_asked, h1.yes h, e2, e3]
/-! ### slugs that are spots or numbers -/
def isU (d : D) : Prop := (∃ x i, d = spotD x i ∧ isNm x = true) ∨ ∃ k : Nat, d = .int k
theorem isU.sh {d : D} (h : isU d) : sh 1 d := by
  rcases h with ⟨x, i, rfl, hx⟩ | ⟨k, rfl⟩
  · exact sh_t (sh_cons (sh_str (nm_lay hx)) (sh_cons sh_int sh_nil))
  · exact sh_int
theorem mark_U (h : NetG ps ws) : KvAll isU (markKv ps) := fun p hp s hs => by
  obtain ⟨q, hq, rfl⟩ := List.mem_map.mp hp
  obtain ⟨i, _, rfl⟩ := List.mem_map.mp hs
  exact .inl ⟨q.1, i, rfl, h.nmp q hq⟩
theorem trace_U (h : NetG ps ws) {r : RunT} (hr : ∀ q ∈ r, q.1 ∈ ws) : KvAll isU (trace ps r).1 ∧ ∀ p ∈ (trace ps r).2, isU p.2 :=
  KvAll.run h (fun q hq => ⟨numR_ws hr q hq, by
    obtain ⟨p, _, rfl⟩ := List.mem_map.mp hq
    exact .inr ⟨p.1, rfl⟩⟩) ((markKv_l h).ok h) (mark_U h)
theorem trace_l (h : NetG ps ws) {r : RunT} (hr : ∀ q ∈ r, q.1 ∈ ws) : KvL ps (trace ps r).1 := KvL.run h (numR_ws hr) (markKv_l h)
theorem spot_yes (h : NetG ps ws) {p : PipeT} (hp : p ∈ ps) {i : Nat} (hi : (i : Int) < p.2) : isSpotOf ps (spotD p.1 i) = true := by
  have hn := h.nmp p hp
  have : ((ps.map (·.1)).any fun z => z == p.1) = true := by
    rw [List.any_eq_true]
    exact ⟨p.1, List.mem_map_of_mem hp, by simp⟩
  show (isNm p.1 && (((ps.map (·.1)).any fun z => z == p.1) && (decide ((0 : Int) ≤ (i : Nat)) && decide (((i : Nat) : Int) ≤ lenOf ps p.1 - 1)))) = true
  rw [hn, this, lenOf_mem h hp, decide_eq_true (by omega), decide_eq_true (by omega)]
  rfl
def ixOf (xs : List D) (d : D) : Option Nat := xs.findIdx? fun z => PyData.eqv z d
structure Sp_where (F : List D → Res D) : Prop where
  out : ∀ ps ws, NetG ps ws → ∀ r, RunOk ws r → ∀ p ∈ ps, ∀ i : Nat, (i : Int) < p.2 → ∀ j, ixOf ((trace ps r).2.map (·.2)) (spotD p.1 i) = some j → F [netD ps ws, runD r, spotD p.1 i] = .ok (.int (j : Nat))
  at_ : ∀ ps ws, NetG ps ws → ∀ r, RunOk ws r → ∀ p ∈ ps, ∀ i : Nat, (i : Int) < p.2 → ixOf ((trace ps r).2.map (·.2)) (spotD p.1 i) = none → ∀ z l, ((plcI (trace ps r).1).filter fun q => PyData.eqv q.2 (spotD p.1 i)) = z :: l → F [netD ps ws, runD r, spotD p.1 i] = .ok (spotD z.1.1 z.1.2)
  net : ∀ n e d, sh 63 n → isNet n = false → F [n, e, d] = .exc "NoNet"
  ru : ∀ ps ws e d, NetG ps ws → isRunOf ws e = false → F [netD ps ws, e, d] = .exc "NoRun"
  sp : ∀ ps ws e d, NetG ps ws → isRunOf ws e = true → isSpotOf ps d = false → F [netD ps ws, e, d] = .exc "NoSpot"
theorem any_ix {xs : List D} {d : D} : (xs.any fun z => PyData.eqv z d) = (ixOf xs d).isSome := by
  unfold ixOf
  rw [List.findIdx?_isSome]
theorem s_where (h1 : Sp_look_asked (G "look_asked")) (h2 : Sp_traced (G "traced")) (h3 : Sp_places_of (G "places_of")) : Sp_where (fnD G 3 4 c_where) := by
  have pre : ∀ ps ws, NetG ps ws → ∀ r, RunOk ws r → ∀ p ∈ ps, ∀ i : Nat, (i : Int) < p.2 → fnD G 3 4 c_where [netD ps ws, runD r, spotD p.1 i] = finD (exSs G (.cons (.ite (.cmp .In (.var 2) (.var 4)) (.cons (.ret (.mth .index (.var 4) (.var 2))) .nil) (.nil)) (.cons (.ret (.idx (.lc [5, 6] (.var 5) (.tp (.cons (.nm 5) (.cons (.nm 6) .nil))) (.seq (.call "places_of" (.cons (.var 0) (.cons (.var 3) .nil)))) (.so (.cmp .Eq (.var 6) (.var 2)))) (.cst (.int 0)))) .nil)) [.fz (netD ps ws), .fz (runD r), .fz (spotD p.1 i), .fz (kvD (trace ps r).1), .fz (.list ((trace ps r).2.map (·.2))), .no, .no]) := fun ps ws h r hr p hp i hi => by
    have e1 := h1.yes ps ws h r _ hr (spot_yes h hp hi)
    have e2 := h2 ps ws h r (fun q hq => (hr.ok q hq).1) hr.ln
    rw [fnD_eq (by rfl)]
    show finD (exSs G c_where [.fz (netD ps ws), .fz (runD r), .fz (spotD p.1 i), .no, .no, .no, .no]) = _
    simp only [c_where, ex_cons, ex_exp, ex_set, ev_call, evs_cons, evs_nil, ev_var, slot_0, slot_s, ok_bind, e1, e2, liftR_ok, then_nx, bind_tp, binds_cons, binds_nil, bind_nm, List.length_cons, List.length_nil, List.set_cons_succ, List.set_cons_zero]
    rfl
  have shp : ∀ {ps ws}, NetG ps ws → ∀ {p : PipeT}, p ∈ ps → ∀ {i : Nat}, sh 1 (spotD p.1 i) := fun h p hp i => (isU.sh (.inl ⟨_, _, rfl, h.nmp p hp⟩))
  have sho : ∀ {ps ws}, NetG ps ws → ∀ {r : RunT}, RunOk ws r → sh 2 (.list ((trace ps r).2.map (·.2))) := fun h r hr => sh_l fun x hx => by
    obtain ⟨q, hq, rfl⟩ := List.mem_map.mp hx
    exact ((trace_U h fun q hq => (hr.ok q hq).1).2 q hq).sh
  refine ⟨fun ps ws h r hr p hp i hi j hj => ?_, fun ps ws h r hr p hp i hi hj z l hz => ?_, fun n e d hs hn => ?_, fun ps ws e d h hr => ?_, fun ps ws e d h hr hd => ?_⟩
  · have hin : inD (spotD p.1 i) (.list ((trace ps r).2.map (·.2))) = .ok true := by
      rw [inD_lst (shp h hp) (sho h hr) (by decide) (by decide), any_ix, hj]
      rfl
    have hf : findD ((trace ps r).2.map (·.2)) (spotD p.1 i) = .ok (.int (j : Nat)) := by
      unfold findD
      have hl : PyData.canLayAll0 ((trace ps r).2.map (·.2)) = true := layAll.mpr fun x hx => (sh_lst.mp (sho h hr) x hx).1
      rw [if_pos ⟨(shp h hp).ok (by decide), hl⟩]
      unfold ixOf at hj
      rw [hj]
      rfl
    rw [pre ps ws h r hr p hp i hi]
    simp only [ex_cons, ex_ite, ev_cmp, ev_var, slot_0, slot_s, ok_bind, cmp_in, hin, asBool_bool, liftR_ok, if_true, ex_ret, ev_mth, mthO_i, mth_i, hf, then_rt, fin_rt]
  · have hin : inD (spotD p.1 i) (.list ((trace ps r).2.map (·.2))) = .ok false := by
      rw [inD_lst (shp h hp) (sho h hr) (by decide) (by decide), any_ix, hj]
      rfl
    have hkl := trace_l h fun q hq => (hr.ok q hq).1
    have hU := (trace_U h fun q hq => (hr.ok q hq).1).1
    have hn : ((trace ps r).1.map (·.1)).Nodup := by rw [hkl.nm]; exact h.np
    have lc : ev G (.lc [5, 6] (.var 5) (.tp (.cons (.nm 5) (.cons (.nm 6) .nil))) (.seq (.call "places_of" (.cons (.var 0) (.cons (.var 3) .nil)))) (.so (.cmp .Eq (.var 6) (.var 2)))) [.fz (netD ps ws), .fz (runD r), .fz (spotD p.1 i), .fz (kvD (trace ps r).1), .fz (.list ((trace ps r).2.map (·.2))), .no, .no] = .ok (.list ((z :: l).map fun q => spotD q.1.1 q.1.2)) := by
      simp only [ev_lc, evi_seq, ev_call, evs_cons, evs_nil, ev_var, slot_0, slot_s, ok_bind, h3 ps ws h _ hkl, items_l, wipe_cons, wipe_nil, List.set_cons_succ, List.set_cons_zero]
      rw [lc_filter plcD (fun q => [.fz (netD ps ws), .fz (runD r), .fz (spotD p.1 i), .fz (kvD (trace ps r).1), .fz (.list ((trace ps r).2.map (·.2))), .fz (spotD q.1.1 q.1.2), .fz q.2]) (fun q => PyData.eqv q.2 (spotD p.1 i)) (fun q => spotD q.1.1 q.1.2) (by simp [plcD]) (fun q hq => by
        obtain ⟨⟨x, k⟩, d⟩ := q
        have hd : isU d := hU.get x d (List.mem_of_getElem? ((plcI_mem hn).mp hq).1)
        have := eqD_sh (n := 1) (m := 1) hd.sh (shp h hp (i := i)) (by decide) (by decide)
        simp [this]) (by simp), hz]
      rfl
    rw [pre ps ws h r hr p hp i hi]
    simp only [ex_cons, ex_ite, ex_nil, ev_cmp, ev_var, slot_0, slot_s, ok_bind, cmp_in, hin, asBool_bool, liftR_ok, Bool.false_eq_true, if_false, then_nx, ex_ret, ev_idx, lc, ev_cst, idx_l, List.map_cons, at_0, must_some, then_rt, fin_rt]
  · simp [c_where, h1.net n e d hs hn]
  · simp [c_where, h1.ru ps ws e d h hr]
  · simp [c_where, h1.sp ps ws e d h hr hd]
/-! ### whence, delay -/
theorem nkT_spot {x : Str} {i : Nat} : nkT (spotD x i) = some (.tup [.text x, .num (i : Nat)]) := by
  simp [nkT, spotD, nkOf, nkAll, NestedKey.depth, NestedKey.depthAll]
def nkS (z : Str × Nat) : NestedKey := .tup [.text z.1, .num (z.2 : Nat)]
theorem nkS_inj {a b : Str × Nat} (h : nkS a = nkS b) : a = b := by
  obtain ⟨x, i⟩ := a
  obtain ⟨y, j⟩ := b
  simp [nkS] at h
  simp [h.1]
  omega
theorem pairsN_plc : ∀ (l : List ((Str × Nat) × D)), pairsN (l.map plcD) = some (l.map fun q => (nkS q.1, q.2))
  | [] => rfl
  | q :: l => by
    have : pairN (plcD q) = some (nkS q.1, q.2) := by
      unfold plcD pairN
      simp only [nkT_spot, Option.map_some]
      rfl
    simp [pairsN, this, pairsN_plc l]
theorem rowI_nd {p : Str × List D} : ((rowI p).map (·.1)).Nodup := by
  unfold rowI
  rw [List.map_map]
  have e : ((List.range p.2.length).zip p.2).map ((fun x : (Str × Nat) × D => x.1) ∘ fun q => ((p.1, q.1), q.2)) = (((List.range p.2.length).zip p.2).map (·.1)).map fun i => (p.1, i) := by
    rw [List.map_map]
    rfl
  rw [e, List.map_fst_zip (by simp)]
  refine List.Pairwise.map _ (fun a b hab z => hab ?_) List.nodup_range
  simpa using z
theorem plcI_nd : ∀ {kv : KV}, (kv.map (·.1)).Nodup → ((plcI kv).map (·.1)).Nodup
  | [], _ => List.nodup_nil
  | p :: kv, h => by
    rw [List.map_cons, List.nodup_cons] at h
    have ih := plcI_nd h.2
    unfold plcI at ih ⊢
    rw [List.flatMap_cons, List.map_append, List.nodup_append]
    refine ⟨rowI_nd, ih, fun a ha b hb e => ?_⟩
    subst e
    obtain ⟨⟨⟨x, i⟩, d⟩, hz, rfl⟩ := List.mem_map.mp ha
    obtain ⟨rfl, _⟩ := rowI_mem.mp hz
    obtain ⟨⟨⟨x', i'⟩, d'⟩, hz', e'⟩ := List.mem_map.mp hb
    obtain ⟨q, hq, hq'⟩ := List.mem_flatMap.mp hz'
    obtain ⟨rfl, _⟩ := rowI_mem.mp hq'
    simp only [Prod.mk.injEq] at e'
    exact h.1 (by rw [← e'.1]; exact List.mem_map_of_mem hq)
theorem getN_plc {l : List ((Str × Nat) × D)} (hn : (l.map (·.1)).Nodup) {z : Str × Nat} {d : D} (h : (z, d) ∈ l) : getN (l.map fun q => (nkS q.1, q.2)) (nkS z) = some d := by
  induction l with
  | nil => cases h
  | cons q l ih =>
    rw [List.map_cons, List.nodup_cons] at hn
    by_cases e : q.1 = z
    · have : q = (z, d) := by
        rcases List.mem_cons.mp h with h | h
        · exact h.symm
        · exact absurd (by rw [e]; exact List.mem_map_of_mem (f := fun x : (Str × Nat) × D => x.1) h) hn.1
      subst this
      simp [getN]
    · have hne : ¬ nkS q.1 = nkS z := fun z' => e (nkS_inj z')
      have hm : (z, d) ∈ l := by
        rcases List.mem_cons.mp h with h | h
        · exact absurd (by rw [← h]) e
        · exact h
      have := ih hn.2 hm
      unfold getN at this ⊢
      rw [List.map_cons, List.find?_cons]
      simp only [hne, decide_false]
      exact this
structure Sp_whence (F : List D → Res D) : Prop where
  yes : ∀ ps ws, NetG ps ws → ∀ r, RunOk ws r → ∀ p ∈ ps, ∀ i : Nat, (i : Int) < p.2 → ∀ d, (getA (trace ps r).1 p.1)[i]? = some d → F [netD ps ws, runD r, spotD p.1 i] = .ok d
  net : ∀ n e d, sh 63 n → isNet n = false → F [n, e, d] = .exc "NoNet"
  ru : ∀ ps ws e d, NetG ps ws → isRunOf ws e = false → F [netD ps ws, e, d] = .exc "NoRun"
  sp : ∀ ps ws e d, NetG ps ws → isRunOf ws e = true → isSpotOf ps d = false → F [netD ps ws, e, d] = .exc "NoSpot"
theorem s_whence (h1 : Sp_look_asked (G "look_asked")) (h2 : Sp_traced (G "traced")) (h3 : Sp_places_of (G "places_of")) : Sp_whence (fnD G 3 0 c_whence) where
  yes ps ws h r hr p hp i hi d hd := by
    have e1 := h1.yes ps ws h r _ hr (spot_yes h hp hi)
    have e2 := h2 ps ws h r (fun q hq => (hr.ok q hq).1) hr.ln
    have hkl := trace_l h fun q hq => (hr.ok q hq).1
    have e3 := h3 ps ws h _ hkl
    have hn : ((trace ps r).1.map (·.1)).Nodup := by rw [hkl.nm]; exact h.np
    have hnd := plcI_nd hn
    have hm : ((p.1, i), d) ∈ plcI (trace ps r).1 := (plcI_mem hn).mpr ⟨hd, by rw [hkl.nm]; exact List.mem_map_of_mem hp⟩
    have ed : dictN (.list ((plcI (trace ps r).1).map plcD)) = .ok ((plcI (trace ps r).1).map fun q => (nkS q.1, q.2)) := by
      unfold dictN
      simp only [seq_l, ok_bind, pairsN_plc, must_some]
      rw [if_pos]
      rw [List.map_map]
      have : (plcI (trace ps r).1).map ((fun x : NestedKey × D => x.1) ∘ fun q => (nkS q.1, q.2)) = ((plcI (trace ps r).1).map (·.1)).map nkS := by
        rw [List.map_map]
        rfl
      rw [this]
      exact List.Pairwise.map _ (fun a b hab z => hab (nkS_inj z)) hnd
    have ei : idxN ((plcI (trace ps r).1).map fun q => (nkS q.1, q.2)) (spotD p.1 i) = .ok d := by
      unfold idxN
      rw [nkT_spot]
      simp only [must_some, ok_bind]
      have := getN_plc hnd hm
      unfold nkS at this ⊢
      dsimp only at this ⊢
      rw [this]
      rfl
    rw [fnD_eq (by rfl)]
    show finD (exSs G c_whence [.fz (netD ps ws), .fz (runD r), .fz (spotD p.1 i)]) = _
    simp only [c_whence, ex_cons, ex_exp, ex_ret, ev_dix, ev_idx, ev_call, evs_cons, evs_nil, ev_var, ev_cst, slot_0, slot_s, ok_bind, e1, e2, idx_t, at_0, must_some, e3, ed, ei, liftR_ok, then_nx, then_rt, fin_rt]
  net n e d hs hn := by simp [c_whence, h1.net n e d hs hn]
  ru ps ws e d h hr := by simp [c_whence, h1.ru ps ws e d h hr]
  sp ps ws e d h hr hd := by simp [c_whence, h1.sp ps ws e d h hr hd]
theorem intsD_map {α : Type} {f : α → Int} : ∀ {xs : List α}, intsD (xs.map fun x => .int (f x)) = some (xs.map f)
  | [] => rfl
  | x :: xs => by
    show (intsD (xs.map fun x => .int (f x))).map (f x :: ·) = _
    rw [intsD_map]
    rfl
structure Sp_delay (F : List D → Res D) : Prop where
  yes : ∀ ps ws, NetG ps ws → ∀ w ∈ ws, F [netD ps ws, .str w.1] = .ok (.int ((w.2.map (lenOf ps)).sum))
  net : ∀ n d, sh 63 n → isNet n = false → F [n, d] = .exc "NoNet"
  wy : ∀ ps ws d, NetG ps ws → isWayOf ws d = false → F [netD ps ws, d] = .exc "NoWay"
theorem s_delay (h1 : Sp_look_net (G "look_net")) (h2 : Sp_look_way (G "look_way")) (h3 : Sp_row_of (G "row_of")) : Sp_delay (fnD G 2 1 c_delay) where
  yes ps ws h w hw := by
    have e2 := h2 ps ws (.str w.1) h
    rw [if_pos (way_yes h hw)] at e2
    have e3 := h3 ps ws h w hw
    rw [fnD_eq (by rfl)]
    show finD (exSs G c_delay [.fz (netD ps ws), .fz (.str w.1), .no]) = _
    have lc : ev G (.lc [2] (.idx (.dct (.idx (.var 0) (.cst (.int 0)))) (.var 2)) (.nm 2) (.seq (.call "row_of" (.cons (.var 0) (.cons (.var 1) .nil)))) .no) [.fz (netD ps ws), .fz (.str w.1), .no] = .ok (.list (w.2.map fun x => .int (lenOf ps x))) := by
      simp only [ev_lc, evi_seq, ev_call, evs_cons, evs_nil, ev_var, slot_0, slot_s, ok_bind, e3, rowD, items_t, wipe_cons, wipe_nil, List.set_cons_succ, List.set_cons_zero]
      rw [lc_map PyData.str (fun x => [.fz (netD ps ws), .fz (.str w.1), .fz (.str x)]) (fun x => .int (lenOf ps x)) (by simp) (by simp) (fun x hx => by
        obtain ⟨p, hp, rfl⟩ := List.mem_map.mp (h.sub w hw x hx)
        simp [netD, dict_pipes h, dget_pipe h hp, lenOf_mem h hp])]
      rfl
    simp only [c_delay, ex_cons, ex_exp, ex_ret, ev_blt, lc, ev_call, evs_cons, evs_nil, ev_var, slot_0, slot_s, ok_bind, h1.yes h, e2, liftR_ok, then_nx, sum_lst, intsD_map, Option.map_some, must_some, then_rt, fin_rt]
  net n d hs hn := by simp [c_delay, h1.no hs hn]
  wy ps ws d h hd := by
    have e2 := h2 ps ws d h
    rw [hd] at e2
    simp [c_delay, h1.yes h, e2]
end Fp
set_option maxHeartbeats 1000000
/-! runs of other slugs; nothing is lost -/
namespace Fp
open PySem
variable {G : Str → List D → Res D} {ps : List PipeT} {ws : List WayT}
def mapA (f : D → D) (kv : KV) : KV := kv.map fun p => (p.1, p.2.map f)
theorem mapA_fst {f : D → D} {kv : KV} : (mapA f kv).map (·.1) = kv.map (·.1) := by
  unfold mapA
  rw [List.map_map]
  rfl
theorem getA_map {f : D → D} {kv : KV} {x : Str} : getA (mapA f kv) x = (getA kv x).map f := by
  unfold getA mapA
  rw [List.find?_map]
  have : ((fun p : Str × List D => p.1 == x) ∘ fun p : Str × List D => (p.1, p.2.map f)) = fun p => p.1 == x := rfl
  rw [this]
  cases kv.find? fun p => p.1 == x <;> rfl
theorem setA_map {f : D → D} {kv : KV} {x : Str} {r : List D} : setA (mapA f kv) x (r.map f) = mapA f (setA kv x r) := by
  unfold setA mapA
  rw [List.map_map, List.map_map]
  refine List.map_congr_left fun p _ => ?_
  show (if p.1 == x then (p.1, r.map f) else (p.1, p.2.map f)) = _
  show _ = ((if p.1 == x then (p.1, r) else p).1, (if p.1 == x then (p.1, r) else p).2.map f)
  split <;> rfl
theorem pushA_map {f : D → D} {names : List Str} (hn : names.Nodup) : ∀ {row : List Str} {kv : KV} {s : D}, (∀ x ∈ row, x ∈ names) → KvOk names kv → pushA row (mapA f kv) (f s) = (mapA f (pushA row kv s).1, f (pushA row kv s).2)
  | [], _, _, _, _ => rfl
  | x :: row, kv, s, hx, hk => by
    have hl := hk.get hn (hx x (by simp))
    obtain ⟨xs, l, e⟩ := snoc_of hl.1
    unfold pushA
    rw [getA_map]
    have e1 : f s :: ((getA kv x).map f).dropLast = (s :: (getA kv x).dropLast).map f := by rw [List.map_cons, List.map_dropLast]
    have e2 : ((getA kv x).map f).getLast?.getD .none = f ((getA kv x).getLast?.getD .none) := by rw [e]; simp
    rw [e1, setA_map, e2]
    exact pushA_map hn (fun y hy => hx y (by simp [hy])) (hk.set (by simp; omega))
def mapR (f : D → D) (r : RunT) : RunT := r.map fun q => (q.1, f q.2)
theorem runA_map {f : D → D} (h : NetG ps ws) : ∀ {r : RunT} {kv : KV}, (∀ q ∈ r, q.1 ∈ ws) → KvOk (ps.map (·.1)) kv → runA (mapR f r) (mapA f kv) = (mapA f (runA r kv).1, (runA r kv).2.map fun p => (p.1, f p.2))
  | [], _, _, _ => rfl
  | q :: r, kv, hq, hk => by
    have hw := hq q (by simp)
    have e := pushA_map (f := f) h.np (s := q.2) (h.sub q.1 hw) hk
    have ih := runA_map (f := f) h (r := r) (kv := (pushA q.1.2 kv q.2).1) (fun x hx => hq x (by simp [hx])) (hk.push h.np (h.sub q.1 hw))
    show runA ((q.1, f q.2) :: mapR f r) (mapA f kv) = _
    unfold runA
    dsimp only
    rw [e]
    dsimp only
    rw [ih]
    rfl
theorem mapA_ok {f : D → D} {names : List Str} {kv : KV} (h : KvOk names kv) : KvOk names (mapA f kv) := ⟨by rw [mapA_fst]; exact h.nm, fun p hp => by
  obtain ⟨q, hq, rfl⟩ := List.mem_map.mp hp
  simpa using h.ln q hq⟩
/-! ### nothing is lost -/
def KvMem (d : D) (kv : KV) : Prop := ∃ p ∈ kv, d ∈ p.2
theorem push_mem {names : List Str} (hn : names.Nodup) {d : D} : ∀ {row : List Str} {kv : KV} {s : D}, (∀ x ∈ row, x ∈ names) → KvOk names kv → KvMem d kv ∨ d = s → KvMem d (pushA row kv s).1 ∨ d = (pushA row kv s).2
  | [], _, _, _, _, h => h
  | x :: row, kv, s, hx, hk, h => by
    have hl := hk.get hn (hx x (by simp))
    have hk' := hk.set (x := x) (r := s :: (getA kv x).dropLast) (by simp; omega)
    unfold pushA
    refine push_mem hn (fun y hy => hx y (by simp [hy])) hk' ?_
    obtain ⟨A, r, B, rfl, h1, h2⟩ := split_kv (x := x) (by rw [hk.nm]; exact hn) (by rw [hk.nm]; exact hx x (by simp))
    rw [getA_split h1] at hl ⊢
    rw [setA_split h1 h2]
    obtain ⟨xs, l, rfl⟩ := snoc_of hl.1
    rcases h with ⟨p, hp, hd⟩ | rfl
    · rcases List.mem_append.mp hp with hp | hp
      · exact .inl ⟨p, List.mem_append.mpr (.inl hp), hd⟩
      · rcases List.mem_cons.mp hp with rfl | hp
        · rcases List.mem_append.mp hd with hd | hd
          · exact .inl ⟨(x, s :: xs), by simp, by simp [hd]⟩
          · rcases List.mem_singleton.mp hd with rfl
            exact .inr (by simp)
        · exact .inl ⟨p, by simp [hp], hd⟩
    · exact .inl ⟨(x, d :: xs), by simp, by simp⟩
theorem run_mem (h : NetG ps ws) {d : D} : ∀ {r : RunT} {kv : KV}, (∀ q ∈ r, q.1 ∈ ws) → KvOk (ps.map (·.1)) kv → KvMem d kv → KvMem d (runA r kv).1 ∨ d ∈ (runA r kv).2.map (·.2)
  | [], _, _, _, hm => .inl hm
  | q :: r, kv, hq, hk, hm => by
    have hw := hq q (by simp)
    unfold runA
    rcases push_mem h.np (h.sub q.1 hw) hk (s := q.2) (.inl hm) with m | m
    · rcases run_mem h (r := r) (fun x hx => hq x (by simp [hx])) (hk.push h.np (h.sub q.1 hw)) m with m | m
      · exact .inl m
      · exact .inr (by rw [List.map_cons]; exact List.mem_cons_of_mem _ m)
    · exact .inr (by rw [List.map_cons, m]; exact List.mem_cons_self)
/-! ### the first row in which something lies -/
def rowJ (x : Str) : Nat → List D → List ((Str × Nat) × D)
  | _, [] => []
  | k, d :: ds => ((x, k), d) :: rowJ x (k + 1) ds
theorem rowJ_get {x : Str} : ∀ {ds : List D} {k i : Nat}, (rowJ x k ds)[i]? = ds[i]?.map fun d => ((x, k + i), d)
  | [], _, _ => by simp [rowJ]
  | d :: ds, k, 0 => by simp [rowJ]
  | d :: ds, k, i + 1 => by
    simp only [rowJ, List.getElem?_cons_succ, rowJ_get]
    congr 1
    funext d
    congr 2
    omega
theorem rowI_J {p : Str × List D} : rowI p = rowJ p.1 0 p.2 := by
  refine List.ext_getElem? fun i => ?_
  rw [rowJ_get]
  unfold rowI
  rw [List.getElem?_map]
  cases h : p.2[i]? with
  | none =>
    have : ((List.range p.2.length).zip p.2)[i]? = none := by
      rw [List.getElem?_eq_none]
      rw [List.length_zip, List.length_range, Nat.min_self]
      exact List.getElem?_eq_none_iff.mp h
    rw [this]
    rfl
  | some d =>
    have hi : i < p.2.length := by
      rcases Nat.lt_or_ge i p.2.length with q | q
      · exact q
      · rw [List.getElem?_eq_none q] at h; cases h
    have : ((List.range p.2.length).zip p.2)[i]? = some (i, d) := by
      rw [List.getElem?_zip_eq_some]
      exact ⟨List.getElem?_range hi, h⟩
    rw [this]
    simp
theorem rowJ_filter {x : Str} {u : D} : ∀ {ds : List D} {k : Nat}, (ixOf ds u = none → (rowJ x k ds).filter (fun q => PyData.eqv q.2 u) = []) ∧ ∀ j, ixOf ds u = some j → ∃ d l, (rowJ x k ds).filter (fun q => PyData.eqv q.2 u) = ((x, k + j), d) :: l
  | [], k => ⟨fun _ => rfl, fun j h => by cases h⟩
  | d :: ds, k => by
    unfold rowJ ixOf
    rw [List.findIdx?_cons]
    cases hd : PyData.eqv d u with
    | true =>
      refine ⟨fun h => by simp at h, fun j h => ?_⟩
      simp only [if_true, Option.some.injEq] at h
      subst h
      exact ⟨d, (rowJ x (k + 1) ds).filter (fun q => PyData.eqv q.2 u), by rw [List.filter_cons_of_pos (p := fun q : (Str × Nat) × D => PyData.eqv q.2 u) hd]; rfl⟩
    | false =>
      obtain ⟨i1, i2⟩ := rowJ_filter (x := x) (u := u) (ds := ds) (k := k + 1)
      rw [List.filter_cons_of_neg (by simp [hd])]
      refine ⟨fun h => i1 ?_, fun j h => ?_⟩
      · simp only [Bool.false_eq_true, if_false, Option.map_eq_none_iff] at h
        exact h
      · simp only [Bool.false_eq_true, if_false, Option.map_eq_some_iff] at h
        obtain ⟨j', h, rfl⟩ := h
        obtain ⟨d', l, e⟩ := i2 j' h
        exact ⟨d', l, by rw [e, show k + 1 + j' = k + (j' + 1) by omega]⟩
theorem first_row {u : D} : ∀ {kv : KV} {z : (Str × Nat) × D} {l : List ((Str × Nat) × D)}, (plcI kv).filter (fun q => PyData.eqv q.2 u) = z :: l → ∃ p kv', kv.filter (fun p => p.2.any fun d => PyData.eqv d u) = p :: kv' ∧ p.1 = z.1.1 ∧ ixOf p.2 u = some z.1.2
  | [], z, l, h => by cases h
  | p :: kv, z, l, h => by
    have h : ((rowI p) ++ plcI kv).filter (fun q => PyData.eqv q.2 u) = z :: l := h
    rw [List.filter_append, rowI_J] at h
    obtain ⟨i1, i2⟩ := rowJ_filter (x := p.1) (u := u) (ds := p.2) (k := 0)
    cases hx : ixOf p.2 u with
    | none =>
      rw [i1 hx, List.nil_append] at h
      obtain ⟨q, kv', e1, e2⟩ := first_row h
      have : (p.2.any fun d => PyData.eqv d u) = false := by rw [any_ix, hx]; rfl
      exact ⟨q, kv', by rw [List.filter_cons_of_neg (by simp [this])]; exact e1, e2⟩
    | some j =>
      obtain ⟨d, l', e⟩ := i2 j hx
      rw [e, List.cons_append] at h
      injection h with h1 h2
      have : (p.2.any fun d => PyData.eqv d u) = true := by rw [any_ix, hx]; rfl
      refine ⟨p, kv.filter (fun p => p.2.any fun d => PyData.eqv d u), by rw [List.filter_cons_of_pos (p := fun p : Str × List D => p.2.any fun d => PyData.eqv d u) this], ?_, ?_⟩
      · rw [← h1]
      · rw [hx, ← h1]
        simp
theorem plc_some {u : D} {kv : KV} (hm : ∃ d, KvMem d kv ∧ PyData.eqv d u = true) : ∃ z l, (plcI kv).filter (fun q => PyData.eqv q.2 u) = z :: l := by
  obtain ⟨d, ⟨p, hp, hd⟩, he⟩ := hm
  obtain ⟨i, hi⟩ := List.getElem?_of_mem hd
  have : ((p.1, i), d) ∈ (plcI kv).filter (fun q => PyData.eqv q.2 u) := List.mem_filter.mpr ⟨List.mem_flatMap.mpr ⟨p, hp, rowI_mem.mpr ⟨rfl, hi⟩⟩, he⟩
  cases hf : (plcI kv).filter (fun q => PyData.eqv q.2 u) with
  | nil => rw [hf] at this; cases this
  | cons z l => exact ⟨z, l, rfl⟩
theorem plc_mapA {f : D → D} {kv : KV} : plcI (mapA f kv) = (plcI kv).map fun q => (q.1, f q.2) := by
  unfold plcI mapA
  rw [List.flatMap_map, List.map_flatMap]
  congr 1
  funext p
  unfold rowI
  rw [List.length_map, List.zip_map_right, List.map_map, List.map_map]
  rfl
end Fp
set_option maxHeartbeats 1000000
/-! unlike slugs, drawn runs, the laws' own going, by value -/
namespace Fp
open PySem
variable {G : Str → List D → Res D} {ps : List PipeT} {ws : List WayT}
theorem pick_mem {l : List D} {r : Int} (h1 : 0 ≤ r) (h2 : r < l.length) : ∃ x ∈ l, idxD (.list l) (.int r) = .ok x := by
  obtain ⟨j, rfl⟩ : ∃ j : Nat, r = j := ⟨r.toNat, by omega⟩
  have hj : j < l.length := by omega
  exact ⟨l[j], List.getElem_mem hj, by rw [idx_l, at_n, List.getElem?_eq_getElem hj]; rfl⟩
/-! ### `_law_went` -/
def wentC : Ss := (.cons (.set (.tp (.cons (.nm 1) (.cons (.nm 6) .nil))) (.call "_law_push" (.cons (.var 0) (.cons (.var 1) (.cons (.var 4) (.cons (.var 5) (.cons (.cst (.int 1)) .nil))))))) (.cons (.app 3 (.tup (.cons (.var 4) (.cons (.var 6) .nil)))) .nil))
theorem went_loop (h : NetG ps ws) (h1 : Sp__law_push (G "_law_push")) {b : Slot} : ∀ {r : RunT} {kv : KV} {acc : List (Str × D)}, (∀ q ∈ r, q.1 ∈ ws) → KvOk (ps.map (·.1)) kv → acc.length + r.length ≤ 3000 →
    forGo (.tp (.cons (.nm 4) (.cons (.nm 5) .nil))) [4, 5, 6] (fun ρ => exSs G wentC ρ) (r.map pushD) [.fz (netD ps ws), .fz (kvD kv), b, .ow (outsD acc), .no, .no, .no] = .nx [.fz (netD ps ws), .fz (kvD (runA r kv).1), b, .ow (outsD (acc ++ (runA r kv).2)), .no, .no, .no]
  | [], kv, acc, _, _, _ => by simp [forGo, runA]
  | q :: r, kv, acc, hq, hk, hl => by
    have hz : 10000 ≤ sizeLine := by decide
    have hw := hq q (by simp)
    have hp := h1.pu ps ws h q.1 hw kv hk q.2
    have ih := went_loop h h1 (b := b) (r := r) (kv := (pushA q.1.2 kv q.2).1) (acc := acc ++ [(q.1.1, (pushA q.1.2 kv q.2).2)]) (fun x hx => hq x (by simp [hx])) (hk.push h.np (h.sub q.1 hw)) (by simp at hl ⊢; omega)
    have hsz : acc.length < sizeLine := by simp at hl; omega
    rw [List.map_cons]
    conv => lhs; unfold forGo
    have e : (acc ++ [(q.1.1, (pushA q.1.2 kv q.2).2)]) ++ (runA r (pushA q.1.2 kv q.2).1).2 = acc ++ (runA (q :: r) kv).2 := by simp [runA]
    rw [e] at ih
    have e2 : (runA (q :: r) kv).1 = (runA r (pushA q.1.2 kv q.2).1).1 := rfl
    rw [e2, ← ih]
    simp [wentC, pushD, hp, outsD, appD, hsz, outD]
def Sp__law_went (F : List D → Res D) : Prop := ∀ ps ws, NetG ps ws → ∀ (r : RunT) kv, (∀ q ∈ r, q.1 ∈ ws) → KvOk (ps.map (·.1)) kv → r.length ≤ 3000 → F [netD ps ws, kvD kv, runD r] = .ok (.tuple [kvD (runA r kv).1, outsD (runA r kv).2])
theorem s__law_went (h1 : Sp__law_push (G "_law_push")) : Sp__law_went (fnD G 3 4 c__law_went) := fun ps ws h r kv hr hk hl => by
  have L := went_loop (G := G) h h1 (b := .fz (runD r)) (r := r) (kv := kv) (acc := []) hr hk (by simpa using hl)
  rw [fnD_eq (by rfl)]
  show finD (exSs G (.cons (.own 3 (.lst (.nil))) (.cons (.for_ [4, 5, 6] (.tp (.cons (.nm 4) (.cons (.nm 5) .nil))) (.seq (.var 2)) wentC) (.cons (.frz 3) (.cons (.ret (.tup (.cons (.var 1) (.cons (.var 3) .nil)))) .nil)))) [.fz (netD ps ws), .fz (kvD kv), .fz (runD r), .no, .no, .no, .no]) = _
  have c0 : exS G (.own 3 (.lst (.nil))) [.fz (netD ps ws), .fz (kvD kv), .fz (runD r), .no, .no, .no, .no] = .nx [.fz (netD ps ws), .fz (kvD kv), .fz (runD r), .ow (outsD []), .no, .no, .no] := by simp [outsD]
  rw [ex_cons, c0, then_nx, ex_cons, ex_for]
  have ei : evi G (.seq (.var 2)) [.fz (netD ps ws), .fz (kvD kv), .fz (runD r), .ow (outsD []), .no, .no, .no] = .ok (r.map pushD) := by simp [runD]
  rw [ei, liftR_ok]
  simp only [wipe_cons, wipe_nil, List.set_cons_succ, List.set_cons_zero]
  rw [L, then_nx]
  simp [frzD, outsD]
/-! ### `_law_run` -/
def rslugs : List Str := ["x", "y", "new"]
theorem rslugs_nm : ∀ x ∈ rslugs, isNm x = true := by decide +kernel
def lrunC : Ss := (.cons (.set (.nm 7) (.idx (.idx (.idx (.var 2) (.cst (.int 1))) (.call "_law_drawn" (.cons (.var 0) (.cons (.bin .Add (.bin .Add (.var 1) (.cst (.int 1))) (.bin .Mult (.cst (.int 2)) (.var 6))) (.cons (.blt .len (.idx (.var 2) (.cst (.int 1)))) .nil))))) (.cst (.int 0)))) (.cons (.app 5 (.tup (.cons (.var 7) (.cons (.idx (.lst (.cons (.cst (.str "x")) (.cons (.cst (.str "y")) (.cons (.cst (.str "new")) .nil)))) (.call "_law_drawn" (.cons (.var 0) (.cons (.bin .Add (.bin .Add (.var 1) (.cst (.int 2))) (.bin .Mult (.cst (.int 2)) (.var 6))) (.cons (.cst (.int 3)) .nil))))) .nil)))) .nil))
def Sp__law_run_2 (F : List D → Res D) : Prop := ∀ ns : List Int, ns.length ≤ 63 → ∀ (at_ m : Int) ps ws, NetG ps ws → 0 ≤ m → m ≤ 900 → ∃ r : RunT, F [.list (ns.map .int), .int at_, netD ps ws, .int m] = .ok (runD r) ∧ (r.length : Int) ≤ m ∧ ∀ q ∈ r, q.1 ∈ ws ∧ isName q.2 = true
theorem s__law_run_2 (h1 : Sp__law_drawn (G "_law_drawn")) : Sp__law_run_2 (fnD G 4 4 c__law_run_2) := fun ns hl at_ m ps ws h hm0 hm => by
  have hs : 1000 ≤ sizeLine := by decide
  obtain ⟨n0, en, hn1, hn2⟩ := h1 ns hl at_ (m + 1) (by omega)
  have hw1 := h.w1
  have L := for_inv (t := .nm 6) (ws := [6, 7]) (body := fun ρ => exSs G lrunC ρ)
    (fun i ρ => i ≤ n0.toNat ∧ ∃ r : RunT, r.length = i ∧ (∀ q ∈ r, q.1 ∈ ws ∧ isName q.2 = true) ∧ ρ = [.fz (.list (ns.map .int)), .fz (.int at_), .fz (netD ps ws), .fz (.int m), .fz (.int n0), .ow (runD r), .no, .no])
    (xs := (List.range n0.toNat).map fun i => .int ((i : Nat) : Int)) (ρ := [.fz (.list (ns.map .int)), .fz (.int at_), .fz (netD ps ws), .fz (.int m), .fz (.int n0), .ow (runD []), .no, .no]) 0 ⟨by omega, [], rfl, fun _ z => (by cases z), rfl⟩ (fun i x ρ hx hi => by
      obtain ⟨hi4, r, hrl, hr, rfl⟩ := hi
      have hi' : i < n0.toNat := by
        rcases Nat.lt_or_ge i n0.toNat with q | q
        · exact q
        · rw [List.getElem?_eq_none (by simpa using q)] at hx; cases hx
      rw [List.getElem?_map, List.getElem?_range hi'] at hx
      cases hx
      obtain ⟨a, ea, ha1, ha2⟩ := h1 ns hl (at_ + 1 + 2 * (i : Nat)) ws.length (by omega)
      obtain ⟨b, eb, hb1, hb2⟩ := h1 ns hl (at_ + 2 + 2 * (i : Nat)) 3 (by decide)
      obtain ⟨j, rfl⟩ : ∃ j : Nat, a = j := ⟨a.toNat, by omega⟩
      have hj : j < ws.length := by omega
      obtain ⟨s, hsm, es⟩ := pick_mem (l := [.str "x", .str "y", .str "new"]) (r := b) hb1 (by simpa using hb2)
      have hsn : isName s = true := by
        simp only [List.mem_cons, List.not_mem_nil, or_false] at hsm
        rcases hsm with rfl | rfl | rfl
        · exact rslugs_nm "x" (by decide +kernel)
        · exact rslugs_nm "y" (by decide +kernel)
        · exact rslugs_nm "new" (by decide +kernel)
      rw [idx_l] at es
      have hsz : r.length < sizeLine := by omega
      have hat : L2.atI (ws.map wayD) ((j : Nat) : Int) = some (wayD ws[j]) := by
        rw [at_n, List.getElem?_map, List.getElem?_eq_getElem hj]
        rfl
      have m2 : binD .Mult (.int 2) (.int (i : Nat)) = .ok (.int (2 * (i : Nat))) := by
        rw [bin_mul, if_pos (.inl (by decide))]
      refine ⟨[.fz (.list (ns.map .int)), .fz (.int at_), .fz (netD ps ws), .fz (.int m), .fz (.int n0), .ow (runD r), .fz (.int (i : Nat)), .no], [.fz (.list (ns.map .int)), .fz (.int at_), .fz (netD ps ws), .fz (.int m), .fz (.int n0), .ow (runD (r ++ [(ws[j], s)])), .fz (.int (i : Nat)), .fz (.str ws[j].1)], by simp, ?_, by omega, r ++ [(ws[j], s)], by simp; omega, fun q hq => ?_, by simp⟩
      · simp only [lrunC, ex_cons, ex_nil, ex_set, ex_app, ev_idx, ev_call, evs_cons, evs_nil, ev_bin, ev_blt, ev_var, ev_cst, ev_tup, ev_lst, slot_0, slot_s, ok_bind, netD, idx_t, at_1, must_some, len_tup, List.length_map, bin_add, m2, ea, hat, liftR_ok, wayD, at_0, bind_nm]
        simp [eb, es, runD, appD, hsz, pushD]
      · rcases List.mem_append.mp hq with q' | q'
        · exact hr q q'
        · rcases List.mem_singleton.mp q' with rfl
          exact ⟨List.getElem_mem hj, hsn⟩)
  obtain ⟨ρ', e, _, r, hrl, hr, rfl⟩ := L
  have hlen : 0 + ((List.range n0.toNat).map fun i => PyData.int ((i : Nat) : Int)).length = n0.toNat := by simp
  rw [hlen] at hrl
  refine ⟨r, ?_, by omega, hr⟩
  rw [fnD_eq (by rfl)]
  show finD (exSs G (.cons (.set (.nm 4) (.call "_law_drawn" (.cons (.var 0) (.cons (.var 1) (.cons (.bin .Add (.var 3) (.cst (.int 1))) .nil))))) (.cons (.own 5 (.lst (.nil))) (.cons (.for_ [6, 7] (.nm 6) (.rng (.var 4)) lrunC) (.cons (.frz 5) (.cons (.ret (.var 5)) .nil))))) [.fz (.list (ns.map .int)), .fz (.int at_), .fz (netD ps ws), .fz (.int m), .no, .no, .no, .no]) = _
  have c0 : exS G (.set (.nm 4) (.call "_law_drawn" (.cons (.var 0) (.cons (.var 1) (.cons (.bin .Add (.var 3) (.cst (.int 1))) .nil))))) [.fz (.list (ns.map .int)), .fz (.int at_), .fz (netD ps ws), .fz (.int m), .no, .no, .no, .no] = .nx [.fz (.list (ns.map .int)), .fz (.int at_), .fz (netD ps ws), .fz (.int m), .fz (.int n0), .no, .no, .no] := by simp [en]
  have c1 : exS G (.own 5 (.lst (.nil))) [.fz (.list (ns.map .int)), .fz (.int at_), .fz (netD ps ws), .fz (.int m), .fz (.int n0), .no, .no, .no] = .nx [.fz (.list (ns.map .int)), .fz (.int at_), .fz (netD ps ws), .fz (.int m), .fz (.int n0), .ow (runD []), .no, .no] := by simp [runD]
  rw [ex_cons, c0, then_nx, ex_cons, c1, then_nx, ex_cons, ex_for]
  have ei : evi G (.rng (.var 4)) [.fz (.list (ns.map .int)), .fz (.int at_), .fz (netD ps ws), .fz (.int m), .fz (.int n0), .ow (runD []), .no, .no] = .ok ((List.range n0.toNat).map fun i => .int ((i : Nat) : Int)) := by
    simp
    exact range_ok (by omega) (by omega)
  rw [ei, liftR_ok]
  simp only [wipe_cons, wipe_nil, List.set_cons_succ, List.set_cons_zero]
  rw [e, then_nx]
  simp [frzD, runD]
/-! ### unlike slugs -/
def alpha : List Str := signsS "abcdefghijklmnopqrstuvwxyz"
def mkS (j : Nat) : Str := ("u" : Str) ++ (alpha.getD j "")
theorem alpha_len : alpha.length = 26 := by decide +kernel
theorem mkS_nm : ∀ j, j < 26 → isNm (mkS j) = true := by decide +kernel
theorem mkS_inj : ∀ i, i < 26 → ∀ j, j < 26 → mkS i = mkS j → i = j := by decide +kernel
def unl : Nat → List PipeT → KV
  | _, [] => []
  | k, p :: ps => (p.1, (List.range p.2.toNat).map fun n => .str (mkS (k + n))) :: unl (k + p.2.toNat) ps
def unlC : Ss := (.cons (.app 1 (.blt .tuple (.lc [5] (.bin .Add (.cst (.str "u")) (.idx (.cst (.str "abcdefghijklmnopqrstuvwxyz")) (.bin .Add (.var 2) (.var 5)))) (.nm 5) (.rng (.var 4)) .no))) (.cons (.set (.nm 2) (.bin .Add (.var 2) (.var 4))) .nil))
def total (ps : List PipeT) : Nat := (ps.map fun p => p.2.toNat).sum
theorem unl_loop : ∀ {ps : List PipeT} {k : Nat} {acc : KV} {a : Slot}, (∀ p ∈ ps, 0 ≤ p.2 ∧ p.2 ≤ 4) → k + total ps ≤ 26 → acc.length + ps.length ≤ 100 →
    forGo (.tp (.cons (.nm 3) (.cons (.nm 4) .nil))) [3, 4] (fun ρ => exSs G unlC ρ) (ps.map pipeD) [a, .ow (.list (acc.map fun p => .tuple p.2)), .fz (.int (k : Nat)), .no, .no, .no] = .nx [a, .ow (.list ((acc ++ unl k ps).map fun p => .tuple p.2)), .fz (.int ((k + total ps : Nat) : Int)), .no, .no, .no]
  | [], k, acc, a, _, _, _ => by simp [forGo, unl, total]
  | p :: ps, k, acc, a, hp, hk, hl => by
    have hz : 1000 ≤ sizeLine := by decide
    have hp1 := hp p (by simp)
    have ht : total (p :: ps) = p.2.toNat + total ps := by simp [total]
    rw [ht] at hk
    have ih := unl_loop (ps := ps) (k := k + p.2.toNat) (acc := acc ++ [(p.1, (List.range p.2.toNat).map fun n => .str (mkS (k + n)))]) (a := a) (fun q hq => hp q (by simp [hq])) (by omega) (by simp at hl ⊢; omega)
    have hsz : acc.length < sizeLine := by simp at hl; omega
    rw [List.map_cons]
    conv => lhs; unfold forGo
    have e : (acc ++ [(p.1, (List.range p.2.toNat).map fun n => PyData.str (mkS (k + n)))]) ++ unl (k + p.2.toNat) ps = acc ++ unl k (p :: ps) := by simp [unl]
    rw [e, show k + p.2.toNat + total ps = k + total (p :: ps) by rw [ht]; omega] at ih
    rw [← ih]
    have h4 : 2 ≤ sizeLine := by omega
    have sign : ∀ n : Nat, k + n < 26 → idxD (.str "abcdefghijklmnopqrstuvwxyz") (.int ((k : Nat) + (n : Nat))) = .ok (.str (alpha.getD (k + n) "")) := fun n hn => by
      have hj : k + n < (signsS "abcdefghijklmnopqrstuvwxyz").length := by show k + n < alpha.length; rw [alpha_len]; exact hn
      have := idx_sign hj
      rw [show (((k + n : Nat)) : Int) = (k : Int) + (n : Int) by omega] at this
      rw [this]
      congr 2
      rw [List.getD_eq_getElem?_getD]
      show _ = (signsS "abcdefghijklmnopqrstuvwxyz")[k + n]?.getD ""
      rw [List.getElem?_eq_getElem hj]
      rfl
    have al1 : ∀ s ∈ alpha, s.length = 1 := by decide +kernel
    have len1 : ∀ j, j < 26 → (alpha.getD j "").length = 1 := fun j hj => al1 _ (by
      rw [List.getD_eq_getElem?_getD, List.getElem?_eq_getElem (by rw [alpha_len]; exact hj)]
      exact List.getElem_mem _)
    have lu : ("u" : Str).length = 1 := by decide +kernel
    have cat : ∀ n : Nat, k + n < 26 → binD .Add (.str "u") (.str (alpha.getD (k + n) "")) = .ok (.str (mkS (k + n))) := fun n hn => by
      show (if ("u" : Str).length + (alpha.getD (k + n) "").length ≤ sizeLine then Res.ok (PyData.str (("u" : Str) ++ alpha.getD (k + n) "")) else .err) = _
      rw [if_pos (by rw [lu, len1 _ hn]; exact h4)]
      rfl
    have lc : ∀ ρ : Slots, ρ = [a, .ow (.list (acc.map fun p => .tuple p.2)), .fz (.int (k : Nat)), .fz (.str p.1), .fz (.int p.2), .no] → ev G (.lc [5] (.bin .Add (.cst (.str "u")) (.idx (.cst (.str "abcdefghijklmnopqrstuvwxyz")) (.bin .Add (.var 2) (.var 5)))) (.nm 5) (.rng (.var 4)) .no) ρ = .ok (.list ((List.range p.2.toNat).map fun n => .str (mkS (k + n)))) := fun ρ hρ => by
      subst hρ
      simp only [ev_lc, evi_rng, ev_var, slot_0, slot_s, ok_bind, rngD_int, wipe_cons, wipe_nil, List.set_cons_succ, List.set_cons_zero]
      rw [range_ok (by omega) (by omega)]
      simp only [ok_bind]
      rw [lc_map (fun n : Nat => .int (n : Int)) (fun n => [a, .ow (.list (acc.map fun p => .tuple p.2)), .fz (.int (k : Nat)), .fz (.str p.1), .fz (.int p.2), .fz (.int (n : Nat))]) (fun n => .str (mkS (k + n))) (by simp) (by simp) (fun n hn => by
        have hn : n < p.2.toNat := List.mem_range.mp hn
        have hkn : k + n < 26 := by omega
        simp only [ev_bin, ev_idx, ev_cst, ev_var, slot_0, slot_s, ok_bind, bin_add, sign n hkn, cat n hkn])]
      rfl
    have b1 : bindT (.tp (.cons (.nm 3) (.cons (.nm 4) .nil))) (pipeD p) [a, .ow (.list (acc.map fun p => .tuple p.2)), .fz (.int (k : Nat)), .no, .no, .no] = .ok [a, .ow (.list (acc.map fun p => .tuple p.2)), .fz (.int (k : Nat)), .fz (.str p.1), .fz (.int p.2), .no] := by simp [pipeD]
    rw [b1]
    dsimp only
    have c0 : exS G (.app 1 (.blt .tuple (.lc [5] (.bin .Add (.cst (.str "u")) (.idx (.cst (.str "abcdefghijklmnopqrstuvwxyz")) (.bin .Add (.var 2) (.var 5)))) (.nm 5) (.rng (.var 4)) .no))) [a, .ow (.list (acc.map fun p => .tuple p.2)), .fz (.int (k : Nat)), .fz (.str p.1), .fz (.int p.2), .no] = .nx [a, .ow (.list ((acc ++ [(p.1, (List.range p.2.toNat).map fun n => PyData.str (mkS (k + n)))]).map fun p => .tuple p.2)), .fz (.int (k : Nat)), .fz (.str p.1), .fz (.int p.2), .no] := by
      simp only [ex_app, ev_blt, lc _ rfl, ok_bind, tup_lst, slotl_0, slotl_s, liftR_ok]
      simp [appD, hsz]
    unfold unlC
    rw [ex_cons, c0, then_nx]
    have ek : (k : Int) + p.2 = ((k + p.2.toNat : Nat) : Int) := by omega
    simp [ek]
def Sp__law_unlike (F : List D → Res D) : Prop := ∀ ps ws, NetG ps ws → total ps ≤ 26 → F [netD ps ws] = .ok (kvD (unl 0 ps))
theorem s__law_unlike : Sp__law_unlike (fnD G 1 5 c__law_unlike) := fun ps ws h ht => by
  have hpl := h.pl
  have L := unl_loop (G := G) (ps := ps) (k := 0) (acc := []) (a := .fz (netD ps ws)) (fun p hp => by have := h.lo p hp; omega) (by omega) (by simp; omega)
  rw [fnD_eq (by rfl)]
  show finD (exSs G (.cons (.par [(1, true), (2, false)] (.cons (.lst (.nil)) (.cons (.cst (.int 0)) .nil))) (.cons (.for_ [3, 4] (.tp (.cons (.nm 3) (.cons (.nm 4) .nil))) (.seq (.idx (.var 0) (.cst (.int 0)))) unlC) (.cons (.ret (.blt .tuple (.own 1))) .nil))) [.fz (netD ps ws), .no, .no, .no, .no, .no]) = _
  have c0 : exS G (.par [(1, true), (2, false)] (.cons (.lst (.nil)) (.cons (.cst (.int 0)) .nil))) [.fz (netD ps ws), .no, .no, .no, .no, .no] = .nx [.fz (netD ps ws), .ow (.list []), .fz (.int 0), .no, .no, .no] := by simp
  rw [ex_cons, c0, then_nx, ex_cons, ex_for]
  have ei : evi G (.seq (.idx (.var 0) (.cst (.int 0)))) [.fz (netD ps ws), .ow (.list []), .fz (.int 0), .no, .no, .no] = .ok (ps.map pipeD) := by simp [netD]
  rw [ei, liftR_ok]
  simp only [wipe_cons, wipe_nil, List.set_cons_succ, List.set_cons_zero]
  have L : forGo (.tp (.cons (.nm 3) (.cons (.nm 4) .nil))) [3, 4] (fun ρ => exSs G unlC ρ) (ps.map pipeD) [.fz (netD ps ws), .ow (.list []), .fz (.int 0), .no, .no, .no] = .nx [.fz (netD ps ws), .ow (.list ((unl 0 ps).map fun p => .tuple p.2)), .fz (.int ((0 + total ps : Nat) : Int)), .no, .no, .no] := by simpa using L
  rw [L, then_nx]
  simp [kvD]
end Fp
set_option maxHeartbeats 1000000
/-! spots and unlike slugs -/
namespace Fp
open PySem
variable {G : Str → List D → Res D} {ps : List PipeT} {ws : List WayT}
theorem eqv_spot {x y : Str} {i j : Nat} : PyData.eqv (spotD x i) (spotD y j) = true ↔ x = y ∧ i = j := by
  simp [spotD, PyData.eqv, PyData.eqvAll]
  intro _
  omega
theorem eqv_spot_int {x : Str} {i : Nat} {k : Int} : PyData.eqv (spotD x i) (.int k) = false := by simp [spotD, PyData.eqv]
theorem eqv_int_spot {x : Str} {i : Nat} {k : Int} : PyData.eqv (.int k) (spotD x i) = false := by simp [spotD, PyData.eqv]
/-- a spot of a net, or a number -/
def isV (ps : List PipeT) (d : D) : Prop := (∃ p ∈ ps, ∃ i : Nat, (i : Int) < p.2 ∧ d = spotD p.1 i) ∨ ∃ k : Nat, d = .int k
def phi (ps : List PipeT) (d : D) : D := match ixOf (spotsL ps) d with
  | some j => .str (mkS j)
  | none => d
theorem phi_int {k : Nat} : phi ps (.int k) = .int k := by
  unfold phi
  have : ixOf (spotsL ps) (.int k) = none := by
    unfold ixOf
    rw [List.findIdx?_eq_none_iff]
    intro x hx
    obtain ⟨p, _, hx⟩ := List.mem_flatMap.mp hx
    obtain ⟨i, _, rfl⟩ := List.mem_map.mp hx
    simp [eqv_spot_int]
  rw [this]
theorem spotsL_total : ∀ {ps : List PipeT}, (spotsL ps).length = total ps
  | [] => rfl
  | p :: ps => by
    have ih := spotsL_total (ps := ps)
    unfold spotsL at ih ⊢
    rw [List.flatMap_cons, List.length_append, ih]
    simp [spotsP, total]
theorem ix_app {A B : List D} {u : D} (h : ixOf A u = none) : ixOf (A ++ B) u = (ixOf B u).map (· + A.length) := by
  unfold ixOf at h ⊢
  rw [List.findIdx?_append, h]
  simp
theorem ix_appL {A B : List D} {u : D} {j : Nat} (h : ixOf A u = some j) : ixOf (A ++ B) u = some j := by
  unfold ixOf at h ⊢
  rw [List.findIdx?_append, h]
  rfl
theorem ix_range {x : Str} {n i : Nat} (h : i < n) : ixOf ((List.range n).map (spotD x)) (spotD x i) = some i := by
  unfold ixOf
  rw [List.findIdx?_eq_some_iff_getElem]
  refine ⟨by simpa using h, by simp [eqv_spot], fun j hj => ?_⟩
  simp only [List.getElem_map, List.getElem_range, Bool.not_eq_true]
  cases hb : PyData.eqv (spotD x j) (spotD x i) with
  | false => rfl
  | true =>
    have := (eqv_spot.mp hb).2
    omega
theorem ix_no {A : List PipeT} {x : Str} {i : Nat} (h : x ∉ A.map (·.1)) : ixOf (spotsL A) (spotD x i) = none := by
  unfold ixOf
  rw [List.findIdx?_eq_none_iff]
  intro y hy
  obtain ⟨p, hp, hy⟩ := List.mem_flatMap.mp hy
  obtain ⟨j, _, rfl⟩ := List.mem_map.mp hy
  cases hb : PyData.eqv (spotD p.1 j) (spotD x i) with
  | false => rfl
  | true => exact absurd (by rw [← (eqv_spot.mp hb).1]; exact List.mem_map_of_mem hp) h
theorem spotsL_app {A B : List PipeT} : spotsL (A ++ B) = spotsL A ++ spotsL B := by
  unfold spotsL
  rw [List.flatMap_append]
theorem ix_spot {A B : List PipeT} {p : PipeT} (h : p.1 ∉ A.map (·.1)) {i : Nat} (hi : i < p.2.toNat) : ixOf (spotsL (A ++ p :: B)) (spotD p.1 i) = some (total A + i) := by
  rw [spotsL_app, ix_app (ix_no h)]
  have : spotsL (p :: B) = spotsP p ++ spotsL B := by unfold spotsL; rw [List.flatMap_cons]
  have e2 : ixOf (spotsP p) (spotD p.1 i) = some i := ix_range hi
  rw [this, ix_appL e2, spotsL_total]
  simp
  omega
theorem phi_spot {A B : List PipeT} {p : PipeT} (h : p.1 ∉ A.map (·.1)) {i : Nat} (hi : i < p.2.toNat) : phi (A ++ p :: B) (spotD p.1 i) = .str (mkS (total A + i)) := by
  unfold phi
  rw [ix_spot h hi]
theorem total_app {A B : List PipeT} : total (A ++ B) = total A + total B := by
  unfold total
  rw [List.map_append, List.sum_append]
theorem unl_phi : ∀ {B A : List PipeT}, ((A ++ B).map (·.1)).Nodup → unl (total A) B = (markKv B).map fun q => (q.1, q.2.map (phi (A ++ B)))
  | [], A, _ => rfl
  | p :: B, A, hn => by
    have hA : p.1 ∉ A.map (·.1) := by
      rw [List.map_append, List.nodup_append] at hn
      exact fun q => hn.2.2 _ q _ (by simp) rfl
    have ih := unl_phi (B := B) (A := A ++ [p]) (by simpa using hn)
    have et : total (A ++ [p]) = total A + p.2.toNat := by rw [total_app]; simp [total]
    rw [et, List.append_assoc] at ih
    unfold unl markKv
    rw [List.map_cons, List.map_cons, ih]
    congr 1
    congr 1
    unfold spotsP
    rw [List.map_map]
    refine List.map_congr_left fun n hn' => ?_
    exact (phi_spot hA (List.mem_range.mp hn')).symm
theorem unl_eq (h : NetG ps ws) : unl 0 ps = mapA (phi ps) (markKv ps) := by
  have := unl_phi (A := []) (B := ps) (by simpa using h.np)
  exact this
theorem phi_V (h : NetG ps ws) {p : PipeT} (hp : p ∈ ps) {i : Nat} (hi : (i : Int) < p.2) : ∃ j, j < total ps ∧ phi ps (spotD p.1 i) = .str (mkS j) ∧ (spotsL ps)[j]? = some (spotD p.1 i) := by
  obtain ⟨A, B, e, h1, h2⟩ := split_ps h hp
  subst e
  have hi' : i < p.2.toNat := by omega
  refine ⟨total A + i, ?_, phi_spot h1 hi', ?_⟩
  · rw [total_app]
    have : total (p :: B) = p.2.toNat + total B := by simp [total]
    omega
  · have := ix_spot (B := B) h1 hi'
    unfold ixOf at this
    rw [List.findIdx?_eq_some_iff_getElem] at this
    obtain ⟨hlt, he, _⟩ := this
    rw [List.getElem?_eq_getElem hlt]
    have hm := List.getElem_mem hlt
    obtain ⟨q, hq, hx⟩ := List.mem_flatMap.mp hm
    obtain ⟨k, _, hk⟩ := List.mem_map.mp hx
    rw [← hk] at he ⊢
    obtain ⟨z1, z2⟩ := eqv_spot.mp he
    rw [z1, z2]
theorem phi_eqv (h : NetG ps ws) (ht : total ps ≤ 26) {u v : D} (hu : isV ps u) (hv : isV ps v) : PyData.eqv (phi ps u) (phi ps v) = PyData.eqv u v := by
  rcases hu with ⟨p, hp, i, hi, rfl⟩ | ⟨k, rfl⟩
  · obtain ⟨a, ha, ea, ga⟩ := phi_V h hp hi
    rw [ea]
    rcases hv with ⟨q, hq, j, hj, rfl⟩ | ⟨l, rfl⟩
    · obtain ⟨b, hb, eb, gb⟩ := phi_V h hq hj
      rw [eb, eqv_str]
      cases hc : PyData.eqv (spotD p.1 i) (spotD q.1 j) with
      | true =>
        obtain ⟨z1, z2⟩ := eqv_spot.mp hc
        have : phi ps (spotD p.1 i) = phi ps (spotD q.1 j) := by rw [z1, z2]
        rw [ea, eb] at this
        injection this with this
        rw [this]
        simp
      | false =>
        cases hd : mkS a == mkS b with
        | false => rfl
        | true =>
          have := mkS_inj a (by omega) b (by omega) (eq_of_beq hd)
          subst this
          rw [ga] at gb
          injection gb with gb
          rw [gb, eqv_spot.mpr ⟨rfl, rfl⟩] at hc
          cases hc
    · rw [phi_int, eqv_spot_int]
      simp [PyData.eqv]
  · rw [phi_int]
    rcases hv with ⟨q, hq, j, hj, rfl⟩ | ⟨l, rfl⟩
    · obtain ⟨b, hb, eb, gb⟩ := phi_V h hq hj
      rw [eb, eqv_int_spot]
      simp [PyData.eqv]
    · rw [phi_int]
theorem ix_phi (h : NetG ps ws) (ht : total ps ≤ 26) {u : D} (hu : isV ps u) {xs : List D} (hx : ∀ x ∈ xs, isV ps x) : ixOf (xs.map (phi ps)) (phi ps u) = ixOf xs u := by
  unfold ixOf
  rw [List.findIdx?_map]
  induction xs with
  | nil => rfl
  | cons x xs ih =>
    rw [List.findIdx?_cons, List.findIdx?_cons, ih fun y hy => hx y (by simp [hy])]
    show (if PyData.eqv (phi ps x) (phi ps u) = true then _ else _) = _
    rw [phi_eqv h ht (hx x (by simp)) hu]
theorem mark_V (h : NetG ps ws) : KvAll (isV ps) (markKv ps) := fun p hp s hs => by
  obtain ⟨q, hq, rfl⟩ := List.mem_map.mp hp
  obtain ⟨i, hi, rfl⟩ := List.mem_map.mp hs
  have := List.mem_range.mp hi
  exact .inl ⟨q, hq, i, by omega, rfl⟩
theorem trace_V (h : NetG ps ws) {r : RunT} (hr : ∀ q ∈ r, q.1 ∈ ws) : KvAll (isV ps) (trace ps r).1 ∧ ∀ p ∈ (trace ps r).2, isV ps p.2 :=
  KvAll.run h (fun q hq => ⟨numR_ws hr q hq, by
    obtain ⟨p, _, rfl⟩ := List.mem_map.mp hq
    exact .inr ⟨p.1, rfl⟩⟩) ((markKv_l h).ok h) (mark_V h)
theorem numR_phi {r : RunT} : mapR (phi ps) (numR r) = numR r := by
  unfold mapR numR
  rw [List.map_map]
  refine List.map_congr_left fun p _ => ?_
  show (p.2.1, phi ps (.int ((p.1 : Nat) : Int))) = _
  rw [phi_int]
theorem went_phi (h : NetG ps ws) {r : RunT} (hr : ∀ q ∈ r, q.1 ∈ ws) : runA (numR r) (unl 0 ps) = (mapA (phi ps) (trace ps r).1, (trace ps r).2.map fun p => (p.1, phi ps p.2)) := by
  have := runA_map (f := phi ps) h (numR_ws hr) ((markKv_l h).ok h)
  rw [numR_phi, ← unl_eq h] at this
  exact this
theorem V_eqv (h : NetG ps ws) {u v : D} (hu : isV ps u) (hv : isV ps v) : PyData.eqv u v = true ↔ u = v := by
  rcases hu with ⟨p, hp, i, hi, rfl⟩ | ⟨k, rfl⟩
  · rcases hv with ⟨q, hq, j, hj, rfl⟩ | ⟨l, rfl⟩
    · rw [eqv_spot]
      constructor
      · rintro ⟨h1, h2⟩; rw [h1, h2]
      · intro e
        simp [spotD] at e
        exact ⟨e.1, by omega⟩
    · rw [eqv_spot_int]
      simp [spotD]
  · rcases hv with ⟨q, hq, j, hj, rfl⟩ | ⟨l, rfl⟩
    · rw [eqv_int_spot]
      simp [spotD]
    · simp
end Fp
set_option maxHeartbeats 1000000
/-! pushes and pushes drawn back: nothing is lost, one undoes the other -/
namespace Fp
open PySem
variable {G : Str → List D → Res D} {ps : List PipeT} {ws : List WayT}
theorem getA_set {kv : KV} {x : Str} {r : List D} (hn : (kv.map (·.1)).Nodup) (hx : x ∈ kv.map (·.1)) : getA (setA kv x r) x = r := by
  obtain ⟨A, r0, B, rfl, h1, h2⟩ := split_kv hn hx
  rw [setA_split h1 h2, getA_split h1]
theorem getA_set_ne {kv : KV} {x y : Str} {r : List D} (h : x ≠ y) : getA (setA kv y r) x = getA kv x := by
  unfold getA setA
  rw [List.find?_map]
  have e : ((fun p : Str × List D => p.1 == x) ∘ fun p : Str × List D => if p.1 == y then (p.1, r) else p) = fun p => p.1 == x := by
    funext p
    show ((if p.1 == y then (p.1, r) else p).1 == x) = _
    split <;> rfl
  rw [e]
  cases hf : kv.find? fun p => p.1 == x with
  | none => rfl
  | some p =>
    have hp : p.1 = x := by simpa using List.find?_some hf
    have : ¬ p.1 = y := by rw [hp]; exact h
    simp [this]
theorem setA_back {kv : KV} {x : Str} {r : List D} (hn : (kv.map (·.1)).Nodup) (hx : x ∈ kv.map (·.1)) : setA (setA kv x r) x (getA kv x) = kv := by
  obtain ⟨A, r0, B, rfl, h1, h2⟩ := split_kv hn hx
  rw [setA_split h1 h2, getA_split h1, setA_split h1 h2]
theorem pushA_app : ∀ {A B : List Str} {kv : KV} {s : D}, pushA (A ++ B) kv s = pushA B (pushA A kv s).1 (pushA A kv s).2
  | [], _, _, _ => rfl
  | x :: A, B, kv, s => by
    show pushA (A ++ B) _ _ = _
    rw [pushA_app]
    rfl
theorem drawA_app : ∀ {A B : List Str} {kv : KV} {s : D}, drawA (A ++ B) kv s = drawA B (drawA A kv s).1 (drawA A kv s).2
  | [], _, _, _ => rfl
  | x :: A, B, kv, s => by
    show drawA (A ++ B) _ _ = _
    rw [drawA_app]
    rfl
theorem draw_push {names : List Str} (hn : names.Nodup) : ∀ {row : List Str} {kv : KV} {s : D}, (∀ x ∈ row, x ∈ names) → KvOk names kv → drawA row.reverse (pushA row kv s).1 (pushA row kv s).2 = (kv, s)
  | [], _, _, _, _ => rfl
  | x :: row, kv, s, hx, hk => by
    have hxn := hx x (by simp)
    have hl := hk.get hn hxn
    obtain ⟨xs, l, e⟩ := snoc_of hl.1
    have hk' := hk.set (x := x) (r := s :: (getA kv x).dropLast) (by simp; omega)
    have ih := draw_push hn (row := row) (kv := setA kv x (s :: (getA kv x).dropLast)) (s := (getA kv x).getLast?.getD .none) (fun y hy => hx y (by simp [hy])) hk'
    have hkn : (kv.map (·.1)).Nodup := by rw [hk.nm]; exact hn
    have hkx : x ∈ kv.map (·.1) := by rw [hk.nm]; exact hxn
    unfold pushA
    rw [List.reverse_cons, drawA_app, ih]
    show drawA [x] _ _ = _
    unfold drawA drawA
    rw [getA_set hkn hkx]
    have e1 : (s :: (getA kv x).dropLast).drop 1 ++ [(getA kv x).getLast?.getD .none] = getA kv x := by rw [e]; simp
    rw [e1, setA_back hkn hkx]
    rfl
theorem push_draw {names : List Str} (hn : names.Nodup) : ∀ {row : List Str} {kv : KV} {s : D}, (∀ x ∈ row, x ∈ names) → KvOk names kv → pushA row.reverse (drawA row kv s).1 (drawA row kv s).2 = (kv, s)
  | [], _, _, _, _ => rfl
  | x :: row, kv, s, hx, hk => by
    have hxn := hx x (by simp)
    have hl := hk.get hn hxn
    obtain ⟨l, xs, e⟩ := cons_of hl.1
    have hk' := hk.set (x := x) (r := (getA kv x).drop 1 ++ [s]) (by simp; omega)
    have ih := push_draw hn (row := row) (kv := setA kv x ((getA kv x).drop 1 ++ [s])) (s := (getA kv x).head?.getD .none) (fun y hy => hx y (by simp [hy])) hk'
    have hkn : (kv.map (·.1)).Nodup := by rw [hk.nm]; exact hn
    have hkx : x ∈ kv.map (·.1) := by rw [hk.nm]; exact hxn
    unfold drawA
    rw [List.reverse_cons, pushA_app, ih]
    show pushA [x] _ _ = _
    unfold pushA pushA
    rw [getA_set hkn hkx]
    have e1 : (getA kv x).head?.getD .none :: ((getA kv x).drop 1 ++ [s]).dropLast = getA kv x := by rw [e]; simp
    rw [e1, setA_back hkn hkx]
    simp
/-! ### nothing is lost -/
def flatK (kv : KV) : List D := kv.flatMap (·.2)
theorem push_perm {names : List Str} (hn : names.Nodup) : ∀ {row : List Str} {kv : KV} {s : D}, (∀ x ∈ row, x ∈ names) → KvOk names kv → (s :: flatK kv).Perm ((pushA row kv s).2 :: flatK (pushA row kv s).1)
  | [], _, _, _, _ => List.Perm.refl _
  | x :: row, kv, s, hx, hk => by
    have hxn := hx x (by simp)
    have hl := hk.get hn hxn
    have hk' := hk.set (x := x) (r := s :: (getA kv x).dropLast) (by simp; omega)
    have ih := push_perm hn (row := row) (kv := setA kv x (s :: (getA kv x).dropLast)) (s := (getA kv x).getLast?.getD .none) (fun y hy => hx y (by simp [hy])) hk'
    unfold pushA
    refine List.Perm.trans ?_ ih
    obtain ⟨A, r, B, rfl, h1, h2⟩ := split_kv (x := x) (by rw [hk.nm]; exact hn) (by rw [hk.nm]; exact hxn)
    rw [getA_split h1] at hl ⊢
    rw [setA_split h1 h2]
    obtain ⟨xs, l, rfl⟩ := snoc_of hl.1
    unfold flatK
    simp only [List.flatMap_append, List.flatMap_cons, List.dropLast_concat, List.getLast?_append, List.getLast?_singleton, Option.some_or, Option.getD_some, List.cons_append]
    have p1 : (s :: (A.flatMap (·.2) ++ ((xs ++ [l]) ++ B.flatMap (·.2)))).Perm (A.flatMap (·.2) ++ (s :: ((xs ++ [l]) ++ B.flatMap (·.2)))) := List.perm_middle.symm
    have p2 : (l :: (A.flatMap (·.2) ++ (s :: (xs ++ B.flatMap (·.2))))).Perm (A.flatMap (·.2) ++ (l :: (s :: (xs ++ B.flatMap (·.2))))) := List.perm_middle.symm
    refine p1.trans (List.Perm.trans (List.Perm.append_left _ ?_) p2.symm)
    have p3 : (s :: ((xs ++ [l]) ++ B.flatMap (·.2))).Perm (s :: (l :: (xs ++ B.flatMap (·.2)))) := by
      rw [List.append_assoc]
      exact List.Perm.cons _ List.perm_middle
    exact p3.trans (List.Perm.swap _ _ _)
/-! ### pipes on the way and off it -/
theorem push_off {x : Str} : ∀ {row : List Str} {kv : KV} {s : D}, x ∉ row → getA (pushA row kv s).1 x = getA kv x
  | [], _, _, _ => rfl
  | y :: row, kv, s, h => by
    unfold pushA
    rw [push_off (fun q => h (by simp [q])), getA_set_ne (fun e => h (by simp [e]))]
theorem push_on {names : List Str} (hn : names.Nodup) {x : Str} : ∀ {row : List Str} {kv : KV} {s : D}, (∀ x ∈ row, x ∈ names) → row.Nodup → KvOk names kv → x ∈ row → ∃ s', getA (pushA row kv s).1 x = s' :: (getA kv x).dropLast ∧ (row.head? = some x → s' = s)
  | [], _, _, _, _, _, h => by cases h
  | y :: row, kv, s, hx, hd, hk, h => by
    rw [List.nodup_cons] at hd
    have hyn := hx y (by simp)
    have hl := hk.get hn hyn
    have hk' := hk.set (x := y) (r := s :: (getA kv y).dropLast) (by simp; omega)
    unfold pushA
    by_cases e : x = y
    · subst e
      exact ⟨s, by rw [push_off hd.1, getA_set (by rw [hk.nm]; exact hn) (by rw [hk.nm]; exact hyn)], fun _ => rfl⟩
    · have hm : x ∈ row := by
        rcases List.mem_cons.mp h with h | h
        · exact absurd h e
        · exact h
      obtain ⟨s', g1, g2⟩ := push_on hn (row := row) (kv := setA kv y (s :: (getA kv y).dropLast)) (s := (getA kv y).getLast?.getD .none) (fun z hz => hx z (by simp [hz])) hd.2 hk' hm
      refine ⟨s', by rw [g1, getA_set_ne e], fun z => ?_⟩
      simp only [List.head?_cons, Option.some.injEq] at z
      exact absurd z.symm e
theorem push_out {names : List Str} (hn : names.Nodup) {A : List Str} {z : Str} {kv : KV} {s : D} (hz : z ∉ A) : (pushA (A ++ [z]) kv s).2 = (getA kv z).getLast?.getD .none := by
  rw [pushA_app]
  show (getA (pushA A kv s).1 z).getLast?.getD .none = _
  rw [push_off hz]
/-! ### states -/
theorem state_yes (h : NetG ps ws) {kv : KV} (hk : KvL ps kv) (hn : KvNm kv) : isStateOf ps (kvD kv) = true := by
  unfold isStateOf kvD
  have hl : kv.length = ps.length := by
    have := congrArg List.length hk.eq
    simpa using this
  have e1 : (kv.map fun p => PyData.tuple p.2).length = ps.length := by rw [List.length_map]; exact hl
  have e2 : (kv.map fun p => PyData.tuple p.2).all isTup = true := by
    rw [List.all_eq_true]
    intro x hx
    obtain ⟨p, _, rfl⟩ := List.mem_map.mp hx
    rfl
  have e3 : ((kv.map fun p => PyData.tuple p.2).zip ps).all (fun p => decide (((itemsT p.1).length : Int) = p.2.2)) = true := by
    rw [List.all_eq_true]
    rintro ⟨x, q⟩ hx
    obtain ⟨i, hi⟩ := List.getElem?_of_mem hx
    rw [List.getElem?_zip_eq_some] at hi
    obtain ⟨i1, i2⟩ := hi
    dsimp only at i1 i2
    rw [List.getElem?_map, Option.map_eq_some_iff] at i1
    obtain ⟨p, i1, rfl⟩ := i1
    have := congrArg (fun l => l[i]?) hk.eq
    simp only [List.getElem?_map, i1, i2, Option.map_some, Option.some.injEq] at this
    rw [decide_eq_true_eq, ← this]
    rfl
  have e4 : ((kv.map fun p => PyData.tuple p.2).flatMap itemsT).all isName = true := by
    rw [List.all_eq_true]
    intro x hx
    obtain ⟨y, hy, hx⟩ := List.mem_flatMap.mp hx
    obtain ⟨p, hp, rfl⟩ := List.mem_map.mp hy
    exact hn p hp x hx
  simp only [e1, e2, e3, e4, decide_true, Bool.and_self]
theorem KvL.draw (hn : NetG ps ws) : ∀ {row : List Str} {kv : KV} {s : D}, (∀ x ∈ row, x ∈ ps.map (·.1)) → KvL ps kv → KvL ps (drawA row kv s).1
  | [], _, _, _, h => h
  | x :: row, kv, s, hx, h => by
    have hl := (h.ok hn).get hn.np (hx x (by simp))
    unfold drawA
    exact KvL.draw hn (fun y hy => hx y (by simp [hy])) (h.set (by rw [h.nm]; exact hn.np) (by simp; omega))
theorem GoodS.kvl {st : List (List Str)} (h : GoodS ps st) {kv : KV} (h1 : kv.map (·.1) = ps.map (·.1)) (e : kv.map (·.2) = st.map fun r => r.map .str) : KvL ps kv := ⟨by
  have e2 : kv.map (fun p => (p.2.length : Int)) = ps.map (·.2) := by
    rw [← h.len]
    have := congrArg (List.map fun r : List D => (r.length : Int)) e
    rw [List.map_map, List.map_map] at this
    have e3 : (fun r : List Str => (((r.map PyData.str).length : Nat) : Int)) = fun r => (r.length : Int) := by funext r; simp
    calc kv.map (fun p => (p.2.length : Int)) = st.map ((fun r : List D => (r.length : Int)) ∘ fun r => r.map .str) := this
      _ = st.map fun r => (r.length : Int) := by rw [← e3]; rfl
  have z : ∀ {a : List (Str × List D)} {b : List PipeT}, a.map (·.1) = b.map (·.1) → a.map (fun p => (p.2.length : Int)) = b.map (·.2) → a.map (fun p => (p.1, (p.2.length : Int))) = b := by
    intro a
    induction a with
    | nil =>
      intro b h1 h2
      cases b with
      | nil => rfl
      | cons q b => simp at h1
    | cons p a ih =>
      intro b h1 h2
      cases b with
      | nil => simp at h1
      | cons q b =>
        simp only [List.map_cons, List.cons.injEq] at h1 h2 ⊢
        exact ⟨by rw [h1.1, h2.1], ih h1.2 h2.2⟩
  exact z h1 e2⟩
end Fp
set_option maxHeartbeats 1000000
/-! `_law_pick`, by value -/
namespace Fp
open PySem
variable {G : Str → List D → Res D}
def pkT : E := (.bop .And (.cons (.cmp .Gt (.var 4) (.cst (.int 0))) (.cons (.cmp .Gt (.var 5) (.cst (.int 0))) .nil)))
def pkB : Ss := (.cons (.par [(4, false), (5, false)] (.cons (.bin .FloorDiv (.var 4) (.cst (.int 840))) (.cons (.bin .Sub (.var 5) (.cst (.int 1))) .nil))) .nil)
theorem wh_pick {a b c d f : Slot} : ∀ (n : Nat) (rest again : Int), again < n → ∃ r' a', whGo [] (fun ρ => ev G pkT ρ >>= asBool) (fun ρ => exSs G pkB ρ) n [a, b, c, d, .fz (.int rest), .fz (.int again), f] = .nx [a, b, c, d, .fz (.int r'), .fz (.int a'), f] ∨ n = 0
  | 0, _, _, _ => ⟨0, 0, .inr rfl⟩
  | n + 1, rest, again, h => by
    unfold whGo
    by_cases hc : 0 < rest ∧ 0 < again
    · have e1 : (ev G pkT [a, b, c, d, .fz (.int rest), .fz (.int again), f] >>= asBool) = .ok true := by simp [pkT, hc.1, hc.2]
      have e2 : exSs G pkB [a, b, c, d, .fz (.int rest), .fz (.int again), f] = .nx [a, b, c, d, .fz (.int (rest / 840)), .fz (.int (again - 1)), f] := by simp [pkB]
      obtain ⟨r', a', e⟩ := wh_pick n (rest / 840) (again - 1) (by omega)
      refine ⟨r', a', ?_⟩
      rcases e with e | e
      · refine .inl ?_
        rw [e1, e2]
        show whGo [] _ _ n (wipeE _ []) = _
        exact e
      · omega
    · refine ⟨rest, again, .inl ?_⟩
      have e1 : (ev G pkT [a, b, c, d, .fz (.int rest), .fz (.int again), f] >>= asBool) = .ok false := by
        by_cases h1 : 0 < rest
        · have h2 : ¬ 0 < again := fun h2 => hc ⟨h1, h2⟩
          simp [pkT, h1, h2]
        · simp [pkT, h1]
      rw [e1]
      rfl
def pk0 : S := (.set (.nm 3) (.ite (.cmp .NotEq (.var 0) (.lst (.nil))) (.idx (.var 0) (.bin .Mod (.var 1) (.blt .len (.var 0)))) (.cst (.int 0))))
def pk1 : S := (.par [(4, false), (5, false)] (.cons (.bin .FloorDiv (.var 3) (.bin .Pow (.cst (.int 10)) (.cst (.int 18)))) (.cons (.bin .FloorDiv (.var 1) (.blt2 .max (.blt .len (.var 0)) (.cst (.int 1)))) .nil)))
def pk3 : Ss := (.cons (.ite (.cmp .Gt (.var 4) (.cst (.int 0))) (.cons (.ret (.bin .Mod (.bin .Mod (.var 4) (.cst (.int 840))) (.var 2))) .nil) (.nil)) (.cons (.set (.nm 6) (.bin .Mod (.bin .Mult (.bin .Add (.bin .Mult (.var 3) (.cst (.int 31))) (.bin .Mult (.cst (.int 6151)) (.bin .Add (.var 1) (.cst (.int 1))))) (.cst (.int 40692))) (.cst (.int 2147483399)))) (.cons (.ret (.bin .Mod (.bin .Mod (.bin .Add (.bin .Mult (.var 6) (.var 6)) (.bin .FloorDiv (.var 6) (.cst (.int 31)))) (.cst (.int 2147483629))) (.var 2))) .nil)))
theorem pick_code : c__law_pick = .cons pk0 (.cons pk1 (.cons (.whl 100000 [] pkT pkB) pk3)) := rfl
theorem eqD_nil {ns : List Int} : eqD (.list (ns.map .int)) (.list []) = .ok (decide (ns = [])) := by
  rw [eqD_sh (n := 1) (m := 1) (sh_lst.mpr fun x hx => ?_) (sh_lst.mpr fun x hx => by cases hx) (by decide) (by decide)]
  · cases ns with
    | nil => rfl
    | cons a l => simp [PyData.eqv, PyData.eqvAll]
  · obtain ⟨i, _, rfl⟩ := List.mem_map.mp hx
    exact sh_int
theorem v_pick (ns : List Int) (hns : ns.length < 2 ^ 62) (k m : Int) (hk : k ≤ 90000) (hm : 0 < m) : ∃ r, fnD G 3 4 c__law_pick [.list (ns.map .int), .int k, .int m] = .ok (.int r) ∧ 0 ≤ r ∧ r < m := by
  rw [fnD_eq (by rfl), pick_code]
  obtain ⟨cell, hc⟩ : ∃ cell : Int, exS G pk0 [.fz (.list (ns.map .int)), .fz (.int k), .fz (.int m), .no, .no, .no, .no] = .nx [.fz (.list (ns.map .int)), .fz (.int k), .fz (.int m), .fz (.int cell), .no, .no, .no] := by
    by_cases hn : ns = []
    · subst hn
      have e0 : eqD (.list []) (.list []) = .ok true := rfl
      exact ⟨0, by simp [pk0, e0]⟩
    · have hl : 0 < ns.length := List.length_pos_iff.mpr hn
      have hk1 : 0 ≤ k % ns.length := Int.emod_nonneg _ (by omega)
      have hk2 : k % ns.length < ns.length := Int.emod_lt_of_pos _ (by omega)
      obtain ⟨j, hj⟩ : ∃ j : Nat, k % ns.length = j := ⟨(k % ns.length).toNat, by omega⟩
      have hjl : j < ns.length := by omega
      exact ⟨ns[j], by simp [pk0, eqD_nil, hn, hl, hj, hjl]⟩
  have hmx : ∃ l : Int, (if (1 : Int) > (ns.length : Nat) then (1 : Int) else (ns.length : Nat)) = l ∧ 0 < l ∧ l < 2 ^ 64 := by
    refine ⟨_, rfl, ?_, ?_⟩ <;> split <;> omega
  obtain ⟨l, hl, hl1, hl2⟩ := hmx
  have h1 : exS G pk1 [.fz (.list (ns.map .int)), .fz (.int k), .fz (.int m), .fz (.int cell), .no, .no, .no] = .nx [.fz (.list (ns.map .int)), .fz (.int k), .fz (.int m), .fz (.int cell), .fz (.int (cell / 1000000000000000000)), .fz (.int (k / l)), .no] := by
    unfold pk1
    simp only [ex_par, evp_cons, evp_nil, ev_bin, ev_var, ev_cst, ev_blt, ev_blt2, slot_s, slot_0, ok_bind, len_lst, List.length_map, max_int, hl, pow18, bin_div, if_pos (show (0 : Int) < 1000000000000000000 ∧ (1000000000000000000 : Int) < 2 ^ 64 by decide), if_pos (And.intro hl1 hl2), isL_f]
    simp
  have hkl : k / l < 100000 := by
    rcases Int.le_total 0 k with h | h
    · have := Int.ediv_le_self l h
      omega
    · have : k / l ≤ 0 := Int.ediv_nonpos_of_nonpos_of_neg h (by omega)
      omega
  obtain ⟨r', a', e⟩ := wh_pick (G := G) (a := .fz (.list (ns.map .int))) (b := .fz (.int k)) (c := .fz (.int m)) (d := .fz (.int cell)) (f := .no) 100000 (cell / 1000000000000000000) (k / l) hkl
  rcases e with e | e
  · have h2 : exS G (.whl 100000 [] pkT pkB) [.fz (.list (ns.map .int)), .fz (.int k), .fz (.int m), .fz (.int cell), .fz (.int (cell / 1000000000000000000)), .fz (.int (k / l)), .no] = .nx [.fz (.list (ns.map .int)), .fz (.int k), .fz (.int m), .fz (.int cell), .fz (.int r'), .fz (.int a'), .no] := e
    show ∃ r, finD (exSs G _ [.fz (.list (ns.map .int)), .fz (.int k), .fz (.int m), .no, .no, .no, .no]) = _ ∧ _
    rw [ex_cons, hc, then_nx, ex_cons, h1, then_nx, ex_cons, h2, then_nx]
    by_cases h : 0 < r'
    · exact ⟨r' % 840 % m, by simp [pk3, h, hm], Int.emod_nonneg _ (by omega), Int.emod_lt_of_pos _ hm⟩
    · have q1 : 0 ≤ (cell * 31 + 6151 * (k + 1)) * 40692 % 2147483399 := Int.emod_nonneg _ (by decide)
      have q2 : (cell * 31 + 6151 * (k + 1)) * 40692 % 2147483399 < 2147483399 := Int.emod_lt_of_pos _ (by decide)
      generalize hg : (cell * 31 + 6151 * (k + 1)) * 40692 % 2147483399 = x at q1 q2
      have hx : (-(2 ^ 64) < x ∧ x < 2 ^ 64) ∨ (-(2 ^ 64) < x ∧ x < 2 ^ 64) := .inl ⟨by omega, by omega⟩
      refine ⟨(x * x + x / 31) % 2147483629 % m, ?_, Int.emod_nonneg _ (by omega), Int.emod_lt_of_pos _ hm⟩
      have e6 : exS G (.set (.nm 6) (.bin .Mod (.bin .Mult (.bin .Add (.bin .Mult (.var 3) (.cst (.int 31))) (.bin .Mult (.cst (.int 6151)) (.bin .Add (.var 1) (.cst (.int 1))))) (.cst (.int 40692))) (.cst (.int 2147483399)))) [.fz (.list (ns.map .int)), .fz (.int k), .fz (.int m), .fz (.int cell), .fz (.int r'), .fz (.int a'), .no] = .nx [.fz (.list (ns.map .int)), .fz (.int k), .fz (.int m), .fz (.int cell), .fz (.int r'), .fz (.int a'), .fz (.int x)] := by
        simp [hg]
      have e3 : exS G (.ite (.cmp .Gt (.var 4) (.cst (.int 0))) (.cons (.ret (.bin .Mod (.bin .Mod (.var 4) (.cst (.int 840))) (.var 2))) .nil) (.nil)) [.fz (.list (ns.map .int)), .fz (.int k), .fz (.int m), .fz (.int cell), .fz (.int r'), .fz (.int a'), .no] = .nx [.fz (.list (ns.map .int)), .fz (.int k), .fz (.int m), .fz (.int cell), .fz (.int r'), .fz (.int a'), .no] := by simp [h]
      unfold pk3
      rw [ex_cons, e3, then_nx, ex_cons, e6, then_nx]
      simp only [ex_cons, ex_ret, ev_bin, ev_var, ev_cst, slot_s, slot_0, ok_bind, bin_mul, if_pos hx, bin_div, bin_add, bin_mod, if_pos (show (0 : Int) < 31 ∧ (31 : Int) < 2 ^ 64 by decide), if_pos (show (0 : Int) < 2147483629 by decide), if_pos hm, liftR_ok, then_rt, fin_rt]
  · cases e
def PickOk (G : Str → List D → Res D) (ns : List Int) : Prop := ∀ k m : Int, k ≤ 90000 → 0 < m → ∃ r, G "_law_pick" [.list (ns.map .int), .int k, .int m] = .ok (.int r) ∧ 0 ≤ r ∧ r < m
def Sp__law_pick (F : List D → Res D) : Prop := ∀ ns : List Int, ns.length ≤ 63 → ∀ k m : Int, k ≤ 90000 → 0 < m → ∃ r, F [.list (ns.map .int), .int k, .int m] = .ok (.int r) ∧ 0 ≤ r ∧ r < m
theorem s__law_pick : Sp__law_pick (fnD G 3 4 c__law_pick) := fun ns hl k m hk hm => v_pick ns (by omega) k m hk hm
end Fp
set_option maxHeartbeats 1000000
/-! nets that are picked, by value -/
namespace Fp
open PySem
variable {G : Str → List D → Res D}
def pN : List Str := ["p", "q", "r"]
def wN : List Str := ["u", "v", "w"]
structure PickP (ps : List PipeT) : Prop where
  n1 : 1 ≤ ps.length
  n2 : ps.length ≤ 3
  nm : ps.map (·.1) = pN.take ps.length
  lo : ∀ p ∈ ps, 1 ≤ p.2 ∧ p.2 ≤ 2
structure PickN (most : Nat) (ps : List PipeT) (ws : List WayT) : Prop where
  p : PickP ps
  n1 : 1 ≤ ws.length
  n2 : ws.length ≤ most
  n3 : ws.length ≤ 3
  nm : ws.map (·.1) = wN.take ws.length
  r : ∀ w ∈ ws, GoodR (ps.map (·.1)) w.2
theorem numb_at {xs : List Str} {i : Nat} {x : D} (h : (numbD (xs.map .str))[i]? = some x) : ∃ hi : i < xs.length, x = .tuple [.int (i : Nat), .str xs[i]] := by
  unfold numbD at h
  rw [List.getElem?_map, Option.map_eq_some_iff] at h
  obtain ⟨⟨j, d⟩, h1, rfl⟩ := h
  rw [List.getElem?_zip_eq_some] at h1
  obtain ⟨h2, h3⟩ := h1
  rw [List.length_map] at h2
  have hi : i < xs.length := by
    rcases Nat.lt_or_ge i xs.length with q | q
    · exact q
    · rw [List.getElem?_eq_none (by simpa using q)] at h2; cases h2
  rw [List.getElem?_range hi] at h2
  rw [List.getElem?_map, List.getElem?_eq_getElem hi] at h3
  have e2 : i = j := Option.some.inj h2
  have e3 : PyData.str xs[i] = d := Option.some.inj h3
  exact ⟨hi, by rw [e3]; show PyData.tuple [.int (j : Nat), d] = _; rw [← e2]⟩
theorem numb_len {xs : List Str} : (numbD (xs.map .str)).length = xs.length := by
  unfold numbD
  simp
theorem cut_n {α : Type} {l : List α} {n : Int} (h0 : 0 ≤ n) : cutD l none (some n) = l.take n.toNat := by
  obtain ⟨k, rfl⟩ : ∃ k : Nat, n = k := ⟨n.toNat, by omega⟩
  rw [cut_to]
  simp
/-! ### rows -/
def rowP : Ss := (.cons (.apop 9 8 (.call "_law_pick" (.cons (.var 0) (.cons (.bin .Add (.bin .Add (.var 7) (.cst (.int 1))) (.var 10)) (.cons (.blt .len (.own 8)) .nil))))) .nil)
theorem rowP_loop {ns : List Int} (h : PickOk G ns) {here : Int} (hh : here ≤ 80000) {a1 a2 a3 a4 a5 a6 : Slot} {names : List Str} {c : Nat} (hc : c ≤ names.length) (hl : names.length ≤ 4) :
    ∃ row left : List Str, row.length = c ∧ (row ++ left).Perm names ∧ forGo (.nm 10) [10] (fun ρ => exSs G rowP ρ) ((List.range c).map fun i => .int ((i : Nat) : Int)) [.fz (.list (ns.map .int)), a1, a2, a3, a4, a5, a6, .fz (.int here), .ow (.list (names.map .str)), .ow (.list []), .no, .no]
      = .nx [.fz (.list (ns.map .int)), a1, a2, a3, a4, a5, a6, .fz (.int here), .ow (.list (left.map .str)), .ow (.list (row.map .str)), .no, .no] := by
  have hs : 1000 ≤ sizeLine := by decide
  obtain ⟨ρ', e, _, left, row, h1, h2, rfl⟩ := for_inv (t := .nm 10) (ws := [10]) (body := fun ρ => exSs G rowP ρ)
    (fun i ρ => i ≤ c ∧ ∃ left row : List Str, row.length = i ∧ (row ++ left).Perm names ∧ ρ = [.fz (.list (ns.map .int)), a1, a2, a3, a4, a5, a6, .fz (.int here), .ow (.list (left.map .str)), .ow (.list (row.map .str)), .no, .no])
    (xs := (List.range c).map fun i => .int ((i : Nat) : Int)) 0 ⟨Nat.zero_le _, names, [], rfl, List.Perm.refl _, rfl⟩ (fun i x ρ hx hi => by
      obtain ⟨_, left, row, hlr, hp, rfl⟩ := hi
      have hi' : i < c := by
        rcases Nat.lt_or_ge i c with q | q
        · exact q
        · rw [List.getElem?_eq_none (by simpa using q)] at hx; cases hx
      rw [List.getElem?_map, List.getElem?_range hi'] at hx
      cases hx
      have hll := hp.length_eq
      rw [List.length_append] at hll
      have hpos : 0 < left.length := by omega
      obtain ⟨r, er, hr1, hr2⟩ := h (here + 1 + (i : Nat)) left.length (by omega) (by omega)
      obtain ⟨j, rfl⟩ : ∃ j : Nat, r = j := ⟨r.toNat, by omega⟩
      have hj : j < left.length := by omega
      have hsz : row.length < sizeLine := by omega
      refine ⟨[.fz (.list (ns.map .int)), a1, a2, a3, a4, a5, a6, .fz (.int here), .ow (.list (left.map .str)), .ow (.list (row.map .str)), .fz (.int (i : Nat)), .no], [.fz (.list (ns.map .int)), a1, a2, a3, a4, a5, a6, .fz (.int here), .ow (.list ((left.eraseIdx j).map .str)), .ow (.list ((row ++ [left[j]]).map .str)), .fz (.int (i : Nat)), .no], by simp, ?_, by omega, left.eraseIdx j, row ++ [left[j]], by simp; omega, ?_, by simp⟩
      · simp [rowP, er, popD, ixN_n hj, hj, appD, hsz]
        exact erase_map
      · refine List.Perm.trans ?_ hp
        rw [List.append_assoc]
        exact List.Perm.append_left row (perm_erase hj))
  have hlen : 0 + ((List.range c).map fun i => PyData.int ((i : Nat) : Int)).length = c := by simp
  rw [hlen] at h1
  exact ⟨row, left, h1, h2, e⟩
def wayP0 : S := (.par [(7, false), (8, true), (9, true)] (.cons (.bin .Add (.bin .Add (.var 1) (.cst (.int 10))) (.bin .Mult (.cst (.int 9)) (.var 4))) (.cons (.lc [11] (.idx (.var 11) (.cst (.int 0))) (.nm 11) (.seq (.own 3)) .no) (.cons (.lst (.nil)) .nil))))
def wayP1 : S := (.for_ [10] (.nm 10) (.rng (.bin .Add (.cst (.int 1)) (.call "_law_pick" (.cons (.var 0) (.cons (.var 7) (.cons (.blt .len (.own 3)) .nil)))))) rowP)
def wayP2 : S := (.app 6 (.tup (.cons (.var 5) (.cons (.blt .tuple (.own 9)) .nil))))
def wayP : Ss := .cons wayP0 (.cons wayP1 (.cons wayP2 .nil))
theorem wayP_body {ns : List Int} (h : PickOk G ns) {at_ : Int} (ha : at_ ≤ 70000) {ps : List PipeT} (hp : PickP ps) {ws : List WayT} {most : Slot} {name : Str} {k : Nat} (hk : k < 3) (hw : ws.length ≤ 8) :
    ∃ row here left, GoodR (ps.map (·.1)) row ∧ exSs G wayP [.fz (.list (ns.map .int)), .fz (.int at_), most, .ow (.list (ps.map pipeD)), .fz (.int (k : Nat)), .fz (.str name), .ow (.list (ws.map wayD)), .no, .no, .no, .no, .no]
      = .nx [.fz (.list (ns.map .int)), .fz (.int at_), most, .ow (.list (ps.map pipeD)), .fz (.int (k : Nat)), .fz (.str name), .ow (.list ((ws ++ [(name, row)]).map wayD)), here, left, .ow (.list (row.map .str)), .no, .no] := by
  have hs : 1000 ≤ sizeLine := by decide
  have hn1 := hp.n1
  have hn2 := hp.n2
  have e0 : exS G wayP0 [.fz (.list (ns.map .int)), .fz (.int at_), most, .ow (.list (ps.map pipeD)), .fz (.int (k : Nat)), .fz (.str name), .ow (.list (ws.map wayD)), .no, .no, .no, .no, .no] = .nx [.fz (.list (ns.map .int)), .fz (.int at_), most, .ow (.list (ps.map pipeD)), .fz (.int (k : Nat)), .fz (.str name), .ow (.list (ws.map wayD)), .fz (.int (at_ + 10 + 9 * (k : Nat))), .ow (.list ((ps.map (·.1)).map .str)), .ow (.list []), .no, .no] := by
    simp [wayP0]
    rw [lc_map pipeD (fun p => [.fz (.list (ns.map .int)), .fz (.int at_), most, .ow (.list (ps.map pipeD)), .fz (.int (k : Nat)), .fz (.str name), .ow (.list (ws.map wayD)), .no, .no, .no, .no, .fz (pipeD p)]) (fun p => .str p.1) (by simp) (by simp) (by simp [pipeD])]
    simp
  obtain ⟨r, er, hr1, hr2⟩ := h (at_ + 10 + 9 * (k : Nat)) ps.length (by omega) (by omega)
  obtain ⟨row, left, h1, h2, e⟩ := rowP_loop (G := G) h (here := at_ + 10 + 9 * (k : Nat)) (by omega) (a1 := .fz (.int at_)) (a2 := most) (a3 := .ow (.list (ps.map pipeD))) (a4 := .fz (.int (k : Nat))) (a5 := .fz (.str name)) (a6 := .ow (.list (ws.map wayD))) (names := ps.map (·.1)) (c := (1 + r).toNat) (by rw [List.length_map]; omega) (by rw [List.length_map]; omega)
  have e1 : exS G wayP1 [.fz (.list (ns.map .int)), .fz (.int at_), most, .ow (.list (ps.map pipeD)), .fz (.int (k : Nat)), .fz (.str name), .ow (.list (ws.map wayD)), .fz (.int (at_ + 10 + 9 * (k : Nat))), .ow (.list ((ps.map (·.1)).map .str)), .ow (.list []), .no, .no] = .nx [.fz (.list (ns.map .int)), .fz (.int at_), most, .ow (.list (ps.map pipeD)), .fz (.int (k : Nat)), .fz (.str name), .ow (.list (ws.map wayD)), .fz (.int (at_ + 10 + 9 * (k : Nat))), .ow (.list (left.map .str)), .ow (.list (row.map .str)), .no, .no] := by
    rw [← e]
    unfold wayP1
    rw [ex_for]
    simp only [evi_rng, ev_bin, ev_cst, ev_call, evs_cons, evs_nil, ev_var, ev_own, ev_blt, slot_0, slot_s, sloto_0, sloto_s, ok_bind, len_lst, List.length_map, er, bin_add, rngD_int]
    rw [range_ok (by omega) (by omega)]
    simp
  have hnd : (ps.map (·.1)).Nodup := by
    rw [hp.nm]
    have : ∀ n, n ≤ 3 → (pN.take n).Nodup := by decide +kernel
    exact this _ hn2
  refine ⟨row, .fz (.int (at_ + 10 + 9 * (k : Nat))), .ow (.list (left.map .str)), ⟨by omega, by omega, (List.nodup_append.mp (h2.nodup_iff.mpr hnd)).1, fun x hx => h2.mem_iff.mp (List.mem_append.mpr (.inl hx))⟩, ?_⟩
  unfold wayP
  rw [ex_cons, e0, then_nx, ex_cons, e1, then_nx]
  have hsz : ws.length < sizeLine := by omega
  simp [wayP2, appD, hsz, wayD, rowD]
def ppB : Ss := (.cons (.app 3 (.tup (.cons (.var 5) (.cons (.bin .Add (.cst (.int 1)) (.call "_law_pick" (.cons (.var 0) (.cons (.bin .Add (.bin .Add (.var 1) (.cst (.int 1))) (.var 4)) (.cons (.cst (.int 2)) .nil))))) .nil)))) .nil)
def tg45 : Tg := (.tp (.cons (.nm 4) (.cons (.nm 5) .nil)))
def nt1 : S := (.for_ [4, 5] tg45 (.enm (.slc (.lst (.cons (.cst (.str "p")) (.cons (.cst (.str "q")) (.cons (.cst (.str "r")) .nil)))) .no (.so (.bin .Add (.cst (.int 1)) (.call "_law_pick" (.cons (.var 0) (.cons (.var 1) (.cons (.cst (.int 3)) .nil)))))))) ppB)
def nt3 : S := (.for_ [4, 5, 7, 8, 9, 10] tg45 (.enm (.slc (.lst (.cons (.cst (.str "u")) (.cons (.cst (.str "v")) (.cons (.cst (.str "w")) .nil)))) .no (.so (.bin .Add (.cst (.int 1)) (.call "_law_pick" (.cons (.var 0) (.cons (.bin .Add (.var 1) (.cst (.int 5))) (.cons (.var 2) .nil)))))))) wayP)
theorem net2_code : c__law_net_2 = .cons (.own 3 (.lst (.nil))) (.cons nt1 (.cons (.own 6 (.lst (.nil))) (.cons nt3 (.cons (.ret (.tup (.cons (.blt .tuple (.own 3)) (.cons (.blt .tuple (.own 6)) .nil)))) .nil)))) := rfl
theorem take_at {l : List Str} {n i : Nat} (h : i < (l.take n).length) : ∃ hi : i < l.length, (l.take n)[i] = l[i] := by
  have : i < l.length := by
    rw [List.length_take] at h
    omega
  exact ⟨this, List.getElem_take⟩
theorem v_net2 (ns : List Int) (h : PickOk G ns) (at_ : Int) (ha : at_ ≤ 60000) (most : Nat) (hm : 1 ≤ most) (hm3 : most ≤ 3) : ∃ ps ws, fnD G 3 9 c__law_net_2 [.list (ns.map .int), .int at_, .int (most : Nat)] = .ok (netD ps ws) ∧ PickN most ps ws := by
  have hs : 1000 ≤ sizeLine := by decide
  obtain ⟨n0, en, hn1, hn2⟩ := h at_ 3 (by omega) (by decide)
  obtain ⟨m0, em, hm1, hm2⟩ := h (at_ + 5) (most : Nat) (by omega) (by omega)
  have L1 := for_inv (t := tg45) (ws := [4, 5]) (body := fun ρ => exSs G ppB ρ)
    (fun i ρ => i ≤ 3 ∧ ∃ ps : List PipeT, ps.length = i ∧ ps.map (·.1) = pN.take i ∧ (∀ p ∈ ps, 1 ≤ p.2 ∧ p.2 ≤ 2) ∧ ρ = [.fz (.list (ns.map .int)), .fz (.int at_), .fz (.int (most : Nat)), .ow (.list (ps.map pipeD)), .no, .no, .no, .no, .no, .no, .no, .no])
    (xs := numbD ((pN.take (1 + n0).toNat).map .str)) (ρ := [.fz (.list (ns.map .int)), .fz (.int at_), .fz (.int (most : Nat)), .ow (.list []), .no, .no, .no, .no, .no, .no, .no, .no]) 0 ⟨by omega, [], rfl, rfl, fun _ z => (by cases z), rfl⟩ (fun i x ρ hx hi => by
      obtain ⟨hi4, ps, hl, hnm, hlo, rfl⟩ := hi
      obtain ⟨hi', rfl⟩ := numb_at hx
      obtain ⟨hi2, e2⟩ := take_at hi'
      rw [e2]
      have hi3 : i < 3 := hi2
      obtain ⟨x, hxx⟩ : ∃ x, pN[i]'hi2 = x := ⟨_, rfl⟩
      rw [hxx]
      obtain ⟨r, er, hr1, hr2⟩ := h (at_ + 1 + (i : Nat)) 2 (by omega) (by decide)
      have hsz : ps.length < sizeLine := by omega
      refine ⟨[.fz (.list (ns.map .int)), .fz (.int at_), .fz (.int (most : Nat)), .ow (.list (ps.map pipeD)), .fz (.int (i : Nat)), .fz (.str x), .no, .no, .no, .no, .no, .no], [.fz (.list (ns.map .int)), .fz (.int at_), .fz (.int (most : Nat)), .ow (.list (ps.map pipeD ++ [pipeD (x, 1 + r)])), .fz (.int (i : Nat)), .fz (.str x), .no, .no, .no, .no, .no, .no], by simp [tg45], by simp [ppB, er, appD, hsz, pipeD], by omega, ps ++ [(x, 1 + r)], by simp; omega, ?_, ?_, by simp⟩
      · rw [List.map_append, hnm, show 0 + i + 1 = i + 1 by omega, take_succ' hi2, hxx]
        simp
      · intro p hp
        rcases List.mem_append.mp hp with q | q
        · exact hlo p q
        · rcases List.mem_singleton.mp q with rfl
          exact ⟨by show 1 ≤ 1 + r; omega, by show 1 + r ≤ 2; omega⟩)
  obtain ⟨ρ1, e1, _, ps, hl, hnm, hlo, rfl⟩ := L1
  have hlr : 0 + (numbD ((pN.take (1 + n0).toNat).map .str)).length = (1 + n0).toNat := by
    rw [numb_len, List.length_take]
    have : pN.length = 3 := rfl
    omega
  rw [hlr] at hl hnm
  have hp : PickP ps := ⟨by omega, by omega, by rw [hnm, hl], hlo⟩
  have L2 := for_inv (t := tg45) (ws := [4, 5, 7, 8, 9, 10]) (body := fun ρ => exSs G wayP ρ)
    (fun i ρ => i ≤ 3 ∧ ∃ ws : List WayT, ws.length = i ∧ ws.map (·.1) = wN.take i ∧ (∀ w ∈ ws, GoodR (ps.map (·.1)) w.2) ∧ ρ = [.fz (.list (ns.map .int)), .fz (.int at_), .fz (.int (most : Nat)), .ow (.list (ps.map pipeD)), .no, .no, .ow (.list (ws.map wayD)), .no, .no, .no, .no, .no])
    (xs := numbD ((wN.take (1 + m0).toNat).map .str)) (ρ := [.fz (.list (ns.map .int)), .fz (.int at_), .fz (.int (most : Nat)), .ow (.list (ps.map pipeD)), .no, .no, .ow (.list []), .no, .no, .no, .no, .no]) 0 ⟨by omega, [], rfl, rfl, fun _ z => (by cases z), rfl⟩ (fun i x ρ hx hi => by
      obtain ⟨hi4, ws, hwl, hwn, hwr, rfl⟩ := hi
      obtain ⟨hi', rfl⟩ := numb_at hx
      obtain ⟨hi2, e2⟩ := take_at hi'
      rw [e2]
      have hi3 : i < 3 := hi2
      obtain ⟨x, hxx⟩ : ∃ x, wN[i]'hi2 = x := ⟨_, rfl⟩
      rw [hxx]
      obtain ⟨row, here, left, hrow, e⟩ := wayP_body (G := G) h (at_ := at_) (by omega) hp (ws := ws) (most := .fz (.int (most : Nat))) (name := x) (k := i) hi3 (by omega)
      refine ⟨[.fz (.list (ns.map .int)), .fz (.int at_), .fz (.int (most : Nat)), .ow (.list (ps.map pipeD)), .fz (.int (i : Nat)), .fz (.str x), .ow (.list (ws.map wayD)), .no, .no, .no, .no, .no], _, by simp [tg45], e, by omega, ws ++ [(x, row)], by simp; omega, ?_, fun w hw => ?_, by simp⟩
      · rw [List.map_append, hwn, show 0 + i + 1 = i + 1 by omega, take_succ' hi2, hxx]
        simp
      · rcases List.mem_append.mp hw with q | q
        · exact hwr w q
        · rcases List.mem_singleton.mp q with rfl
          exact hrow)
  obtain ⟨ρ2, e2, _, ws, hwl, hwn, hwr, rfl⟩ := L2
  have hlr2 : 0 + (numbD ((wN.take (1 + m0).toNat).map .str)).length = (1 + m0).toNat := by
    rw [numb_len, List.length_take]
    have : wN.length = 3 := rfl
    omega
  rw [hlr2] at hwl hwn
  refine ⟨ps, ws, ?_, hp, by omega, by omega, by omega, by rw [hwn, hwl], hwr⟩
  have c1 : exS G nt1 [.fz (.list (ns.map .int)), .fz (.int at_), .fz (.int (most : Nat)), .ow (.list []), .no, .no, .no, .no, .no, .no, .no, .no] = .nx [.fz (.list (ns.map .int)), .fz (.int at_), .fz (.int (most : Nat)), .ow (.list (ps.map pipeD)), .no, .no, .no, .no, .no, .no, .no, .no] := by
    rw [← e1]
    unfold nt1
    rw [ex_for]
    simp only [evi_enm, ev_slc, ev_lst, evs_cons, evs_nil, ev_cst, evo_no, evo_so, ev_bin, ev_call, ev_var, slot_0, slot_s, ok_bind, part_none, bin_add, en, part_int, slc_l, seq_l, liftR_ok]
    rw [cut_n (by omega)]
    show forGo _ _ _ (numbD (List.take _ (pN.map .str))) _ = _
    rw [← List.map_take]
    rfl
  have c3 : exS G nt3 [.fz (.list (ns.map .int)), .fz (.int at_), .fz (.int (most : Nat)), .ow (.list (ps.map pipeD)), .no, .no, .ow (.list []), .no, .no, .no, .no, .no] = .nx [.fz (.list (ns.map .int)), .fz (.int at_), .fz (.int (most : Nat)), .ow (.list (ps.map pipeD)), .no, .no, .ow (.list (ws.map wayD)), .no, .no, .no, .no, .no] := by
    rw [← e2]
    unfold nt3
    rw [ex_for]
    simp only [evi_enm, ev_slc, ev_lst, evs_cons, evs_nil, ev_cst, evo_no, evo_so, ev_bin, ev_call, ev_var, slot_0, slot_s, ok_bind, part_none, bin_add, em, part_int, slc_l, seq_l, liftR_ok]
    rw [cut_n (by omega)]
    show forGo _ _ _ (numbD (List.take _ (wN.map .str))) _ = _
    rw [← List.map_take]
    rfl
  rw [fnD_eq (by rfl), net2_code]
  show finD (exSs G _ [.fz (.list (ns.map .int)), .fz (.int at_), .fz (.int (most : Nat)), .no, .no, .no, .no, .no, .no, .no, .no, .no]) = _
  have c0 : exS G (.own 3 (.lst (.nil))) [.fz (.list (ns.map .int)), .fz (.int at_), .fz (.int (most : Nat)), .no, .no, .no, .no, .no, .no, .no, .no, .no] = .nx [.fz (.list (ns.map .int)), .fz (.int at_), .fz (.int (most : Nat)), .ow (.list []), .no, .no, .no, .no, .no, .no, .no, .no] := rfl
  have c2 : exS G (.own 6 (.lst (.nil))) [.fz (.list (ns.map .int)), .fz (.int at_), .fz (.int (most : Nat)), .ow (.list (ps.map pipeD)), .no, .no, .no, .no, .no, .no, .no, .no] = .nx [.fz (.list (ns.map .int)), .fz (.int at_), .fz (.int (most : Nat)), .ow (.list (ps.map pipeD)), .no, .no, .ow (.list []), .no, .no, .no, .no, .no] := rfl
  rw [ex_cons, c0, then_nx, ex_cons, c1, then_nx, ex_cons, c2, then_nx, ex_cons, c3, then_nx]
  rfl
theorem pN_nd : ∀ n, n ≤ 3 → (pN.take n).Nodup := by decide +kernel
theorem wN_nd : ∀ n, n ≤ 3 → (wN.take n).Nodup := by decide +kernel
theorem pN_nm : ∀ x ∈ pN, isNm x = true := by decide +kernel
theorem wN_nm : ∀ x ∈ wN, isNm x = true := by decide +kernel
def Sp__law_net_2 (F : List D → Res D) : Prop := ∀ ns : List Int, ns.length ≤ 63 → ∀ at_ : Int, at_ ≤ 60000 → ∀ most : Nat, 1 ≤ most → most ≤ 3 → ∃ ps ws, F [.list (ns.map .int), .int at_, .int (most : Nat)] = .ok (netD ps ws) ∧ PickN most ps ws
theorem s__law_net_2 (h1 : Sp__law_pick (G "_law_pick")) : Sp__law_net_2 (fnD G 3 9 c__law_net_2) := fun ns hl at_ ha most hm hm3 => v_net2 ns (fun k m hk hm => h1 ns hl k m hk hm) at_ ha most hm hm3
end Fp
set_option maxHeartbeats 1000000
/-! picked nets are nets; picked states and runs; `_law_gone`, by value -/
namespace Fp
open PySem
variable {G : Str → List D → Res D} {ps : List PipeT} {ws : List WayT}
theorem pN_rises : ∀ n, n ≤ 3 → rises (pN.take n) = true := by decide +kernel
theorem wN_rises : ∀ n, n ≤ 3 → rises (wN.take n) = true := by decide +kernel
theorem PickP.names (h : PickP ps) : ∀ x ∈ ps.map (·.1), isNm x = true := fun x hx => pN_nm x (by
  rw [h.nm] at hx
  exact List.mem_of_mem_take hx)
theorem PickP.pipes (h : PickP ps) : arePipes (.tuple (ps.map pipeD)) = true := by
  have h1 := h.n1
  have h2 := h.n2
  have a1 : (ps.map pipeD).all isPair = true := by
    rw [List.all_eq_true]
    intro x hx
    obtain ⟨p, hp, rfl⟩ := List.mem_map.mp hx
    exact h.names p.1 (List.mem_map_of_mem hp)
  have a2 : (ps.map pipeD).all (fun x => isWhole (sndD x) 1 4) = true := by
    rw [List.all_eq_true]
    intro x hx
    obtain ⟨p, hp, rfl⟩ := List.mem_map.mp hx
    have := h.lo p hp
    show (decide ((1 : Int) ≤ p.2) && decide (p.2 ≤ 4)) = true
    rw [decide_eq_true (by omega), decide_eq_true (by omega)]
    rfl
  have a3 : rises ((ps.map pipeD).map fstS) = true := by
    rw [map_fstS, h.nm]
    exact pN_rises _ h2
  show ((decide ((1 : Int) ≤ (ps.map pipeD).length) && decide (((ps.map pipeD).length : Int) ≤ 6)) && (ps.map pipeD).all isPair && ((ps.map pipeD).all (fun x => isWhole (sndD x) 1 4) && rises ((ps.map pipeD).map fstS))) = true
  rw [a1, a2, a3, List.length_map, decide_eq_true (by omega), decide_eq_true (by omega)]
  rfl
theorem PickN.wnames {most : Nat} (h : PickN most ps ws) : ∀ w ∈ ws, isNm w.1 = true := fun w hw => wN_nm _ (by
  have : w.1 ∈ ws.map (·.1) := List.mem_map_of_mem hw
  rw [h.nm] at this
  exact List.mem_of_mem_take this)
theorem PickN.net {most : Nat} (h : PickN most ps ws) : isNet (netD ps ws) = true := by
  have h1 := h.n1
  have h2 := h.n3
  have e : namesD (.tuple (ps.map pipeD)) = ps.map (·.1) := map_fstS
  have a1 : (ws.map wayD).all (fun w => isPair w && isRow (ps.map (·.1)) (sndD w)) = true := by
    rw [List.all_eq_true]
    intro x hx
    obtain ⟨w, hw, rfl⟩ := List.mem_map.mp hx
    show (isNm w.1 && isRow (ps.map (·.1)) (rowD w.2)) = true
    rw [h.wnames w hw, row_ok h.p.names (h.r w hw)]
    rfl
  have a2 : rises ((ws.map wayD).map fstS) = true := by
    rw [map_fstW, h.nm]
    exact wN_rises _ h2
  show (arePipes (.tuple (ps.map pipeD)) && areWays (namesD (.tuple (ps.map pipeD))) (.tuple (ws.map wayD))) = true
  rw [h.p.pipes, e]
  show (true && ((decide ((1 : Int) ≤ (ws.map wayD).length) && decide (((ws.map wayD).length : Int) ≤ 8)) && (ws.map wayD).all (fun w => isPair w && isRow (ps.map (·.1)) (sndD w)) && rises ((ws.map wayD).map fstS))) = true
  rw [a1, a2, List.length_map, decide_eq_true (by omega), decide_eq_true (by omega)]
  rfl
theorem PickN.sh {most : Nat} (h : PickN most ps ws) : sh 4 (netD ps ws) := by
  refine sh_t (sh_cons ((sh_t (n := 1) fun x hx => ?_).mono (by decide)) (sh_cons (sh_t (n := 2) fun x hx => ?_) sh_nil))
  · obtain ⟨p, hp, rfl⟩ := List.mem_map.mp hx
    exact sh_t (sh_cons (sh_str (nm_lay (h.p.names p.1 (List.mem_map_of_mem hp)))) (sh_cons sh_int sh_nil))
  · obtain ⟨w, hw, rfl⟩ := List.mem_map.mp hx
    exact sh_t (sh_cons (sh_str (nm_lay (h.wnames w hw))) (sh_cons (row_sh fun x hx => h.p.names x ((h.r w hw).sub x hx)) sh_nil))
theorem PickN.g {most : Nat} (h : PickN most ps ws) : NetG ps ws where
  np := by rw [h.p.nm]; exact pN_nd _ h.p.n2
  nw := by rw [h.nm]; exact wN_nd _ h.n3
  p1 := h.p.n1
  pl := by have := h.p.n2; omega
  w1 := h.n1
  wl := by have := h.n3; omega
  nmp := fun p hp => h.p.names _ (List.mem_map_of_mem hp)
  nmw := h.wnames
  lo := fun p hp => by have := h.p.lo p hp; omega
  sub := fun w hw => (h.r w hw).sub
  rn := fun w hw => (h.r w hw).nd
  r1 := fun w hw => (h.r w hw).n1
  rl := fun w hw => by have := (h.r w hw).n2; omega
  net := h.net
  shp := h.sh
/-! ### states -/
theorem numb_atD {xs : List D} {i : Nat} {x : D} (h : (numbD xs)[i]? = some x) : ∃ hi : i < xs.length, x = .tuple [.int (i : Nat), xs[i]] := by
  unfold numbD at h
  rw [List.getElem?_map, Option.map_eq_some_iff] at h
  obtain ⟨⟨j, d⟩, h1, rfl⟩ := h
  rw [List.getElem?_zip_eq_some] at h1
  obtain ⟨h2, h3⟩ := h1
  have hi : i < xs.length := by
    rcases Nat.lt_or_ge i xs.length with q | q
    · exact q
    · rw [List.getElem?_eq_none q] at h3; cases h3
  rw [List.getElem?_range hi] at h2
  rw [List.getElem?_eq_getElem hi] at h3
  have e2 : i = j := Option.some.inj h2
  have e3 : xs[i] = d := Option.some.inj h3
  exact ⟨hi, by rw [e3]; show PyData.tuple [.int (j : Nat), d] = _; rw [← e2]⟩
theorem numb_lenD {xs : List D} : (numbD xs).length = xs.length := by
  unfold numbD
  simp
/-- one of some slugs -/
def SlIn (sl : List Str) (d : D) : Prop := ∃ x ∈ sl, d = .str x
theorem slIn_at {sl : List Str} {r : Int} (h0 : 0 ≤ r) (h1 : r < sl.length) : ∃ d, SlIn sl d ∧ idxD (.list (sl.map .str)) (.int r) = .ok d := by
  obtain ⟨j, rfl⟩ : ∃ j : Nat, r = j := ⟨r.toNat, by omega⟩
  have hj : j < sl.length := by omega
  refine ⟨.str sl[j], ⟨_, List.getElem_mem hj, rfl⟩, ?_⟩
  rw [idx_l, at_n, List.getElem?_map, List.getElem?_eq_getElem hj]
  rfl
def psE : E := (.idx (.var 3) (.call "_law_pick" (.cons (.var 0) (.cons (.bin .Add (.bin .Add (.var 1) (.bin .Mult (.cst (.int 3)) (.var 5))) (.var 7)) (.cons (.blt .len (.var 3)) .nil)))))
def psB : Ss := (.cons (.app 4 (.blt .tuple (.lc [7] psE (.nm 7) (.rng (.idx (.var 6) (.cst (.int 1)))) .no))) .nil)
def psF : S := (.for_ [5, 6] (.tp (.cons (.nm 5) (.cons (.nm 6) .nil))) (.enm (.idx (.var 2) (.cst (.int 0)))) psB)
theorem state2_code : c__law_state_2 = .cons (.own 4 (.lst (.nil))) (.cons psF (.cons (.ret (.blt .tuple (.own 4))) .nil)) := rfl
def Sp__law_state_2 (F : List D → Res D) : Prop := ∀ ns : List Int, ns.length ≤ 63 → ∀ at_ : Int, at_ ≤ 60000 → ∀ ps ws, NetG ps ws → ∀ sl : List Str, sl ≠ [] → ∃ kv, F [.list (ns.map .int), .int at_, netD ps ws, .list (sl.map .str)] = .ok (kvD kv) ∧ KvL ps kv ∧ KvAll (SlIn sl) kv
def rowsOf (kv : KV) : List D := kv.map fun p => .tuple p.2
theorem s__law_state_2 (h1 : Sp__law_pick (G "_law_pick")) : Sp__law_state_2 (fnD G 4 4 c__law_state_2) := fun ns hl at_ ha ps ws hN sl hsl => by
  have hs : 1000 ≤ sizeLine := by decide
  have hpl := hN.pl
  have hsl0 : 0 < sl.length := List.length_pos_iff.mpr hsl
  have L := for_inv (t := .tp (.cons (.nm 5) (.cons (.nm 6) .nil))) (ws := [5, 6]) (body := fun ρ => exSs G psB ρ)
    (fun i ρ => ∃ kv : KV, kv.map (fun p => (p.1, (p.2.length : Int))) = ps.take i ∧ KvAll (SlIn sl) kv ∧ ρ = [.fz (.list (ns.map .int)), .fz (.int at_), .fz (netD ps ws), .fz (.list (sl.map .str)), .ow (.list (rowsOf kv)), .no, .no, .no])
    (xs := numbD (ps.map pipeD)) (ρ := [.fz (.list (ns.map .int)), .fz (.int at_), .fz (netD ps ws), .fz (.list (sl.map .str)), .ow (.list []), .no, .no, .no]) 0 ⟨[], rfl, fun _ z => (by cases z), rfl⟩ (fun i x ρ hx hi => by
      obtain ⟨kv, hkv, hall, rfl⟩ := hi
      obtain ⟨hi', rfl⟩ := numb_atD hx
      rw [List.length_map] at hi'
      rw [List.getElem_map]
      obtain ⟨p, hp⟩ : ∃ p, ps[i] = p := ⟨_, rfl⟩
      have hpm : p ∈ ps := by rw [← hp]; exact List.getElem_mem hi'
      rw [hp]
      obtain ⟨lo1, lo2⟩ := hN.lo p hpm
      have ch : ∀ n : Nat, ∃ d, n ≤ 1000 → SlIn sl d ∧ ∃ r, G "_law_pick" [.list (ns.map .int), .int (at_ + 3 * (i : Nat) + (n : Nat)), .int (sl.length : Nat)] = .ok (.int r) ∧ idxD (.list (sl.map .str)) (.int r) = .ok d := fun n => by
        by_cases hn : n ≤ 1000
        · obtain ⟨r, er, q1, q2⟩ := h1 ns hl (at_ + 3 * (i : Nat) + (n : Nat)) sl.length (by omega) (by omega)
          obtain ⟨d, hd, ed⟩ := slIn_at q1 q2
          exact ⟨d, fun _ => ⟨hd, r, er, ed⟩⟩
        · exact ⟨.none, fun h => absurd h hn⟩
      let f : Nat → D := fun n => Classical.choose (ch n)
      have hf : ∀ n : Nat, n ≤ 1000 → SlIn sl (f n) ∧ ∃ r, G "_law_pick" [.list (ns.map .int), .int (at_ + 3 * (i : Nat) + (n : Nat)), .int (sl.length : Nat)] = .ok (.int r) ∧ idxD (.list (sl.map .str)) (.int r) = .ok (f n) := fun n => Classical.choose_spec (ch n)
      have hkl : kv.length = i := by
        have := congrArg List.length hkv
        rw [List.length_map, List.length_take] at this
        omega
      have hsz : kv.length < sizeLine := by omega
      refine ⟨[.fz (.list (ns.map .int)), .fz (.int at_), .fz (netD ps ws), .fz (.list (sl.map .str)), .ow (.list (rowsOf kv)), .fz (.int (i : Nat)), .fz (pipeD p), .no],
        [.fz (.list (ns.map .int)), .fz (.int at_), .fz (netD ps ws), .fz (.list (sl.map .str)), .ow (.list (rowsOf (kv ++ [(p.1, (List.range p.2.toNat).map f)]))), .fz (.int (i : Nat)), .fz (pipeD p), .no], by simp, ?_, kv ++ [(p.1, (List.range p.2.toNat).map f)], ?_, ?_, by simp⟩
      · have e1 : exS G (.app 4 (.blt .tuple (.lc [7] psE (.nm 7) (.rng (.idx (.var 6) (.cst (.int 1)))) .no))) [.fz (.list (ns.map .int)), .fz (.int at_), .fz (netD ps ws), .fz (.list (sl.map .str)), .ow (.list (rowsOf kv)), .fz (.int (i : Nat)), .fz (pipeD p), .no] = .nx [.fz (.list (ns.map .int)), .fz (.int at_), .fz (netD ps ws), .fz (.list (sl.map .str)), .ow (.list (rowsOf (kv ++ [(p.1, (List.range p.2.toNat).map f)]))), .fz (.int (i : Nat)), .fz (pipeD p), .no] := by
          have hx1 : idxD (pipeD p) (.int 1) = .ok (.int p.2) := rfl
          simp only [ex_app, slotl_s, slotl_0, liftR_ok, ev_blt, ev_lc, evi_rng, ev_idx, ev_var, ev_cst, slot_s, slot_0, ok_bind, hx1, rngD_int]
          rw [range_ok (by omega) (by omega)]
          simp only [ok_bind]
          rw [lc_map (fun n : Nat => .int (n : Int)) (fun n => [.fz (.list (ns.map .int)), .fz (.int at_), .fz (netD ps ws), .fz (.list (sl.map .str)), .ow (.list (rowsOf kv)), .fz (.int (i : Nat)), .fz (pipeD p), .fz (.int (n : Int))]) f (by simp) (by simp) (fun n hn => ?_)]
          · simp [appD, hsz, rowsOf]
          · have hn' : n ≤ 1000 := by
              have := List.mem_range.mp hn
              omega
            obtain ⟨_, r, er, ed⟩ := hf n hn'
            simp only [psE, ev_idx, ev_var, ev_call, evs_cons, evs_nil, ev_bin, ev_cst, ev_blt, slot_s, slot_0, ok_bind, len_lst, List.length_map, bin_mul, if_pos (show (-(2 ^ 64) < (3 : Int) ∧ (3 : Int) < 2 ^ 64) ∨ (-(2 ^ 64) < ((i : Nat) : Int) ∧ ((i : Nat) : Int) < 2 ^ 64) from .inl (by decide)), bin_add, er]
            exact ed
        unfold psB
        rw [ex_cons, e1, then_nx]
        rfl
      · rw [Nat.zero_add] at hkv ⊢
        rw [List.map_append, hkv, take_succ' hi', hp]
        have : ((p.2.toNat : Nat) : Int) = p.2 := by omega
        simp [this]
      · intro q hq s hs'
        rcases List.mem_append.mp hq with z | z
        · exact hall q z s hs'
        · rcases List.mem_singleton.mp z with rfl
          obtain ⟨n, hn, rfl⟩ := List.mem_map.mp hs'
          have := List.mem_range.mp hn
          exact (hf n (by omega)).1)
  obtain ⟨ρ1, e1, kv, hkv, hall, rfl⟩ := L
  refine ⟨kv, ?_, ⟨?_⟩, hall⟩
  · have c1 : exS G psF [.fz (.list (ns.map .int)), .fz (.int at_), .fz (netD ps ws), .fz (.list (sl.map .str)), .ow (.list []), .no, .no, .no] = .nx [.fz (.list (ns.map .int)), .fz (.int at_), .fz (netD ps ws), .fz (.list (sl.map .str)), .ow (.list (rowsOf kv)), .no, .no, .no] := by
      rw [← e1]
      rfl
    rw [fnD_eq (by rfl), state2_code]
    show finD (exSs G _ [.fz (.list (ns.map .int)), .fz (.int at_), .fz (netD ps ws), .fz (.list (sl.map .str)), .no, .no, .no, .no]) = _
    have c0 : exS G (.own 4 (.lst (.nil))) [.fz (.list (ns.map .int)), .fz (.int at_), .fz (netD ps ws), .fz (.list (sl.map .str)), .no, .no, .no, .no] = .nx [.fz (.list (ns.map .int)), .fz (.int at_), .fz (netD ps ws), .fz (.list (sl.map .str)), .ow (.list []), .no, .no, .no] := rfl
    rw [ex_cons, c0, then_nx, ex_cons, c1, then_nx]
    rfl
  · rw [hkv, numb_lenD, List.length_map, Nat.zero_add, List.take_length]
theorem SlIn.nm {sl : List Str} (h : ∀ x ∈ sl, isNm x = true) {d : D} (hd : SlIn sl d) : isName d = true := by
  obtain ⟨x, hx, rfl⟩ := hd
  exact h x hx
theorem KvAll.nm {sl : List Str} {kv : KV} (h : ∀ x ∈ sl, isNm x = true) (hk : KvAll (SlIn sl) kv) : KvNm kv := fun p hp s hs => SlIn.nm h (hk p hp s hs)
end Fp
set_option maxHeartbeats 1000000
/-! picked runs; `_law_gone`; things that are none -/
namespace Fp
open PySem
variable {G : Str → List D → Res D} {ps : List PipeT} {ws : List WayT}
def prB : Ss := (.cons (.set (.nm 7) (.idx (.idx (.idx (.var 2) (.cst (.int 1))) (.call "_law_pick" (.cons (.var 0) (.cons (.bin .Add (.bin .Add (.var 1) (.cst (.int 1))) (.bin .Mult (.cst (.int 2)) (.var 6))) (.cons (.blt .len (.idx (.var 2) (.cst (.int 1)))) .nil))))) (.cst (.int 0)))) (.cons (.app 5 (.tup (.cons (.var 7) (.cons (.idx (.var 4) (.call "_law_pick" (.cons (.var 0) (.cons (.bin .Add (.bin .Add (.var 1) (.cst (.int 2))) (.bin .Mult (.cst (.int 2)) (.var 6))) (.cons (.blt .len (.var 4)) .nil))))) .nil)))) .nil))
def prF : S := (.for_ [6, 7] (.nm 6) (.rng (.call "_law_pick" (.cons (.var 0) (.cons (.var 1) (.cons (.bin .Add (.var 3) (.cst (.int 1))) .nil))))) prB)
theorem prun_code : c__law_run = .cons (.own 5 (.lst (.nil))) (.cons prF (.cons (.frz 5) (.cons (.ret (.var 5)) .nil))) := rfl
def Sp__law_run (F : List D → Res D) : Prop := ∀ ns : List Int, ns.length ≤ 63 → ∀ at_ : Int, at_ ≤ 60000 → ∀ ps ws, NetG ps ws → ∀ m : Nat, m ≤ 900 → ∀ sl : List Str, sl ≠ [] →
  ∃ r : RunT, F [.list (ns.map .int), .int at_, netD ps ws, .int (m : Nat), .list (sl.map .str)] = .ok (runD r) ∧ r.length ≤ m ∧ ∀ q ∈ r, q.1 ∈ ws ∧ SlIn sl q.2
theorem s__law_run (h1 : Sp__law_pick (G "_law_pick")) : Sp__law_run (fnD G 5 3 c__law_run) := fun ns hl at_ ha ps ws h m hm sl hsl => by
  have hs : 1000 ≤ sizeLine := by decide
  have hsl0 : 0 < sl.length := List.length_pos_iff.mpr hsl
  obtain ⟨n0, en, hn1, hn2⟩ := h1 ns hl at_ ((m : Nat) + 1) (by omega) (by omega)
  have hw1 := h.w1
  have L := for_inv (t := .nm 6) (ws := [6, 7]) (body := fun ρ => exSs G prB ρ)
    (fun i ρ => i ≤ n0.toNat ∧ ∃ r : RunT, r.length = i ∧ (∀ q ∈ r, q.1 ∈ ws ∧ SlIn sl q.2) ∧ ρ = [.fz (.list (ns.map .int)), .fz (.int at_), .fz (netD ps ws), .fz (.int (m : Nat)), .fz (.list (sl.map .str)), .ow (runD r), .no, .no])
    (xs := (List.range n0.toNat).map fun i => .int ((i : Nat) : Int)) (ρ := [.fz (.list (ns.map .int)), .fz (.int at_), .fz (netD ps ws), .fz (.int (m : Nat)), .fz (.list (sl.map .str)), .ow (runD []), .no, .no]) 0 ⟨by omega, [], rfl, fun _ z => (by cases z), rfl⟩ (fun i x ρ hx hi => by
      obtain ⟨hi4, r, hrl, hr, rfl⟩ := hi
      have hi' : i < n0.toNat := by
        rcases Nat.lt_or_ge i n0.toNat with q | q
        · exact q
        · rw [List.getElem?_eq_none (by simpa using q)] at hx; cases hx
      rw [List.getElem?_map, List.getElem?_range hi'] at hx
      cases hx
      obtain ⟨a, ea, ha1, ha2⟩ := h1 ns hl (at_ + 1 + 2 * (i : Nat)) ws.length (by omega) (by omega)
      obtain ⟨b, eb, hb1, hb2⟩ := h1 ns hl (at_ + 2 + 2 * (i : Nat)) sl.length (by omega) (by omega)
      obtain ⟨j, rfl⟩ : ∃ j : Nat, a = j := ⟨a.toNat, by omega⟩
      have hj : j < ws.length := by omega
      obtain ⟨s, hsm, es⟩ := slIn_at (sl := sl) hb1 hb2
      have hsz : r.length < sizeLine := by omega
      have e1 : idxD (.tuple (ws.map wayD)) (.int (j : Nat)) = .ok (wayD ws[j]) := by
        rw [idx_t, at_n, List.getElem?_map, List.getElem?_eq_getElem hj]
        rfl
      refine ⟨[.fz (.list (ns.map .int)), .fz (.int at_), .fz (netD ps ws), .fz (.int (m : Nat)), .fz (.list (sl.map .str)), .ow (runD r), .fz (.int (i : Nat)), .no], [.fz (.list (ns.map .int)), .fz (.int at_), .fz (netD ps ws), .fz (.int (m : Nat)), .fz (.list (sl.map .str)), .ow (runD (r ++ [(ws[j], s)])), .fz (.int (i : Nat)), .fz (.str ws[j].1)], by simp, ?_, by omega, r ++ [(ws[j], s)], by simp; omega, ?_, by simp⟩
      · have es' : L2.atI (sl.map PyData.str) b = some s := by
          have e0 : must (L2.atI (sl.map PyData.str) b) = .ok s := es
          revert e0
          cases L2.atI (sl.map PyData.str) b with
          | none => intro e0; cases e0
          | some d => intro e0; cases e0; rfl
        have e1' : L2.atI (ws.map wayD) ((j : Nat) : Int) = some (wayD ws[j]) := by rw [at_n, List.getElem?_map, List.getElem?_eq_getElem hj]; rfl
        simp [prB, netD, ea, eb, wayD, runD, appD, hsz, pushD, es', hj]
      · intro q hq
        rcases List.mem_append.mp hq with z | z
        · exact hr q z
        · rcases List.mem_singleton.mp z with rfl
          exact ⟨List.getElem_mem hj, hsm⟩)
  obtain ⟨ρ1, e1, _, r, hrl, hr, rfl⟩ := L
  have hlr : 0 + ((List.range n0.toNat).map fun i => PyData.int ((i : Nat) : Int)).length = n0.toNat := by simp
  rw [hlr] at hrl
  refine ⟨r, ?_, by omega, hr⟩
  have c1 : exS G prF [.fz (.list (ns.map .int)), .fz (.int at_), .fz (netD ps ws), .fz (.int (m : Nat)), .fz (.list (sl.map .str)), .ow (runD []), .no, .no] = .nx [.fz (.list (ns.map .int)), .fz (.int at_), .fz (netD ps ws), .fz (.int (m : Nat)), .fz (.list (sl.map .str)), .ow (runD r), .no, .no] := by
    rw [← e1]
    unfold prF
    rw [ex_for]
    simp only [evi_rng, ev_call, evs_cons, evs_nil, ev_bin, ev_var, ev_cst, slot_0, slot_s, ok_bind, bin_add, en, rngD_int]
    rw [range_ok (by omega) (by omega)]
    simp
  rw [fnD_eq (by rfl), prun_code]
  show finD (exSs G _ [.fz (.list (ns.map .int)), .fz (.int at_), .fz (netD ps ws), .fz (.int (m : Nat)), .fz (.list (sl.map .str)), .no, .no, .no]) = _
  have c0 : exS G (.own 5 (.lst (.nil))) [.fz (.list (ns.map .int)), .fz (.int at_), .fz (netD ps ws), .fz (.int (m : Nat)), .fz (.list (sl.map .str)), .no, .no, .no] = .nx [.fz (.list (ns.map .int)), .fz (.int at_), .fz (netD ps ws), .fz (.int (m : Nat)), .fz (.list (sl.map .str)), .ow (runD []), .no, .no] := rfl
  rw [ex_cons, c0, then_nx, ex_cons, c1, then_nx]
  rfl
/-! ### `_law_gone` -/
def kvT (kv : KV) : List (D × D) := kv.map fun p => (.str p.1, .tuple p.2)
theorem kvT_get {A B : KV} {x : Str} {r : List D} (h : x ∉ A.map (·.1)) : dgetD (kvT (A ++ (x, r) :: B)) (.str x) = some (.tuple r) := dget_mid (f := fun p : Str × List D => p.1) (g := fun p => .tuple p.2) (q := (x, r)) h
theorem kvT_put {A B : KV} {x : Str} {r r' : List D} (h : x ∉ A.map (·.1)) (h2 : x ∉ B.map (·.1)) : dputD (kvT (A ++ (x, r) :: B)) (.str x) (.tuple r') = kvT (A ++ (x, r') :: B) := by
  have := dput_mid (f := fun p : Str × List D => p.1) (g := fun p => PyData.tuple p.2) (q := (x, r)) (v := .tuple r') h h2
  unfold kvT
  rw [this]
  simp
theorem kvT_len {kv : KV} : (kvT kv).length = kv.length := by simp [kvT]
theorem kvT_all {kv : KV} (hn : (kv.map (·.1)).Nodup) {x : Str} (hx : x ∈ kv.map (·.1)) : dgetD (kvT kv) (.str x) = some (.tuple (getA kv x)) := by
  obtain ⟨A, r, B, rfl, h1, h2⟩ := split_kv hn hx
  rw [kvT_get h1, getA_split h1]
theorem dictZ_kv {kv : KV} (hn : (kv.map (·.1)).Nodup) : dictZ (.list ((kv.map (·.1)).map .str)) (kvD kv) = .ok (.dict (kvT kv)) := by
  unfold dictZ kvD
  simp only [seq_l, seq_t, ok_bind]
  have e : pairsD ((kv.map (·.1)).map PyData.str) (kv.map fun p => PyData.tuple p.2) = (kv.map fun p => (p.1, PyData.tuple p.2)).map fun p => PyData.tuple [.str p.1, p.2] := by
    unfold pairsD
    rw [List.map_map, List.zip_map', List.map_map, List.map_map]
    rfl
  have h := (dict_of (l := kv.map fun p => (p.1, PyData.tuple p.2)) (by rw [List.map_map]; exact hn)).1
  unfold dictD at h
  simp only [seq_l, ok_bind] at h
  rw [e, h, List.map_map]
  rfl
@[simp] theorem ev_dcz {a b : E} {ρ : Slots} : ev G (.dcz a b) ρ = (ev G a ρ >>= fun x => ev G b ρ >>= fun y => dictZ x y) := rfl
@[simp] theorem ex_dsz {i : Nat} {a b : E} {ρ : Slots} : exS G (.dsz i a b) ρ = liftR ρ (ev G a ρ >>= fun x => ev G b ρ >>= fun y => dictZ x y) fun d => .ofR (dstD i d ρ) := rfl
@[simp] theorem ev_told {f : Str} {b : E} {ρ : Slots} : ev G (.told f b) ρ = toldD (ev G b ρ) := rfl
end Fp
set_option maxHeartbeats 1000000
/-! `_law_gone`; things that are none -/
namespace Fp
open PySem
variable {G : Str → List D → Res D} {ps : List PipeT} {ws : List WayT}
def goC : Ss := (.cons (.set (.nm 6) (.bin .Add (.tup (.cons (.var 3) .nil)) (.idx (.own 4) (.var 5)))) (.cons (.dpn 4 (.var 5) 3 (.slc (.var 6) .no (.so (.neg (.cst (.int 1))))) (.idx (.var 6) (.neg (.cst (.int 1))))) .nil))
theorem go_loop {a b c : Slot} {names : List Str} (hn : names.Nodup) (hl : names.length ≤ 6) : ∀ {row : List Str} {kv : KV} {s : D}, (∀ x ∈ row, x ∈ names) → KvOk names kv →
    forGo (.nm 5) [5, 6] (fun ρ => exSs G goC ρ) (row.map .str) [a, b, c, .fz s, .ow (.dict (kvT kv)), .no, .no]
      = .nx [a, b, c, .fz (pushA row kv s).2, .ow (.dict (kvT (pushA row kv s).1)), .no, .no]
  | [], kv, s, _, _ => rfl
  | x :: row, kv, s, hx, hk => by
    have hz : 1000 ≤ sizeLine := by decide
    have hxn := hx x (by simp)
    have hk' := hk.set (x := x) (r := s :: (getA kv x).dropLast) (by have := hk.get hn hxn; simp; omega)
    have ih := go_loop (a := a) (b := b) (c := c) hn hl (row := row) (kv := setA kv x (s :: (getA kv x).dropLast)) (s := (getA kv x).getLast?.getD .none) (fun y hy => hx y (by simp [hy])) hk'
    obtain ⟨A, r, B, rfl, h1, h2⟩ := split_kv (x := x) (by rw [hk.nm]; exact hn) (by rw [hk.nm]; exact hxn)
    have hln := hk.ln (x, r) (by simp)
    obtain ⟨xs, l, rfl⟩ := snoc_of hln.1
    rw [getA_split h1, setA_split h1 h2] at ih
    have hlen : xs.length ≤ 3 := by simp at hln; omega
    have hsz : 1 + (xs.length + 1) ≤ sizeLine := by omega
    have hkl : (kvT (A ++ (x, xs ++ [l]) :: B)).length < sizeLine := by
      rw [kvT_len]
      have := congrArg List.length hk.nm
      rw [List.length_map] at this
      omega
    unfold pushA
    rw [getA_split h1, setA_split h1 h2, ← ih, List.map_cons]
    conv => lhs; unfold forGo
    have e1 : cutD (s :: (xs ++ [l])) none (some (-1)) = s :: xs := cut_last (xs := s :: xs) (x := l)
    have e2 : L2.atI (s :: (xs ++ [l])) (-1) = some l := atI_last (xs := s :: xs) (x := l)
    have e3 : (xs ++ [l]).length + 1 ≤ sizeLine := by simp; omega
    simp [goC, kvT_get h1, e1, e2, dputS, kvT_put h1 h2, hsz, isKey, hkl, Nat.add_comm]
    all_goals omega
def go0 : S := (.dsz 4 (.lc [5] (.idx (.var 5) (.cst (.int 0))) (.nm 5) (.seq (.idx (.var 0) (.cst (.int 0)))) .no) (.var 1))
def go1 : S := (.for_ [5, 6] (.nm 5) (.seq (.idx (.dct (.idx (.var 0) (.cst (.int 1)))) (.var 2))) goC)
def go2 : S := (.ret (.tup (.cons (.blt .tuple (.lc [5] (.idx (.own 4) (.idx (.var 5) (.cst (.int 0)))) (.nm 5) (.seq (.idx (.var 0) (.cst (.int 0)))) .no)) (.cons (.var 3) .nil))))
theorem gone_code : c__law_gone = .cons go0 (.cons go1 (.cons go2 .nil)) := rfl
theorem ev_names {ρ1 : Slots} {ps : List PipeT} {i : Nat} {f : PipeT → Slots} (hb : ∀ p ∈ ps, bindT (.nm i) (pipeD p) ρ1 = .ok (f p)) (hf : ∀ p ∈ ps, slotD (f p) i = .ok (pipeD p)) :
    lcGo (.nm i) ρ1 (fun ρ1 => evc G .no ρ1) (fun ρ1 => ev G (.idx (.var i) (.cst (.int 0))) ρ1) (ps.map pipeD) = .ok ((ps.map (·.1)).map .str) := by
  rw [lc_map pipeD f (fun p => .str p.1) hb (fun p _ => rfl) (fun p hp => by simp [hf p hp, pipeD])]
  rw [List.map_map]
  rfl
theorem way_dict (h : NetG ps ws) {w : WayT} (hw : w ∈ ws) : dictD (.tuple (ws.map wayD)) = .ok (.dict (ws.map fun w => (.str w.1, rowD w.2))) ∧ dgetD (ws.map fun w => (PyData.str w.1, rowD w.2)) (.str w.1) = some (rowD w.2) := by
  constructor
  · have := (dict_of (l := ws.map fun w => (w.1, rowD w.2)) (by rw [List.map_map]; exact h.nw)).2
    rw [List.map_map, List.map_map] at this
    exact this
  · obtain ⟨A, B, e, hA⟩ := h.way hw
    rw [e]
    exact dget_mid (f := fun w : WayT => w.1) (g := fun w => rowD w.2) (q := w) hA
theorem kv_map (h : NetG ps ws) {kv : KV} (hk : KvOk (ps.map (·.1)) kv) : ps.map (fun q => PyData.tuple (getA kv q.1)) = kv.map fun p => PyData.tuple p.2 := by
  have hn : (kv.map (·.1)).Nodup := by rw [hk.nm]; exact h.np
  have e1 : ps.map (fun q => PyData.tuple (getA kv q.1)) = (ps.map (·.1)).map fun x => PyData.tuple (getA kv x) := by rw [List.map_map]; rfl
  rw [e1, ← hk.nm, List.map_map]
  refine List.map_congr_left fun p hp => ?_
  obtain ⟨A, B, e2⟩ := List.append_of_mem hp
  have h1 : p.1 ∉ A.map (·.1) := by
    rw [e2, List.map_append, List.nodup_append] at hn
    exact fun q => hn.2.2 _ q _ (by simp) rfl
  show PyData.tuple (getA kv p.1) = _
  rw [e2]
  rw [getA_split (x := p.1) (r := p.2) h1]
def Sp__law_gone (F : List D → Res D) : Prop := ∀ ps ws, NetG ps ws → ∀ w ∈ ws, ∀ kv, KvOk (ps.map (·.1)) kv → ∀ s, F [netD ps ws, kvD kv, .str w.1, s] = .ok (.tuple [kvD (pushA w.2 kv s).1, (pushA w.2 kv s).2])
theorem s__law_gone : Sp__law_gone (fnD G 4 3 c__law_gone) := fun ps ws h w hw kv hk s => by
  have hn : (kv.map (·.1)).Nodup := by rw [hk.nm]; exact h.np
  rw [fnD_eq (by rfl), gone_code]
  show finD (exSs G _ [.fz (netD ps ws), .fz (kvD kv), .fz (.str w.1), .fz s, .no, .no, .no]) = _
  have e0 : exS G go0 [.fz (netD ps ws), .fz (kvD kv), .fz (.str w.1), .fz s, .no, .no, .no] = .nx [.fz (netD ps ws), .fz (kvD kv), .fz (.str w.1), .fz s, .ow (.dict (kvT kv)), .no, .no] := by
    unfold go0
    rw [ex_dsz]
    simp only [ev_lc, evi_seq, ev_var, slot_0, slot_s, ok_bind, wipe_cons, wipe_nil, List.set_cons_succ, List.set_cons_zero]
    have e : (ev G (.idx (.var 0) (.cst (.int 0))) [.fz (netD ps ws), .fz (kvD kv), .fz (.str w.1), .fz s, .no, .no, .no]) = .ok (.tuple (ps.map pipeD)) := by simp [netD]
    rw [e]
    simp only [ok_bind, items_t]
    rw [ev_names (f := fun p => [.fz (netD ps ws), .fz (kvD kv), .fz (.str w.1), .fz s, .no, .fz (pipeD p), .no]) (by simp) (by simp)]
    simp only [ok_bind]
    rw [← hk.nm, dictZ_kv hn]
    simp
  obtain ⟨d1, d2⟩ := way_dict h hw
  have e1 : exS G go1 [.fz (netD ps ws), .fz (kvD kv), .fz (.str w.1), .fz s, .ow (.dict (kvT kv)), .no, .no] = .nx [.fz (netD ps ws), .fz (kvD kv), .fz (.str w.1), .fz (pushA w.2 kv s).2, .ow (.dict (kvT (pushA w.2 kv s).1)), .no, .no] := by
    rw [← go_loop (G := G) (a := .fz (netD ps ws)) (b := .fz (kvD kv)) (c := .fz (.str w.1)) h.np (by rw [List.length_map]; exact h.pl) (h.sub w hw) hk]
    have ei : evi G (.seq (.idx (.dct (.idx (.var 0) (.cst (.int 1)))) (.var 2))) [.fz (netD ps ws), .fz (kvD kv), .fz (.str w.1), .fz s, .ow (.dict (kvT kv)), .no, .no] = .ok (w.2.map .str) := by
      simp [netD, d1, d2]
      rfl
    unfold go1
    rw [ex_for, ei]
    rfl
  have hk2 : KvOk (ps.map (·.1)) (pushA w.2 kv s).1 := KvOk.run (r := [(w, s)]) h (by simpa using hw) hk
  have hn2 : ((pushA w.2 kv s).1.map (·.1)).Nodup := by rw [hk2.nm]; exact h.np
  have e2 : exS G go2 [.fz (netD ps ws), .fz (kvD kv), .fz (.str w.1), .fz (pushA w.2 kv s).2, .ow (.dict (kvT (pushA w.2 kv s).1)), .no, .no] = .rt (.tuple [kvD (pushA w.2 kv s).1, (pushA w.2 kv s).2]) := by
    unfold go2
    simp only [ex_ret, ev_tup, evs_cons, ev_blt, ev_lc, evi_seq, ev_idx, ev_var, ev_cst, slot_0, slot_s, ok_bind, netD, idx_t, at_0, must_some, items_t, wipe_cons, wipe_nil, List.set_cons_succ, List.set_cons_zero]
    rw [lc_map pipeD (fun q => [.fz (.tuple [.tuple (ps.map pipeD), .tuple (ws.map wayD)]), .fz (kvD kv), .fz (.str w.1), .fz (pushA w.2 kv s).2, .ow (.dict (kvT (pushA w.2 kv s).1)), .fz (pipeD q), .no]) (fun q => .tuple (getA (pushA w.2 kv s).1 q.1)) (by simp) (by simp) (fun q hq => by
      have hx : q.1 ∈ (pushA w.2 kv s).1.map (·.1) := by rw [hk2.nm]; exact List.mem_map_of_mem hq
      simp [pipeD, kvT_all hn2 hx])]
    simp only [ok_bind, tup_lst, evs_nil, kv_map h hk2]
    rfl
  rw [ex_cons, e0, then_nx, ex_cons, e1, then_nx, ex_cons, e2]
  rfl
/-! ### things that are none -/
def oddL (j : Int) : List D := [.none, .bool true, .str "", .str "A", .str "5", .list [.int 1], .tuple [.none], .int (-1 - j), .str "abcde", .list [.list [.str "a"]], .int 1000000000, .tuple [.str "a", .int 1]]
@[simp] theorem pow9 : binD .Pow (.int 10) (.int 9) = .ok (.int 1000000000) := by
  show (if (0 : Int) ≤ 9 ∧ (9 : Int) ≤ 1000000 ∧ (10 : Int).natAbs < 2 ^ 64 then Res.ok (PyData.int ((10 : Int) ^ (9 : Int).toNat)) else Res.err) = _
  rw [if_pos (by decide)]
  rfl
def Sp__law_odd (F : List D → Res D) : Prop := ∀ ns : List Int, ns.length ≤ 63 → ∀ at_ : Int, at_ ≤ 60000 → ∃ j : Int, F [.list (ns.map .int), .int at_] = .ok (.list (oddL j)) ∧ 0 ≤ j ∧ j < 9
theorem s__law_odd (h1 : Sp__law_pick (G "_law_pick")) : Sp__law_odd (fnD G 2 1 c__law_odd) := fun ns hl at_ ha => by
  have hs : 1000 ≤ sizeLine := by decide
  obtain ⟨j, ej, hj1, hj2⟩ := h1 ns hl at_ 9 (by omega) (by decide)
  refine ⟨j, ?_, hj1, hj2⟩
  have h12 : 12 ≤ sizeLine := by omega
  simp [c__law_odd, ej, oddL, h12]
end Fp
set_option maxHeartbeats 1000000
/-! costs, by value -/
namespace Fp
open PySem
variable {G : Str → List D → Res D} {ps : List PipeT} {ws : List WayT}
def isCost : D → Bool
  | .str s => (("pushes" : Str) == s) || (("mixing" : Str) == s)
  | _ => false
def Sp_look_cost (F : List D → Res D) : Prop := ∀ d, sh 60 d → F [d] = if isCost d = true then .ok .none else .exc "NoCost"
theorem sh_pm : sh 1 (.tuple [.str "pushes", .str "mixing"]) := ⟨by decide +kernel, by decide +kernel⟩
theorem s_look_cost : Sp_look_cost (fnD G 1 0 c_look_cost) := fun d hd => by
  cases d with
  | str s =>
    have e : inD (.str s) (.tuple [.str "pushes", .str "mixing"]) = .ok (isCost (.str s)) := by
      rw [inD_tup hd sh_pm (by decide) (by decide)]
      simp [isCost]
    cases hc : isCost (.str s) with
    | true => simp [c_look_cost, e, hc]
    | false => simp [c_look_cost, e, hc]
  | _ => simp [c_look_cost, isCost]
def lineA (row : List Str) (kv : KV) (s : D) : List D := s :: row.flatMap (getA kv)
def lnC : Ss := (.cons (.set (.nm 4) (.bin .Add (.var 4) (.idx (.var 1) (.mth .index (.var 3) (.var 5))))) .nil)
theorem kv_idx {names : List Str} (hn : names.Nodup) (hs : ∀ s ∈ names, isNm s = true) {kv : KV} (hk : KvOk names kv) {x : Str} (hx : x ∈ names) : ∃ j : Nat, findD (names.map .str) (.str x) = .ok (.int (j : Nat)) ∧ idxD (kvD kv) (.int (j : Nat)) = .ok (.tuple (getA kv x)) ∧ j < names.length ∧ names[j]? = some x := by
  obtain ⟨A, r, B, rfl, h1, h2⟩ := split_kv (x := x) (by rw [hk.nm]; exact hn) (by rw [hk.nm]; exact hx)
  have enm : names = A.map (·.1) ++ x :: B.map (·.1) := by rw [← hk.nm]; simp
  refine ⟨A.length, ?_, ?_, ?_, ?_⟩
  · rw [enm]
    have := findD_str (B := B.map (·.1)) h1 (fun s hs' => hs s (by rw [enm]; exact hs'))
    rwa [List.length_map] at this
  · unfold kvD
    rw [idx_t, at_n, List.map_append, List.map_cons]
    have := get_mid (A := A.map fun p => PyData.tuple p.2) (B := B.map fun p => PyData.tuple p.2) (x := .tuple r)
    rw [List.length_map] at this
    rw [this, getA_split h1]
    rfl
  · rw [enm]; simp
  · rw [enm]
    have := get_mid (A := A.map (·.1)) (B := B.map (·.1)) (x := x)
    rwa [List.length_map] at this
theorem ln_loop {a c : Slot} {names : List Str} (hn : names.Nodup) (hs : ∀ s ∈ names, isNm s = true) {kv : KV} (hk : KvOk names kv) : ∀ {row : List Str} {acc : List D}, (∀ x ∈ row, x ∈ names) → acc.length + 4 * row.length ≤ 100 →
    forGo (.nm 5) [5] (fun ρ => exSs G lnC ρ) (row.map .str) [a, .fz (kvD kv), c, .fz (.list (names.map .str)), .fz (.tuple acc), .no] = .nx [a, .fz (kvD kv), c, .fz (.list (names.map .str)), .fz (.tuple (acc ++ row.flatMap (getA kv))), .no]
  | [], acc, _, _ => by simp [forGo]
  | x :: row, acc, hx, hl => by
    have hz : 1000 ≤ sizeLine := by decide
    obtain ⟨j, e1, e2, _, _⟩ := kv_idx hn hs hk (hx x (by simp))
    have hg := hk.get hn (hx x (by simp))
    rw [List.length_cons] at hl
    have hsz : acc.length + (getA kv x).length ≤ sizeLine := by omega
    have ih := ln_loop (a := a) (c := c) hn hs hk (row := row) (acc := acc ++ getA kv x) (fun y hy => hx y (by simp [hy])) (by rw [List.length_append]; omega)
    rw [List.flatMap_cons, ← List.append_assoc, ← ih, List.map_cons]
    conv => lhs; unfold forGo
    simp [lnC, e1, e2, hsz]
def Sp_line_of (F : List D → Res D) : Prop := ∀ ps ws, NetG ps ws → ∀ w ∈ ws, ∀ kv, KvOk (ps.map (·.1)) kv → ∀ s, F [netD ps ws, kvD kv, .tuple [.str w.1, s]] = .ok (.tuple (lineA w.2 kv s))
theorem s_line_of (h1 : Sp_pipes_in (G "pipes_in")) (h2 : Sp_row_of (G "row_of")) : Sp_line_of (fnD G 3 3 c_line_of) := fun ps ws h w hw kv hk s => by
  rw [fnD_eq (by rfl)]
  show finD (exSs G (.cons (.par [(3, false), (4, false)] (.cons (.call "pipes_in" (.cons (.var 0) .nil)) (.cons (.tup (.cons (.idx (.var 2) (.cst (.int 1))) .nil)) .nil))) (.cons (.for_ [5] (.nm 5) (.seq (.call "row_of" (.cons (.var 0) (.cons (.idx (.var 2) (.cst (.int 0))) .nil)))) lnC) (.cons (.ret (.var 4)) .nil))) [.fz (netD ps ws), .fz (kvD kv), .fz (.tuple [.str w.1, s]), .no, .no, .no]) = _
  have e0 : exS G (.par [(3, false), (4, false)] (.cons (.call "pipes_in" (.cons (.var 0) .nil)) (.cons (.tup (.cons (.idx (.var 2) (.cst (.int 1))) .nil)) .nil))) [.fz (netD ps ws), .fz (kvD kv), .fz (.tuple [.str w.1, s]), .no, .no, .no] = .nx [.fz (netD ps ws), .fz (kvD kv), .fz (.tuple [.str w.1, s]), .fz (.list ((ps.map (·.1)).map .str)), .fz (.tuple [s]), .no] := by
    simp [h1 ps ws]
  have e1 : exS G (.for_ [5] (.nm 5) (.seq (.call "row_of" (.cons (.var 0) (.cons (.idx (.var 2) (.cst (.int 0))) .nil)))) lnC) [.fz (netD ps ws), .fz (kvD kv), .fz (.tuple [.str w.1, s]), .fz (.list ((ps.map (·.1)).map .str)), .fz (.tuple [s]), .no] = .nx [.fz (netD ps ws), .fz (kvD kv), .fz (.tuple [.str w.1, s]), .fz (.list ((ps.map (·.1)).map .str)), .fz (.tuple (lineA w.2 kv s)), .no] := by
    have hrl := h.rl w hw
    have := ln_loop (G := G) (a := .fz (netD ps ws)) (c := .fz (.tuple [.str w.1, s])) h.np h.names hk (row := w.2) (acc := [s]) (h.sub w hw) (by simp; omega)
    rw [show lineA w.2 kv s = [s] ++ w.2.flatMap (getA kv) from rfl, ← this]
    simp [h2 ps ws h w hw, rowD]
  rw [ex_cons, e0, then_nx, ex_cons, e1, then_nx]
  rfl
/-- how many neighbours are unlike -/
def difs (l : List D) : Nat := (l.zip l.tail).countP fun p => !PyData.eqv p.1 p.2
structure Sp_plain_cost (F : List D → Res D) : Prop where
  pu : ∀ n d e, F [n, d, e, .str "pushes"] = .ok (.int 1)
  mi : ∀ ps ws, NetG ps ws → ∀ w ∈ ws, ∀ kv, KvOk (ps.map (·.1)) kv → ∀ s, KvAll (fun d => sh 0 d) kv → sh 0 s → F [netD ps ws, kvD kv, .tuple [.str w.1, s], .str "mixing"] = .ok (.int (difs (lineA w.2 kv s) : Nat))
theorem lineA_all {P : D → Prop} {row : List Str} {kv : KV} {s : D} (hk : KvAll P kv) (hs : P s) : ∀ d ∈ lineA row kv s, P d := fun d hd => by
  rcases List.mem_cons.mp hd with rfl | hd
  · exact hs
  · obtain ⟨x, _, hx⟩ := List.mem_flatMap.mp hd
    exact hk.get x d hx
theorem s_plain_cost (h1 : Sp_line_of (G "line_of")) : Sp_plain_cost (fnD G 4 3 c_plain_cost) where
  pu n d e := by
    have : eqD (.str "pushes") (.str "pushes") = .ok true := by kernel_rfl
    simp [c_plain_cost, this]
  mi ps ws h w hw kv hk s hkv hs := by
    have e0 : eqD (.str "mixing") (.str "pushes") = .ok false := by kernel_rfl
    have hz : 1000 ≤ sizeLine := by decide
    have hall := lineA_all (row := w.2) hkv hs
    simp only [fnD_eq (show [netD ps ws, kvD kv, PyData.tuple [.str w.1, s], .str "mixing"].length = 4 from rfl), c_plain_cost, List.map_cons, List.map_nil, List.replicate_succ, List.replicate_zero, List.cons_append, List.nil_append, ex_cons, ex_ite, ev_cmp, ev_var, ev_glb, slot_s, slot_0, ok_bind, cmp_eq, e0, asBool_bool, liftR_ok, Bool.false_eq_true, if_false, ex_nil, then_nx, ex_set, ev_call, evs_cons, evs_nil, h1 ps ws h w hw kv hk s, bind_nm]
    simp only [List.length_cons, List.length_nil, List.set_cons_succ, List.set_cons_zero, ofR_ok, then_nx, Nat.reduceAdd, Nat.reduceLT, if_true, ex_ret, ev_blt, ev_lc, evi_zip, ev_var, ev_slc, evo_so, evo_no, ev_cst, slot_s, slot_0, ok_bind, part_int, part_none, slc_t, cut_1, seq_t, wipe_cons, wipe_nil]
    generalize hl : lineA w.2 kv s = l at hall
    have ep : pairsD l (l.drop 1) = (l.zip l.tail).map fun p => PyData.tuple [p.1, p.2] := by
      unfold pairsD
      rw [List.drop_one]
    rw [ep, lc_filter (fun p : D × D => PyData.tuple [p.1, p.2]) (fun p => [.fz (netD ps ws), .fz (kvD kv), .fz (.tuple [.str w.1, s]), .fz (.str "mixing"), .fz (.tuple l), .fz p.1, .fz p.2]) (fun p => !PyData.eqv p.1 p.2) (fun _ => .int 1) (by simp) (fun p hp => ?_) (by simp)]
    · simp [difs, List.countP_eq_length_filter]
    · have hp' := List.of_mem_zip hp
      have q1 := hall p.1 hp'.1
      have q2 := hall p.2 (List.mem_of_mem_tail hp'.2)
      simp [eqD_sh q1 q2 (by decide) (by decide)]
structure Sp_cost (F : List D → Res D) : Prop where
  pu : ∀ ps ws, NetG ps ws → ∀ d e, isStateOf ps d = true → isPushOf ws e = true → F [netD ps ws, d, e, .str "pushes"] = .ok (.int 1)
  mi : ∀ ps ws, NetG ps ws → ∀ w ∈ ws, ∀ kv, KvL ps kv → ∀ s, KvNm kv → isName s = true → F [netD ps ws, kvD kv, .tuple [.str w.1, s], .str "mixing"] = .ok (.int (difs (lineA w.2 kv s) : Nat))
  nn : ∀ n d e f, sh 63 n → isNet n = false → F [n, d, e, f] = .exc "NoNet"
  ns : ∀ ps ws, NetG ps ws → ∀ d e f, isStateOf ps d = false → F [netD ps ws, d, e, f] = .exc "NoState"
  np : ∀ ps ws, NetG ps ws → ∀ d e f, isStateOf ps d = true → isPushOf ws e = false → F [netD ps ws, d, e, f] = .exc "NoPush"
  nc : ∀ ps ws, NetG ps ws → ∀ d e f, isStateOf ps d = true → isPushOf ws e = true → sh 60 f → isCost f = false → F [netD ps ws, d, e, f] = .exc "NoCost"
theorem name_sh {d : D} (h : isName d = true) : sh 0 d := by
  obtain ⟨x, rfl, hx⟩ := name_str h
  exact sh_str (nm_lay hx)
theorem isCost_pu : isCost (.str "pushes") = true := by decide +kernel
theorem isCost_mi : isCost (.str "mixing") = true := by decide +kernel
theorem sh_pu : sh 60 (.str "pushes") := ⟨by decide +kernel, by decide +kernel⟩
theorem sh_mi : sh 60 (.str "mixing") := ⟨by decide +kernel, by decide +kernel⟩
theorem s_cost (h1 : Sp_look_net (G "look_net")) (h2 : Sp_look_state (G "look_state")) (h3 : Sp_look_push (G "look_push")) (h4 : Sp_look_cost (G "look_cost")) (h5 : Sp_plain_cost (G "plain_cost")) : Sp_cost (fnD G 4 0 c_cost) where
  pu ps ws h d e hd he := by simp [c_cost, h1.yes h, h2 ps ws _ h, h3 ps ws _ h, hd, he, h4 _ sh_pu, isCost_pu, h5.pu]
  mi ps ws h w hw kv hk s hn hs := by
    simp [c_cost, h1.yes h, h2 ps ws _ h, h3 ps ws _ h, state_yes h hk hn, push_yes h hw hs, h4 _ sh_mi, isCost_mi, h5.mi ps ws h w hw kv (hk.ok h) s (fun p hp s hs => name_sh (hn p hp s hs)) (name_sh hs)]
  nn n d e f hs hn := by simp [c_cost, h1 n hs, hn]
  ns ps ws h d e f hd := by simp [c_cost, h1.yes h, h2 ps ws _ h, hd]
  np ps ws h d e f hd he := by simp [c_cost, h1.yes h, h2 ps ws _ h, h3 ps ws _ h, hd, he]
  nc ps ws h d e f hd he hf hc := by simp [c_cost, h1.yes h, h2 ps ws _ h, h3 ps ws _ h, hd, he, h4 _ hf, hc]
/-- what a run costs -/
def costsA : RunT → KV → Int
  | [], _ => 0
  | q :: r, kv => (difs (lineA q.1.2 kv q.2) : Nat) + costsA r (pushA q.1.2 kv q.2).1
def cfC : Ss := (.cons (.set (.nm 4) (.bin .Add (.var 4) (.call "plain_cost" (.cons (.var 0) (.cons (.var 1) (.cons (.var 5) (.cons (.var 3) .nil))))))) (.cons (.set (.nm 1) (.idx (.call "plain_pushed" (.cons (.var 0) (.cons (.var 1) (.cons (.var 5) .nil)))) (.cst (.int 0)))) .nil))
theorem cf_pu (h : NetG ps ws) (h1 : Sp_plain_pushed (G "plain_pushed")) (h2 : Sp_plain_cost (G "plain_cost")) {c : Slot} : ∀ {r : RunT} {kv : KV} {acc : Int}, (∀ q ∈ r, q.1 ∈ ws) → KvOk (ps.map (·.1)) kv →
    ∃ d, forGo (.nm 5) [5] (fun ρ => exSs G cfC ρ) (r.map pushD) [.fz (netD ps ws), .fz (kvD kv), c, .fz (.str "pushes"), .fz (.int acc), .no] = .nx [.fz (netD ps ws), d, c, .fz (.str "pushes"), .fz (.int (acc + (r.length : Nat))), .no]
  | [], kv, acc, _, _ => ⟨.fz (kvD kv), by simp [forGo]⟩
  | q :: r, kv, acc, hr, hk => by
    have hq := hr q (by simp)
    have hk2 : KvOk (ps.map (·.1)) (pushA q.1.2 kv q.2).1 := KvOk.run (r := [q]) h (by simpa using hq) hk
    obtain ⟨d, ih⟩ := cf_pu h h1 h2 (c := c) (r := r) (kv := (pushA q.1.2 kv q.2).1) (acc := acc + 1) (fun q' hq' => hr q' (by simp [hq'])) hk2
    refine ⟨d, ?_⟩
    rw [show acc + ((q :: r).length : Nat) = acc + 1 + (r.length : Nat) by simp; omega, ← ih, List.map_cons]
    conv => lhs; unfold forGo
    have e := h1 ps ws h q.1 hq kv hk q.2
    simp [cfC, pushD, h2.pu, e]
theorem cf_mi (h : NetG ps ws) (h1 : Sp_plain_pushed (G "plain_pushed")) (h2 : Sp_plain_cost (G "plain_cost")) {c : Slot} : ∀ {r : RunT} {kv : KV} {acc : Int}, (∀ q ∈ r, q.1 ∈ ws ∧ sh 0 q.2) → KvOk (ps.map (·.1)) kv → KvAll (fun d => sh 0 d) kv →
    ∃ d, forGo (.nm 5) [5] (fun ρ => exSs G cfC ρ) (r.map pushD) [.fz (netD ps ws), .fz (kvD kv), c, .fz (.str "mixing"), .fz (.int acc), .no] = .nx [.fz (netD ps ws), d, c, .fz (.str "mixing"), .fz (.int (acc + costsA r kv)), .no]
  | [], kv, acc, _, _, _ => ⟨.fz (kvD kv), by simp [forGo, costsA]⟩
  | q :: r, kv, acc, hr, hk, ha => by
    have hq := hr q (by simp)
    have hk2 : KvOk (ps.map (·.1)) (pushA q.1.2 kv q.2).1 := KvOk.run (r := [q]) h (by simpa using hq.1) hk
    have ha2 : KvAll (fun d => sh 0 d) (pushA q.1.2 kv q.2).1 := (KvAll.run (r := [q]) h (by simpa using hq) hk ha).1
    obtain ⟨d, ih⟩ := cf_mi h h1 h2 (c := c) (r := r) (kv := (pushA q.1.2 kv q.2).1) (acc := acc + (difs (lineA q.1.2 kv q.2) : Nat)) (fun q' hq' => hr q' (by simp [hq'])) hk2 ha2
    refine ⟨d, ?_⟩
    rw [show acc + costsA (q :: r) kv = acc + (difs (lineA q.1.2 kv q.2) : Nat) + costsA r (pushA q.1.2 kv q.2).1 by simp [costsA]; omega, ← ih, List.map_cons]
    conv => lhs; unfold forGo
    have e := h1 ps ws h q.1 hq.1 kv hk q.2
    have e2 := h2.mi ps ws h q.1 hq.1 kv hk q.2 ha hq.2
    simp [cfC, pushD, e, e2]
structure Sp_cost_of (F : List D → Res D) : Prop where
  pu : ∀ ps ws, NetG ps ws → ∀ kv, KvL ps kv → KvNm kv → ∀ r, RunOk ws r → F [netD ps ws, kvD kv, runD r, .str "pushes"] = .ok (.int (r.length : Nat))
  mi : ∀ ps ws, NetG ps ws → ∀ kv, KvL ps kv → KvNm kv → ∀ r, RunOk ws r → F [netD ps ws, kvD kv, runD r, .str "mixing"] = .ok (.int (costsA r kv))
  nn : ∀ n d e f, sh 63 n → isNet n = false → F [n, d, e, f] = .exc "NoNet"
  ns : ∀ ps ws, NetG ps ws → ∀ d e f, isStateOf ps d = false → F [netD ps ws, d, e, f] = .exc "NoState"
  nr : ∀ ps ws, NetG ps ws → ∀ d e f, isStateOf ps d = true → isRunOf ws e = false → F [netD ps ws, d, e, f] = .exc "NoRun"
  nc : ∀ ps ws, NetG ps ws → ∀ d e f, isStateOf ps d = true → isRunOf ws e = true → sh 60 f → isCost f = false → F [netD ps ws, d, e, f] = .exc "NoCost"
theorem cof_code : c_cost_of = .cons (.exp (.call "look_net" (.cons (.var 0) .nil))) (.cons (.exp (.call "look_state" (.cons (.var 0) (.cons (.var 1) .nil)))) (.cons (.exp (.call "look_run" (.cons (.var 0) (.cons (.var 2) .nil)))) (.cons (.exp (.call "look_cost" (.cons (.var 3) .nil))) (.cons (.set (.nm 4) (.cst (.int 0))) (.cons (.for_ [5] (.nm 5) (.seq (.var 2)) cfC) (.cons (.ret (.var 4)) .nil)))))) := rfl
theorem s_cost_of (h1 : Sp_look_net (G "look_net")) (h2 : Sp_look_state (G "look_state")) (h3 : Sp_look_run (G "look_run")) (h4 : Sp_look_cost (G "look_cost")) (h5 : Sp_plain_cost (G "plain_cost")) (h6 : Sp_plain_pushed (G "plain_pushed")) : Sp_cost_of (fnD G 4 2 c_cost_of) where
  pu ps ws h kv hk hn r hr := by
    obtain ⟨d, e⟩ := cf_pu h h6 h5 (c := .fz (runD r)) (r := r) (kv := kv) (acc := 0) (fun q hq => (hr.ok q hq).1) (hk.ok h)
    have ef : exS G (.for_ [5] (.nm 5) (.seq (.var 2)) cfC) [.fz (netD ps ws), .fz (kvD kv), .fz (runD r), .fz (.str "pushes"), .fz (.int 0), .no] = .nx [.fz (netD ps ws), d, .fz (runD r), .fz (.str "pushes"), .fz (.int (0 + (r.length : Nat))), .no] := by
      rw [← e]
      rfl
    rw [fnD_eq (by rfl), cof_code]
    simp [h1.yes h, h2 ps ws _ h, h3 ps ws _ h, state_yes h hk hn, hr.is h, h4 _ sh_pu, isCost_pu, -ex_for]
    rw [ef]
    simp
  mi ps ws h kv hk hn r hr := by
    obtain ⟨d, e⟩ := cf_mi h h6 h5 (c := .fz (runD r)) (r := r) (kv := kv) (acc := 0) (fun q hq => ⟨(hr.ok q hq).1, name_sh (hr.ok q hq).2⟩) (hk.ok h) (fun p hp s hs => name_sh (hn p hp s hs))
    have ef : exS G (.for_ [5] (.nm 5) (.seq (.var 2)) cfC) [.fz (netD ps ws), .fz (kvD kv), .fz (runD r), .fz (.str "mixing"), .fz (.int 0), .no] = .nx [.fz (netD ps ws), d, .fz (runD r), .fz (.str "mixing"), .fz (.int (0 + costsA r kv)), .no] := by
      rw [← e]
      rfl
    rw [fnD_eq (by rfl), cof_code]
    simp [h1.yes h, h2 ps ws _ h, h3 ps ws _ h, state_yes h hk hn, hr.is h, h4 _ sh_mi, isCost_mi, -ex_for]
    rw [ef]
    simp
  nn n d e f hs hn := by simp [c_cost_of, h1 n hs, hn]
  ns ps ws h d e f hd := by simp [c_cost_of, h1.yes h, h2 ps ws _ h, hd]
  nr ps ws h d e f hd he := by simp [c_cost_of, h1.yes h, h2 ps ws _ h, h3 ps ws _ h, hd, he]
  nc ps ws h d e f hd he hf hc := by simp [c_cost_of, h1.yes h, h2 ps ws _ h, h3 ps ws _ h, hd, he, h4 _ hf, hc]
end Fp
set_option maxHeartbeats 1000000
/-! things that are none are none; refusals that are told -/
namespace Fp
open PySem
variable {G : Str → List D → Res D} {ps : List PipeT} {ws : List WayT}
theorem odd_cases {j : Int} {P : D → Prop} (h : P .none ∧ P (.bool true) ∧ P (.str "") ∧ P (.str "A") ∧ P (.str "5") ∧ P (.list [.int 1]) ∧ P (.tuple [.none]) ∧ P (.int (-1 - j)) ∧ P (.str "abcde") ∧ P (.list [.list [.str "a"]]) ∧ P (.int 1000000000) ∧ P (.tuple [.str "a", .int 1])) : ∀ d ∈ oddL j, P d := fun d hd => by
  obtain ⟨h1, h2, h3, h4, h5, h6, h7, h8, h9, h10, h11, h12⟩ := h
  simp only [oddL, List.mem_cons, List.not_mem_nil, or_false] at hd
  rcases hd with rfl | rfl | rfl | rfl | rfl | rfl | rfl | rfl | rfl | rfl | rfl | rfl <;> assumption
theorem odd_sh {j : Int} : ∀ d ∈ oddL j, sh 2 d := odd_cases ⟨⟨rfl, by decide⟩, ⟨rfl, by decide⟩, ⟨by decide +kernel, by decide +kernel⟩, ⟨by decide +kernel, by decide +kernel⟩, ⟨by decide +kernel, by decide +kernel⟩, ⟨by decide +kernel, by decide +kernel⟩, ⟨by decide +kernel, by decide +kernel⟩, ⟨rfl, Nat.zero_le _⟩, ⟨by decide +kernel, by decide +kernel⟩, ⟨by decide +kernel, by decide +kernel⟩, ⟨rfl, Nat.zero_le _⟩, ⟨by decide +kernel, by decide +kernel⟩⟩
theorem odd_net {j : Int} : ∀ d ∈ oddL j, isNet d = false := odd_cases ⟨rfl, rfl, rfl, rfl, rfl, rfl, rfl, rfl, rfl, rfl, rfl, rfl⟩
theorem odd_state {j : Int} : ∀ d ∈ oddL j, isStateOf ps d = false := odd_cases ⟨rfl, rfl, rfl, rfl, rfl, rfl, by simp [isStateOf, isTup], rfl, rfl, rfl, rfl, by simp [isStateOf, isTup]⟩
theorem odd_push {j : Int} : ∀ d ∈ oddL j, isPushOf ws d = false := odd_cases ⟨rfl, rfl, rfl, rfl, rfl, rfl, by simp [isPushOf], rfl, rfl, rfl, rfl, by simp [isPushOf, isName]⟩
theorem odd_run {j : Int} : ∀ d ∈ oddL j, isRunOf ws d = false := odd_cases ⟨rfl, rfl, rfl, rfl, rfl, by simp [isRunOf, isPushOf], rfl, rfl, rfl, by simp [isRunOf, isPushOf], rfl, rfl⟩
theorem odd_cost {j : Int} : ∀ d ∈ oddL j, isCost d = false := odd_cases ⟨rfl, rfl, by decide +kernel, by decide +kernel, by decide +kernel, rfl, rfl, rfl, by decide +kernel, rfl, rfl, rfl⟩
/-- a loop whose turns leave all as it was -/
theorem for_same {t : Tg} {wsl : List Nat} {body : Slots → Fl} {ρ : Slots} : ∀ {xs : List D}, (∀ x ∈ xs, ∃ ρ1 ρ2, bindT t x ρ = .ok ρ1 ∧ body ρ1 = .nx ρ2 ∧ wipeE ρ2 wsl = ρ) → forGo t wsl body xs ρ = .nx ρ
  | [], _ => rfl
  | x :: xs, h => by
    obtain ⟨ρ1, ρ2, e1, e2, e3⟩ := h x (by simp)
    unfold forGo
    rw [e1]
    show (body ρ1).then _ = _
    rw [e2, then_nx, e3]
    exact for_same fun y hy => h y (by simp [hy])
def ref (c : Str) : D := .tuple [.str "refused", .str c]
theorem toldD_exc {c : Str} (h : c ∈ toldNames) : toldD (.exc c) = .ok (ref c) := if_pos h
@[simp] theorem toldD_ok {d : D} : toldD (.ok d) = .ok d := rfl
theorem t_net : toldD (.exc "NoNet") = .ok (ref "NoNet") := toldD_exc (by decide +kernel)
theorem t_state : toldD (.exc "NoState") = .ok (ref "NoState") := toldD_exc (by decide +kernel)
theorem t_push : toldD (.exc "NoPush") = .ok (ref "NoPush") := toldD_exc (by decide +kernel)
theorem t_cost : toldD (.exc "NoCost") = .ok (ref "NoCost") := toldD_exc (by decide +kernel)
theorem t_run : toldD (.exc "NoRun") = .ok (ref "NoRun") := toldD_exc (by decide +kernel)
theorem t_wish : toldD (.exc "NoWish") = .ok (ref "NoWish") := toldD_exc (by decide +kernel)
theorem t_stock : toldD (.exc "NoStock") = .ok (ref "NoStock") := toldD_exc (by decide +kernel)
theorem t_spot : toldD (.exc "NoSpot") = .ok (ref "NoSpot") := toldD_exc (by decide +kernel)
theorem t_slug : toldD (.exc "NoSlug") = .ok (ref "NoSlug") := toldD_exc (by decide +kernel)
theorem t_outs : toldD (.exc "NoOuts") = .ok (ref "NoOuts") := toldD_exc (by decide +kernel)
theorem t_order : toldD (.exc "NoOrder") = .ok (ref "NoOrder") := toldD_exc (by decide +kernel)
/-- unlike neighbours, by their places -/
theorem difs_range : ∀ (l : List D), ((List.range (l.length - 1)).filter fun k => !PyData.eqv (l.getD k .none) (l.getD (k + 1) .none)).length = difs l
  | [] => rfl
  | [_] => rfl
  | a :: b :: l => by
    have ih := difs_range (b :: l)
    have e1 : (a :: b :: l).length - 1 = (b :: l).length - 1 + 1 := by simp
    rw [e1, List.range_succ_eq_map, List.filter_cons, List.filter_map]
    have e2 : difs (a :: b :: l) = (if (!PyData.eqv a b) = true then 1 else 0) + difs (b :: l) := by
      unfold difs
      simp only [List.tail_cons, List.zip_cons_cons, List.countP_cons]
      omega
    have e3 : ((fun k => !PyData.eqv ((a :: b :: l).getD k .none) ((a :: b :: l).getD (k + 1) .none)) ∘ Nat.succ) = fun k => !PyData.eqv ((b :: l).getD k .none) ((b :: l).getD (k + 1) .none) := by
      funext k
      rfl
    rw [e2, ← ih, e3]
    show (if (!PyData.eqv a b) = true then _ else _ : List Nat).length = _
    split <;> simp <;> omega
end Fp
set_option maxHeartbeats 2000000
/-! law k53 -/
namespace Fp
namespace K53
open PySem
variable {G : Str → List D → Res D} {ps : List PipeT} {ws : List WayT}
def law_s0 : S := (.par [(1, false), (2, false)] (.cons (.call "_law_net" (.cons (.var 0) (.cons (.cst (.int 20)) (.cons (.cst (.int 3)) .nil)))) (.cons (.slc (.lst (.cons (.cst (.str "a")) (.cons (.cst (.str "b")) (.cons (.cst (.str "c")) .nil)))) .no (.so (.bin .Add (.cst (.int 1)) (.call "_law_pick" (.cons (.var 0) (.cons (.cst (.int 0)) (.cons (.cst (.int 3)) .nil))))))) .nil)))
def law_s1 : S := (.set (.nm 3) (.call "_law_state" (.cons (.var 0) (.cons (.cst (.int 100)) (.cons (.var 1) (.cons (.var 2) .nil))))))
def law_s2 : S := (.set (.nm 4) (.call "_law_run" (.cons (.var 0) (.cons (.cst (.int 120)) (.cons (.var 1) (.cons (.cst (.int 7)) (.cons (.var 2) .nil)))))))
def law_s3 : S := (.par [(5, false), (6, false)] (.cons (.var 3) (.cons (.cst (.int 0)) .nil)))
def law_s4 : S := (.for_ [7, 8, 9, 10, 11, 12] (.tp (.cons (.nm 7) (.cons (.nm 8) .nil))) (.seq (.var 4)) (.cons (.own 9 (.lst (.cons (.var 8) .nil))) (.cons (.dsz 10 (.lc [11] (.idx (.var 11) (.cst (.int 0))) (.nm 11) (.seq (.idx (.var 1) (.cst (.int 0)))) .no) (.var 5)) (.cons (.for_ [11] (.nm 11) (.seq (.idx (.dct (.idx (.var 1) (.cst (.int 1)))) (.var 7))) (.cons (.ext 9 (.blt .list (.idx (.own 10) (.var 11)))) .nil)) (.cons (.set (.nm 12) (.blt .len (.lc [16] (.var 16) (.nm 16) (.rng (.bin .Sub (.blt .len (.own 9)) (.cst (.int 1)))) (.so (.cmp .NotEq (.idx (.own 9) (.var 16)) (.idx (.own 9) (.bin .Add (.var 16) (.cst (.int 1))))))))) (.cons (.ite (.bop .Or (.cons (.cmp .NotEq (.call "cost" (.cons (.var 1) (.cons (.var 5) (.cons (.tup (.cons (.var 7) (.cons (.var 8) .nil))) (.cons (.cst (.str "mixing")) .nil))))) (.var 12)) (.cons (.cmp .NotEq (.call "cost" (.cons (.var 1) (.cons (.var 5) (.cons (.tup (.cons (.var 7) (.cons (.var 8) .nil))) (.cons (.cst (.str "pushes")) .nil))))) (.cst (.int 1))) .nil))) (.cons (.ret (.cst (.bool false))) .nil) .nil) (.cons (.par [(5, false), (6, false)] (.cons (.idx (.call "_law_gone" (.cons (.var 1) (.cons (.var 5) (.cons (.var 7) (.cons (.var 8) .nil))))) (.cst (.int 0))) (.cons (.bin .Add (.var 6) (.var 12)) .nil))) .nil)))))))
def law_s5 : S := (.ite (.bop .Or (.cons (.cmp .NotEq (.call "cost_of" (.cons (.var 1) (.cons (.var 3) (.cons (.var 4) (.cons (.cst (.str "mixing")) .nil))))) (.var 6)) (.cons (.cmp .NotEq (.call "cost_of" (.cons (.var 1) (.cons (.var 3) (.cons (.var 4) (.cons (.cst (.str "pushes")) .nil))))) (.blt .len (.var 4))) .nil))) (.cons (.ret (.cst (.bool false))) .nil) .nil)
def law_s6 : S := (.set (.nm 13) (.tup (.cons (.idx (.idx (.idx (.var 1) (.cst (.int 1))) (.cst (.int 0))) (.cst (.int 0))) (.cons (.cst (.str "a")) .nil))))
def law_s7 : S := (.for_ [14, 15] (.nm 14) (.seq (.call "_law_odd" (.cons (.var 0) (.cons (.cst (.int 200)) .nil)))) (.cons (.own 15 (.lst (.cons (.told "_law_told" (.call "cost" (.cons (.var 1) (.cons (.var 3) (.cons (.var 13) (.cons (.var 14) .nil)))))) .nil))) (.cons (.app 15 (.told "_law_told" (.call "cost_of" (.cons (.var 1) (.cons (.var 3) (.cons (.var 4) (.cons (.var 14) .nil))))))) (.cons (.app 15 (.told "_law_told" (.call "cost" (.cons (.var 1) (.cons (.var 3) (.cons (.var 14) (.cons (.var 14) .nil))))))) (.cons (.app 15 (.told "_law_told" (.call "cost_of" (.cons (.var 1) (.cons (.var 14) (.cons (.var 14) (.cons (.var 14) .nil))))))) (.cons (.app 15 (.told "_law_told" (.call "cost" (.cons (.var 14) (.cons (.var 14) (.cons (.var 14) (.cons (.var 14) .nil))))))) (.cons (.ite (.cmp .NotEq (.own 15) (.lc [17] (.tup (.cons (.cst (.str "refused")) (.cons (.var 17) .nil))) (.nm 17) (.seq (.tup (.cons (.cst (.str "NoCost")) (.cons (.cst (.str "NoCost")) (.cons (.cst (.str "NoPush")) (.cons (.cst (.str "NoState")) (.cons (.cst (.str "NoNet")) .nil))))))) .no)) (.cons (.ret (.cst (.bool false))) .nil) .nil) .nil)))))))
def law_s8 : S := (.ret (.cst (.bool true)))
def c_law : Ss := .cons law_s0 (.cons law_s1 (.cons law_s2 (.cons law_s3 (.cons law_s4 (.cons law_s5 (.cons law_s6 (.cons law_s7 (.cons law_s8 .nil))))))))
def n_law : List Str := ["script", "net", "slugs", "first", "run", "state", "many", "way", "slug", "line", "lying", "pipe", "due", "push", "thing", "told", "k", "word"]
def b0 : S := (.own 9 (.lst (.cons (.var 8) .nil)))
def b1 : S := (.dsz 10 (.lc [11] (.idx (.var 11) (.cst (.int 0))) (.nm 11) (.seq (.idx (.var 1) (.cst (.int 0)))) .no) (.var 5))
def b2b : Ss := (.cons (.ext 9 (.blt .list (.idx (.own 10) (.var 11)))) .nil)
def b2 : S := (.for_ [11] (.nm 11) (.seq (.idx (.dct (.idx (.var 1) (.cst (.int 1)))) (.var 7))) b2b)
def b3 : S := (.set (.nm 12) (.blt .len (.lc [16] (.var 16) (.nm 16) (.rng (.bin .Sub (.blt .len (.own 9)) (.cst (.int 1)))) (.so (.cmp .NotEq (.idx (.own 9) (.var 16)) (.idx (.own 9) (.bin .Add (.var 16) (.cst (.int 1)))))))))
def b4 : S := (.ite (.bop .Or (.cons (.cmp .NotEq (.call "cost" (.cons (.var 1) (.cons (.var 5) (.cons (.tup (.cons (.var 7) (.cons (.var 8) .nil))) (.cons (.cst (.str "mixing")) .nil))))) (.var 12)) (.cons (.cmp .NotEq (.call "cost" (.cons (.var 1) (.cons (.var 5) (.cons (.tup (.cons (.var 7) (.cons (.var 8) .nil))) (.cons (.cst (.str "pushes")) .nil))))) (.cst (.int 1))) .nil))) (.cons (.ret (.cst (.bool false))) .nil) .nil)
def b5 : S := (.par [(5, false), (6, false)] (.cons (.idx (.call "_law_gone" (.cons (.var 1) (.cons (.var 5) (.cons (.var 7) (.cons (.var 8) .nil))))) (.cst (.int 0))) (.cons (.bin .Add (.var 6) (.var 12)) .nil)))
def bB : Ss := .cons b0 (.cons b1 (.cons b2 (.cons b3 (.cons b4 (.cons b5 .nil)))))
theorem s4_code : law_s4 = .for_ [7, 8, 9, 10, 11, 12] (.tp (.cons (.nm 7) (.cons (.nm 8) .nil))) (.seq (.var 4)) bB := rfl
def c0 : S := (.own 15 (.lst (.cons (.told "_law_told" (.call "cost" (.cons (.var 1) (.cons (.var 3) (.cons (.var 13) (.cons (.var 14) .nil)))))) .nil)))
def c1 : S := (.app 15 (.told "_law_told" (.call "cost_of" (.cons (.var 1) (.cons (.var 3) (.cons (.var 4) (.cons (.var 14) .nil)))))))
def c2 : S := (.app 15 (.told "_law_told" (.call "cost" (.cons (.var 1) (.cons (.var 3) (.cons (.var 14) (.cons (.var 14) .nil)))))))
def c3 : S := (.app 15 (.told "_law_told" (.call "cost_of" (.cons (.var 1) (.cons (.var 14) (.cons (.var 14) (.cons (.var 14) .nil)))))))
def c4 : S := (.app 15 (.told "_law_told" (.call "cost" (.cons (.var 14) (.cons (.var 14) (.cons (.var 14) (.cons (.var 14) .nil)))))))
def c5 : S := (.ite (.cmp .NotEq (.own 15) (.lc [17] (.tup (.cons (.cst (.str "refused")) (.cons (.var 17) .nil))) (.nm 17) (.seq (.tup (.cons (.cst (.str "NoCost")) (.cons (.cst (.str "NoCost")) (.cons (.cst (.str "NoPush")) (.cons (.cst (.str "NoState")) (.cons (.cst (.str "NoNet")) .nil))))))) .no)) (.cons (.ret (.cst (.bool false))) .nil) .nil)
def cB : Ss := .cons c0 (.cons c1 (.cons c2 (.cons c3 (.cons c4 (.cons c5 .nil)))))
theorem s7_code : law_s7 = .for_ [14, 15] (.nm 14) (.seq (.call "_law_odd" (.cons (.var 0) (.cons (.cst (.int 200)) .nil)))) cB := rfl
/-! ### the loops -/
section
variable {a0 a2 a3 a4 a5 a6 a7 a8 a12 a13 a14 a15 a16 a17 : Slot}
theorem ext_loop {names : List Str} (hn : names.Nodup) {kv : KV} (hk : KvOk names kv) : ∀ {row : List Str} {acc : List D}, (∀ x ∈ row, x ∈ names) → acc.length + 4 * row.length ≤ 100 →
    forGo (.nm 11) [11] (fun ρ => exSs G b2b ρ) (row.map .str) [a0, .fz (netD ps ws), a2, a3, a4, a5, a6, a7, a8, .ow (.list acc), .ow (.dict (kvT kv)), .no, a12, a13, a14, a15, a16, a17]
      = .nx [a0, .fz (netD ps ws), a2, a3, a4, a5, a6, a7, a8, .ow (.list (acc ++ row.flatMap (getA kv))), .ow (.dict (kvT kv)), .no, a12, a13, a14, a15, a16, a17]
  | [], acc, _, _ => by simp [forGo]
  | x :: row, acc, hx, hl => by
    have hz : 1000 ≤ sizeLine := by decide
    have hg := hk.get hn (hx x (by simp))
    have e := kvT_all (kv := kv) (by rw [hk.nm]; exact hn) (x := x) (by rw [hk.nm]; exact hx x (by simp))
    rw [List.length_cons] at hl
    have hsz : acc.length + (getA kv x).length ≤ sizeLine := by omega
    have ih := ext_loop hn hk (row := row) (acc := acc ++ getA kv x) (fun y hy => hx y (by simp [hy])) (by rw [List.length_append]; omega)
    rw [List.flatMap_cons, ← List.append_assoc, ← ih, List.map_cons]
    conv => lhs; unfold forGo
    simp [b2b, e, extD, hsz]
theorem due_ok {l : List D} (hl1 : 1 ≤ l.length) (hl : l.length ≤ 100) (hsh : ∀ d ∈ l, sh 0 d) {a1 a10 a11 : Slot} :
    exS G b3 [a0, a1, a2, a3, a4, a5, a6, a7, a8, .ow (.list l), a10, a11, .no, a13, a14, a15, .no, a17] = .nx [a0, a1, a2, a3, a4, a5, a6, a7, a8, .ow (.list l), a10, a11, .fz (.int (difs l : Nat)), a13, a14, a15, .no, a17] := by
  unfold b3
  simp only [ex_set, ev_blt, ev_lc, evi_rng, ev_bin, ev_own, sloto_s, sloto_0, ok_bind, len_lst, ev_cst, bin_sub, rngD_int]
  rw [range_ok (by omega) (by omega)]
  simp only [ok_bind, wipe_cons, wipe_nil, List.set_cons_succ, List.set_cons_zero]
  have ht : ((l.length : Int) - 1).toNat = l.length - 1 := by omega
  rw [ht, lc_filter (fun n : Nat => .int (n : Int)) (fun n => [a0, a1, a2, a3, a4, a5, a6, a7, a8, .ow (.list l), a10, a11, .no, a13, a14, a15, .fz (.int (n : Int)), a17]) (fun k => !PyData.eqv (l.getD k .none) (l.getD (k + 1) .none)) (fun n => .int (n : Int)) (by simp) (fun n hn => ?_) (by simp)]
  · simp only [ok_bind, len_lst, List.length_map, difs_range, liftR_ok, bind_nm]
    simp
  · have hn' : n + 1 < l.length := by
      have := List.mem_range.mp hn
      omega
    have g1 : l.getD n .none = l[n] := by simp [List.getD, List.getElem?_eq_getElem (show n < l.length by omega)]
    have g2 : l.getD (n + 1) .none = l[n + 1] := by simp [List.getD, List.getElem?_eq_getElem hn']
    have i1 : idxD (.list l) (.int (n : Int)) = .ok l[n] := by rw [idx_l, at_n, List.getElem?_eq_getElem (by omega)]; rfl
    have i2 : idxD (.list l) (.int ((n : Int) + 1)) = .ok l[n + 1] := by
      rw [show ((n : Int) + 1) = ((n + 1 : Nat) : Int) by omega, idx_l, at_n, List.getElem?_eq_getElem hn']
      rfl
    have q := eqD_sh (hsh l[n] (List.getElem_mem _)) (hsh l[n + 1] (List.getElem_mem _)) (by decide) (by decide)
    rw [g1, g2]
    simp only [evc_so, ev_cmp, ev_idx, ev_own, ev_var, ev_bin, ev_cst, sloto_s, sloto_0, slot_s, slot_0, ok_bind, i1, bin_add, i2, cmp_ne, q, asBool_bool]
end
end K53
end Fp
set_option maxHeartbeats 2000000
/-! law k53 -/
namespace Fp
namespace K53
open PySem
variable {G : Str → List D → Res D} {ps : List PipeT} {ws : List WayT}
section
variable {a0 a2 a3 a4 : Slot}
theorem body_ok (h : NetG ps ws) (hc : Sp_cost (G "cost")) (hg : Sp__law_gone (G "_law_gone")) {w : WayT} (hw : w ∈ ws) {kv : KV} (hk : KvL ps kv) (hn : KvNm kv) {s : D} (hs : isName s = true) {acc : Int} :
    exSs G bB [a0, .fz (netD ps ws), a2, a3, a4, .fz (kvD kv), .fz (.int acc), .fz (.str w.1), .fz s, .no, .no, .no, .no, .no, .no, .no, .no, .no]
      = .nx [a0, .fz (netD ps ws), a2, a3, a4, .fz (kvD (pushA w.2 kv s).1), .fz (.int (acc + (difs (lineA w.2 kv s) : Nat))), .fz (.str w.1), .fz s, .ow (.list (lineA w.2 kv s)), .ow (.dict (kvT kv)), .no, .fz (.int (difs (lineA w.2 kv s) : Nat)), .no, .no, .no, .no, .no] := by
  have hko := hk.ok h
  have hnd : (kv.map (·.1)).Nodup := by rw [hko.nm]; exact h.np
  have e0 : exS G b0 [a0, .fz (netD ps ws), a2, a3, a4, .fz (kvD kv), .fz (.int acc), .fz (.str w.1), .fz s, .no, .no, .no, .no, .no, .no, .no, .no, .no] = .nx [a0, .fz (netD ps ws), a2, a3, a4, .fz (kvD kv), .fz (.int acc), .fz (.str w.1), .fz s, .ow (.list [s]), .no, .no, .no, .no, .no, .no, .no, .no] := by simp [b0]
  have e1 : exS G b1 [a0, .fz (netD ps ws), a2, a3, a4, .fz (kvD kv), .fz (.int acc), .fz (.str w.1), .fz s, .ow (.list [s]), .no, .no, .no, .no, .no, .no, .no, .no] = .nx [a0, .fz (netD ps ws), a2, a3, a4, .fz (kvD kv), .fz (.int acc), .fz (.str w.1), .fz s, .ow (.list [s]), .ow (.dict (kvT kv)), .no, .no, .no, .no, .no, .no, .no] := by
    unfold b1
    rw [ex_dsz]
    simp only [ev_lc, evi_seq, ev_var, slot_0, slot_s, ok_bind, wipe_cons, wipe_nil, List.set_cons_succ, List.set_cons_zero]
    have e : (ev G (.idx (.var 1) (.cst (.int 0))) [a0, .fz (netD ps ws), a2, a3, a4, .fz (kvD kv), .fz (.int acc), .fz (.str w.1), .fz s, .ow (.list [s]), .no, .no, .no, .no, .no, .no, .no, .no]) = .ok (.tuple (ps.map pipeD)) := by simp [netD]
    rw [e]
    simp only [ok_bind, items_t]
    rw [ev_names (f := fun p => [a0, .fz (netD ps ws), a2, a3, a4, .fz (kvD kv), .fz (.int acc), .fz (.str w.1), .fz s, .ow (.list [s]), .no, .fz (pipeD p), .no, .no, .no, .no, .no, .no]) (by simp) (by simp)]
    simp only [ok_bind]
    rw [← hko.nm, dictZ_kv hnd]
    simp
  obtain ⟨d1, d2⟩ := way_dict h hw
  have e2 : exS G b2 [a0, .fz (netD ps ws), a2, a3, a4, .fz (kvD kv), .fz (.int acc), .fz (.str w.1), .fz s, .ow (.list [s]), .ow (.dict (kvT kv)), .no, .no, .no, .no, .no, .no, .no] = .nx [a0, .fz (netD ps ws), a2, a3, a4, .fz (kvD kv), .fz (.int acc), .fz (.str w.1), .fz s, .ow (.list (lineA w.2 kv s)), .ow (.dict (kvT kv)), .no, .no, .no, .no, .no, .no, .no] := by
    have hrl := h.rl w hw
    have L := ext_loop (G := G) (ps := ps) (ws := ws) (a0 := a0) (a2 := a2) (a3 := a3) (a4 := a4) (a5 := .fz (kvD kv)) (a6 := .fz (.int acc)) (a7 := .fz (.str w.1)) (a8 := .fz s) (a12 := .no) (a13 := .no) (a14 := .no) (a15 := .no) (a16 := .no) (a17 := .no) h.np hko (row := w.2) (acc := [s]) (h.sub w hw) (by simp; omega)
    rw [show lineA w.2 kv s = [s] ++ w.2.flatMap (getA kv) from rfl, ← L]
    have ei : evi G (.seq (.idx (.dct (.idx (.var 1) (.cst (.int 1)))) (.var 7))) [a0, .fz (netD ps ws), a2, a3, a4, .fz (kvD kv), .fz (.int acc), .fz (.str w.1), .fz s, .ow (.list [s]), .ow (.dict (kvT kv)), .no, .no, .no, .no, .no, .no, .no] = .ok (w.2.map .str) := by
      simp [netD, d1, d2]
      rfl
    unfold b2
    rw [ex_for, ei]
    rfl
  have hll : (lineA w.2 kv s).length ≤ 100 := by
    have : ∀ row : List Str, (∀ x ∈ row, x ∈ ps.map (·.1)) → (row.flatMap (getA kv)).length ≤ 4 * row.length := by
      intro row
      induction row with
      | nil => simp
      | cons x row ih =>
        intro hx
        have hg := hko.get h.np (hx x (by simp))
        have := ih fun y hy => hx y (by simp [hy])
        rw [List.flatMap_cons, List.length_append, List.length_cons]
        omega
    have h1 := this w.2 (h.sub w hw)
    have hrl := h.rl w hw
    unfold lineA
    rw [List.length_cons]
    omega
  have e3 := due_ok (G := G) (a0 := a0) (a1 := .fz (netD ps ws)) (a2 := a2) (a3 := a3) (a4 := a4) (a5 := .fz (kvD kv)) (a6 := .fz (.int acc)) (a7 := .fz (.str w.1)) (a8 := .fz s) (a10 := .ow (.dict (kvT kv))) (a11 := .no) (a13 := .no) (a14 := .no) (a15 := .no) (a17 := .no) (l := lineA w.2 kv s) (by simp [lineA]) hll (lineA_all (fun p hp s hs => name_sh (hn p hp s hs)) (name_sh hs))
  have g1 := hc.mi ps ws h w hw kv hk s hn hs
  have g2 := hc.pu ps ws h (kvD kv) (.tuple [.str w.1, s]) (state_yes h hk hn) (push_yes h hw hs)
  have g3 := hg ps ws h w hw kv hko s
  unfold bB
  rw [ex_cons, e0, then_nx, ex_cons, e1, then_nx, ex_cons, e2, then_nx, ex_cons, e3, then_nx]
  simp [b4, b5, g1, g2, g3]
theorem run_loop (h : NetG ps ws) (hc : Sp_cost (G "cost")) (hg : Sp__law_gone (G "_law_gone")) : ∀ {r : RunT} {kv : KV} {acc : Int}, (∀ q ∈ r, q.1 ∈ ws ∧ isName q.2 = true) → KvL ps kv → KvNm kv →
    forGo (.tp (.cons (.nm 7) (.cons (.nm 8) .nil))) [7, 8, 9, 10, 11, 12] (fun ρ => exSs G bB ρ) (r.map pushD) [a0, .fz (netD ps ws), a2, a3, a4, .fz (kvD kv), .fz (.int acc), .no, .no, .no, .no, .no, .no, .no, .no, .no, .no, .no]
      = .nx [a0, .fz (netD ps ws), a2, a3, a4, .fz (kvD (runA r kv).1), .fz (.int (acc + costsA r kv)), .no, .no, .no, .no, .no, .no, .no, .no, .no, .no, .no]
  | [], kv, acc, _, _, _ => by simp [forGo, runA, costsA]
  | q :: r, kv, acc, hr, hk, hn => by
    have hq := hr q (by simp)
    have hk2 : KvL ps (pushA q.1.2 kv q.2).1 := KvL.run (r := [q]) h (by simpa using hq.1) hk
    have hn2 : KvNm (pushA q.1.2 kv q.2).1 := (KvNm.run (r := [q]) h (by simpa using hq) (hk.ok h) hn).1
    have ih := run_loop h hc hg (r := r) (kv := (pushA q.1.2 kv q.2).1) (acc := acc + (difs (lineA q.1.2 kv q.2) : Nat)) (fun q' hq' => hr q' (by simp [hq'])) hk2 hn2
    have e := body_ok (a0 := a0) (a2 := a2) (a3 := a3) (a4 := a4) h hc hg hq.1 hk hn hq.2 (acc := acc)
    rw [show acc + costsA (q :: r) kv = acc + (difs (lineA q.1.2 kv q.2) : Nat) + costsA r (pushA q.1.2 kv q.2).1 by simp [costsA]; omega]
    rw [show (runA (q :: r) kv).1 = (runA r (pushA q.1.2 kv q.2).1).1 from rfl, ← ih, List.map_cons]
    conv => lhs; unfold forGo
    simp only [pushD, bind_tp, binds_cons, binds_nil, bind_nm, List.length_cons, List.length_nil, Nat.reduceAdd, Nat.reduceLT, if_true, ok_bind, List.set_cons_succ, List.set_cons_zero, List.length_set]
    rw [e]
    simp
end
theorem odd_body (h : NetG ps ws) (hc : Sp_cost (G "cost")) (hf : Sp_cost_of (G "cost_of")) {kv : KV} (hst : isStateOf ps (kvD kv) = true) {r : RunT} (hr : RunOk ws r) {pu : D} (hpu : isPushOf ws pu = true) {j : Int} {d : D} (hd : d ∈ oddL j) {a0 a2 a5 a6 : Slot} :
    exSs G cB [a0, .fz (netD ps ws), a2, .fz (kvD kv), .fz (runD r), a5, a6, .no, .no, .no, .no, .no, .no, .fz pu, .fz d, .no, .no, .no]
      = .nx [a0, .fz (netD ps ws), a2, .fz (kvD kv), .fz (runD r), a5, a6, .no, .no, .no, .no, .no, .no, .fz pu, .fz d, .ow (.list [ref "NoCost", ref "NoCost", ref "NoPush", ref "NoState", ref "NoNet"]), .no, .no] := by
  have hz : 1000 ≤ sizeLine := by decide
  have s60 : sh 60 d := (odd_sh d hd).mono (by decide)
  have s63 : sh 63 d := (odd_sh d hd).mono (by decide)
  have g0 := hc.nc ps ws h (kvD kv) pu d hst hpu s60 (odd_cost d hd)
  have g1 := hf.nc ps ws h (kvD kv) (runD r) d hst (hr.is h) s60 (odd_cost d hd)
  have g2 := hc.np ps ws h (kvD kv) d d hst (odd_push d hd)
  have g3 := hf.ns ps ws h d d d (odd_state d hd)
  have g4 := hc.nn d d d d s63 (odd_net d hd)
  have l1 : 1 < sizeLine := by omega
  have l2 : 2 < sizeLine := by omega
  have l3 : 3 < sizeLine := by omega
  have l4 : 4 < sizeLine := by omega
  have e5 : eqD (.list [ref "NoCost", ref "NoCost", ref "NoPush", ref "NoState", ref "NoNet"]) (.list [ref "NoCost", ref "NoCost", ref "NoPush", ref "NoState", ref "NoNet"]) = .ok true := by kernel_rfl
  have ec : exS G c5 [a0, .fz (netD ps ws), a2, .fz (kvD kv), .fz (runD r), a5, a6, .no, .no, .no, .no, .no, .no, .fz pu, .fz d, .ow (.list [ref "NoCost", ref "NoCost", ref "NoPush", ref "NoState", ref "NoNet"]), .no, .no] = .nx [a0, .fz (netD ps ws), a2, .fz (kvD kv), .fz (runD r), a5, a6, .no, .no, .no, .no, .no, .no, .fz pu, .fz d, .ow (.list [ref "NoCost", ref "NoCost", ref "NoPush", ref "NoState", ref "NoNet"]), .no, .no] := by
    unfold c5
    simp only [ex_ite, ev_cmp, ev_own, sloto_s, sloto_0, ok_bind, ev_lc, evi_seq, ev_tup, evs_cons, evs_nil, ev_cst, items_t, wipe_cons, wipe_nil, List.set_cons_succ, List.set_cons_zero]
    have el : lcGo (.nm 17) [a0, .fz (netD ps ws), a2, .fz (kvD kv), .fz (runD r), a5, a6, .no, .no, .no, .no, .no, .no, .fz pu, .fz d, .ow (.list [ref "NoCost", ref "NoCost", ref "NoPush", ref "NoState", ref "NoNet"]), .no, .no] (fun ρ1 => evc G .no ρ1) (fun ρ1 => ev G (.tup (.cons (.cst (.str "refused")) (.cons (.var 17) .nil))) ρ1) ([("NoCost" : Str), "NoCost", "NoPush", "NoState", "NoNet"].map PyData.str) = .ok [ref "NoCost", ref "NoCost", ref "NoPush", ref "NoState", ref "NoNet"] := by
      rw [lc_map PyData.str (fun x => [a0, .fz (netD ps ws), a2, .fz (kvD kv), .fz (runD r), a5, a6, .no, .no, .no, .no, .no, .no, .fz pu, .fz d, .ow (.list [ref "NoCost", ref "NoCost", ref "NoPush", ref "NoState", ref "NoNet"]), .no, .fz (.str x)]) ref (by simp) (by simp) (by simp [ref])]
      rfl
    simp only [List.map_cons, List.map_nil] at el
    simp only [ev_tup, evs_cons, evs_nil, ev_cst, ok_bind] at el
    rw [el]
    simp [e5]
  unfold cB
  simp only [ex_cons]
  have k0 : exS G c0 [a0, .fz (netD ps ws), a2, .fz (kvD kv), .fz (runD r), a5, a6, .no, .no, .no, .no, .no, .no, .fz pu, .fz d, .no, .no, .no] = .nx [a0, .fz (netD ps ws), a2, .fz (kvD kv), .fz (runD r), a5, a6, .no, .no, .no, .no, .no, .no, .fz pu, .fz d, .ow (.list [ref "NoCost"]), .no, .no] := by
    simp [c0, g0, t_cost]
  have k1 : ∀ {l : List D}, l.length < 10 → exS G c1 [a0, .fz (netD ps ws), a2, .fz (kvD kv), .fz (runD r), a5, a6, .no, .no, .no, .no, .no, .no, .fz pu, .fz d, .ow (.list l), .no, .no] = .nx [a0, .fz (netD ps ws), a2, .fz (kvD kv), .fz (runD r), a5, a6, .no, .no, .no, .no, .no, .no, .fz pu, .fz d, .ow (.list (l ++ [ref "NoCost"])), .no, .no] := fun {l} hl => by
    have : l.length < sizeLine := by omega
    simp [c1, g1, t_cost, appD, this]
  have k2 : ∀ {l : List D}, l.length < 10 → exS G c2 [a0, .fz (netD ps ws), a2, .fz (kvD kv), .fz (runD r), a5, a6, .no, .no, .no, .no, .no, .no, .fz pu, .fz d, .ow (.list l), .no, .no] = .nx [a0, .fz (netD ps ws), a2, .fz (kvD kv), .fz (runD r), a5, a6, .no, .no, .no, .no, .no, .no, .fz pu, .fz d, .ow (.list (l ++ [ref "NoPush"])), .no, .no] := fun {l} hl => by
    have : l.length < sizeLine := by omega
    simp [c2, g2, t_push, appD, this]
  have k3 : ∀ {l : List D}, l.length < 10 → exS G c3 [a0, .fz (netD ps ws), a2, .fz (kvD kv), .fz (runD r), a5, a6, .no, .no, .no, .no, .no, .no, .fz pu, .fz d, .ow (.list l), .no, .no] = .nx [a0, .fz (netD ps ws), a2, .fz (kvD kv), .fz (runD r), a5, a6, .no, .no, .no, .no, .no, .no, .fz pu, .fz d, .ow (.list (l ++ [ref "NoState"])), .no, .no] := fun {l} hl => by
    have : l.length < sizeLine := by omega
    simp [c3, g3, t_state, appD, this]
  have k4 : ∀ {l : List D}, l.length < 10 → exS G c4 [a0, .fz (netD ps ws), a2, .fz (kvD kv), .fz (runD r), a5, a6, .no, .no, .no, .no, .no, .no, .fz pu, .fz d, .ow (.list l), .no, .no] = .nx [a0, .fz (netD ps ws), a2, .fz (kvD kv), .fz (runD r), a5, a6, .no, .no, .no, .no, .no, .no, .fz pu, .fz d, .ow (.list (l ++ [ref "NoNet"])), .no, .no] := fun {l} hl => by
    have : l.length < sizeLine := by omega
    simp [c4, g4, t_net, appD, this]
  rw [k0, then_nx, k1 (by simp), then_nx, k2 (by simp), then_nx, k3 (by simp), then_nx, k4 (by simp), then_nx]
  simp only [List.cons_append, List.nil_append]
  rw [ec, then_nx]
  rfl
def slN : List Str := ["a", "b", "c"]
def Sp_law (F : List D → Res D) : Prop := ∀ ns : List Int, ns.length ≤ 63 → F [.list (ns.map .int)] = .ok (.bool true)
theorem s_law (h1 : Sp__law_net_2 (G "_law_net")) (h2 : Sp__law_pick (G "_law_pick")) (h3 : Sp__law_state_2 (G "_law_state")) (h4 : Sp__law_run (G "_law_run")) (h5 : Sp_cost (G "cost")) (h6 : Sp__law_gone (G "_law_gone")) (h7 : Sp_cost_of (G "cost_of")) (h8 : Sp__law_odd (G "_law_odd")) : Sp_law (fnD G 1 17 c_law) := fun ns hl => by
  obtain ⟨ps, ws, e0, hN⟩ := h1 ns hl 20 (by decide) 3 (by decide) (by decide)
  have hG := hN.g
  obtain ⟨r0, er, hr1, hr2⟩ := h2 ns hl 0 3 (by decide) (by decide)
  obtain ⟨sl, hsl, hne, hsn⟩ : ∃ sl : List Str, cutD (slN.map PyData.str) none (some (1 + r0)) = sl.map PyData.str ∧ sl ≠ [] ∧ ∀ x ∈ sl, isNm x = true := by
    refine ⟨slN.take (1 + r0).toNat, by rw [cut_n (by omega), List.map_take], ?_, fun x hx => ?_⟩
    · intro z
      have := congrArg List.length z
      rw [List.length_take] at this
      have e3 : slN.length = 3 := rfl
      rw [e3] at this
      simp at this
      omega
    · have : ∀ x ∈ slN, isNm x = true := by decide +kernel
      exact this x (List.mem_of_mem_take hx)
  obtain ⟨kv, e1, hk, hall⟩ := h3 ns hl 100 (by decide) ps ws hG sl hne
  have hnm : KvNm kv := hall.nm hsn
  obtain ⟨r, e2, hrl, hrq⟩ := h4 ns hl 120 (by decide) ps ws hG 7 (by decide) sl hne
  have hrk : ∀ q ∈ r, q.1 ∈ ws ∧ isName q.2 = true := fun q hq => ⟨(hrq q hq).1, SlIn.nm hsn (hrq q hq).2⟩
  have hr : RunOk ws r := ⟨by omega, hrk⟩
  have hst := state_yes hG hk hnm
  obtain ⟨j, e8, _, _⟩ := h8 ns hl 200 (by decide)
  have g1 := h7.mi ps ws hG kv hk hnm r hr
  have g2 := h7.pu ps ws hG kv hk hnm r hr
  obtain ⟨w0, ws', ews⟩ : ∃ w0 ws', ws = w0 :: ws' := by
    cases ws with
    | nil => exact absurd hN.n1 (by simp)
    | cons w0 ws' => exact ⟨w0, ws', rfl⟩
  have hpu : isPushOf ws (.tuple [.str w0.1, .str "a"]) = true := push_yes hG (by rw [ews]; simp) (by decide +kernel)
  have f0 : exS G law_s0 [.fz (.list (ns.map .int)), .no, .no, .no, .no, .no, .no, .no, .no, .no, .no, .no, .no, .no, .no, .no, .no, .no] = .nx [.fz (.list (ns.map .int)), .fz (netD ps ws), .fz (.list (sl.map .str)), .no, .no, .no, .no, .no, .no, .no, .no, .no, .no, .no, .no, .no, .no, .no] := by
    have e0' : G "_law_net" [.list (ns.map .int), .int 20, .int 3] = .ok (netD ps ws) := e0
    unfold law_s0
    simp only [ex_par, evp_cons, evp_nil, ev_call, evs_cons, evs_nil, ev_var, ev_cst, slot_0, ok_bind, e0', isL_f, ev_slc, ev_lst, evo_no, evo_so, part_none, ev_bin, er, bin_add, part_int, slc_l]
    rw [show [PyData.str "a", .str "b", .str "c"] = slN.map PyData.str from rfl, hsl]
    simp
  have f1 : exS G law_s1 [.fz (.list (ns.map .int)), .fz (netD ps ws), .fz (.list (sl.map .str)), .no, .no, .no, .no, .no, .no, .no, .no, .no, .no, .no, .no, .no, .no, .no] = .nx [.fz (.list (ns.map .int)), .fz (netD ps ws), .fz (.list (sl.map .str)), .fz (kvD kv), .no, .no, .no, .no, .no, .no, .no, .no, .no, .no, .no, .no, .no, .no] := by simp [law_s1, e1]
  have f2 : exS G law_s2 [.fz (.list (ns.map .int)), .fz (netD ps ws), .fz (.list (sl.map .str)), .fz (kvD kv), .no, .no, .no, .no, .no, .no, .no, .no, .no, .no, .no, .no, .no, .no] = .nx [.fz (.list (ns.map .int)), .fz (netD ps ws), .fz (.list (sl.map .str)), .fz (kvD kv), .fz (runD r), .no, .no, .no, .no, .no, .no, .no, .no, .no, .no, .no, .no, .no] := by
    have e2' : G "_law_run" [.list (ns.map .int), .int 120, netD ps ws, .int 7, .list (sl.map .str)] = .ok (runD r) := e2
    simp [law_s2, e2']
  have f3 : exS G law_s3 [.fz (.list (ns.map .int)), .fz (netD ps ws), .fz (.list (sl.map .str)), .fz (kvD kv), .fz (runD r), .no, .no, .no, .no, .no, .no, .no, .no, .no, .no, .no, .no, .no] = .nx [.fz (.list (ns.map .int)), .fz (netD ps ws), .fz (.list (sl.map .str)), .fz (kvD kv), .fz (runD r), .fz (kvD kv), .fz (.int 0), .no, .no, .no, .no, .no, .no, .no, .no, .no, .no, .no] := by simp [law_s3]
  have f4 : exS G law_s4 [.fz (.list (ns.map .int)), .fz (netD ps ws), .fz (.list (sl.map .str)), .fz (kvD kv), .fz (runD r), .fz (kvD kv), .fz (.int 0), .no, .no, .no, .no, .no, .no, .no, .no, .no, .no, .no] = .nx [.fz (.list (ns.map .int)), .fz (netD ps ws), .fz (.list (sl.map .str)), .fz (kvD kv), .fz (runD r), .fz (kvD (runA r kv).1), .fz (.int (0 + costsA r kv)), .no, .no, .no, .no, .no, .no, .no, .no, .no, .no, .no] := by
    rw [← run_loop hG h5 h6 hrk hk hnm, s4_code, ex_for]
    rfl
  have f5 : exS G law_s5 [.fz (.list (ns.map .int)), .fz (netD ps ws), .fz (.list (sl.map .str)), .fz (kvD kv), .fz (runD r), .fz (kvD (runA r kv).1), .fz (.int (0 + costsA r kv)), .no, .no, .no, .no, .no, .no, .no, .no, .no, .no, .no] = .nx [.fz (.list (ns.map .int)), .fz (netD ps ws), .fz (.list (sl.map .str)), .fz (kvD kv), .fz (runD r), .fz (kvD (runA r kv).1), .fz (.int (0 + costsA r kv)), .no, .no, .no, .no, .no, .no, .no, .no, .no, .no, .no] := by
    have lr : bltD .len (runD r) = .ok (.int (r.length : Nat)) := by simp [runD]
    simp [law_s5, g1, g2, lr]
  have f6 : exS G law_s6 [.fz (.list (ns.map .int)), .fz (netD ps ws), .fz (.list (sl.map .str)), .fz (kvD kv), .fz (runD r), .fz (kvD (runA r kv).1), .fz (.int (0 + costsA r kv)), .no, .no, .no, .no, .no, .no, .no, .no, .no, .no, .no] = .nx [.fz (.list (ns.map .int)), .fz (netD ps ws), .fz (.list (sl.map .str)), .fz (kvD kv), .fz (runD r), .fz (kvD (runA r kv).1), .fz (.int (0 + costsA r kv)), .no, .no, .no, .no, .no, .no, .fz (.tuple [.str w0.1, .str "a"]), .no, .no, .no, .no] := by
    simp [law_s6, netD, ews, wayD]
  have f7 : exS G law_s7 [.fz (.list (ns.map .int)), .fz (netD ps ws), .fz (.list (sl.map .str)), .fz (kvD kv), .fz (runD r), .fz (kvD (runA r kv).1), .fz (.int (0 + costsA r kv)), .no, .no, .no, .no, .no, .no, .fz (.tuple [.str w0.1, .str "a"]), .no, .no, .no, .no] = .nx [.fz (.list (ns.map .int)), .fz (netD ps ws), .fz (.list (sl.map .str)), .fz (kvD kv), .fz (runD r), .fz (kvD (runA r kv).1), .fz (.int (0 + costsA r kv)), .no, .no, .no, .no, .no, .no, .fz (.tuple [.str w0.1, .str "a"]), .no, .no, .no, .no] := by
    have ei : evi G (.seq (.call "_law_odd" (.cons (.var 0) (.cons (.cst (.int 200)) .nil)))) [.fz (.list (ns.map .int)), .fz (netD ps ws), .fz (.list (sl.map .str)), .fz (kvD kv), .fz (runD r), .fz (kvD (runA r kv).1), .fz (.int (0 + costsA r kv)), .no, .no, .no, .no, .no, .no, .fz (.tuple [.str w0.1, .str "a"]), .no, .no, .no, .no] = .ok (oddL j) := by simp [e8]
    rw [s7_code, ex_for, ei, liftR_ok]
    simp only [wipe_cons, wipe_nil, List.set_cons_succ, List.set_cons_zero]
    exact for_same fun d hd => ⟨_, _, rfl, odd_body hG h5 h7 hst hr hpu hd, by simp⟩
  rw [fnD_eq (by rfl)]
  show finD (exSs G c_law [.fz (.list (ns.map .int)), .no, .no, .no, .no, .no, .no, .no, .no, .no, .no, .no, .no, .no, .no, .no, .no, .no]) = _
  unfold c_law
  rw [ex_cons, f0, then_nx, ex_cons, f1, then_nx, ex_cons, f2, then_nx, ex_cons, f3, then_nx, ex_cons, f4, then_nx, ex_cons, f5, then_nx, ex_cons, f6, then_nx, ex_cons, f7, then_nx]
  rfl
end K53
end Fp
set_option maxHeartbeats 0
namespace Fp
namespace K53
open PySem PySem.Spec PyProof.Rows L2
abbrev pw : Program := PySem.Challenge.pw_fullpipes_k53_whole_costs
def top (i : Nat) : Stmt := pw.main.body.getD i (.Pass ⟨0, 0, 0, 0⟩)
def dD (x : Str) (i : Nat) : He.DefD := ⟨(x, none), x, x, defArgs (top i), defBody (top i), defScope (top i), [], []⟩
def G0 : Str → List D → Res D := fun _ _ => .err
def t_is_whole : List Dd := []
def d_is_whole : Dd := ⟨dD "is_whole" 29, n_is_whole, c_is_whole, false⟩
def t_is_name : List Dd := d_is_whole :: t_is_whole
def d_is_name : Dd := ⟨dD "is_name" 30, n_is_name, c_is_name, false⟩
def t_is_rising : List Dd := d_is_name :: t_is_name
def d_is_rising : Dd := ⟨dD "is_rising" 31, n_is_rising, c_is_rising, false⟩
def t_is_pair : List Dd := d_is_rising :: t_is_rising
def d_is_pair : Dd := ⟨dD "is_pair" 32, n_is_pair, c_is_pair, false⟩
def t_are_pipes : List Dd := d_is_pair :: t_is_pair
def d_are_pipes : Dd := ⟨dD "are_pipes" 33, n_are_pipes, c_are_pipes, false⟩
def t_is_row : List Dd := d_are_pipes :: t_are_pipes
def d_is_row : Dd := ⟨dD "is_row" 34, n_is_row, c_is_row, false⟩
def t_is_net : List Dd := d_is_row :: t_is_row
def d_is_net : Dd := ⟨dD "is_net" 35, n_is_net, c_is_net, false⟩
def t_look_net : List Dd := d_is_net :: t_is_net
def d_look_net : Dd := ⟨dD "look_net" 36, n_look_net, c_look_net, false⟩
def t_is_state_of : List Dd := d_look_net :: t_look_net
def d_is_state_of : Dd := ⟨dD "is_state_of" 37, n_is_state_of, c_is_state_of, false⟩
def t_look_state : List Dd := d_is_state_of :: t_is_state_of
def d_look_state : Dd := ⟨dD "look_state" 38, n_look_state, c_look_state, false⟩
def t_ways_in : List Dd := d_look_state :: t_look_state
def d_ways_in : Dd := ⟨dD "ways_in" 39, n_ways_in, c_ways_in, false⟩
def t_pipes_in : List Dd := d_ways_in :: t_ways_in
def d_pipes_in : Dd := ⟨dD "pipes_in" 40, n_pipes_in, c_pipes_in, false⟩
def t_row_of : List Dd := d_pipes_in :: t_pipes_in
def d_row_of : Dd := ⟨dD "row_of" 41, n_row_of, c_row_of, false⟩
def t_is_push_of : List Dd := d_row_of :: t_row_of
def d_is_push_of : Dd := ⟨dD "is_push_of" 42, n_is_push_of, c_is_push_of, false⟩
def t_look_push : List Dd := d_is_push_of :: t_is_push_of
def d_look_push : Dd := ⟨dD "look_push" 43, n_look_push, c_look_push, false⟩
def t_plain_pushed : List Dd := d_look_push :: t_look_push
def d_plain_pushed : Dd := ⟨dD "plain_pushed" 44, n_plain_pushed, c_plain_pushed, false⟩
def t_is_run_of : List Dd := d_plain_pushed :: t_plain_pushed
def d_is_run_of : Dd := ⟨dD "is_run_of" 47, n_is_run_of, c_is_run_of, false⟩
def t_look_run : List Dd := d_is_run_of :: t_is_run_of
def d_look_run : Dd := ⟨dD "look_run" 48, n_look_run, c_look_run, false⟩
def t_look_cost : List Dd := d_look_run :: t_look_run
def d_look_cost : Dd := ⟨dD "look_cost" 52, n_look_cost, c_look_cost, false⟩
def t_line_of : List Dd := d_look_cost :: t_look_cost
def d_line_of : Dd := ⟨dD "line_of" 53, n_line_of, c_line_of, false⟩
def t_plain_cost : List Dd := d_line_of :: t_line_of
def d_plain_cost : Dd := ⟨dD "plain_cost" 54, n_plain_cost, c_plain_cost, false⟩
def t_cost : List Dd := d_plain_cost :: t_plain_cost
def d_cost : Dd := ⟨dD "cost" 55, n_cost, c_cost, false⟩
def t_cost_of : List Dd := d_cost :: t_cost
def d_cost_of : Dd := ⟨dD "cost_of" 56, n_cost_of, c_cost_of, false⟩
def t__law_pick : List Dd := d_cost_of :: t_cost_of
def d__law_pick : Dd := ⟨dD "_law_pick" 58, n__law_pick, c__law_pick, false⟩
def t__law_net : List Dd := d__law_pick :: t__law_pick
def d__law_net : Dd := ⟨dD "_law_net" 59, n__law_net_2, c__law_net_2, false⟩
def t__law_state : List Dd := d__law_net :: t__law_net
def d__law_state : Dd := ⟨dD "_law_state" 60, n__law_state_2, c__law_state_2, false⟩
def t__law_run : List Dd := d__law_state :: t__law_state
def d__law_run : Dd := ⟨dD "_law_run" 61, n__law_run, c__law_run, false⟩
def t__law_gone : List Dd := d__law_run :: t__law_run
def d__law_gone : Dd := ⟨dD "_law_gone" 62, n__law_gone, c__law_gone, false⟩
def t__law_odd : List Dd := d__law_gone :: t__law_gone
def d__law_odd : Dd := ⟨dD "_law_odd" 63, n__law_odd, c__law_odd, false⟩
def ds : List Dd := d__law_odd :: t__law_odd
def d_law : Dd := ⟨dD "law" 66, n_law, c_law, true⟩
theorem l_is_pair_is_name : gTab G0 t_is_pair "is_name" = fnD (gTab G0 t_is_name) 1 1 c_is_name := by kernel_rfl
theorem l_are_pipes_is_rising : gTab G0 t_are_pipes "is_rising" = fnD (gTab G0 t_is_rising) 1 2 c_is_rising := by kernel_rfl
theorem l_are_pipes_is_whole : gTab G0 t_are_pipes "is_whole" = fnD (gTab G0 t_is_whole) 3 0 c_is_whole := by kernel_rfl
theorem l_are_pipes_is_pair : gTab G0 t_are_pipes "is_pair" = fnD (gTab G0 t_is_pair) 1 0 c_is_pair := by kernel_rfl
theorem l_is_row_is_name : gTab G0 t_is_row "is_name" = fnD (gTab G0 t_is_name) 1 1 c_is_name := by kernel_rfl
theorem l_is_net_is_rising : gTab G0 t_is_net "is_rising" = fnD (gTab G0 t_is_rising) 1 2 c_is_rising := by kernel_rfl
theorem l_is_net_are_pipes : gTab G0 t_is_net "are_pipes" = fnD (gTab G0 t_are_pipes) 1 1 c_are_pipes := by kernel_rfl
theorem l_is_net_is_pair : gTab G0 t_is_net "is_pair" = fnD (gTab G0 t_is_pair) 1 0 c_is_pair := by kernel_rfl
theorem l_is_net_is_row : gTab G0 t_is_net "is_row" = fnD (gTab G0 t_is_row) 2 2 c_is_row := by kernel_rfl
theorem l_look_net_is_net : gTab G0 t_look_net "is_net" = fnD (gTab G0 t_is_net) 1 5 c_is_net := by kernel_rfl
theorem l_is_state_of_is_name : gTab G0 t_is_state_of "is_name" = fnD (gTab G0 t_is_name) 1 1 c_is_name := by kernel_rfl
theorem l_look_state_is_state_of : gTab G0 t_look_state "is_state_of" = fnD (gTab G0 t_is_state_of) 2 3 c_is_state_of := by kernel_rfl
theorem l_row_of_ways_in : gTab G0 t_row_of "ways_in" = fnD (gTab G0 t_ways_in) 1 1 c_ways_in := by kernel_rfl
theorem l_is_push_of_is_pair : gTab G0 t_is_push_of "is_pair" = fnD (gTab G0 t_is_pair) 1 0 c_is_pair := by kernel_rfl
theorem l_is_push_of_is_name : gTab G0 t_is_push_of "is_name" = fnD (gTab G0 t_is_name) 1 1 c_is_name := by kernel_rfl
theorem l_is_push_of_ways_in : gTab G0 t_is_push_of "ways_in" = fnD (gTab G0 t_ways_in) 1 1 c_ways_in := by kernel_rfl
theorem l_look_push_is_push_of : gTab G0 t_look_push "is_push_of" = fnD (gTab G0 t_is_push_of) 2 0 c_is_push_of := by kernel_rfl
theorem l_plain_pushed_row_of : gTab G0 t_plain_pushed "row_of" = fnD (gTab G0 t_row_of) 2 0 c_row_of := by kernel_rfl
theorem l_plain_pushed_pipes_in : gTab G0 t_plain_pushed "pipes_in" = fnD (gTab G0 t_pipes_in) 1 1 c_pipes_in := by kernel_rfl
theorem l_is_run_of_is_push_of : gTab G0 t_is_run_of "is_push_of" = fnD (gTab G0 t_is_push_of) 2 0 c_is_push_of := by kernel_rfl
theorem l_look_run_is_run_of : gTab G0 t_look_run "is_run_of" = fnD (gTab G0 t_is_run_of) 2 1 c_is_run_of := by kernel_rfl
theorem l_line_of_row_of : gTab G0 t_line_of "row_of" = fnD (gTab G0 t_row_of) 2 0 c_row_of := by kernel_rfl
theorem l_line_of_pipes_in : gTab G0 t_line_of "pipes_in" = fnD (gTab G0 t_pipes_in) 1 1 c_pipes_in := by kernel_rfl
theorem l_plain_cost_line_of : gTab G0 t_plain_cost "line_of" = fnD (gTab G0 t_line_of) 3 3 c_line_of := by kernel_rfl
theorem l_cost_look_net : gTab G0 t_cost "look_net" = fnD (gTab G0 t_look_net) 1 0 c_look_net := by kernel_rfl
theorem l_cost_look_state : gTab G0 t_cost "look_state" = fnD (gTab G0 t_look_state) 2 0 c_look_state := by kernel_rfl
theorem l_cost_look_push : gTab G0 t_cost "look_push" = fnD (gTab G0 t_look_push) 2 0 c_look_push := by kernel_rfl
theorem l_cost_look_cost : gTab G0 t_cost "look_cost" = fnD (gTab G0 t_look_cost) 1 0 c_look_cost := by kernel_rfl
theorem l_cost_plain_cost : gTab G0 t_cost "plain_cost" = fnD (gTab G0 t_plain_cost) 4 3 c_plain_cost := by kernel_rfl
theorem l_cost_of_look_net : gTab G0 t_cost_of "look_net" = fnD (gTab G0 t_look_net) 1 0 c_look_net := by kernel_rfl
theorem l_cost_of_look_state : gTab G0 t_cost_of "look_state" = fnD (gTab G0 t_look_state) 2 0 c_look_state := by kernel_rfl
theorem l_cost_of_look_run : gTab G0 t_cost_of "look_run" = fnD (gTab G0 t_look_run) 2 0 c_look_run := by kernel_rfl
theorem l_cost_of_look_cost : gTab G0 t_cost_of "look_cost" = fnD (gTab G0 t_look_cost) 1 0 c_look_cost := by kernel_rfl
theorem l_cost_of_plain_cost : gTab G0 t_cost_of "plain_cost" = fnD (gTab G0 t_plain_cost) 4 3 c_plain_cost := by kernel_rfl
theorem l_cost_of_plain_pushed : gTab G0 t_cost_of "plain_pushed" = fnD (gTab G0 t_plain_pushed) 3 6 c_plain_pushed := by kernel_rfl
theorem l__law_net__law_pick : gTab G0 t__law_net "_law_pick" = fnD (gTab G0 t__law_pick) 3 4 c__law_pick := by kernel_rfl
theorem l__law_state__law_pick : gTab G0 t__law_state "_law_pick" = fnD (gTab G0 t__law_pick) 3 4 c__law_pick := by kernel_rfl
theorem l__law_run__law_pick : gTab G0 t__law_run "_law_pick" = fnD (gTab G0 t__law_pick) 3 4 c__law_pick := by kernel_rfl
theorem l__law_odd__law_pick : gTab G0 t__law_odd "_law_pick" = fnD (gTab G0 t__law_pick) 3 4 c__law_pick := by kernel_rfl
theorem l_law__law_state : gTab G0 ds "_law_state" = fnD (gTab G0 t__law_state) 4 4 c__law_state_2 := by kernel_rfl
theorem l_law__law_run : gTab G0 ds "_law_run" = fnD (gTab G0 t__law_run) 5 3 c__law_run := by kernel_rfl
theorem l_law__law_odd : gTab G0 ds "_law_odd" = fnD (gTab G0 t__law_odd) 2 1 c__law_odd := by kernel_rfl
theorem l_law__law_net : gTab G0 ds "_law_net" = fnD (gTab G0 t__law_net) 3 9 c__law_net_2 := by kernel_rfl
theorem l_law_cost_of : gTab G0 ds "cost_of" = fnD (gTab G0 t_cost_of) 4 2 c_cost_of := by kernel_rfl
theorem l_law_cost : gTab G0 ds "cost" = fnD (gTab G0 t_cost) 4 0 c_cost := by kernel_rfl
theorem l_law__law_gone : gTab G0 ds "_law_gone" = fnD (gTab G0 t__law_gone) 4 3 c__law_gone := by kernel_rfl
theorem l_law__law_pick : gTab G0 ds "_law_pick" = fnD (gTab G0 t__law_pick) 3 4 c__law_pick := by kernel_rfl
def cs : List (Str × D) := [("SMALL", .str "abcdefghijklmnopqrstuvwxyz"), ("LONGEST", .int 4), ("MOST_PIPES", .int 6), ("MOST_LENGTH", .int 4), ("MOST_WAYS", .int 8), ("MOST_ROW", .int 4), ("MOST_RUN", .int 3000), ("PUSHES", .str "pushes"), ("MIXING", .str "mixing")]
def xs : List Str := ["PipeError", "NoNet", "NoState", "NoPush", "NoPipe", "NoWay", "NoRun", "NoSpot", "NoOrder", "NoFeeds", "NoTurn", "NoTurns", "NoSlug", "NoWish", "NoStock", "NoCost", "NoOuts", "NoNumber", "NoBack", "NoText", "TooGreat"]
def tl : List Str := ["_law_told"]
def ts : List Str := []
def p0 : Pg := ⟨G0, cs, xs, [], tl, false, ts⟩
def ex : List He.DefD := [dD "_law_class" 64, dD "_law_told" 65]
def fn : List He.DefD := (ds ++ [d_law]).map (·.d) ++ ex
def tf : List He.Defn := tfOf (ds ++ [d_law])
def fas : List He.Fa := faOf (fn.map (·.name)) bltNames cs xs ts
def nm0 : List Str := ["PipeError", "NoNet", "NoState", "NoPush", "NoPipe", "NoWay", "NoRun", "NoSpot", "NoOrder", "NoFeeds", "NoTurn", "NoTurns", "NoSlug", "NoWish", "NoStock", "NoCost", "NoOuts", "NoNumber", "NoBack", "NoText", "TooGreat", "SMALL", "LONGEST", "MOST_PIPES", "MOST_LENGTH", "MOST_WAYS", "MOST_ROW", "is_whole", "is_name", "is_rising"]
def nm1 : List Str := ["is_pair", "are_pipes", "is_row", "is_net", "look_net", "is_state_of", "look_state", "ways_in", "pipes_in", "row_of", "is_push_of", "look_push", "plain_pushed", "MOST_RUN", "is_run_of", "look_run", "PUSHES", "MIXING", "look_cost", "line_of", "plain_cost", "cost", "cost_of", "_law_pick", "_law_net", "_law_state", "_law_run", "_law_gone", "_law_odd", "_law_class"]
def nm2 : List Str := ["_law_told"]
def nm : List Str := nm0 ++ nm1 ++ nm2
theorem w_is_whole : Sp_is_whole (fnD (gTab G0 t_is_whole) 3 0 c_is_whole) := s_is_whole
theorem w_is_name : Sp_is_name (fnD (gTab G0 t_is_name) 1 1 c_is_name) := s_is_name
theorem w_is_rising : Sp_is_rising (fnD (gTab G0 t_is_rising) 1 2 c_is_rising) := s_is_rising
theorem w_is_pair : Sp_is_pair (fnD (gTab G0 t_is_pair) 1 0 c_is_pair) := s_is_pair (by rw [l_is_pair_is_name]; exact w_is_name)
theorem w_are_pipes : Sp_are_pipes (fnD (gTab G0 t_are_pipes) 1 1 c_are_pipes) := s_are_pipes (by rw [l_are_pipes_is_pair]; exact w_is_pair) (by rw [l_are_pipes_is_whole]; exact w_is_whole) (by rw [l_are_pipes_is_rising]; exact w_is_rising)
theorem w_is_row : Sp_is_row (fnD (gTab G0 t_is_row) 2 2 c_is_row) := s_is_row (by rw [l_is_row_is_name]; exact w_is_name)
theorem w_is_net : Sp_is_net (fnD (gTab G0 t_is_net) 1 5 c_is_net) := s_is_net (by rw [l_is_net_are_pipes]; exact w_are_pipes) (by rw [l_is_net_is_pair]; exact w_is_pair) (by rw [l_is_net_is_row]; exact w_is_row) (by rw [l_is_net_is_rising]; exact w_is_rising)
theorem w_look_net : Sp_look_net (fnD (gTab G0 t_look_net) 1 0 c_look_net) := s_look_net (by rw [l_look_net_is_net]; exact w_is_net)
theorem w_is_state_of : Sp_is_state_of (fnD (gTab G0 t_is_state_of) 2 3 c_is_state_of) := s_is_state_of (by rw [l_is_state_of_is_name]; exact w_is_name)
theorem w_look_state : Sp_look_state (fnD (gTab G0 t_look_state) 2 0 c_look_state) := s_look_state (by rw [l_look_state_is_state_of]; exact w_is_state_of)
theorem w_ways_in : Sp_ways_in (fnD (gTab G0 t_ways_in) 1 1 c_ways_in) := s_ways_in
theorem w_pipes_in : Sp_pipes_in (fnD (gTab G0 t_pipes_in) 1 1 c_pipes_in) := s_pipes_in
theorem w_row_of : Sp_row_of (fnD (gTab G0 t_row_of) 2 0 c_row_of) := s_row_of (by rw [l_row_of_ways_in]; exact w_ways_in)
theorem w_is_push_of : Sp_is_push_of (fnD (gTab G0 t_is_push_of) 2 0 c_is_push_of) := s_is_push_of (by rw [l_is_push_of_ways_in]; exact w_ways_in) (by rw [l_is_push_of_is_pair]; exact w_is_pair) (by rw [l_is_push_of_is_name]; exact w_is_name)
theorem w_look_push : Sp_look_push (fnD (gTab G0 t_look_push) 2 0 c_look_push) := s_look_push (by rw [l_look_push_is_push_of]; exact w_is_push_of)
theorem w_plain_pushed : Sp_plain_pushed (fnD (gTab G0 t_plain_pushed) 3 6 c_plain_pushed) := s_plain_pushed (by rw [l_plain_pushed_pipes_in]; exact w_pipes_in) (by rw [l_plain_pushed_row_of]; exact w_row_of)
theorem w_is_run_of : Sp_is_run_of (fnD (gTab G0 t_is_run_of) 2 1 c_is_run_of) := s_is_run_of (by rw [l_is_run_of_is_push_of]; exact w_is_push_of)
theorem w_look_run : Sp_look_run (fnD (gTab G0 t_look_run) 2 0 c_look_run) := s_look_run (by rw [l_look_run_is_run_of]; exact w_is_run_of)
theorem w_look_cost : Sp_look_cost (fnD (gTab G0 t_look_cost) 1 0 c_look_cost) := s_look_cost
theorem w_line_of : Sp_line_of (fnD (gTab G0 t_line_of) 3 3 c_line_of) := s_line_of (by rw [l_line_of_pipes_in]; exact w_pipes_in) (by rw [l_line_of_row_of]; exact w_row_of)
theorem w_plain_cost : Sp_plain_cost (fnD (gTab G0 t_plain_cost) 4 3 c_plain_cost) := s_plain_cost (by rw [l_plain_cost_line_of]; exact w_line_of)
theorem w_cost : Sp_cost (fnD (gTab G0 t_cost) 4 0 c_cost) := s_cost (by rw [l_cost_look_net]; exact w_look_net) (by rw [l_cost_look_state]; exact w_look_state) (by rw [l_cost_look_push]; exact w_look_push) (by rw [l_cost_look_cost]; exact w_look_cost) (by rw [l_cost_plain_cost]; exact w_plain_cost)
theorem w_cost_of : Sp_cost_of (fnD (gTab G0 t_cost_of) 4 2 c_cost_of) := s_cost_of (by rw [l_cost_of_look_net]; exact w_look_net) (by rw [l_cost_of_look_state]; exact w_look_state) (by rw [l_cost_of_look_run]; exact w_look_run) (by rw [l_cost_of_look_cost]; exact w_look_cost) (by rw [l_cost_of_plain_cost]; exact w_plain_cost) (by rw [l_cost_of_plain_pushed]; exact w_plain_pushed)
theorem w__law_pick : Sp__law_pick (fnD (gTab G0 t__law_pick) 3 4 c__law_pick) := s__law_pick
theorem w__law_net : Sp__law_net_2 (fnD (gTab G0 t__law_net) 3 9 c__law_net_2) := s__law_net_2 (by rw [l__law_net__law_pick]; exact w__law_pick)
theorem w__law_state : Sp__law_state_2 (fnD (gTab G0 t__law_state) 4 4 c__law_state_2) := s__law_state_2 (by rw [l__law_state__law_pick]; exact w__law_pick)
theorem w__law_run : Sp__law_run (fnD (gTab G0 t__law_run) 5 3 c__law_run) := s__law_run (by rw [l__law_run__law_pick]; exact w__law_pick)
theorem w__law_gone : Sp__law_gone (fnD (gTab G0 t__law_gone) 4 3 c__law_gone) := s__law_gone
theorem w__law_odd : Sp__law_odd (fnD (gTab G0 t__law_odd) 2 1 c__law_odd) := s__law_odd (by rw [l__law_odd__law_pick]; exact w__law_pick)
theorem law_value (ns : List Int) (hl : ns.length ≤ 63) : lawD ⟨G0, cs, xs, [], tl, false, ts⟩ ds d_law [.list (ns.map .int)] = .ok (.bool true) := by
  show fnD (gTab G0 ds) 1 17 c_law [.list (ns.map .int)] = _
  exact s_law (by rw [l_law__law_net]; exact w__law_net) (by rw [l_law__law_pick]; exact w__law_pick) (by rw [l_law__law_state]; exact w__law_state) (by rw [l_law__law_run]; exact w__law_run) (by rw [l_law_cost]; exact w_cost) (by rw [l_law__law_gone]; exact w__law_gone) (by rw [l_law_cost_of]; exact w_cost_of) (by rw [l_law__law_odd]; exact w__law_odd) ns hl
theorem chk : chkTab p0 ds = true := by kernel_rfl
theorem chk0 : d_law.chk (pTab p0 ds) = true := by kernel_rfl
theorem csk : csOk cs = true := by kernel_rfl
theorem exk : exB xs tl ex = true := by kernel_rfl
theorem hps : d_law.d.params.args.map (·.arg) = [("script" : Str)] := by kernel_rfl
abbrev R : PySem.W.OpenRow := PySem.W.OpenLaw.row PySem.Challenge.rw_fullpipes_k53_whole_costs
abbrev hk : PySem.W.Hook := He.hookX 6 fas fn [] tf (moreB xs ts tf)
def ob (s : PySem.W.SharedT) : He.AlX := He.obsX 6 fas fn [] tf (moreB xs ts tf) (HandSHeadRun.getT s)
theorem ob_eq (s : PySem.W.SharedT) : ob s = hk.obs s.abs := He.obsX_eq (HandSHeadRun.getT_eq s)
theorem run (w : World) : HandSHeadRun.RunEq R (PySem.W.view R.prog [66]) hk ob 20000 nm w := by
  intro os
  kernel_rfl
end K53
end Fp
open PySem PySem.W PySem.Calls PyProof.Rows
theorem PySem.Challenge.cw_fullpipes_k53_whole_costs_holds : PySem.Challenge.rw_fullpipes_k53_whole_costs.Holds := by
  w_on; o_law
  refine HandSHeadRun.head_any (r := OpenLaw.row PySem.Challenge.rw_fullpipes_k53_whole_costs) (q := view (OpenLaw.row PySem.Challenge.rw_fullpipes_k53_whole_costs).prog [66]) (H := Fp.K53.hk) (ob := Fp.K53.ob) (M := 20000) (loose := Fp.K53.nm) (d := HandSHeadRun.topDef (OpenLaw.row PySem.Challenge.rw_fullpipes_k53_whole_costs).prog 66) (kwd := []) Fp.K53.ob_eq
    (by kernel_rfl) (fun s => by kernel_rfl) Fp.K53.run (by kernel_rfl) (by kernel_rfl) (by kernel_rfl) (by rfl) (by first | assumption | decide +kernel) (by decide +kernel) ⟨rfl, rfl, rfl, rfl, rfl, by decide +kernel⟩ ?hw ?hc
  case hw => w_witness2
  case hc =>
    refine LamX.walk_ofTsE (l := PySem.Challenge.rw_fullpipes_k53_whole_costs) (n := 63) (k := Fp.lvl Fp.K53.ds + 3) (x := "script") (CX := fun w => L2.CX PySem.Challenge.rw_fullpipes_k53_whole_costs.prog w) rfl (by decide) (by kernel_rfl) ⟨rfl, by decide +kernel, by decide +kernel⟩ ?F (fun w H s e s' h => ?_)
    · intro w mg fa h Y G hmg0
      obtain ⟨K, KX, c⟩ := Y
      have hmg : mg Fp.K53.d_law.d.name = some (.ref fa) := by
        have e : (HandSHeadRun.topDef (OpenLaw.row PySem.Challenge.rw_fullpipes_k53_whole_costs).prog 66).name = Fp.K53.d_law.d.name := by kernel_rfl
        rw [← e]
        exact hmg0
      exact ⟨K, KX, Fp.law_at (d0 := Fp.K53.d_law) (cs := Fp.K53.cs) (ds := Fp.K53.ds) (ex := Fp.K53.ex) (tl := Fp.K53.tl) (ts := Fp.K53.ts) (G0 := Fp.K53.G0) KX G hmg c rfl rfl Fp.K53.csk Fp.K53.hps Fp.K53.exk Fp.K53.chk Fp.K53.chk0 (fun ns hl hb => Fp.K53.law_value ns hl) (by decide)⟩
    · obtain ⟨_, _, _, _, _, _, _, _, _, _, _, _, z⟩ := h
      exact z
