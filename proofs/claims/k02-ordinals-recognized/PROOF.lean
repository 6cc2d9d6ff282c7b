import PyProof.Rows.All
import HandS.ForMost
import HandS.Star
import HandS.Defaults
import HandS.TupAny
import HandS.TupMul
import HandS.IsInst
import HandS.Wide
import HandS.SortKw
import HandS.SortInts
import HandS.Style
import HandS.Deep
import HandS.MakeKwOnly
import HandS.HeadEnd
import HandS.HeadHook1
import HandS.HeadHook2
import HandS.Head0
import HandS.Head1
import HandS.Head2
import KE.DataCmp
import KE.SortCalls
import PyProof.MinMaxWalk
import HandS.Iter
import KE.GoesMore
import KE.SortData
import HandS.Steps
import PySem.Challenge.RW_vowstair_k02_ordinals_recognized
set_option Elab.async false
set_option linter.all false
set_option maxRecDepth 100000
set_option maxHeartbeats 4000000
/-! The small language: what the walked defs are made of, and what they compute over plain data. -/
namespace Rf
open PySem PySem.W

/-- where a list or text is too long to be spoken of -/
abbrev lim : Nat := 16777216

/-- what the law draws from -/
structure Bag where
  at_ : Nat
  big : Int
  salt : Int
  cnt : Nat
  hb : 0 ≤ big
  hs : 0 ≤ salt ∧ salt < 2147483647

inductive Bop where
  | add | sub | mul | mod | fdiv | pow
inductive Cop where
  | eq | ne | lt | le | gt | ge | is | nis | mem | nmem
inductive Ty where
  | int | str | bool | list | tuple
inductive Bi where
  | len | all | sum | sorted | tuple | list | int | str | min | max | rev

mutual
inductive Tg where
  | n (i : Nat)
  | t (l : Tgs)
inductive Tgs where
  | nil
  | cons (a : Tg) (l : Tgs)
end

mutual
inductive E where
  | var (i : Nat)
  | con (d : PyData)
  | glo (k : Nat)
  | tup (es : Es)
  | lst (es : Es)
  | bin (o : Bop) (a b : E)
  | neg (a : E)
  | cmp (o : Cop) (a b : E)
  | chn (o p : Cop) (a b c : E)
  | and (a b : E)
  | or (a b : E)
  | not (a : E)
  | ite (t a b : E)
  | call (s : Nat) (es ks : Es)
  | bi (b : Bi) (a : E)
  | isi (a : E) (ts : List Ty)
  | ix (a i : E)
  | sl (a : E) (lo hi : Eo)
  | lc (t : Tg) (own : List Nat) (it : It) (c : Eo) (e : E)
  | rv (a : E)
  | jn (a b : E)
  | bad
inductive Es where
  | nil
  | cons (e : E) (es : Es)
  | star (e : E) (es : Es)
inductive Eo where
  | no
  | so (e : E)
inductive It where
  | seq (e : E)
  | rng (a : E)
  | rng2 (a b : E)
  | enm (a : E)
end

mutual
inductive S where
  | set (i : Nat) (e : E)
  | own (i : Nat) (es : Es)
  | tset (t : Tg) (e : E)
  | par (i j : Nat) (a b : E)
  | par3 (i j k : Nat) (a b c : E)
  | aug (i : Nat) (e : E)
  | rai
  | ownl (i : Nat) (e : E)
  | app (i : Nat) (e : E)
  | ins0 (i : Nat) (e : E)
  | ret (e : E)
  | ifs (c : E) (a b : Ss)
  | for_ (t : Tg) (it : It) (b : Ss)
  | whl (n : Nat) (c : E) (b : Ss)
  | brk
  | cnt
  | pas
inductive Ss where
  | nil
  | cons (s : S) (ss : Ss)
end

/-! ### data -/
def tyIs : Ty → PyData → Bool
  | .int, .int _ => true
  | .int, .bool _ => true
  | .str, .str _ => true
  | .bool, .bool _ => true
  | .list, .list _ => true
  | .tuple, .tuple _ => true
  | _, _ => false
/-- what an isinstance can be asked of -/
def tyOk : PyData → Bool
  | .dict _ => false
  | _ => true

def cut {α : Type} (xs : List α) (lo hi : Option Int) : List α := (xs.drop (HT.sIx xs.length 0 lo)).take (HT.sIx xs.length xs.length hi - HT.sIx xs.length 0 lo)

def binD : Bop → PyData → PyData → Option PyData
  | .add, .int a, .int b => some (.int (a + b))
  | .add, .str a, .str b => if a.length + b.length ≤ lim then some (.str (a ++ b)) else none
  | .add, .tuple a, .tuple b => if a.length + b.length ≤ lim then some (.tuple (a ++ b)) else none
  | .add, .list a, .list b => if a.length + b.length ≤ lim then some (.list (a ++ b)) else none
  | .sub, .int a, .int b => some (.int (a - b))
  | .mul, .int a, .int b => if (-(2 ^ 64) < a ∧ a < 2 ^ 64) ∨ (-(2 ^ 64) < b ∧ b < 2 ^ 64) then some (.int (a * b)) else none
  | .mul, .tuple a, .int k => if a ≠ [] ∧ 1 ≤ k ∧ k ≤ 1000 ∧ a.length ≤ 1000 then some (.tuple (List.replicate k.toNat a).flatten) else none
  | .mod, .int a, .int b => if 0 < b then some (.int (a % b)) else none
  | .fdiv, .int a, .int b => if 0 < b ∧ b.natAbs.log2 < 9000 then some (.int (a / b)) else none
  | .pow, .int a, .int b => if 0 ≤ b ∧ b ≤ 1000000 ∧ a.natAbs < 2 ^ 64 then some (.int (a ^ b.toNat)) else none
  | _, _, _ => none

def isNone : PyData → Bool
  | .none => true
  | _ => false
def isTup : PyData → Bool
  | .tuple _ => true
  | _ => false
def okLt (d e : PyData) : Bool := SeqAt.shaped d && SeqAt.shaped e && alike d e && !isNone d

def scalar : PyData → Bool
  | .none => true
  | .bool _ => true
  | .int _ => true
  | .str _ => true
  | _ => false

def cmpD : Cop → PyData → PyData → Option Bool
  | .eq, d, e => if SeqAt.shaped d && SeqAt.shaped e then some (PyData.eqv d e) else none
  | .ne, d, e => if SeqAt.shaped d && SeqAt.shaped e then some (!PyData.eqv d e) else none
  | .lt, d, e => if okLt d e then some (dataLt d e) else none
  | .gt, d, e => if okLt d e then some (dataLt e d) else none
  | .le, d, e => if okLt d e then some (!dataLt e d) else none
  | .ge, d, e => if okLt d e then some (!dataLt d e) else none
  | .is, d, .none => match d with | .none => some true | .dict _ => none | _ => some false
  | .nis, d, .none => match d with | .none => some false | .dict _ => none | _ => some true
  | .is, .bool a, .bool b => some (a == b)
  | .nis, .bool a, .bool b => some (a != b)
  | .mem, d, .list es => if SeqAt.shaped d && SeqAt.shaped (.list es) then some (es.any fun z => PyData.eqv z d) else none
  | .nmem, d, .list es => if SeqAt.shaped d && SeqAt.shaped (.list es) then some (!es.any fun z => PyData.eqv z d) else none
  | .mem, d, .tuple es => if scalar d && es.all scalar && SeqAt.shaped d && SeqAt.shaped (.list es) then some (es.any fun z => PyData.eqv z d) else none
  | .nmem, d, .tuple es => if scalar d && es.all scalar && SeqAt.shaped d && SeqAt.shaped (.list es) then some (!es.any fun z => PyData.eqv z d) else none
  | .mem, .str a, .str b => match a.cps.toList with | [c] => some (decide (c ∈ b.cps.toList)) | _ => none
  | .nmem, .str a, .str b => match a.cps.toList with | [c] => some (!decide (c ∈ b.cps.toList)) | _ => none
  | _, _, _ => none

def ixD : PyData → PyData → Option PyData
  | .list ds, .int i => L2.atI ds i
  | .tuple ds, .int i => L2.atI ds i
  | .str s, .int i => if s.length ≤ lim then (L2.atI s.cps.toList i).map fun c => .str ⟨#[c]⟩ else none
  | _, _ => none
def slD : PyData → Option Int → Option Int → Option PyData
  | .list ds, lo, hi => some (.list (cut ds lo hi))
  | .tuple ds, lo, hi => some (.tuple (cut ds lo hi))
  | .str s, lo, hi => if s.length ≤ lim then some (.str (L2.cutS s lo hi)) else none
  | _, _, _ => none

def boolsOf : List PyData → Option (List Bool)
  | [] => some []
  | .bool b :: r => (boolsOf r).map (b :: ·)
  | _ :: _ => none
def intsOf : List PyData → Option (List Int)
  | [] => some []
  | .int b :: r => (intsOf r).map (b :: ·)
  | _ :: _ => none
def allAlike (ds : List PyData) : Bool := (ds.all fun d => isTup d && SeqAt.shaped d) && ds.all fun d => ds.all fun e => alike d e
def dataSort (ds : List PyData) : List PyData := ds.mergeSort fun a b => !dataLt b a
def dataSortR (ds : List PyData) : List PyData := ds.mergeSort fun a b => !dataLt a b

/-- the place of the least -/
def leastAt (ds : List PyData) : Nat := argBest (fun i j => dataLt (ds.getD i .none) (ds.getD j .none)) (ds.length - 1)
def minOk (ds : List PyData) : Bool := decide (0 < ds.length) && (ds.all fun d => SeqAt.shaped d && !isNone d) && ds.all fun d => ds.all fun e => alike d e
def rvD : PyData → Option PyData
  | .list ds => some (.list ds.reverse)
  | .tuple ds => some (.tuple ds.reverse)
  | _ => none
def strsOf : List PyData → Option (List Str)
  | [] => some []
  | .str b :: r => (strsOf r).map (b :: ·)
  | _ :: _ => none
def jnD : PyData → PyData → Option PyData
  | .str a, .list ds => match strsOf ds with
    | some ys => if (ys.map (·.length)).sum + ys.length * a.length ≤ lim then some (.str (Txt.join a ys)) else none
    | none => none
  | _, _ => none
def enmD : Nat → List PyData → List PyData
  | _, [] => []
  | i, d :: ds => .tuple [.int (i : Int), d] :: enmD (i + 1) ds
def seqOf : PyData → Option (List PyData)
  | .list ds => some ds
  | .tuple ds => some ds
  | _ => none

def biD : Bi → PyData → Option PyData
  | .len, .list ds => some (.int ds.length)
  | .len, .tuple ds => some (.int ds.length)
  | .len, .str s => if s.length ≤ lim then some (.int s.length) else none
  | .all, .list ds => (boolsOf ds).map fun bs => .bool (bs.all id)
  | .sum, .list ds => (intsOf ds).map fun ns => .int ns.sum
  | .tuple, .list ds => some (.tuple ds)
  | .tuple, .tuple ds => some (.tuple ds)
  | .list, .list ds => some (.list ds)
  | .list, .tuple ds => some (.list ds)
  | .sorted, .list ds => if allAlike ds then some (.list (dataSort ds)) else none
  | .rev, .list ds => if allAlike ds then some (.list (dataSortR ds)) else none
  | .int, .int i => some (.int i)
  | .min, .list ds => if minOk ds then ds[leastAt ds]? else none
  | _, _ => none

def itemsOf : PyData → Option (List PyData)
  | .list ds => some ds
  | .tuple ds => some ds
  | .str s => some (s.cps.toList.map fun c => .str ⟨#[c]⟩)
  | _ => none

mutual
def noList : PyData → Bool
  | .none => true
  | .bool _ => true
  | .int _ => true
  | .str _ => true
  | .tuple ds => noLists ds
  | _ => false
def noLists : List PyData → Bool
  | [] => true
  | d :: ds => noList d && noLists ds
end

/-! ### expressions -/
abbrev Env := List (Option PyData)
/-- the outcome of a call of the shape s with these positional and keyword values -/
abbrev Fns := Nat → List PyData → List PyData → Bag → Option (PyData × Bag)

mutual
/-- a target's stores, in order -/
def flat : Tg → PyData → Option (List (Nat × PyData))
  | .n i, d => some [(i, d)]
  | .t l, .tuple ds => flats l ds
  | .t _, _ => none
def flats : Tgs → List PyData → Option (List (Nat × PyData))
  | .nil, [] => some []
  | .cons a l, d :: ds => match flat a d with
    | some p => (flats l ds).map (p ++ ·)
    | none => none
  | _, _ => none
end
def putE (η : Env) (ps : List (Nat × PyData)) : Env := ps.foldl (fun η p => η.set p.1 (some p.2)) η
def wipeE (η : Env) : List Nat → Env
  | [] => η
  | v :: vs => (wipeE η vs).set v none

section
variable (Φ : Fns) (gl : Nat → Option PyData)

/-- a comprehension's turns -/
def comp (f : PyData → Bag → Option (Option PyData × Bag)) : List PyData → List PyData → Bag → Option (List PyData × Bag)
  | [], acc, g => some (acc, g)
  | d :: ds, acc, g => match f d g with
    | some (some v, g') => comp f ds (acc ++ [v]) g'
    | some (none, g') => comp f ds acc g'
    | none => none

/-- one turn: the target, the condition, the element -/
def lcF (t : Tg) (own : List Nat) (ec : Env → Bag → Option (Bool × Bag)) (ee : Env → Bag → Option (PyData × Bag)) (η : Env) (d : PyData) (g : Bag) : Option (Option PyData × Bag) :=
  match flat t d with
  | some ps => match ec (putE (wipeE η own) ps) g with
    | some (true, g) => (ee (putE (wipeE η own) ps) g).map fun r => (some r.1, r.2)
    | some (false, g) => some (none, g)
    | none => none
  | none => none

def rangeD (lo : Int) (n : Nat) : List PyData := (List.range n).map fun i : Nat => PyData.int (lo + (i : Int))

mutual
def evE : E → Env → Bag → Option (PyData × Bag)
  | .var i, η, g => match η[i]? with
    | some (some d) => some (d, g)
    | _ => none
  | .con d, _, g => some (d, g)
  | .glo k, _, g => (gl k).map fun d => (d, g)
  | .tup es, η, g => match evA es η g with
    | some (ds, g) => if ds.length ≤ lim then some (.tuple ds, g) else none
    | none => none
  | .lst es, η, g => match evA es η g with
    | some (ds, g) => if ds.length ≤ lim then some (.list ds, g) else none
    | none => none
  | .bin o a b, η, g => match evE a η g with
    | some (x, g) => match evE b η g with
      | some (y, g) => (binD o x y).map fun z => (z, g)
      | none => none
    | none => none
  | .neg a, η, g => match evE a η g with
    | some (.int i, g) => some (.int (-i), g)
    | _ => none
  | .cmp o a b, η, g => match evE a η g with
    | some (x, g) => match evE b η g with
      | some (y, g) => (cmpD o x y).map fun z => (.bool z, g)
      | none => none
    | none => none
  | .chn o p a b c, η, g => match evE a η g with
    | some (x, g) => match evE b η g with
      | some (y, g) => match cmpD o x y with
        | some true => match evE c η g with
          | some (z, g) => (cmpD p y z).map fun r => (.bool r, g)
          | none => none
        | some false => some (.bool false, g)
        | none => none
      | none => none
    | none => none
  | .and a b, η, g => match evE a η g with
    | some (.bool true, g) => evE b η g
    | some (.bool false, g) => some (.bool false, g)
    | _ => none
  | .or a b, η, g => match evE a η g with
    | some (.bool true, g) => some (.bool true, g)
    | some (.bool false, g) => evE b η g
    | _ => none
  | .not a, η, g => match evE a η g with
    | some (.bool b, g) => some (.bool (!b), g)
    | _ => none
  | .ite t a b, η, g => match evE t η g with
    | some (.bool true, g) => evE a η g
    | some (.bool false, g) => evE b η g
    | _ => none
  | .call s es ks, η, g => match evA es η g with
    | some (ds, g) => match evA ks η g with
      | some (zs, g) => Φ s ds zs g
      | none => none
    | none => none
  | .bi b a, η, g => match evE a η g with
    | some (x, g) => (biD b x).map fun z => (z, g)
    | none => none
  | .isi a ts, η, g => match evE a η g with
    | some (x, g) => if tyOk x then some (.bool (ts.any fun t => tyIs t x), g) else none
    | none => none
  | .ix a i, η, g => match evE a η g with
    | some (x, g) => match evE i η g with
      | some (y, g) => (ixD x y).map fun z => (z, g)
      | none => none
    | none => none
  | .sl a lo hi, η, g => match evE a η g with
    | some (x, g) => match evO lo η g with
      | some (l, g) => match evO hi η g with
        | some (h, g) => (slD x l h).map fun z => (z, g)
        | none => none
      | none => none
    | none => none
  | .lc t own it c e, η, g => match evI it η g with
    | some (ds, g) => if ds.length ≤ lim then
        (comp (lcF t own (evC c) (evE e) η) ds [] g).map fun r => (.list r.1, r.2)
      else none
    | none => none
  | .rv a, η, g => match evE a η g with
    | some (x, g) => (rvD x).map fun z => (z, g)
    | none => none
  | .jn a b, η, g => match evE a η g with
    | some (x, g) => match evE b η g with
      | some (y, g) => (jnD x y).map fun z => (z, g)
      | none => none
    | none => none
  | .bad, _, _ => none
def evA : Es → Env → Bag → Option (List PyData × Bag)
  | .nil, _, g => some ([], g)
  | .cons e es, η, g => match evE e η g with
    | some (x, g) => (evA es η g).map fun r => (x :: r.1, r.2)
    | none => none
  | .star e es, η, g => match evE e η g with
    | some (.list xs, g) => (evA es η g).map fun r => (xs ++ r.1, r.2)
    | some (.tuple xs, g) => (evA es η g).map fun r => (xs ++ r.1, r.2)
    | _ => none
/-- a slice's part -/
def evO : Eo → Env → Bag → Option (Option Int × Bag)
  | .no, _, g => some (none, g)
  | .so e, η, g => match evE e η g with
    | some (.int i, g) => some (some i, g)
    | _ => none
/-- a comprehension's condition -/
def evC : Eo → Env → Bag → Option (Bool × Bag)
  | .no, _, g => some (true, g)
  | .so e, η, g => match evE e η g with
    | some (.bool b, g) => some (b, g)
    | _ => none
def evI : It → Env → Bag → Option (List PyData × Bag)
  | .seq e, η, g => match evE e η g with
    | some (x, g) => (itemsOf x).map fun ds => (ds, g)
    | none => none
  | .rng a, η, g => match evE a η g with
    | some (.int j, g) => if -lim ≤ j ∧ j ≤ lim then some (rangeD 0 j.toNat, g) else none
    | _ => none
  | .rng2 a b, η, g => match evE a η g with
    | some (.int i, g) => match evE b η g with
      | some (.int j, g) => if -lim ≤ i ∧ i ≤ lim ∧ -lim ≤ j ∧ j ≤ lim ∧ j - i ≤ lim then some (rangeD i (j - i).toNat, g) else none
      | _ => none
    | _ => none
  | .enm a, η, g => match evE a η g with
    | some (x, g) => (seqOf x).map fun ds => (enmD 0 ds, g)
    | none => none
end

/-! ### statements -/
end

/-- a slot: nothing, a datum that stays, a list of the def's own -/
inductive Sl where
  | un
  | sh (d : PyData)
  | ow (ds : List PyData)
inductive Fl where
  | nx | br | ct
  | rt (d : PyData)

mutual
def E.vars : E → List Nat
  | .var i => [i]
  | .con _ => []
  | .glo _ => []
  | .tup es => es.vars
  | .lst es => es.vars
  | .bin _ a b => a.vars ++ b.vars
  | .neg a => a.vars
  | .cmp _ a b => a.vars ++ b.vars
  | .chn _ _ a b c => a.vars ++ (b.vars ++ c.vars)
  | .and a b => a.vars ++ b.vars
  | .or a b => a.vars ++ b.vars
  | .not a => a.vars
  | .ite t a b => t.vars ++ (a.vars ++ b.vars)
  | .call _ es ks => es.vars ++ ks.vars
  | .bi _ a => a.vars
  | .isi a _ => a.vars
  | .ix a i => a.vars ++ i.vars
  | .sl a lo hi => a.vars ++ (lo.vars ++ hi.vars)
  | .lc _ _ it c e => it.vars ++ (c.vars ++ e.vars)
  | .rv a => a.vars
  | .jn a b => a.vars ++ b.vars
  | .bad => []
def Es.vars : Es → List Nat
  | .nil => []
  | .cons e es => e.vars ++ es.vars
  | .star e es => e.vars ++ es.vars
def Eo.vars : Eo → List Nat
  | .no => []
  | .so e => e.vars
def It.vars : It → List Nat
  | .seq e => e.vars
  | .rng a => a.vars
  | .rng2 a b => a.vars ++ b.vars
  | .enm a => a.vars
end

/-- what an expression sees: own lists only where it names them -/
def seeF (F : List Nat) : Nat → List Sl → Env
  | _, [] => []
  | i, .un :: ρ => none :: seeF F (i + 1) ρ
  | i, .sh d :: ρ => some d :: seeF F (i + 1) ρ
  | i, .ow ds :: ρ => (if i ∈ F then some (.list ds) else none) :: seeF F (i + 1) ρ
/-- the own lists that F names are shared from now on -/
def frzF (F : List Nat) : Nat → List Sl → List Sl
  | _, [] => []
  | i, .ow ds :: ρ => (if i ∈ F then .sh (.list ds) else .ow ds) :: frzF F (i + 1) ρ
  | i, s :: ρ => s :: frzF F (i + 1) ρ
/-- behind an expression that named F and gave d -/
def settle (F : List Nat) (d : PyData) (ρ : List Sl) : List Sl := if noList d then ρ else frzF F 0 ρ
def putS (ρ : List Sl) (ps : List (Nat × PyData)) : List Sl := ps.foldl (fun ρ p => ρ.set p.1 (.sh p.2)) ρ

abbrev R := Option (Fl × List Sl × Bag)
/-- a for's turns -/
def turns (t : Tg) (body : List Sl → Bag → R) : List PyData → List Sl → Bag → R
  | [], ρ, g => some (.nx, ρ, g)
  | d :: ds, ρ, g => match flat t d with
    | some ps => match body (putS ρ ps) g with
      | some (.nx, ρ, g) => turns t body ds ρ g
      | some (.ct, ρ, g) => turns t body ds ρ g
      | some (.br, ρ, g) => some (.nx, ρ, g)
      | r => r
    | none => none
def whilst (c : List Sl → Bag → Option (Bool × Bag)) (body : List Sl → Bag → R) : Nat → List Sl → Bag → R
  | 0, _, _ => none
  | n + 1, ρ, g => match c ρ g with
    | some (true, g) => match body ρ g with
      | some (.nx, ρ, g) => whilst c body n ρ g
      | some (.ct, ρ, g) => whilst c body n ρ g
      | some (.br, ρ, g) => some (.nx, ρ, g)
      | r => r
    | some (false, g) => some (.nx, ρ, g)
    | none => none

section
variable (Φ : Fns) (gl : Nat → Option PyData)
/-- an expression within a statement: its datum, the slots behind it -/
def evX (e : E) (ρ : List Sl) (g : Bag) : Option (PyData × List Sl × Bag) :=
  match evE Φ gl e (seeF e.vars 0 ρ) g with
  | some (d, g) => some (d, settle e.vars d ρ, g)
  | none => none
/-- a test -/
def evT (e : E) (ρ : List Sl) (g : Bag) : Option (Bool × Bag) :=
  match evE Φ gl e (seeF e.vars 0 ρ) g with
  | some (.bool b, g) => some (b, g)
  | _ => none
mutual
def evS : S → List Sl → Bag → R
  | .own i es, ρ, g => match evX Φ gl (.lst es) ρ g with
    | some (.list ds, ρ', g) => if i < ρ.length then
        (if noLists ds then some (.nx, ρ.set i (.ow ds), g) else some (.nx, ρ'.set i (.sh (.list ds)), g)) else none
    | _ => none
  | .set i e, ρ, g => match evX Φ gl e ρ g with
    | some (d, ρ', g) => if i < ρ.length then some (.nx, ρ'.set i (.sh d), g) else none
    | none => none
  | .tset t e, ρ, g => match evX Φ gl e ρ g with
    | some (d, ρ', g) => (flat t d).map fun ps => (.nx, putS ρ' ps, g)
    | none => none
  | .par i j a b, ρ, g => match evX Φ gl a ρ g with
    | some (x, ρ1, g) => match evX Φ gl b ρ1 g with
      | some (y, ρ2, g) => if i < ρ.length ∧ j < ρ.length then some (.nx, (ρ2.set i (.sh x)).set j (.sh y), g) else none
      | none => none
    | none => none
  | .par3 i j k a b c, ρ, g => match evX Φ gl a ρ g with
    | some (x, ρ1, g) => match evX Φ gl b ρ1 g with
      | some (y, ρ2, g) => match evX Φ gl c ρ2 g with
        | some (z, ρ3, g) => if i < ρ.length ∧ j < ρ.length ∧ k < ρ.length then some (.nx, ((ρ3.set i (.sh x)).set j (.sh y)).set k (.sh z), g) else none
        | none => none
      | none => none
    | none => none
  | .aug i e, ρ, g => match ρ[i]? with
    | some (.sh (.int m)) => match evX Φ gl e ρ g with
      | some (.int k, ρ', g) => some (.nx, ρ'.set i (.sh (.int (m + k))), g)
      | _ => none
    | _ => none
  | .rai, _, _ => none
  | .ownl i e, ρ, g => match evX Φ gl e ρ g with
    | some (.list ds, ρ', g) => if i < ρ.length then
        (if noLists ds then some (.nx, ρ.set i (.ow ds), g) else some (.nx, ρ'.set i (.sh (.list ds)), g)) else none
    | _ => none
  | .app i e, ρ, g => match evX Φ gl e ρ g with
    | some (d, ρ', g) => match ρ'[i]? with
      | some (.ow ds) => if ds.length < lim then some (.nx, ρ'.set i (.ow (ds ++ [d])), g) else none
      | _ => none
    | none => none
  | .ins0 i e, ρ, g => match evX Φ gl e ρ g with
    | some (d, ρ', g) => match ρ'[i]? with
      | some (.ow ds) => if ds.length < lim then some (.nx, ρ'.set i (.ow (d :: ds)), g) else none
      | _ => none
    | none => none
  | .ret e, ρ, g => match evX Φ gl e ρ g with
    | some (d, ρ', g) => some (.rt d, ρ', g)
    | none => none
  | .ifs c a b, ρ, g => match evT Φ gl c ρ g with
    | some (true, g) => evSs a ρ g
    | some (false, g) => evSs b ρ g
    | none => none
  | .for_ t it b, ρ, g => match evI Φ gl it (seeF it.vars 0 ρ) g with
    | some (ds, g) => turns t (evSs b) ds (frzF it.vars 0 ρ) g
    | none => none
  | .whl n c b, ρ, g => whilst (evT Φ gl c) (evSs b) n ρ g
  | .brk, ρ, g => some (.br, ρ, g)
  | .cnt, ρ, g => some (.ct, ρ, g)
  | .pas, ρ, g => some (.nx, ρ, g)
def evSs : Ss → List Sl → Bag → R
  | .nil, ρ, g => some (.nx, ρ, g)
  | .cons s ss, ρ, g => match evS s ρ g with
    | some (.nx, ρ, g) => evSs ss ρ g
    | r => r
end
end
end Rf

set_option maxHeartbeats 4000000
/-! Values that bear data; the expressions' readings. -/
namespace Rf
open PySem PySem.W L2

def Exd (S S' : Hp) : Prop := ∀ a o, S a = some o → S' a = some o
theorem Exd.refl (S : Hp) : Exd S S := fun _ _ h => h
theorem Exd.trans {A B C : Hp} (h : Exd A B) (k : Exd B C) : Exd A C := fun a o e => k a o (h a o e)
theorem Exd.new {S : Hp} {p : Addr} {o : HO} (h : S p = none) : Exd S (upd S p o) := fun a u e => by
  rw [upd_ne (ne_of_none e h)]
  exact e
theorem Exd.rd {S S' : Hp} {a : Addr} {u : HO} (e : Exd S S') (h : Rd S a u) : Rd S' a u := by
  rcases h with h | ⟨o, h⟩
  · exact .inl (e a _ h)
  · exact .inr ⟨o, e a _ h⟩
theorem Exd.sqT {K : Frag} {S S' : Hp} {a : Addr} {xs : List V} (e : Exd S S') (h : SqT K S a xs) : SqT K S' a xs := by
  rcases h with h | h
  · exact .inl (e.rd h)
  · exact .inr h
theorem Exd.sqL {K : Frag} {S S' : Hp} {a : Addr} {xs : List V} (e : Exd S S') (h : SqL K S a xs) : SqL K S' a xs := by
  rcases h with h | h
  · exact .inl (e.rd h)
  · exact .inr h

/-- where the bag stands: the list, its inner list, what that holds -/
structure Bg where
  a : Addr
  l : Addr
  cells : List Int

/-! ### a value that bears a datum, over the shared objects S; b: the bag -/
mutual
inductive Rp (K : Frag) (b : Bg) (S : Hp) : V → PyData → Prop
  | non : Rp K b S .non .none
  | bl (c : Bool) : Rp K b S (.bl c) (.bool c)
  | int (i : Int) : Rp K b S (.int i) (.int i)
  | str (x : Str) : Rp K b S (.str x) (.str x)
  | lst {a : Addr} {xs : List V} {ds : List PyData} : S a = some (.lst xs) → xs.length ≤ lim → RpAll K b S xs ds → Rp K b S (.ref a) (.list ds)
  | tup {a : Addr} {xs : List V} {ds : List PyData} : SqT K S a xs → xs.length ≤ lim → RpAll K b S xs ds → Rp K b S (.ref a) (.tuple ds)
  | bag : Rp K b S (.ref b.a) (.dict [])
inductive RpAll (K : Frag) (b : Bg) (S : Hp) : List V → List PyData → Prop
  | nil : RpAll K b S [] []
  | cons {v : V} {vs : List V} {d : PyData} {ds : List PyData} : Rp K b S v d → RpAll K b S vs ds → RpAll K b S (v :: vs) (d :: ds)
end
section
variable {K : Frag} {b : Bg} {S S' : Hp}
mutual
theorem Rp.mono (e : Exd S S') : ∀ {v : V} {d : PyData}, Rp K b S v d → Rp K b S' v d
  | _, _, .non => .non
  | _, _, .bl c => .bl c
  | _, _, .int i => .int i
  | _, _, .str x => .str x
  | _, _, .lst h l r => .lst (e _ _ h) l (RpAll.mono e r)
  | _, _, .tup h l r => .tup (e.sqT h) l (RpAll.mono e r)
  | _, _, .bag => .bag
theorem RpAll.mono (e : Exd S S') : ∀ {vs : List V} {ds : List PyData}, RpAll K b S vs ds → RpAll K b S' vs ds
  | _, _, .nil => .nil
  | _, _, .cons h t => .cons (h.mono e) (RpAll.mono e t)
end
theorem RpAll.length : ∀ {vs : List V} {ds : List PyData}, RpAll K b S vs ds → vs.length = ds.length
  | _, _, .nil => rfl
  | _, _, .cons _ t => by rw [List.length_cons, List.length_cons, t.length]
theorem RpAll.append : ∀ {vs ws : List V} {ds es : List PyData}, RpAll K b S vs ds → RpAll K b S ws es → RpAll K b S (vs ++ ws) (ds ++ es)
  | _, _, _, _, .nil, h => h
  | _, _, _, _, .cons h t, k => .cons h (t.append k)
theorem RpAll.snoc {vs : List V} {ds : List PyData} {v : V} {d : PyData} (h : RpAll K b S vs ds) (k : Rp K b S v d) : RpAll K b S (vs ++ [v]) (ds ++ [d]) := h.append (.cons k .nil)
theorem RpAll.drop : ∀ {vs : List V} {ds : List PyData} (n : Nat), RpAll K b S vs ds → RpAll K b S (vs.drop n) (ds.drop n)
  | _, _, 0, h => h
  | _, _, _ + 1, .nil => .nil
  | _, _, n + 1, .cons _ t => t.drop n
theorem RpAll.take : ∀ {vs : List V} {ds : List PyData} (n : Nat), RpAll K b S vs ds → RpAll K b S (vs.take n) (ds.take n)
  | _, _, 0, _ => .nil
  | _, _, _ + 1, .nil => .nil
  | _, _, n + 1, .cons h t => .cons h (t.take n)
theorem RpAll.get : ∀ {vs : List V} {ds : List PyData} {i : Nat} {d : PyData}, RpAll K b S vs ds → ds[i]? = some d → ∃ v, vs[i]? = some v ∧ Rp K b S v d
  | _, _, _, _, .nil, e => by simp at e
  | _, _, 0, _, .cons h _, e => by
    simp at e
    subst e
    exact ⟨_, rfl, h⟩
  | _, _, i + 1, d, .cons _ t, e => by
    obtain ⟨v, h1, h2⟩ := t.get (i := i) (d := d) (by simpa using e)
    exact ⟨v, by simpa using h1, h2⟩
theorem RpAll.get' : ∀ {vs : List V} {ds : List PyData} {i : Nat} {v : V}, RpAll K b S vs ds → vs[i]? = some v → ∃ d, ds[i]? = some d ∧ Rp K b S v d
  | _, _, _, _, .nil, e => by simp at e
  | _, _, 0, _, .cons h _, e => by
    simp at e
    subst e
    exact ⟨_, rfl, h⟩
  | _, _, i + 1, d, .cons _ t, e => by
    obtain ⟨v, h1, h2⟩ := t.get' (i := i) (v := d) (by simpa using e)
    exact ⟨v, by simpa using h1, h2⟩
theorem RpAll.reverse : ∀ {vs : List V} {ds : List PyData}, RpAll K b S vs ds → RpAll K b S vs.reverse ds.reverse
  | _, _, .nil => .nil
  | _, _, .cons h t => by
    rw [List.reverse_cons, List.reverse_cons]
    exact t.reverse.append (.cons h .nil)
theorem RpAll.cut {vs : List V} {ds : List PyData} (h : RpAll K b S vs ds) (lo hi : Option Int) : RpAll K b S (cutV vs lo hi) (Rf.cut ds lo hi) := by
  unfold cutV Rf.cut
  rw [h.length]
  exact (h.drop _).take _
mutual
/-- data of the library's kind -/
theorem Rp.dp {H : Hp} (e : Exd S H) : ∀ {v : V} {d : PyData}, Rp K b S v d → d.canLay0 = true → Dp K H v d
  | _, _, .non, _ => .non
  | _, _, .bl c, _ => .bl c
  | _, _, .int i, _ => .int i
  | _, _, .str x, _ => .str x
  | _, _, .lst h _ r, c => .lst (.inl (.inl (e _ _ h))) (RpAll.dp e r (by simpa [PyData.canLay0] using c))
  | _, _, .tup h _ r, c => .tup (e.sqT h) (RpAll.dp e r (by simpa [PyData.canLay0] using c))
  | _, _, .bag, c => by simp [PyData.canLay0] at c
theorem RpAll.dp {H : Hp} (e : Exd S H) : ∀ {vs : List V} {ds : List PyData}, RpAll K b S vs ds → PyData.canLayAll0 ds = true → DpAll K H vs ds
  | _, _, .nil, _ => .nil
  | _, _, .cons h t, c => by
    simp only [PyData.canLayAll0, Bool.and_eq_true] at c
    exact .cons (h.dp e c.1) (t.dp e c.2)
end
end

/-! ### the state: the bag, the shared objects -/
def BagAt (K : Frag) (b : Bg) (g : Bag) (S H : Hp) : Prop :=
  H b.a = some (.lst [.ref b.l, .int g.at_, .int g.big, .int g.salt, .int g.cnt]) ∧ SqL K S b.l (b.cells.map V.int)
structure Bs (K : Frag) (b : Bg) (S : Hp) (g : Bag) (H : Hp) : Prop where
  sub : Exd S H
  sb : S b.a = none
  bag : BagAt K b g S H
structure Stp (b : Bg) (S H S' H' : Hp) : Prop where
  ex : Exd S S'
  new : ∀ a o, S' a = some o → S a = some o ∨ H a = none
  kp : ∀ a o, a ≠ b.a → H a = some o → H' a = some o
  dm : ∀ a, H' a = none → H a = none
section
variable {K : Frag} {b : Bg} {S H S1 H1 S2 H2 : Hp} {g : Bag}
theorem Stp.refl (b : Bg) (S H : Hp) : Stp b S H S H := ⟨Exd.refl _, fun _ _ h => .inl h, fun _ _ _ h => h, fun _ h => h⟩
theorem Stp.trans (p : Stp b S H S1 H1) (q : Stp b S1 H1 S2 H2) : Stp b S H S2 H2 where
  ex := p.ex.trans q.ex
  new := fun a o e => by
    rcases q.new a o e with h | h
    · exact p.new a o h
    · exact .inr (p.dm a h)
  kp := fun a o n e => q.kp a o n (p.kp a o n e)
  dm := fun a e => p.dm a (q.dm a e)
theorem Bs.hb (B : Bs K b S g H) : ∃ o, H b.a = some o := ⟨_, B.bag.1⟩
theorem Bs.free (B : Bs K b S g H) {p : Addr} (h : H p = none) : S p = none := by
  cases e : S p with
  | none => rfl
  | some o =>
    rw [B.sub p o e] at h
    cases h
theorem Bs.nb (B : Bs K b S g H) {p : Addr} (h : H p = none) : b.a ≠ p := by
  obtain ⟨o, e⟩ := B.hb
  exact ne_of_none e h
/-- a new object -/
theorem Bs.new (B : Bs K b S g H) {p : Addr} (h : H p = none) (o : HO) : Bs K b (upd S p o) g (upd H p o) where
  sub := fun a u e => by
    by_cases ha : a = p
    · subst ha
      rw [upd_same] at e
      rw [upd_same, e]
    · rw [upd_ne ha] at e
      rw [upd_ne ha]
      exact B.sub a u e
  sb := by
    rw [upd_ne (B.nb h)]
    exact B.sb
  bag := by
    exact ⟨by rw [upd_ne (B.nb h)]; exact B.bag.1, (Exd.new (B.free h)).sqL B.bag.2⟩
theorem Stp.new1 (B : Bs K b S g H) {p : Addr} (h : H p = none) (o : HO) : Stp b S H (upd S p o) (upd H p o) where
  ex := Exd.new (B.free h)
  new := fun a u e => by
    by_cases ha : a = p
    · subst ha
      exact .inr h
    · rw [upd_ne ha] at e
      exact .inl e
  kp := fun a u _ e => Exd.new h a u e
  dm := fun a e => by
    by_cases ha : a = p
    · subst ha
      exact h
    · rw [upd_ne ha] at e
      exact e
theorem Bs.newT (B : Bs K b S g H) {p : Addr} (h : H p = none) {xs : List V} {ds : List PyData} (r : RpAll K b S xs ds) (hl : ds.length ≤ lim) : Rp K b (upd S p (.tup xs)) (.ref p) (.tuple ds) :=
  .tup (.inl (.inl upd_same)) (by rw [r.length]; exact hl) (r.mono (Exd.new (B.free h)))
theorem Bs.newL (B : Bs K b S g H) {p : Addr} (h : H p = none) {xs : List V} {ds : List PyData} (r : RpAll K b S xs ds) (hl : ds.length ≤ lim) : Rp K b (upd S p (.lst xs)) (.ref p) (.list ds) :=
  .lst upd_same (by rw [r.length]; exact hl) (r.mono (Exd.new (B.free h)))
end

/-! ### what stands in the slots -/
structure Sees (K : Frag) (b : Bg) (S : Hp) (η : Env) (σ : St) : Prop where
  len : η.length = σ.length
  at_ : ∀ (i : Nat) (d : PyData), η[i]? = some (some d) → ∃ v, σ[i]? = some (some v) ∧ Rp K b S v d
theorem Sees.mono {K : Frag} {b : Bg} {S S' : Hp} {η : Env} {σ : St} (e : Exd S S') (h : Sees K b S η σ) : Sees K b S' η σ := ⟨h.len, fun i d q => by
  obtain ⟨v, h1, h2⟩ := h.at_ i d q
  exact ⟨v, h1, h2.mono e⟩⟩

/-! ### readings by data -/
abbrev Md := Env → Bag → Option (PyData × Bag)
def tD (K : Frag) (b : Bg) (m : Md) : TE := fun σ H Q => ∃ S η g, Bs K b S g H ∧ Sees K b S η σ ∧ ∃ d g', m η g = some (d, g') ∧
  ∀ v S' H', Stp b S H S' H' → Bs K b S' g' H' → Rp K b S' v d → Q v H'
abbrev Mt := Env → Bag → Option (Bool × Bag)
def tDT (K : Frag) (b : Bg) (m : Mt) : TT := fun σ H Q => ∃ S η g, Bs K b S g H ∧ Sees K b S η σ ∧ ∃ d g', m η g = some (d, g') ∧
  ∀ S' H', Stp b S H S' H' → Bs K b S' g' H' → Q d H'
abbrev Ma := Env → Bag → Option (List PyData × Bag)
def tDA (K : Frag) (b : Bg) (m : Ma) : TA := fun σ H Q => ∃ S η g, Bs K b S g H ∧ Sees K b S η σ ∧ ∃ ds g', m η g = some (ds, g') ∧
  ∀ vs S' H', Stp b S H S' H' → Bs K b S' g' H' → RpAll K b S' vs ds → Q vs H'
abbrev Mo := Env → Bag → Option (Option Int × Bag)
def tDO (K : Frag) (b : Bg) (m : Mo) : TO := fun σ H Q => ∃ S η g, Bs K b S g H ∧ Sees K b S η σ ∧ ∃ o g', m η g = some (o, g') ∧
  ∀ S' H', Stp b S H S' H' → Bs K b S' g' H' → Q o H'

theorem PE.imp {X : Cx} {e : Expr} {t t' : TE} (h : PE X e t) (k : ∀ σ H Q, t' σ H Q → t σ H Q) : PE X e t' := ⟨fun pins s σ H Q I q => h.run pins s σ H Q I (k σ H Q q)⟩
theorem PT.imp {X : Cx} {e : Expr} {t t' : TT} (h : PT X e t) (k : ∀ σ H Q, t' σ H Q → t σ H Q) : PT X e t' := ⟨fun pins s σ H Q I q => h.run pins s σ H Q I (k σ H Q q)⟩
theorem PA.imp {X : Cx} {e : List Expr} {t t' : TA} (h : PA X e t) (k : ∀ σ H Q, t' σ H Q → t σ H Q) : PA X e t' := ⟨fun pos pins s σ H Q I q => h.run pos pins s σ H Q I (k σ H Q q)⟩
theorem PO.imp {X : Cx} {e : Option Expr} {t t' : TO} (h : PO X e t) (k : ∀ σ H Q, t' σ H Q → t σ H Q) : PO X e t' := ⟨fun pins s σ H Q I q => h.run pins s σ H Q I (k σ H Q q)⟩
theorem PS.imp {X : Cx} {e : Stmt} {t t' : TS} (h : PS X e t) (k : ∀ D σ H, t' D σ H → t D σ H) : PS X e t' := ⟨fun pins s σ H D I q => h.run pins s σ H D I (k D σ H q)⟩
theorem PSs.imp {X : Cx} {e : List Stmt} {t t' : TS} (h : PSs X e t) (k : ∀ D σ H, t' D σ H → t D σ H) : PSs X e t' := ⟨fun pins s σ H D I q => h.run pins s σ H D I (k D σ H q)⟩
theorem OpR.or2 {X : Cx} {f : Value → Value → Sem Value} {r r' : R2} (h : OpR X f r) (h' : OpR X f r') : OpR X f (fun x y H Q => r x y H Q ∨ r' x y H Q) := fun pins s σ H x y v u Q I rx ry q => by
  rcases q with q | q
  · exact h pins s σ H x y v u Q I rx ry q
  · exact h' pins s σ H x y v u Q I rx ry q
theorem CallR.or2 {X : Cx} {f : Value} {r r' : List V → Hp → VK → Prop} (h : CallR X f r) (h' : CallR X f r') : CallR X f (fun x H Q => r x H Q ∨ r' x H Q) := fun pins s σ H x v Q I rx q => by
  rcases q with q | q
  · exact h pins s σ H x v Q I rx q
  · exact h' pins s σ H x v Q I rx q

/-- what is wanted behind a pure step -/
def Post (K : Frag) (b : Bg) (S : Hp) (g : Bag) (H : Hp) (d : PyData) (Q : VK) : Prop := ∀ v S' H', Stp b S H S' H' → Bs K b S' g H' → Rp K b S' v d → Q v H'
theorem Post.here {K : Frag} {b : Bg} {S H : Hp} {g : Bag} {d : PyData} {Q : VK} (P : Post K b S g H d Q) (B : Bs K b S g H) {v : V} (r : Rp K b S v d) : Q v H := P v S H (Stp.refl b S H) B r
theorem Post.tup {K : Frag} {b : Bg} {S H : Hp} {g : Bag} {ds : List PyData} {Q : VK} (P : Post K b S g H (.tuple ds) Q) (B : Bs K b S g H) {xs : List V} (r : RpAll K b S xs ds) (hl : ds.length ≤ lim) {p : Addr} (h : H p = none) : Q (.ref p) (upd H p (.tup xs)) :=
  P _ _ _ (Stp.new1 B h _) (B.new h _) (B.newT h r hl)
theorem Post.lst {K : Frag} {b : Bg} {S H : Hp} {g : Bag} {ds : List PyData} {Q : VK} (P : Post K b S g H (.list ds) Q) (B : Bs K b S g H) {xs : List V} (r : RpAll K b S xs ds) (hl : ds.length ≤ lim) {p : Addr} (h : H p = none) : Q (.ref p) (upd H p (.lst xs)) :=
  P _ _ _ (Stp.new1 B h _) (B.new h _) (B.newL h r hl)

/-! ### one step after another -/
section
variable {K : Frag} {b : Bg} {σ : St} {H : Hp}
theorem tD.seq {m : Md} {S : Hp} {η : Env} {g g' : Bag} {d : PyData} {Q : VK} (B : Bs K b S g H) (Z : Sees K b S η σ) (e : m η g = some (d, g')) (k : ∀ v S' H', Stp b S H S' H' → Bs K b S' g' H' → Sees K b S' η σ → Rp K b S' v d → Q v H') : tD K b m σ H Q :=
  ⟨S, η, g, B, Z, d, g', e, fun v S' H' st B' r => k v S' H' st B' (Z.mono st.ex) r⟩
theorem tDA.seq {m : Ma} {S : Hp} {η : Env} {g g' : Bag} {d : List PyData} {Q : List V → Hp → Prop} (B : Bs K b S g H) (Z : Sees K b S η σ) (e : m η g = some (d, g')) (k : ∀ v S' H', Stp b S H S' H' → Bs K b S' g' H' → Sees K b S' η σ → RpAll K b S' v d → Q v H') : tDA K b m σ H Q :=
  ⟨S, η, g, B, Z, d, g', e, fun v S' H' st B' r => k v S' H' st B' (Z.mono st.ex) r⟩
theorem tDT.seq {m : Mt} {S : Hp} {η : Env} {g g' : Bag} {d : Bool} {Q : Bool → Hp → Prop} (B : Bs K b S g H) (Z : Sees K b S η σ) (e : m η g = some (d, g')) (k : ∀ S' H', Stp b S H S' H' → Bs K b S' g' H' → Sees K b S' η σ → Q d H') : tDT K b m σ H Q :=
  ⟨S, η, g, B, Z, d, g', e, fun S' H' st B' => k S' H' st B' (Z.mono st.ex)⟩
theorem tDO.seq {m : Mo} {S : Hp} {η : Env} {g g' : Bag} {d : Option Int} {Q : Option Int → Hp → Prop} (B : Bs K b S g H) (Z : Sees K b S η σ) (e : m η g = some (d, g')) (k : ∀ S' H', Stp b S H S' H' → Bs K b S' g' H' → Sees K b S' η σ → Q d H') : tDO K b m σ H Q :=
  ⟨S, η, g, B, Z, d, g', e, fun S' H' st B' => k S' H' st B' (Z.mono st.ex)⟩
end
end Rf

set_option maxHeartbeats 1000000
/-! A tuple, once. -/
namespace Rf
open PySem PySem.Spec PyProof.Rows L2
theorem tuple_mul1 (l : Addr) (items : Array Value) (n : Nat) (dd : Option Addr) (sl : Array (Option Value)) (u : Tok) :
    Meets (Builtin.«tuple.__mul__» ⟨[.ref l, .int 1 u], []⟩) (fun _ R s => s.heap.get? l = some { cls := .type "tuple", dict := dd, data := .seq items n, slots := sl } ∧ R (.ok (.ret (Value.ref l))) s) :=
  .of_wp fun prog w A R s h => by
    obtain ⟨hp, g, d, tk, os⟩ := s
    obtain ⟨hl, h⟩ := h
    have f1 := AutoSeq1.idx_int
    have c1 : (items.isEmpty || (1 : Int) == 1) = true := by simp
    wp_walk using wpAny_loadPart' hl
    repeat (first
      | (refine wpAny_ite_true (decide_eq_true c1) ?_; wp_walk using wpAny_loadPart' hl)
      | (refine wpAny_ite_false (decide_eq_false (by decide)) ?_; wp_walk using wpAny_loadPart' hl))
    exact ⟨_, rfl, h⟩
def rRep1 (K : PySem.W.Frag) : R2 := fun x y H Q => ∃ l xs, x = .ref l ∧ y = .int 1 ∧ SqT K H l xs ∧ Q (.ref l) H
theorem op_rep1 {X : Cx} : OpR X (binaryOp .Mult) (rRep1 X.K) := by
  intro pins s σ H x y v u Q I rx ry h
  obtain ⟨l, xs, rfl, rfl, hT, q⟩ := h
  cases rx
  obtain ⟨t, rfl⟩ := ry
  obtain ⟨its, r, ⟨⟨cls, dd, data, sl⟩, ho, hc, n, hd⟩, hs⟩ := I.tuple hT
  simp only at hc hd
  subst hc hd
  refine wpAny_binaryOp_repeat_ref (T := "tuple") (U := "int") (by decide) ⟨_, ho, rfl⟩ (fun s' => typeIs_int s' 1 t) noFill_tuple_mul F.fills_int_mul F.slot_int_rmul repeat_tuple F.slot_int_index.lookup
    (call_meets F.slot_int_rmul (typeIs_int s 1 t) F.entry_int_rmul (F.args_int_rmul_2 _ _) (int_rmul_tuple 1 t l its.toArray n dd sl)
      ⟨ho, rfl, ⟨_, ho, rfl⟩, call_meets F.slot_tuple_mul ⟨_, ho, rfl⟩ F.entry_tuple_mul (F.args_tuple_mul_2 _ _) (tuple_mul1 l its.toArray n dd sl t) ⟨ho, ?_⟩⟩)
  exact ⟨.ref l, H, I, rfl, q⟩
end Rf

set_option maxHeartbeats 1000000
/-! A tuple, backwards. -/
namespace HT
open PySem PySem.Spec PyProof.Rows
section
variable {prog : Program} {w : World} {A : Around} {E : Value → Shared → Prop} {s : Shared}
theorem sliceApplied_rev {sl : Addr} {vs : Value} {n : Nat} {Q : Int × Int × Nat → Shared → Prop} (hs : s.heap.IsSliceOf sl .none .none vs) (ps : IsPart vs (some (-1)))
    (h : Q ((n : Int) - 1, -1, n) s) : wpAny (model prog w) A (Builtin.Slice.sliceApplied (.ref sl) (pure (n : Int))) Q E s := by
  obtain ⟨os, hos, hcs, hds⟩ := id hs
  unfold Builtin.Slice.sliceApplied Builtin.Slice.sliceFields
  refine wpAny_bind (wpAny_bind (wpAny_field hos hds (x := .none) rfl (wpAny_bind (wpAny_field hos hds (x := .none) rfl (wpAny_bind (wpAny_field hos hds (x := vs) rfl (wpAny_pure ?_)))))))
  refine wpAny_bind (slicePart_ ps ?_)
  show wpAny _ _ (if ((-1 : Int) == 0) = true then _ else _) _ _ s
  rw [if_neg (by decide)]
  refine wpAny_bind (slicePart_none (wpAny_bind (slicePart_none (wpAny_bind (wpAny_pure ?_)))))
  show wpAny _ _ (pure ((n : Int) - 1, (-1 : Int), Builtin.Slice.slicePlaces ((n : Int) - 1) (-1) (-1))) _ _ s
  have : Builtin.Slice.slicePlaces ((n : Int) - 1) (-1) (-1) = n := by
    unfold Builtin.Slice.slicePlaces
    rw [if_neg (by decide)]
    rw [show (-(-1) : Int) = 1 from rfl, Int.ediv_one]
    split <;> omega
  rw [this]
  exact wpAny_pure h
theorem pick_rev (xs : Array Value) : ((List.range xs.size).filterMap fun (k : Nat) => xs[(((xs.size : Nat) : Int) - 1 + (k : Int) * (-1)).toNat]?).toArray = xs.toList.reverse.toArray := by
  congr 1
  apply List.ext_getElem?
  intro i
  have e : ∀ l : List Nat, (∀ k ∈ l, k < xs.size) → (l.filterMap fun (k : Nat) => xs[(((xs.size : Nat) : Int) - 1 + (k : Int) * (-1)).toNat]?) = l.map fun k => xs.toList.reverse[k]?.getD .none := by
    intro l
    induction l with
    | nil => intro _; rfl
    | cons k l ih =>
      intro h
      have hk := h k List.mem_cons_self
      have e1 : (((xs.size : Nat) : Int) - 1 + (k : Int) * (-1)).toNat = xs.size - 1 - k := by omega
      have h2 : xs.size - 1 - k < xs.size := by omega
      rw [List.filterMap_cons, e1, Array.getElem?_eq_getElem h2, List.map_cons, ih fun k hk => h k (List.mem_cons_of_mem _ hk)]
      simp [List.getElem?_reverse, hk]
  rw [e _ fun k hk => List.mem_range.mp hk, List.getElem?_map]
  by_cases hi : i < xs.size
  · rw [List.getElem?_range hi]
    simp [List.getElem?_reverse, hi]
  · rw [List.getElem?_eq_none (by simp; omega), List.getElem?_eq_none (by simp; omega)]
    rfl
theorem getItem_tuple_rev {t sl : Addr} {items : Array Value} {vs : Value} {Q : Value → Shared → Prop} (ht : IsTup s.heap t items) (hs : s.heap.IsSliceOf sl .none .none vs) (ps : IsPart vs (some (-1)))
    (h : Q (.ref s.heap.objs.size) { s with heap := s.heap.push { cls := .type "tuple", data := .seq items.toList.reverse.toArray } })
    (hsz : items.size ≤ sizeLine) : wpAny (model prog w) A (getItem (.ref t) (.ref sl)) Q E s := by
  have htake : sizeOk (.seq items.toList.reverse.toArray) := by
    show items.toList.reverse.toArray.size ≤ sizeLine
    rw [List.size_toArray, List.length_reverse, Array.length_toList]
    exact hsz
  obtain ⟨os, hos, hcs, hds⟩ := id hs
  have hTs : s.TypeIs (.ref sl) "slice" := ⟨os, hos, hcs⟩
  unfold getItem
  try with_reducible refine wpAny_holding ?_
  first | refine wpAny_bind (wpAny_pure ?_) | skip
  refine wpAny_bind (wpAny_sequenceKey ht.typeIs (by decide) ?_)
  refine wpAny_bind (wpAny_callSpecial?_slot (name := Str.ofString "__getitem__") ht.typeIs PyProof.Rows.slot_tuple_getitem
    (wpAny_call_entry PyProof.Rows.slot_tuple_getitem ht.typeIs entry_tuple_getitem ?_ (args_tuple_getitem _ _)))
  show wpAny _ _ (Builtin.Tuple.tupleItemsOf (.ref t) >>= _) _ _ s
  refine wpAny_bind (tupleItemsOf_ ht ?_)
  refine wpAny_bind (wpAny_typeOf hTs ?_)
  rw [if_pos (by decide)]
  refine wpAny_bind (sliceApplied_rev hs ps ?_)
  have hno : ¬ ((((items.size : Nat) : Int) - 1 == 0 && (-1 : Int) == 1 && items.size == items.size) = true) := by
    rw [show ((-1 : Int) == 1) = false from by decide, Bool.and_false, Bool.false_and]
    exact Bool.false_ne_true
  show wpAny _ _ (if (((items.size : Nat) : Int) - 1 == 0 && (-1 : Int) == 1 && items.size == items.size) = true then _ else _) _ _ s
  rw [if_neg hno, pick_rev]
  first
    | exact wpAny_bind (m := Builtin.Tuple.tupleExact _) (wpAny_newObj_type (wpAny_pure ⟨_, rfl, wpAny_pure h⟩) htake)
    | exact wpAny_bind (m := Builtin.Tuple.tupleExact _) (wpAny_newObj_type (wpAny_bind (wpAny_pure (wpAny_pure ⟨_, rfl, wpAny_pure h⟩))) htake)
    | exact wpAny_bind (wpAny_bind (m := Builtin.Tuple.tupleExact _) (wpAny_newObj_type (wpAny_pure (wpAny_pure ⟨_, rfl, wpAny_pure h⟩)) htake))
    | exact wpAny_bind (wpAny_bind (m := Builtin.Tuple.tupleExact _) (wpAny_newObj_type (wpAny_pure ⟨_, rfl, wpAny_pure h⟩) htake))
end
end HT
namespace Rf
open PySem PySem.Spec PyProof.Rows L2
section
variable {X : Cx}
def tRevT (K : PySem.W.Frag) (te : TE) : TE := fun σ H Q => te σ H fun x H1 => ∃ a xs, x = .ref a ∧ ((SqL K H1 a xs ∧ ∀ p, H1 p = none → Q (.ref p) (upd H1 p (.lst xs.reverse))) ∨ (SqT K H1 a xs ∧ ∀ p, H1 p = none → Q (.ref p) (upd H1 p (.tup xs.reverse))))
theorem pe_revT {e : Expr} {te : TE} {k : Nat} {p1 p2 p3 pos : Pos} (he : PE X e te) : PE X (.Subscript e (.Slice none none (some (.UnaryOp .USub (.Constant (.int 1) k p1) p2)) p3) pos) (tRevT X.K te) := by
  refine ⟨fun pins s σ H Q I h => ?_⟩
  refine Subscript_ (thn (he.run pins s σ H _ I h) fun v s1 ⟨x, H1, I1, r1, q1⟩ => ?_)
  obtain ⟨a, xs, ex, q⟩ := q1
  subst ex
  cases r1
  have hst : PO X (some (.UnaryOp .USub (.Constant (.int 1) k p1) p2)) (tPart (tUn (rU fun i => .int (-i)) (tC (.int 1)))) := po_some (pe_un un_neg pe_int)
  refine wpAny_Slice (thn (po_none.run pins s1 σ H1 (fun o H2 => o = none ∧ H2 = H1) I1 ⟨rfl, rfl⟩) fun vl s2 ⟨l, H2, I2, pl, el, e2⟩ => ?_)
  subst el e2
  refine thn (po_none.run pins s2 σ H2 (fun o H3 => o = none ∧ H3 = H2) I2 ⟨rfl, rfl⟩) fun vu s3 ⟨u, H3, I3, pu, eu, e3⟩ => ?_
  subst eu e3
  refine thn (hst.run pins s3 σ H3 (fun o H4 => o = some (-1) ∧ H4 = H3) I3 ⟨1, rfl, -1, rfl, rfl, rfl⟩) fun vs s4 ⟨o, H4, I4, ps, eo, e4⟩ => ?_
  subst eo e4
  have I5 : Inv X pins σ H4 { s4 with heap := s4.heap.push { cls := .type "slice", data := .fields #[vl, vu, vs] } } := I4.kept (t' := s4.toks) fun b ob q => Heap.get?_push_of_some _ q
  show wpAny (model X.prog X.w) X.A (subscriptTail e (.Slice none none (some (.UnaryOp .USub (.Constant (.int 1) k p1) p2)) p3) (.ref a) (.ref s4.heap.objs.size)) (EP X pins σ Q) X.xe { s4 with heap := s4.heap.push { cls := .type "slice", data := .fields #[vl, vu, vs] } }
  rcases q with ⟨hx, q⟩ | ⟨hx, q⟩
  · obtain ⟨its, r, ht, hz⟩ := I5.list hx
    have hlen := r.length
    refine tail_any (ops := [.ref a, .ref s4.heap.objs.size]) ht.isList.typeIs (PySem.slot_list_getitem.lookup) ?_ (by with_unfolding_all rfl)
    refine wpAny_getItem_list_slice ht.isList (Heap.IsSliceOf.new _ vl vu vs) pl pu ps (by decide) ?_ (by rw [List.size_toArray]; omega)
    rw [PySem.W.krv_pick]
    refine ⟨.ref _, _, I5.laid (t' := s4.toks) (o := .lst xs.reverse) (fun b ob q => Heap.get?_push_of_some _ q) (Nat.le_refl _) ?_, rfl, q _ (I5.hok.fresh (Nat.le_refl _))⟩
    exact ⟨by rw [List.length_reverse]; exact hz, _, 0, r.reverse, Heap.get?_push_size _ rfl⟩
  · obtain ⟨its, r, ht, hz⟩ := I5.tuple hx
    have hlen := r.length
    have evl : vl = .none := by cases pl; rfl
    have evu : vu = .none := by cases pu; rfl
    subst evl evu
    refine tail_any (ops := [.ref a, .ref s4.heap.objs.size]) ht.typeIs (PyProof.Rows.slot_tuple_getitem.lookup) ?_ (by with_unfolding_all rfl)
    refine HT.getItem_tuple_rev ht (Heap.IsSliceOf.new _ .none .none vs) ps ?_ (by rw [List.size_toArray]; omega)
    refine ⟨.ref _, _, I5.laid (t' := s4.toks) (o := .tup xs.reverse) (fun b ob q => Heap.get?_push_of_some _ q) (Nat.le_refl _) ?_, rfl, q _ (I5.hok.fresh (Nat.le_refl _))⟩
    refine ⟨by rw [List.length_reverse]; exact hz, its.reverse, r.reverse, ?_⟩
    exact ⟨_, Heap.get?_push_size _ rfl, rfl, 0, rfl⟩
end
end Rf

set_option maxHeartbeats 2000000
/-! enumerate over a tuple. -/
namespace PySem
open AutoSeq1 (wpAny_loadPart')
theorem meets_enumerate_newT (l : Addr) (items : Array Value) (n : Nat) (dct : Option Addr) (sl : Array (Option Value)) :
    Meets (Builtin.«enumerate.__new__» ⟨[.type "enumerate", .ref l], []⟩) (fun _ R s => s.heap.get? l = some { cls := .type "tuple", dict := dct, data := .seq items n, slots := sl } ∧
      R (.ok (.ret (.ref (s.heap.push { cls := .type "tuple_iterator", data := .fields #[.ref l, .int 0 0] }).objs.size)))
        { s with heap := (s.heap.push { cls := .type "tuple_iterator", data := .fields #[.ref l, .int 0 0] }).push { cls := .type "enumerate", data := .fields #[.none, .bool false, .ref s.heap.objs.size, rawInt 0, .none, .none] } }) :=
  .of_wp fun prog w A R s h => by
    obtain ⟨hp, g, d, tk, os⟩ := s; obtain ⟨hl, h⟩ := h
    have hsub := sub_enumerate
    have hL : Heap.IsTuple (Shared.heap ⟨hp, g, d, tk, os⟩) l items := ⟨_, hl, rfl, n, rfl⟩
    wp_walk using wpAny_loadPart' hl
    refine wpAny_stack_any fun st => wpAny_pure ?_
    split
    · rename_i c _ _ _ _ _
      cases (c == Value.type "enumerate")
      · wp_walk using wpAny_loadPart' hl, wpAny_pyIter_tuple hL
        exact ⟨_, rfl, h⟩
      · wp_walk using wpAny_loadPart' hl, wpAny_pyIter_tuple hL
        exact ⟨_, rfl, h⟩
    · wp_walk using wpAny_loadPart' hl, wpAny_pyIter_tuple hL
      exact ⟨_, rfl, h⟩
section
variable {prog : Program} {w : World} {A : Around} {E : Value → Shared → Prop} {s : Shared}
theorem call_enumerate_tuple {l : Addr} {items : Array Value} {Q : Value → Shared → Prop} (hL : s.heap.IsTuple l items)
    (h : ∀ h', IsEnum h' (s.heap.objs.size + 1) s.heap.objs.size 0 .none → h'.IsTupleIter s.heap.objs.size l 0 → h'.objs.size = s.heap.objs.size + 2 →
      (∀ b o, s.heap.get? b = some o → h'.get? b = some o) → Q (.ref (s.heap.objs.size + 1)) { s with heap := h' }) :
    wpAny (model prog w) A (call (.type "enumerate") [.ref l]) Q E s := by
  obtain ⟨⟨c, dct, dt, sl⟩, hl, hc, n, hd⟩ := hL
  replace hc : c = .type "tuple" := hc
  replace hd : dt = .seq items n := hd
  subst hc hd
  refine callType_new F.called_enumerate (by decide) (F.typeCall_enumerate_1 _) (F.newCall_enumerate_1 _) (fun obj => F.args_object_init_2 obj _) F.entry_enumerate_new
    (meets_enumerate_newT l items n dct sl) ⟨hl, ?_⟩
  have hz : (s.heap.push { cls := .type "tuple_iterator", data := .fields #[.ref l, .int 0 0] }).objs.size = s.heap.objs.size + 1 := Heap.size_push ..
  show _ ∧ _
  rw [hz]
  have he : IsEnum ((s.heap.push { cls := .type "tuple_iterator", data := .fields #[.ref l, .int 0 0] }).push
      { cls := .type "enumerate", data := .fields #[.none, .bool false, .ref s.heap.objs.size, rawInt 0, .none, .none] }) (s.heap.objs.size + 1) s.heap.objs.size 0 .none := by
    have := Heap.get?_push_size (s.heap.push { cls := .type "tuple_iterator", data := .fields #[.ref l, .int 0 0] })
      (o := { cls := .type "enumerate", data := .fields #[.none, .bool false, .ref s.heap.objs.size, rawInt 0, .none, .none] }) rfl
    rw [hz] at this; exact this
  refine ⟨⟨_, he, rfl⟩, h _ he ⟨_, Heap.get?_push_of_some _ (Heap.get?_push_size _ rfl), rfl, rfl⟩ (by rw [Heap.size_push, hz]) fun b o x => Heap.get?_push_of_some _ (Heap.get?_push_of_some _ x)⟩
end
end PySem
namespace Rf
open PySem PySem.Spec PyProof.Rows L2
def IteT (K : PySem.W.Frag) (a : Addr) : L2.It :=
  ⟨fun i H => ∃ (xs : List V) (x : V), SqT K H a xs ∧ xs[i]? = some x, fun i H v H' => ∃ T x, v = .ref T ∧ H T = none ∧ H' = upd H T (.tup [.int (i : Nat), x]) ∧ ∀ xs, SqT K H a xs → xs[i]? = some x, fun i H => ∃ xs : List V, SqT K H a xs ∧ xs.length = i⟩
theorem turn_enumT {P : Program} {w : World} {K : PySem.W.Frag} {elts : List Expr} {kk : Nat} {tpos : Pos} (a e it : Addr) :
    Turn P w K (.Tuple elts kk tpos) (IteT K a) [e, it] e (fun i h => (∃ old, IsEnum h e it ((i : Nat) : Int) old) ∧ h.IsTupleIter it a i ∧ e ≠ it ∧ a ≠ it ∧ a ≠ e) where
  mem := by simp
  obj := fun i h st b hb => by
    obtain ⟨⟨old, he⟩, ⟨o, ho, hc, hd⟩, _⟩ := st
    have e' : b = e ∨ b = it := by simpa using hb
    rcases e' with z | z
    · rw [z]; exact ⟨_, he, fun v q => nomatch q⟩
    · rw [z]; exact ⟨o, ho, fun v q => by rw [hd] at q; cases q⟩
  keep := fun i h h' st k => let ⟨⟨old, he⟩, hi, hne⟩ := st; ⟨⟨old, k e (by simp) _ he⟩, hi.at fun o q => k it (by simp) o q, hne⟩
  item := by
    intro X hP hw hK hc i pins s σ H E I hf st hg
    subst hP hw hK
    obtain ⟨⟨old, he⟩, hit, hne, hai, hae⟩ := st
    obtain ⟨xs, x, hq, hx⟩ := hg
    obtain ⟨its, rv, p, hz⟩ := I.tuple hq
    obtain ⟨u, hu, ru⟩ := rv.get hx
    have hel : e < s.heap.objs.size := Heap.lt_size he
    have hil : it < s.heap.objs.size := by obtain ⟨_, q, _⟩ := hit; exact Heap.lt_size q
    have hi : i < its.toArray.size := by
      have := (List.getElem?_eq_some_iff.mp hu).1
      simpa using this
    refine wpAny_pyNext_enum_itemD (Draws.tuple (A := X.A.in1) (I.ok.hd hc) it a hai its.toArray) he ⟨hit, p⟩ hi hne (by simp; exact ⟨hne, Ne.symm hae⟩) fun y h' tk hy ho hst hT hsz hk => ?_
    have ey : y = u := by
      have : its.toArray[i]? = some u := by simpa using hu
      rw [this] at hy
      exact (Option.some.inj hy).symm
    subst ey
    refine ⟨_, rfl, wpAny_letOwnedTupleGo_enum (s := { s with heap := h', toks := tk + 1 }) ho fun h'' he' sb => ?_⟩
    have hT2 : h''.get? s.heap.objs.size = some { cls := .type "tuple", data := .seq #[.int i tk, y] } := (sb.2 _ (Nat.ne_of_gt hel)).trans hT
    have new : ObjOk X.prog X.w (upd H s.heap.objs.size (.tup [.int (i : Nat), x])) h'' s.heap.objs.size (.tup [.int (i : Nat), x]) :=
      ⟨by show 2 ≤ sizeLine; decide, [.int i tk, y], .cons ⟨_, rfl⟩ (.cons ru .nil), ⟨_, hT2, rfl, _, rfl⟩⟩
    have I1 : Inv X pins σ (upd H s.heap.objs.size (.tup [.int (i : Nat), x])) { s with heap := h'', toks := tk + 1 } :=
      I.turnedNew (ch := [e, it]) (fun b ob hb q => (sb.2 b (fun z => hb (by simp [z]))).trans (hk b ob (fun z => hb (by simp [z])) (fun z => hb (by simp [z])) q)) hf (Nat.le_refl _) new
    refine ⟨.ref s.heap.objs.size, _, I1, rfl, ⟨_, x, rfl, I.hok.fresh (Nat.le_refl _), rfl, fun ys hy => by rw [I.tuple_inj hy hq]; exact hx⟩, ⟨⟨y, ?_⟩, hst.1.at fun o q => (sb.2 it (Ne.symm hne)).trans q, hne, hai, hae⟩, fun b hb => ?_⟩
    · have e1 : ((i + 1 : Nat) : Int) = (i : Int) + 1 := by omega
      rw [e1]; exact he'
    · have hb' : b < s.heap.objs.size := by
        have e' : b = e ∨ b = it := by simpa using hb
        rcases e' with z | z
        · rw [z]; exact hel
        · rw [z]; exact hil
      rw [upd_ne (Nat.ne_of_lt hb')]
      exact (hf b hb).1
  done := by
    intro X hP hw hK hc i pins s σ H E I hf st hg
    subst hP hw hK
    obtain ⟨⟨old, he⟩, hit, hne, hai, hae⟩ := st
    obtain ⟨xs, hq, hx⟩ := hg
    obtain ⟨its, rv, p, hz⟩ := I.tuple hq
    obtain ⟨f0, f1, f2, f3, f4, f5⟩ := hf it (by simp)
    have hl := rv.length
    have hle : i = its.toArray.size := by simp; omega
    subst hle
    exact wpAny_pyNext_enum_endD (Draws.tuple (A := X.A.in1) (I.ok.hd hc) it a hai its.toArray) he ⟨hit, p⟩ fun h' eb => ⟨rfl, I.turned (t' := s.toks) (fun b o hb q => eb b o hb q) f0 f1 f3 f4 f5⟩
  self := fun A i s Q E st h => let ⟨⟨_, he⟩, _⟩ := st; wpAny_pyIter_enum he h
def iEnumA (K : PySem.W.Frag) (ta : TA) : TI := fun σ H R => ta σ H fun vs H1 => ∃ a xs, vs = [.ref a] ∧ ((SqL K H1 a xs ∧ R (Ite K a) H1) ∨ (SqT K H1 a xs ∧ R (IteT K a) H1))
theorem pi_enumA {X : Cx} {e : Expr} {ta : TA} {p pos tpos : Pos} {elts : List Expr} {kk : Nat} (hg : Gl X "enumerate") (hm : X.mg "enumerate" = none) (ha : PA X [e] ta) (hs : starEach [e] X.env = [(false, eval e X.env)] := by rfl) :
    PI X (.Tuple elts kk tpos) (.Call (.Name "enumerate" p) [e] [] pos) (iEnumA X.K ta) := by
  refine ⟨fun pins s σ H R I h => ?_⟩
  refine Call_ (ld_blt I hg hm boot_enumerate (PyProof.Rows.callWith_type1 (thn (ha.run pos pins s σ H _ I h) fun us s1 ⟨vs, H1, I1, r1, q1⟩ => ?_) hs rfl))
  obtain ⟨a, xs, ex, q⟩ := q1
  subst ex
  cases r1 with
  | cons r rr =>
    cases rr
    cases r
    have fin : ∀ b, b ∈ [s1.heap.objs.size + 1, s1.heap.objs.size] → FpOk X pins H1 b := fun b hb => by
      have e' : b = s1.heap.objs.size + 1 ∨ b = s1.heap.objs.size := by simpa using hb
      have hle : s1.heap.objs.size ≤ b := by
        rcases e' with z | z
        · rw [z]; exact Nat.le_add_right _ _
        · rw [z]; exact Nat.le_refl _
      exact I1.fpOk hle (I1.hok.fresh hle)
    rcases q with ⟨hq, q⟩ | ⟨hq, q⟩
    · obtain ⟨its, rv, p', hz⟩ := I1.list hq
      refine call_enumerate_list p'.isList fun h' he hit hsz hk => wpAny_pyIter_enum he ?_
      have I2 : Inv X pins σ H1 { s1 with heap := h' } := I1.kept (t' := s1.toks) hk
      exact ⟨s1.heap.objs.size + 1, [s1.heap.objs.size + 1, s1.heap.objs.size], _, _, H1, rfl, I2, turn_enum a (s1.heap.objs.size + 1) s1.heap.objs.size, ⟨⟨.none, he⟩, hit, Nat.succ_ne_self _⟩, fin, q⟩
    · obtain ⟨its, rv, p', hz⟩ := I1.tuple hq
      have hal : a < s1.heap.objs.size := by obtain ⟨o, ho, _⟩ := p'; exact Heap.lt_size ho
      refine call_enumerate_tuple p' fun h' he hit hsz hk => wpAny_pyIter_enum he ?_
      have I2 : Inv X pins σ H1 { s1 with heap := h' } := I1.kept (t' := s1.toks) hk
      exact ⟨s1.heap.objs.size + 1, [s1.heap.objs.size + 1, s1.heap.objs.size], _, _, H1, rfl, I2, turn_enumT a (s1.heap.objs.size + 1) s1.heap.objs.size, ⟨⟨.none, he⟩, hit, Nat.succ_ne_self _, Nat.ne_of_lt hal, Nat.ne_of_lt (Nat.lt_succ_of_lt hal)⟩, fin, q⟩
end Rf

set_option maxHeartbeats 2000000
/-! min of a list of data that lie in the heap. -/
namespace Rf
open PySem PySem.W PySem.Spec PyProof.Rows L2
/-- all of a heap stays -/
def Kpt (h h' : Heap) : Prop := ∀ b o, h.get? b = some o → h'.get? b = some o
/-- the comparison, wherever the old heap stands -/
def CmpAll (prog : Program) (w : World) (A : Around) (h0 : Heap) (P : Nat → Value → Prop) (bt : Nat → Nat → Bool) : Prop :=
  ∀ i j vi vj (s : Shared) (Q : Value → Shared → Prop) (E : Value → Shared → Prop), Kpt h0 s.heap → P i vi → P j vj → Q (.bool (bt i j)) s → wpAny (model prog w) A (richCompare .Lt vi vj) Q E s
section
variable {prog : Program} {w : World} {A : Around} {R : Result → Shared → Prop} {I S : Addr} {fp wr : List Addr} {n : Nat} {P : Nat → Value → Prop} {St : Nat → Heap → Prop} {h0 : Heap} {bt : Nat → Nat → Bool}
abbrev cell2 (vs : Array Value) (c : Nat) : Obj := { cls := .type "list", dict := none, data := .seq vs c, slots := #[] }
theorem mloop (W : Walks prog w A.in1 I fp wr n P St) (hc : CmpAll prog w A.in1 h0 P bt) (hSf : S ∉ fp) (hw : ∀ b o, h0.get? b = some o → b ∉ wr ∧ b ≠ S) (k : Nat) :
    ∀ (j : Nat) (s : Shared) (vb : Value) (c : Nat), n = j + 1 + k → St (j + 1) s.heap → P (argBest bt j) vb → Kpt h0 s.heap → s.heap.get? S = some (cell2 #[vb, vb] c) →
    (∀ v h' tk, P (argBest bt (n - 1)) v → Kpt h0 h' → (∀ b o, b ∉ wr → b ≠ S → s.heap.get? b = some o → h'.get? b = some o) → R (.ok (.ret v)) { s with heap := h', toks := tk }) →
    codeAny (model prog w) A (.builtin "min.loop" ⟨[.ref I, .none, .ref S], []⟩) R s := by
  have sw : S ∉ wr := fun z => hSf (W.sub _ z)
  have nm : (toString "min" ++ toString ".loop" : String) = "min.loop" := by decide
  induction k with
  | zero =>
    intro j s vb c e st hb hk hS q
    have e : n = j + 1 := e
    subst e
    refine codeAny_builtin F.entry_min_loop ?_
    rw [Around.under_plainId F.plain_min_loop _]
    show wpAny _ A.in1 (seqItems? (.ref S) >>= _) _ _ s
    refine wpAny_bind (wpAny_seqItems hS rfl ?_)
    show wpAny _ A.in1 (tryCatch (pyNext (.ref I)) _ >>= _) _ _ s
    refine wpAny_bind (wpAny_tryCatch (W.done s _ _ st fun h' tk kp => ?_))
    show wpAny _ A.in1 (updateSeq S (fun _ => #[]) >>= _) _ _ _
    refine wpAny_bind (wpAny_updateSeq (kp S _ sw hS) rfl (wpAny_bind (wpAny_letGo (wpAny_pure ?_))))
    have far : ∀ (f : Obj → Obj) b o, b ∉ wr → b ≠ S → s.heap.get? b = some o → (h'.update S f).get? b = some o := fun f b o h1 h2 h3 => (Heap.get?_update_other _ _ (Ne.symm h2)).trans (kp b o h1 h3)
    exact q vb _ tk hb (fun b o h => far _ b o (hw b o h).1 (hw b o h).2 (hk b o h)) (far _)
  | succ k ih =>
    intro j s vb c e st hb hk hS q
    refine codeAny_builtin F.entry_min_loop ?_
    rw [Around.under_plainId F.plain_min_loop _]
    show wpAny _ A.in1 (seqItems? (.ref S) >>= _) _ _ s
    refine wpAny_bind (wpAny_seqItems hS rfl ?_)
    show wpAny _ A.in1 (tryCatch (pyNext (.ref I)) _ >>= _) _ _ s
    refine wpAny_bind (wpAny_tryCatch (W.item (j + 1) s _ _ (by omega) st fun v h' tk hv st' kp => ?_))
    have hS1 := kp S _ sw hS
    have hk1 : Kpt h0 h' := fun b o h => kp b o (hw b o h).1 (hk b o h)
    show wpAny _ A.in1 (tryCatch (holding [v, v] (richCompare .Lt v vb >>= _)) _ >>= _) _ _ _
    refine wpAny_bind (wpAny_tryCatch (wpAny_holding (wpAny_bind (hc (j + 1) (argBest bt j) v vb _ _ _ hk1 hv hb ?_))))
    refine wpAny_bind (wpAny_holding (wpAny_truthy_bool ?_))
    refine wpAny_bind (wpAny_letGo (wpAny_pure ?_))
    have e' : n = j + 1 + 1 + k := by omega
    cases hbt : bt (j + 1) (argBest bt j) with
    | true =>
      simp only [if_true]
      refine wpAny_bind (wpAny_updateSeq hS1 rfl (wpAny_bind (wpAny_letGo ?_)))
      rw [nm]
      have far : ∀ (f : Obj → Obj) b o, b ≠ S → h'.get? b = some o → (h'.update S f).get? b = some o := fun f b o h2 h3 => (Heap.get?_update_other _ _ (Ne.symm h2)).trans h3
      refine wpAny_pure ⟨plainId_quiet F.plain_min_loop _, ih (j + 1) _ v _ e' (W.frame _ _ _ st' fun b hb2 o h => far _ b o (fun z => hSf (z ▸ hb2)) h) (by simp only [argBest, hbt, if_true]; exact hv) (fun b o h => far _ b o (hw b o h).2 (hk1 b o h)) (Heap.get?_update_self _ hS1 rfl) fun v' h'' tk' p1 p2 p3 => ?_⟩
      exact q v' h'' tk' p1 p2 fun b o h1 h2 h3 => p3 b o h1 h2 (far _ b o h2 (kp b o h1 h3))
    | false =>
      simp only [Bool.false_eq_true, if_false]
      refine wpAny_bind (wpAny_letGo ?_)
      rw [nm]
      refine wpAny_pure ⟨plainId_quiet F.plain_min_loop _, ih (j + 1) _ vb c e' st' (by simp only [argBest, hbt, Bool.false_eq_true, if_false]; exact hb) hk1 hS1 fun v' h'' tk' p1 p2 p3 => ?_⟩
      exact q v' h'' tk' p1 p2 fun b o h1 h2 h3 => p3 b o h1 h2 (kp b o h1 h3)
theorem mfirst (W : Walks prog w A.in1 I fp wr n P St) (hc : CmpAll prog w A.in1 h0 P bt) (hSf : S ∉ fp) (hw : ∀ b o, h0.get? b = some o → b ∉ wr ∧ b ≠ S) (hn : 0 < n) {s : Shared} {c : Nat} (st : St 0 s.heap) (hk : Kpt h0 s.heap) (hS : s.heap.get? S = some (cell2 #[] c))
    (q : ∀ v h' tk, P (argBest bt (n - 1)) v → Kpt h0 h' → R (.ok (.ret v)) { s with heap := h', toks := tk }) :
    codeAny (model prog w) A (.builtin "min.loop" ⟨[.ref I, .none, .ref S], []⟩) R s := by
  have sw : S ∉ wr := fun z => hSf (W.sub _ z)
  have nm : (toString "min" ++ toString ".loop" : String) = "min.loop" := by decide
  refine codeAny_builtin F.entry_min_loop ?_
  rw [Around.under_plainId F.plain_min_loop _]
  show wpAny _ A.in1 (seqItems? (.ref S) >>= _) _ _ s
  refine wpAny_bind (wpAny_seqItems hS rfl ?_)
  show wpAny _ A.in1 (tryCatch (pyNext (.ref I)) _ >>= _) _ _ s
  refine wpAny_bind (wpAny_tryCatch (W.item 0 s _ _ hn st fun v h' tk hv st' kp => ?_))
  have hS1 := kp S _ sw hS
  have hk1 : Kpt h0 h' := fun b o h => kp b o (hw b o h).1 (hk b o h)
  show wpAny _ A.in1 (updateSeq S (fun _ => #[v, v]) >>= _) _ _ _
  refine wpAny_bind (wpAny_updateSeq hS1 rfl ?_)
  rw [nm]
  have far : ∀ (f : Obj → Obj) b o, b ≠ S → h'.get? b = some o → (h'.update S f).get? b = some o := fun f b o h2 h3 => (Heap.get?_update_other _ _ (Ne.symm h2)).trans h3
  exact wpAny_pure ⟨plainId_quiet F.plain_min_loop _, mloop W hc hSf hw (n - 1) 0 _ v _ (by omega) (W.frame _ _ _ st' fun b hb2 o h => far _ b o (fun z => hSf (z ▸ hb2)) h) hv (fun b o h => far _ b o (hw b o h).2 (hk1 b o h)) (Heap.get?_update_self _ hS1 rfl) fun v' h'' tk' p1 p2 _ => q v' h'' tk' p1 p2⟩
end
section
variable {prog : Program} {w : World} {A : Around} {E : Value → Shared → Prop} {s : Shared}
theorem call_minH {l : Addr} {items : Array Value} {bt : Nat → Nat → Bool} {Q : Value → Shared → Prop} (hh : A.handled = none) (hl : s.heap.IsList l items) (hn : 0 < items.size)
    (hc : CmpAll prog w A.in1 s.heap (fun i v => items[i]? = some v) bt) (q : ∀ v h' tk, items[argBest bt (items.size - 1)]? = some v → Kpt s.heap h' → Q v { s with heap := h', toks := tk }) :
    wpAny (model prog w) A (call (.builtin "min") [.ref l]) Q E s := by
  have nm : (toString "min" ++ toString ".loop" : String) = "min.loop" := by decide
  refine call_function_tree F.kind_min F.plain_min F.entry_min (F.args_min1 _) ?_
  show wpAny _ A.in1 (Builtin.Builtins.bindParams "min" ["key", "default"] 0 ⟨[], []⟩ >>= _) _ _ s
  refine wpAny_bind (wpAny_of_eq (show Builtin.Builtins.bindParams "min" ["key", "default"] 0 ⟨[], []⟩ = pure [none, none] from rfl) ?_)
  refine wpAny_bind (wpAny_pure ?_)
  refine wpAny_bind (wpAny_pyIter_list hl ?_)
  refine wpAny_bind (wpAny_newObj_type ?_)
  rw [nm]
  have hal : l < s.heap.objs.size := by obtain ⟨o, ho, _⟩ := hl; exact Heap.lt_size ho
  have W := Walks.list (prog := prog) (w := w) (A := A.in1) hh s.heap.objs.size l (Nat.ne_of_lt hal) items
  have z1 : (s.heap.push { cls := .type "list_iterator", data := .fields #[.ref l, .int 0 0] }).objs.size = s.heap.objs.size + 1 := Heap.size_push ..
  have k1 : Kpt s.heap ((s.heap.push { cls := .type "list_iterator", data := .fields #[.ref l, .int 0 0] }).push { cls := .type "list", data := .seq #[] }) := fun b o h => Heap.get?_push_of_some _ (Heap.get?_push_of_some _ h)
  refine wpAny_pure ⟨plainId_quiet F.plain_min_loop _, mfirst (h0 := s.heap) W hc ?_ (fun b o h => ?_) hn ⟨⟨_, Heap.get?_push_of_some _ (Heap.get?_push_size _ rfl), rfl, rfl⟩, hl.at fun o h => k1 l o h⟩ k1 (Heap.get?_push_size _ rfl) fun v h' tk p1 p2 => q v h' tk p1 p2⟩
  · rw [z1]
    intro hm
    rcases List.mem_cons.mp hm with z | hm
    · exact absurd z (Nat.succ_ne_self _)
    · exact absurd (List.mem_singleton.mp hm) (Nat.ne_of_gt (Nat.lt_succ_of_lt hal))
  · have lt := Heap.lt_size h
    rw [z1]
    exact ⟨fun hm => absurd (List.mem_singleton.mp hm) (Nat.ne_of_lt lt), Nat.ne_of_lt (Nat.lt_succ_of_lt lt)⟩
end
theorem reads_len {h : Heap} : ∀ {vs : List Value} {ds : List PyData} {as : List Addr}, ReadsAll h vs ds as → vs.length = ds.length
  | _, _, _, .nil => rfl
  | _, _, _, .cons _ t => by rw [List.length_cons, List.length_cons, reads_len t]
theorem reads_get {h : Heap} : ∀ {vs : List Value} {ds : List PyData} {as : List Addr} {i : Nat} {v : Value}, ReadsAll h vs ds as → vs[i]? = some v → ∃ d as', ds[i]? = some d ∧ Reads h v d as'
  | _, _, _, _, _, .nil, e => by simp at e
  | _, _, _, 0, _, .cons r _, e => by
    simp at e
    subst e
    exact ⟨_, _, rfl, r⟩
  | _, _, _, i + 1, v, .cons _ t, e => by
    obtain ⟨d, as', h1, h2⟩ := reads_get (i := i) (v := v) t (by simpa using e)
    exact ⟨d, as', by simpa using h1, h2⟩
theorem vals_back : ∀ {xs : List V} {us : List Value} {i : Nat} {u : Value}, Vals xs us → us[i]? = some u → ∃ x, xs[i]? = some x ∧ RelV x u
  | _, _, _, _, .nil, e => by simp at e
  | _, _, 0, _, .cons r _, e => by
    simp at e
    subst e
    exact ⟨_, rfl, r⟩
  | _, _, i + 1, u, .cons _ t, e => by
    obtain ⟨x, h1, h2⟩ := vals_back (i := i) (u := u) t (by simpa using e)
    exact ⟨x, by simpa using h1, h2⟩
def rMinD (K : PySem.W.Frag) : List V → Hp → VK → Prop := fun vs H Q => ∃ (a : Addr) (xs : List V) (ds : List PyData), vs = [V.ref a] ∧ SqL K H a xs ∧ DpAll K H xs ds ∧ 0 < ds.length ∧
  (∀ d ∈ ds, SeqAt.shaped d = true ∧ d ≠ .none) ∧ (∀ d ∈ ds, ∀ e ∈ ds, alike d e = true) ∧ ∀ v, xs[leastAt ds]? = some v → Q v H
theorem cr_minD {X : Cx} (hc : X.calm = true) (hu : X.A.units + 66 < cLine) : CallR X (.builtin "min") (rMinD X.K) := by
  intro pins s σ H vs us Q I r h
  obtain ⟨a, xs, ds, rfl, hs, hd, hn, h1, h2, q⟩ := h
  obtain ⟨its, rv, hl, _⟩ := I.list hs
  rw [Vals.ref1 r]
  have hlen := rv.length
  obtain ⟨as, ra⟩ := Dp.readsAll I ds xs its hd rv
  have hl2 := reads_len ra
  refine call_minH (bt := fun i j => dataLt (ds.getD i .none) (ds.getD j .none)) (I.ok.hd hc) hl.isList (by rw [List.size_toArray, hl2]; exact hn) ?_ fun v h' tk hv hk => ?_
  · intro i j vi vj s' Q' E' hk hi hj q'
    obtain ⟨di, ai, e1, r1⟩ := reads_get ra (i := i) (v := vi) (by simpa using hi)
    obtain ⟨dj, aj, e2, r2⟩ := reads_get ra (i := j) (v := vj) (by simpa using hj)
    have g1 : ds.getD i .none = di := by rw [List.getD_eq_getElem?_getD, e1]; rfl
    have g2 : ds.getD j .none = dj := by rw [List.getD_eq_getElem?_getD, e2]; rfl
    simp only [g1, g2] at q'
    have m1 := List.mem_of_getElem? e1
    have m2 := List.mem_of_getElem? e2
    have hu' : X.A.in1.units + min di.depth dj.depth < cLine := SeqAt.room_of_shaped (h1 di m1).1 (by
      show X.A.units + 1 + 64 < cLine
      omega)
    exact lt_data (Reads.keeps hk r1) (Reads.keeps hk r2) (h2 di m1 dj m2) (h1 di m1).2 hu' q'
  · have hv : its[leastAt ds]? = some v := by
      have : its.toArray.size - 1 = ds.length - 1 := by rw [List.size_toArray, hl2]
      rw [this] at hv
      simpa [leastAt] using hv
    obtain ⟨x, hx, rx⟩ := vals_back rv hv
    exact ⟨x, H, I.kept hk, rx, q x hx⟩
end Rf

set_option maxHeartbeats 400000
/-! Operations by data. -/
namespace Rf
open PySem PySem.W L2
theorem lim_le : lim ≤ sizeLine := by decide
theorem le_size {n : Nat} (h : n ≤ lim) : n ≤ sizeLine := Nat.le_trans h lim_le
theorem lt_size {n : Nat} (h : n < lim) : n < sizeLine := Nat.lt_of_lt_of_le h lim_le

def bopOp : Bop → Operator
  | .add => .Add
  | .sub => .Sub
  | .mul => .Mult
  | .mod => .Mod
  | .fdiv => .FloorDiv
  | .pow => .Pow
def rBop (K : Frag) : Bop → R2
  | .add => fun x y H Q => (rI0 fun i j => V.int (i + j)) x y H Q ∨ (∃ i j, x = V.str i ∧ y = V.str j ∧ i.length + j.length ≤ sizeLine ∧ Q (V.str (i ++ j)) H) ∨ rCatA K x y H Q ∨ rCat x y H Q
  | .sub => rI0 fun i j => V.int (i - j)
  | .mul => fun x y H Q => (rI CMul fun i j => V.int (i * j)) x y H Q ∨ rRepT K x y H Q ∨ rRep1 K x y H Q
  | .mod => rI (fun x j => j ≠ 0) fun i j => V.int (i.fmod j)
  | .fdiv => rI CDivW fun i j => V.int (i / j)
  | .pow => rI CPow fun i j => V.int (i ^ j.toNat)
theorem opr_bop {X : Cx} : ∀ o : Bop, OpR X (binaryOp (bopOp o)) (rBop X.K o)
  | .add => OpR.or2 op_add (OpR.or2 op_add_str (OpR.or2 op_catA op_cat))
  | .sub => op_sub
  | .mul => OpR.or2 op_mul (OpR.or2 op_repT op_rep1)
  | .mod => op_modN
  | .fdiv => op_fdivW
  | .pow => op_pow

section
variable {K : Frag} {b : Bg} {S H : Hp} {g : Bag} {x y : V} {d e z : PyData} {Q : VK}
theorem Rp.int_inv {i : Int} (r : Rp K b S x (.int i)) : x = .int i := by cases r; rfl
theorem Rp.bl_inv {i : Bool} (r : Rp K b S x (.bool i)) : x = .bl i := by cases r; rfl
theorem Rp.str_inv {i : Str} (r : Rp K b S x (.str i)) : x = .str i := by cases r; rfl
theorem Rp.non_inv (r : Rp K b S x .none) : x = .non := by cases r; rfl
theorem Rp.lst_inv {ds : List PyData} (r : Rp K b S x (.list ds)) : ∃ a xs, x = .ref a ∧ S a = some (.lst xs) ∧ xs.length ≤ lim ∧ RpAll K b S xs ds := by
  cases r with
  | lst h l r => exact ⟨_, _, rfl, h, l, r⟩
theorem Rp.tup_inv {ds : List PyData} (r : Rp K b S x (.tuple ds)) : ∃ a xs, x = .ref a ∧ SqT K S a xs ∧ xs.length ≤ lim ∧ RpAll K b S xs ds := by
  cases r with
  | tup h l r => exact ⟨_, _, rfl, h, l, r⟩
theorem RpAll.nil_iff {xs : List V} {ds : List PyData} (r : RpAll K b S xs ds) : xs = [] ↔ ds = [] := by
  cases r with
  | nil => simp
  | cons => simp

theorem RpAll.rep {xs : List V} {ds : List PyData} (r : RpAll K b S xs ds) : ∀ n : Nat, RpAll K b S (List.replicate n xs).flatten (List.replicate n ds).flatten
  | 0 => .nil
  | n + 1 => by
    rw [List.replicate_succ, List.replicate_succ, List.flatten_cons, List.flatten_cons]
    exact r.append (RpAll.rep r n)
theorem bin_post {o : Bop} (B : Bs K b S g H) (rx : Rp K b S x d) (ry : Rp K b S y e) (h : binD o d e = some z) (P : Post K b S g H z Q) : rBop K o x y H Q := by
  unfold binD at h
  split at h
  · rename_i i j
    cases rx.int_inv
    cases ry.int_inv
    cases h
    exact .inl ⟨i, j, rfl, rfl, P.here B (.int _)⟩
  · rename_i i j
    cases rx.str_inv
    cases ry.str_inv
    split at h
    · rename_i hl
      cases h
      exact .inr (.inl ⟨i, j, rfl, rfl, le_size hl, P.here B (.str _)⟩)
    · cases h
  · rename_i ds es
    obtain ⟨a, xs, rfl, hx, lx, rx'⟩ := rx.tup_inv
    obtain ⟨c, ys, rfl, hy, ly, ry'⟩ := ry.tup_inv
    split at h
    · rename_i hl
      cases h
      refine .inr (.inr (.inl ⟨a, c, xs, ys, rfl, rfl, B.sub.sqT hx, B.sub.sqT hy, le_size (by rw [rx'.length, ry'.length]; exact hl), fun z => ?_, fun _ z => ?_, fun _ _ p hp => ?_⟩))
      · rw [rx'.nil_iff.mp z] at P
        exact P.here B ry
      · rw [ry'.nil_iff.mp z, List.append_nil] at P
        exact P.here B rx
      · exact P.tup B (rx'.append ry') (by rw [List.length_append]; exact hl) hp
    · cases h
  · rename_i ds es
    obtain ⟨a, xs, rfl, hx, lx, rx'⟩ := rx.lst_inv
    obtain ⟨c, ys, rfl, hy, ly, ry'⟩ := ry.lst_inv
    split at h
    · rename_i hl
      cases h
      exact .inr (.inr (.inr ⟨a, c, xs, ys, rfl, rfl, B.sub _ _ hx, B.sub _ _ hy, le_size (by rw [rx'.length, ry'.length]; exact hl), fun p hp => P.lst B (rx'.append ry') (by rw [List.length_append]; exact hl) hp⟩))
    · cases h
  · rename_i i j
    cases rx.int_inv
    cases ry.int_inv
    cases h
    exact ⟨i, j, rfl, rfl, P.here B (.int _)⟩
  · rename_i i j
    cases rx.int_inv
    cases ry.int_inv
    split at h
    · rename_i hl
      cases h
      exact .inl ⟨i, j, rfl, rfl, hl, P.here B (.int _)⟩
    · cases h
  · rename_i ds k
    obtain ⟨a, xs, rfl, hx, lx, rx'⟩ := rx.tup_inv
    cases ry.int_inv
    split at h
    · rename_i hl
      obtain ⟨h1, h2, h3, h4⟩ := hl
      cases h
      by_cases k1 : k = 1
      · subst k1
        refine .inr (.inr ⟨a, xs, rfl, rfl, B.sub.sqT hx, ?_⟩)
        rw [show (List.replicate (1 : Int).toNat ds).flatten = ds by simp] at P
        exact P.here B rx
      · refine .inr (.inl ⟨a, k, xs, rfl, rfl, B.sub.sqT hx, fun z => h1 (rx'.nil_iff.mp z), by omega, h3, by rw [rx'.length]; exact h4, fun p hp => ?_⟩)
        refine P.tup B (rx'.rep k.toNat) ?_ hp
        rw [List.length_flatten, List.map_replicate, List.sum_replicate_nat]
        have : k.toNat * ds.length ≤ 1000 * 1000 := Nat.mul_le_mul (by omega) h4
        simp only [lim]
        omega
    · cases h
  · rename_i i j
    cases rx.int_inv
    cases ry.int_inv
    split at h
    · rename_i hl
      cases h
      exact ⟨i, j, rfl, rfl, Int.ne_of_gt hl, P.here B (by show Rp K b S (V.int (i.fmod j)) _; rw [Int.fmod_eq_emod_of_nonneg _ (Int.le_of_lt hl)]; exact .int _)⟩
    · cases h
  · rename_i i j
    cases rx.int_inv
    cases ry.int_inv
    split at h
    · rename_i hl
      cases h
      exact ⟨i, j, rfl, rfl, hl, P.here B (.int _)⟩
    · cases h
  · rename_i i j
    cases rx.int_inv
    cases ry.int_inv
    split at h
    · rename_i hl
      cases h
      exact ⟨i, j, rfl, rfl, hl, P.here B (.int _)⟩
    · cases h
  · cases h
end

/-! ### comparisons -/
def copOp : Cop → CmpOp
  | .eq => .Eq
  | .ne => .NotEq
  | .lt => .Lt
  | .le => .LtE
  | .gt => .Gt
  | .ge => .GtE
  | .is => .Is
  | .nis => .IsNot
  | .mem => .In
  | .nmem => .NotIn
def rOrd (K : Frag) (f : PyData → PyData → Bool) : R2 := fun x y H Q => ∃ d e, Dp K H x d ∧ Dp K H y e ∧ okLt d e = true ∧ Q (.bl (f d e)) H
theorem okLt_inv {d e : PyData} (h : okLt d e = true) : SeqAt.shaped d = true ∧ SeqAt.shaped e = true ∧ alike d e = true ∧ d ≠ .none := by
  unfold okLt at h
  simp only [Bool.and_eq_true, Bool.not_eq_true'] at h
  refine ⟨h.1.1.1, h.1.1.2, h.1.2, fun z => ?_⟩
  rw [z] at h
  simp [isNone] at h
theorem op_ord {X : Cx} {op : CmpOp} {f : PyData → PyData → Bool} (hu : X.A.units + 64 < cLine)
    (hf : ∀ (s : Shared) (a b : Value) (da db : PyData) (as bs : List Addr) (Q : Value → Shared → Prop), Reads s.heap a da as → Reads s.heap b db bs → alike da db = true → da ≠ .none → X.A.units + min da.depth db.depth < cLine → Q (.bool (f da db)) s → wpAny (model X.prog X.w) X.A (compareOp op a b) Q X.xe s) :
    OpR X (compareOp op) (rOrd X.K f) := by
  intro pins s σ H x y v u Q I rx ry h
  obtain ⟨d, e, hd, he, ok, q⟩ := h
  obtain ⟨sd, se, al, nn⟩ := okLt_inv ok
  obtain ⟨as, r1⟩ := Dp.reads I d x v hd rx
  obtain ⟨bs, r2⟩ := Dp.reads I e y u he ry
  exact hf s v u d e as bs _ r1 r2 al nn (SeqAt.room_of_shaped sd hu) ⟨.bl _, H, I, rfl, q⟩
def rCop (K : Frag) : Cop → R2
  | .eq => rEqD K
  | .ne => rNeD K
  | .lt => rOrd K fun d e => dataLt d e
  | .gt => rOrd K fun d e => dataLt e d
  | .le => rOrd K fun d e => !dataLt e d
  | .ge => rOrd K fun d e => !dataLt d e
  | .is => fun x y H Q => (y = V.non ∧ Q (V.bl (decide (x = V.non))) H) ∨ rIsB x y H Q
  | .nis => fun x y H Q => (y = V.non ∧ Q (V.bl !decide (x = V.non)) H) ∨ rNotB x y H Q
  | .mem => fun x y H Q => rInD K x y H Q ∨ rIn K false x y H Q ∨ (∃ c z, x = V.str ⟨#[c]⟩ ∧ y = V.str z ∧ Q (V.bl (decide (c ∈ z.cps.toList))) H)
  | .nmem => fun x y H Q => rNotInD K x y H Q ∨ rIn K true x y H Q ∨ (∃ c z, x = V.str ⟨#[c]⟩ ∧ y = V.str z ∧ Q (V.bl !decide (c ∈ z.cps.toList)) H)
theorem opr_cop {X : Cx} (hu : X.A.units + 65 < cLine) : ∀ o : Cop, OpR X (compareOp (copOp o)) (rCop X.K o)
  | .eq => op_eqD (by omega)
  | .ne => op_neD (by omega)
  | .lt => op_ord (by omega) fun s a b da db as bs Q ra rb al nn hu q => lt_data ra rb al nn hu q
  | .gt => op_ord (by omega) fun s a b da db as bs Q ra rb al nn hu q => gt_data ra rb al nn hu q
  | .le => op_ord (by omega) fun s a b da db as bs Q ra rb al nn hu q => le_data ra rb al nn hu q
  | .ge => op_ord (by omega) fun s a b da db as bs Q ra rb al nn hu q => ge_data ra rb al nn hu q
  | .is => OpR.or2 op_isN op_isBl
  | .nis => OpR.or2 op_notN op_notBl
  | .mem => OpR.or2 (op_inD hu) (OpR.or2 op_in_seq op_in_sign)
  | .nmem => OpR.or2 (op_notInD hu) (OpR.or2 op_notIn_seq op_notIn_sign)

section
variable {K : Frag} {b : Bg} {S H : Hp} {g : Bag} {x y : V} {d e : PyData} {z : Bool} {Q : VK}
theorem ne_non (r : Rp K b S x d) (h : ∀ kvs, d ≠ .dict kvs) : decide (x = V.non) = (match d with | .none => true | _ => false) := by
  cases r with
  | non => rfl
  | bag => exact absurd rfl (h [])
  | _ => rfl
theorem Rp.flat (r : Rp K b S x d) (h : scalar d = true) : flatV x = true := by
  cases r with
  | non => rfl
  | bl => rfl
  | int => rfl
  | str => rfl
  | lst => cases h
  | tup => cases h
  | bag => cases h
theorem RpAll.flat : ∀ {xs : List V} {ds : List PyData}, RpAll K b S xs ds → ds.all scalar = true → xs.all flatV = true
  | _, _, .nil, _ => rfl
  | _, _, .cons h t, c => by
    simp only [List.all_cons, Bool.and_eq_true] at c ⊢
    exact ⟨h.flat c.1, t.flat c.2⟩
theorem eqV_eqv (rx : Rp K b S x d) (ry : Rp K b S y e) (hd : scalar d = true) (he : scalar e = true) : eqV x y = PyData.eqv d e := by
  have k : ∀ {w : V} {f : PyData}, Rp K b S w f → scalar f = true → (w = .non ∧ f = .none) ∨ (∃ c, w = .bl c ∧ f = .bool c) ∨ (∃ c, w = .int c ∧ f = .int c) ∨ ∃ c, w = .str c ∧ f = .str c := fun r h => by
    cases r with
    | non => exact .inl ⟨rfl, rfl⟩
    | bl c => exact .inr (.inl ⟨c, rfl, rfl⟩)
    | int c => exact .inr (.inr (.inl ⟨c, rfl, rfl⟩))
    | str c => exact .inr (.inr (.inr ⟨c, rfl, rfl⟩))
    | lst => cases h
    | tup => cases h
    | bag => cases h
  rcases k rx hd with ⟨rfl, rfl⟩ | ⟨c, rfl, rfl⟩ | ⟨c, rfl, rfl⟩ | ⟨c, rfl, rfl⟩ <;>
  rcases k ry he with ⟨rfl, rfl⟩ | ⟨c', rfl, rfl⟩ | ⟨c', rfl, rfl⟩ | ⟨c', rfl, rfl⟩ <;> simp [eqV, PyData.eqv]
theorem inV_eqv (rx : Rp K b S x d) (hd : scalar d = true) : ∀ {ys : List V} {es : List PyData}, RpAll K b S ys es → es.all scalar = true → inV x ys = es.any fun z => PyData.eqv z d
  | _, _, .nil, _ => rfl
  | _, _, .cons h t, c => by
    simp only [List.all_cons, Bool.and_eq_true] at c
    have ih := inV_eqv rx hd t c.2
    unfold inV at ih ⊢
    simp only [List.any_cons]
    rw [eqV_eqv h rx c.1 hd, ih]
theorem cmp_post {o : Cop} (B : Bs K b S g H) (rx : Rp K b S x d) (ry : Rp K b S y e) (h : cmpD o d e = some z) (P : Post K b S g H (.bool z) Q) : rCop K o x y H Q := by
  unfold cmpD at h
  split at h
  · split at h
    · rename_i c
      cases h
      simp only [Bool.and_eq_true] at c
      exact ⟨_, _, rx.dp B.sub (SeqAt.canLay_of_shaped c.1), ry.dp B.sub (SeqAt.canLay_of_shaped c.2), c.1, c.2, P.here B (.bl _)⟩
    · cases h
  · split at h
    · rename_i c
      cases h
      simp only [Bool.and_eq_true] at c
      exact ⟨_, _, rx.dp B.sub (SeqAt.canLay_of_shaped c.1), ry.dp B.sub (SeqAt.canLay_of_shaped c.2), c.1, c.2, P.here B (.bl _)⟩
    · cases h
  · split at h
    · rename_i c
      cases h
      obtain ⟨sd, se, al, nn⟩ := okLt_inv c
      exact ⟨_, _, rx.dp B.sub (SeqAt.canLay_of_shaped sd), ry.dp B.sub (SeqAt.canLay_of_shaped se), c, P.here B (.bl _)⟩
    · cases h
  · split at h
    · rename_i c
      cases h
      obtain ⟨sd, se, al, nn⟩ := okLt_inv c
      exact ⟨_, _, rx.dp B.sub (SeqAt.canLay_of_shaped sd), ry.dp B.sub (SeqAt.canLay_of_shaped se), c, P.here B (.bl _)⟩
    · cases h
  · split at h
    · rename_i c
      cases h
      obtain ⟨sd, se, al, nn⟩ := okLt_inv c
      exact ⟨_, _, rx.dp B.sub (SeqAt.canLay_of_shaped sd), ry.dp B.sub (SeqAt.canLay_of_shaped se), c, P.here B (.bl _)⟩
    · cases h
  · split at h
    · rename_i c
      cases h
      obtain ⟨sd, se, al, nn⟩ := okLt_inv c
      exact ⟨_, _, rx.dp B.sub (SeqAt.canLay_of_shaped sd), ry.dp B.sub (SeqAt.canLay_of_shaped se), c, P.here B (.bl _)⟩
    · cases h
  · cases ry.non_inv
    refine .inl ⟨rfl, ?_⟩
    cases rx with
    | bag => cases h
    | non => cases h; exact P.here B (.bl _)
    | bl => cases h; exact P.here B (.bl _)
    | int => cases h; exact P.here B (.bl _)
    | str => cases h; exact P.here B (.bl _)
    | lst => cases h; exact P.here B (.bl _)
    | tup => cases h; exact P.here B (.bl _)
  · cases ry.non_inv
    refine .inl ⟨rfl, ?_⟩
    cases rx with
    | bag => cases h
    | non => cases h; exact P.here B (.bl _)
    | bl => cases h; exact P.here B (.bl _)
    | int => cases h; exact P.here B (.bl _)
    | str => cases h; exact P.here B (.bl _)
    | lst => cases h; exact P.here B (.bl _)
    | tup => cases h; exact P.here B (.bl _)
  · rename_i c1 c2
    cases rx.bl_inv
    cases ry.bl_inv
    cases h
    refine .inr ⟨_, _, rfl, rfl, ?_⟩
    have e : decide (c1 = c2) = (c1 == c2) := by cases c1 <;> cases c2 <;> rfl
    rw [e]
    exact P.here B (.bl _)
  · rename_i c1 c2
    cases rx.bl_inv
    cases ry.bl_inv
    cases h
    refine .inr ⟨_, _, rfl, rfl, ?_⟩
    have e : (!decide (c1 = c2)) = (c1 != c2) := by cases c1 <;> cases c2 <;> rfl
    rw [e]
    exact P.here B (.bl _)
  · split at h
    · rename_i c
      cases h
      simp only [Bool.and_eq_true] at c
      exact .inl ⟨_, _, rx.dp B.sub (SeqAt.canLay_of_shaped c.1), ry.dp B.sub (SeqAt.canLay_of_shaped c.2), c.1, c.2, P.here B (.bl _)⟩
    · cases h
  · split at h
    · rename_i c
      cases h
      simp only [Bool.and_eq_true] at c
      exact .inl ⟨_, _, rx.dp B.sub (SeqAt.canLay_of_shaped c.1), ry.dp B.sub (SeqAt.canLay_of_shaped c.2), c.1, c.2, P.here B (.bl _)⟩
    · cases h
  · split at h
    · rename_i c
      cases h
      simp only [Bool.and_eq_true] at c
      obtain ⟨a, xs, rfl, hx, _, r⟩ := ry.tup_inv
      refine .inr (.inl ⟨a, xs, rfl, .inr (B.sub.sqT hx), rx.flat c.1.1.1, r.flat c.1.1.2, ?_⟩)
      show Q (V.bl (inV x xs)) H
      rw [inV_eqv rx c.1.1.1 r c.1.1.2]
      exact P.here B (.bl _)
    · cases h
  · split at h
    · rename_i c
      cases h
      simp only [Bool.and_eq_true] at c
      obtain ⟨a, xs, rfl, hx, _, r⟩ := ry.tup_inv
      refine .inr (.inl ⟨a, xs, rfl, .inr (B.sub.sqT hx), rx.flat c.1.1.1, r.flat c.1.1.2, ?_⟩)
      show Q (V.bl (!inV x xs)) H
      rw [inV_eqv rx c.1.1.1 r c.1.1.2]
      exact P.here B (.bl _)
    · cases h
  · rename_i u v
    split at h
    · rename_i c hc
      cases h
      cases rx.str_inv
      cases ry.str_inv
      have e : u = (⟨#[c]⟩ : Str) := by
        cases u with
        | mk cs =>
          have : cs = #[c] := by
            apply Array.ext'
            simpa using hc
          rw [this]
      exact .inr (.inr ⟨c, _, by rw [e], rfl, P.here B (.bl _)⟩)
    · cases h
  · rename_i u v
    split at h
    · rename_i c hc
      cases h
      cases rx.str_inv
      cases ry.str_inv
      have e : u = (⟨#[c]⟩ : Str) := by
        cases u with
        | mk cs =>
          have : cs = #[c] := by
            apply Array.ext'
            simpa using hc
          rw [this]
      exact .inr (.inr ⟨c, _, by rw [e], rfl, P.here B (.bl _)⟩)
    · cases h
  · cases h
end

/-! ### items, slices, built-ins of one argument, isinstance -/
section
variable {K : Frag} {b : Bg} {S H : Hp} {g : Bag} {x y : V} {d e z : PyData} {Q : VK}
theorem RpAll.atI {xs : List V} {ds : List PyData} {i : Int} {d : PyData} (r : RpAll K b S xs ds) (h : L2.atI ds i = some d) : ∃ v, L2.atI xs i = some v ∧ Rp K b S v d := by
  unfold L2.atI at h ⊢
  rw [r.length]
  cases e : ixN ds.length i with
  | none =>
    rw [e] at h
    cases h
  | some j =>
    rw [e] at h
    exact r.get h
theorem ix_post (B : Bs K b S g H) (rx : Rp K b S x d) (ry : Rp K b S y e) (h : ixD d e = some z) (P : Post K b S g H z Q) : rIx K x y H Q := by
  unfold ixD at h
  split at h
  · obtain ⟨a, xs, rfl, hx, _, r⟩ := rx.lst_inv
    cases ry.int_inv
    obtain ⟨v, h1, h2⟩ := r.atI h
    exact .inl ⟨a, xs, _, v, rfl, rfl, .inl (.inl (B.sub _ _ hx)), h1, P.here B h2⟩
  · obtain ⟨a, xs, rfl, hx, _, r⟩ := rx.tup_inv
    cases ry.int_inv
    obtain ⟨v, h1, h2⟩ := r.atI h
    exact .inr (.inl ⟨a, xs, _, v, rfl, rfl, B.sub.sqT hx, h1, P.here B h2⟩)
  · rename_i s i
    cases rx.str_inv
    cases ry.int_inv
    split at h
    · rename_i hl
      cases e : L2.atI s.cps.toList i with
      | none =>
        rw [e] at h
        cases h
      | some c =>
        rw [e] at h
        cases h
        exact .inr (.inr ⟨s, i, c, rfl, rfl, le_size hl, e, P.here B (.str _)⟩)
    · cases h
  · cases h
def rSlAny (K : Frag) : V → Option Int → Option Int → Hp → VK → Prop := fun x lo hi H Q => rSlL K x lo hi H Q ∨ rSlA K x lo hi H Q ∨ rSlS x lo hi H Q
theorem sl_any {X : Cx} : SlR X (rSlAny X.K) := sl_list.or (sl_tupA.or sl_str)
theorem cut_length {α : Type} (xs : List α) (lo hi : Option Int) : (Rf.cut xs lo hi).length ≤ xs.length := by
  unfold Rf.cut
  rw [List.length_take, List.length_drop]
  omega
theorem cut_whole {α : Type} {xs : List α} {lo hi : Option Int} (h : HT.sIx xs.length 0 lo = 0 ∧ HT.sIx xs.length xs.length hi = xs.length) : Rf.cut xs lo hi = xs := by
  unfold Rf.cut
  rw [h.1, h.2, List.drop_zero, Nat.sub_zero, List.take_length]
theorem sl_post {lo hi : Option Int} (B : Bs K b S g H) (rx : Rp K b S x d) (h : slD d lo hi = some z) (P : Post K b S g H z Q) : rSlAny K x lo hi H Q := by
  unfold slD at h
  split at h
  · cases h
    obtain ⟨a, xs, rfl, hx, l, r⟩ := rx.lst_inv
    exact .inl ⟨a, xs, rfl, .inl (.inl (B.sub _ _ hx)), fun p hp => P.lst B (r.cut lo hi) (Nat.le_trans (cut_length _ _ _) (by rw [← r.length]; exact l)) hp⟩
  · cases h
    obtain ⟨a, xs, rfl, hx, l, r⟩ := rx.tup_inv
    refine .inr (.inl ⟨a, xs, rfl, B.sub.sqT hx, fun w => ?_, fun _ p hp => P.tup B (r.cut lo hi) (Nat.le_trans (cut_length _ _ _) (by rw [← r.length]; exact l)) hp⟩)
    rw [r.length] at w
    rw [cut_whole w] at P
    exact P.here B rx
  · rename_i s
    cases rx.str_inv
    split at h
    · rename_i hl
      cases h
      exact .inr (.inr ⟨s, rfl, le_size hl, P.here B (.str _)⟩)
    · cases h
  · cases h

theorem RpAll.zip_mem : ∀ {xs : List V} {ds : List PyData}, RpAll K b S xs ds → ∀ z ∈ xs.zip ds, Rp K b S z.1 z.2
  | _, _, .nil, z, h => by simp at h
  | _, _, .cons r t, z, h => by
    rcases List.mem_cons.mp h with rfl | h
    · exact r
    · exact t.zip_mem z h
theorem RpAll.of_pairs : ∀ {zs : List (V × PyData)}, (∀ z ∈ zs, Rp K b S z.1 z.2) → RpAll K b S (zs.map (·.1)) (zs.map (·.2))
  | [], _ => .nil
  | z :: zs, h => .cons (h z List.mem_cons_self) (RpAll.of_pairs fun y m => h y (List.mem_cons_of_mem _ m))
theorem RpAll.perm {xs : List V} {ds : List PyData} {zs : List (V × PyData)} (r : RpAll K b S xs ds) (h : zs.Perm (xs.zip ds)) : RpAll K b S (zs.map (·.1)) (zs.map (·.2)) :=
  RpAll.of_pairs fun z m => r.zip_mem z (h.mem_iff.mp m)
theorem canLayAll_of : ∀ {ds : List PyData}, (∀ d ∈ ds, d.canLay0 = true) → PyData.canLayAll0 ds = true
  | [], _ => rfl
  | d :: ds, h => by
    simp only [PyData.canLayAll0, Bool.and_eq_true]
    exact ⟨h d List.mem_cons_self, canLayAll_of fun e m => h e (List.mem_cons_of_mem _ m)⟩
theorem allAlike_lay {ds : List PyData} (h : allAlike ds = true) : PyData.canLayAll0 ds = true := by
  unfold allAlike at h
  simp only [Bool.and_eq_true, List.all_eq_true] at h
  exact canLayAll_of fun d m => SeqAt.canLay_of_shaped (h.1 d m).2
theorem bools_inv : ∀ {xs : List V} {ds : List PyData} {bs : List Bool}, RpAll K b S xs ds → boolsOf ds = some bs → xs = bs.map V.bl
  | _, _, _, .nil, h => by
    cases h
    rfl
  | _, d :: ds, bs, .cons h t, e => by
    cases d with
    | bool c =>
      cases e2 : boolsOf ds with
      | none =>
        simp [boolsOf, e2] at e
      | some cs =>
        simp [boolsOf, e2] at e
        subst e
        rw [h.bl_inv, bools_inv t e2]
        rfl
    | _ => simp [boolsOf] at e
theorem ints_inv : ∀ {xs : List V} {ds : List PyData} {bs : List Int}, RpAll K b S xs ds → intsOf ds = some bs → xs = bs.map V.int
  | _, _, _, .nil, h => by
    cases h
    rfl
  | _, d :: ds, bs, .cons h t, e => by
    cases d with
    | int c =>
      cases e2 : intsOf ds with
      | none =>
        simp [intsOf, e2] at e
      | some cs =>
        simp [intsOf, e2] at e
        subst e
        rw [h.int_inv, ints_inv t e2]
        rfl
    | _ => simp [intsOf] at e
end
end Rf

set_option maxHeartbeats 400000
/-! The check that a text is what the small language says, and the rules. -/
namespace Rf
open PySem PySem.W L2

structure Shp where
  x : Str
  n : Nat
  ks : List Str
structure Tab where
  N : List Str
  glos : List Str
  shs : List Shp

def isVis (sc : Scope) (x : Str) : Bool := match sc.names.lookup x with
  | some .local => true
  | some .cell => true
  | some .free => true
  | _ => false
def isLoc (sc : Scope) (x : Str) : Bool := match sc.names.lookup x with
  | some .local => true
  | some .cell => true
  | _ => false
def isLocal (sc : Scope) (x : Str) : Bool := match sc.names.lookup x with
  | some .local => true
  | _ => false
def isGl (sc : Scope) (x : Str) : Bool := match sc.names.lookup x with
  | some .globalImplicit => true
  | _ => false
theorem isVis_ok {sc : Scope} {x : Str} (h : isVis sc x = true) : Vis sc x := by
  unfold isVis at h
  split at h
  · rename_i e; exact .inl e
  · rename_i e; exact .inr (.inl e)
  · rename_i e; exact .inr (.inr e)
  · cases h
theorem isLoc_ok {sc : Scope} {x : Str} (h : isLoc sc x = true) : Loc sc x := by
  unfold isLoc at h
  split at h
  · rename_i e; exact .inl e
  · rename_i e; exact .inr e
  · cases h
theorem isLocal_ok {sc : Scope} {x : Str} (h : isLocal sc x = true) : sc.names.lookup x = some .local := by
  unfold isLocal at h
  split at h
  · rename_i e; exact e
  · cases h
theorem isGl_ok {sc : Scope} {x : Str} (h : isGl sc x = true) : sc.names.lookup x = some .globalImplicit := by
  unfold isGl at h
  split at h
  · rename_i e; exact e
  · cases h

/-- a name that is not asked by special rules -/
def plainN (x : Str) : Bool := !(x == ("__debug__" : Str)) && !(x == ("__classdict__" : Str)) && !(x == ("__name__" : Str))
def sameBop : Bop → Operator → Bool
  | .add, .Add => true
  | .sub, .Sub => true
  | .mul, .Mult => true
  | .mod, .Mod => true
  | .fdiv, .FloorDiv => true
  | .pow, .Pow => true
  | _, _ => false
theorem sameBop_ok {o : Bop} {p : Operator} (h : sameBop o p = true) : p = bopOp o := by
  cases o <;> cases p <;> first | rfl | cases h
def sameCop : Cop → CmpOp → Bool
  | .eq, .Eq => true
  | .ne, .NotEq => true
  | .lt, .Lt => true
  | .le, .LtE => true
  | .gt, .Gt => true
  | .ge, .GtE => true
  | .is, .Is => true
  | .nis, .IsNot => true
  | .mem, .In => true
  | .nmem, .NotIn => true
  | _, _ => false
theorem sameCop_ok {o : Cop} {p : CmpOp} (h : sameCop o p = true) : p = copOp o := by
  cases o <;> cases p <;> first | rfl | cases h
def notStar : Expr → Bool
  | .Starred _ _ => false
  | _ => true
theorem starEach_of {e : Expr} {es : List Expr} {env : PySem.Env} (h : notStar e = true) : starEach (e :: es) env = (false, eval e env) :: starEach es env := by
  cases e <;> first | rfl | cases h
def notSlice : Expr → Bool
  | .Slice _ _ _ _ => false
  | _ => true
theorem plainIx_of {e : Expr} (h : notSlice e = true) : PlainIx e := by
  cases e <;> first | (intro o i; rfl) | cases h
def notSet : Expr → Bool
  | .Set _ _ _ => false
  | _ => true
theorem folded_of {e : Expr} {env : PySem.Env} (h : notSet e = true) : ∀ x, foldedSetIterable e env x = pure x := by
  cases e <;> first | (intro x; rfl) | cases h
def notComp : Expr → Bool
  | .ListComp _ _ _ _ => false
  | .SetComp _ _ _ _ => false
  | .DictComp _ _ _ _ _ => false
  | _ => true
theorem swaps_of {e : Expr} {t : Option Expr} {l : Nat} {env : PySem.Env} (h : notComp e = true) : swapsWith e t l env = pure false := by
  cases e <;> first | rfl | cases h

/-- the name by which a built-in is called; its keyword -/
def biName : Bi → Str
  | .len => "len"
  | .all => "all"
  | .sum => "sum"
  | .sorted => "sorted"
  | .rev => "sorted"
  | .tuple => "tuple"
  | .list => "list"
  | .int => "int"
  | .str => "str"
  | .min => "min"
  | .max => "max"
def tyName : Ty → Str
  | .int => "int"
  | .str => "str"
  | .bool => "bool"
  | .list => "list"
  | .tuple => "tuple"
def chkTy (sc : Scope) : Ty → Expr → Bool
  | t, .Name x _ => decide (x = tyName t) && isGl sc x
  | _, _ => false
def chkTys (sc : Scope) : List Ty → List Expr → Bool
  | [], [] => true
  | t :: ts, e :: es => chkTy sc t e && chkTys sc ts es
  | _, _ => false
def chkCon : PyData → Expr → Bool
  | .int i, .Constant (.int j) _ _ => decide (i = j)
  | .bool i, .Constant (.bool j) _ _ => i == j
  | .str i, .Constant (.str j) _ _ => decide (i = j)
  | .none, .Constant .none _ _ => true
  | _, _ => false

def isTrueC : Expr → Bool
  | .Constant (.bool true) _ _ => true
  | _ => false
theorem isTrueC_ok {v : Expr} (h : isTrueC v = true) : ∃ j p, v = .Constant (.bool true) j p := by
  unfold isTrueC at h
  split at h
  · exact ⟨_, _, rfl⟩
  · cases h
def isTupE : Expr → Bool
  | .Tuple _ _ _ => true
  | _ => false
def isNeg1 : Expr → Bool
  | .UnaryOp .USub (.Constant (.int i) _ _) _ => decide (i = 1)
  | _ => false
theorem isNeg1_ok {v : Expr} (h : isNeg1 v = true) : ∃ j p q, v = .UnaryOp .USub (.Constant (.int 1) j p) q := by
  unfold isNeg1 at h
  split at h
  · cases of_decide_eq_true h
    exact ⟨_, _, _, rfl⟩
  · cases h
def revArg : Expr → Option Expr
  | .Subscript x (.Slice none none (some c) _) _ => if isNeg1 c then some x else none
  | _ => none
theorem revArg_ok {e x : Expr} (h : revArg e = some x) : ∃ c p q, isNeg1 c = true ∧ e = .Subscript x (.Slice none none (some c) p) q := by
  unfold revArg at h
  split at h
  · split at h
    · rename_i hc
      cases h
      exact ⟨_, _, _, hc, rfl⟩
    · cases h
  · cases h
def joinArgs : Expr → Option (Expr × Expr)
  | .Call (.Attribute (.Constant c j q) m p2) [y] [] p3 => if decide (m = "join") && notStar y && (p2.endLine == p3.line) then some (.Constant c j q, y) else none
  | _ => none
theorem joinArgs_ok {e x y : Expr} (h : joinArgs e = some (x, y)) : ∃ (c : Const) (j : Nat) (q : Pos) (m : Str) (p2 p3 : Pos), m = "join" ∧ notStar y = true ∧ (p2.endLine == p3.line) = true ∧ x = .Constant c j q ∧ e = .Call (.Attribute (.Constant c j q) m p2) [y] [] p3 := by
  unfold joinArgs at h
  split at h
  · split at h
    · rename_i hc
      simp only [Bool.and_eq_true] at hc
      cases h
      exact ⟨_, _, _, _, _, _, of_decide_eq_true hc.1.1, hc.1.2, hc.2, rfl, rfl⟩
    · cases h
  · cases h
mutual
def chkTg (N : List Str) (sc : Scope) : Tg → Expr → Bool
  | .n i, .Name x _ => decide (N[i]? = some x) && isLoc sc x
  | .t l, .Tuple es _ _ => chkTgs N sc l es
  | _, _ => false
def chkTgs (N : List Str) (sc : Scope) : Tgs → List Expr → Bool
  | .nil, [] => true
  | .cons a l, e :: es => chkTg N sc a e && chkTgs N sc l es
  | _, _ => false
end
mutual
def Tg.slots : Tg → List Nat
  | .n i => [i]
  | .t l => l.slots
def Tgs.slots : Tgs → List Nat
  | .nil => []
  | .cons a l => a.slots ++ l.slots
end

section
variable (T : Tab)
mutual
def chkE (sc : Scope) : E → Expr → Bool
  | .var i, .Name x _ => decide (T.N[i]? = some x) && isVis sc x && plainN x
  | .con d, e => chkCon d e
  | .glo k, .Name x _ => decide (T.glos[k]? = some x) && isGl sc x && plainN x
  | .tup es, .Tuple l _ _ => chkA sc es l
  | .lst es, .List l _ => chkA sc es l
  | .bin o a b, .BinOp x p y _ => sameBop o p && chkE sc a x && chkE sc b y
  | .neg a, .UnaryOp .USub x _ => chkE sc a x
  | .cmp o a b, .Compare x [p] [y] _ => sameCop o p && !behindInMarks p y && chkE sc a x && chkE sc b y
  | .chn o o' a b c, .Compare x [p, q] [y, z] _ => sameCop o p && sameCop o' q && !lastMarks [p, q] [y, z] && chkE sc a x && chkE sc b y && chkE sc c z
  | .and a b, .BoolOp .And [x, y] _ => chkE sc a x && chkE sc b y
  | .and a b, .BoolOp .And (x :: y :: z :: r) p => chkE sc a x && chkE sc b (.BoolOp .And (y :: z :: r) p)
  | .or a b, .BoolOp .Or [x, y] _ => chkE sc a x && chkE sc b y
  | .or a b, .BoolOp .Or (x :: y :: z :: r) p => chkE sc a x && chkE sc b (.BoolOp .Or (y :: z :: r) p)
  | .not a, .UnaryOp .Not x _ => chkE sc a x
  | .ite t a b, .IfExp z x y _ => chkT sc t z && chkE sc a x && chkE sc b y
  | .call s es ks, .Call (.Name x _) args kws _ => (match T.shs[s]? with
    | some sh => decide (sh.x = x) && isGl sc x && plainN x && decide (sh.n = args.length) && chkP sc es args && chkK sc ks sh.ks kws
    | none => false)
  | .bi .rev a, .Call (.Name x _) [e] [⟨some k, v, _⟩] _ => decide (x = "sorted") && decide (k = "reverse") && isTrueC v && isGl sc x && notStar e && chkE sc a e
  | .bi .rev _, _ => false
  | .bi o a, .Call (.Name x _) [e] [] _ => decide (x = biName o) && isGl sc x && notStar e && chkE sc a e
  | .isi a [t], .Call (.Name x _) [e, c] [] _ => decide (x = "isinstance") && isGl sc x && notStar e && chkE sc a e && chkTy sc t c
  | .isi a ts, .Call (.Name x _) [e, .Tuple cs _ _] [] _ => decide (x = "isinstance") && isGl sc x && notStar e && chkE sc a e && chkTys sc ts cs && decide (ts.length ≤ 10)
  | .ix a i, .Subscript x y _ => notSlice y && chkE sc a x && chkE sc i y
  | .sl a lo hi, .Subscript x (.Slice l h none _) _ => chkE sc a x && chkO sc lo l && chkO sc hi h
  | .lc t own it c e, .ListComp elt [⟨tg, iter, ifs, asy⟩] scope _ => decide (asy = 0) && blkC T.N sc scope (own.map fun i => (T.N.getD i Str.empty, i)) && chkTg T.N scope t tg && (t.slots.all fun i => own.contains i) && notSet iter && chkI sc tg it iter && chkC scope c ifs && chkE scope e elt
  | .rv a, e => (match revArg e with
    | some x => chkE sc a x
    | none => false)
  | .jn a b, e => (match joinArgs e with
    | some (x, y) => chkE sc a x && chkE sc b y
    | none => false)
  | .bad, _ => true
  | _, _ => false
def chkT (sc : Scope) : E → Expr → Bool
  | .and a b, .BoolOp .And [x, y] _ => chkT sc a x && chkT sc b y
  | .and a b, .BoolOp .And (x :: y :: z :: r) p => chkT sc a x && chkT sc b (.BoolOp .And (y :: z :: r) p)
  | .or a b, .BoolOp .Or [x, y] _ => chkT sc a x && chkT sc b y
  | .or a b, .BoolOp .Or (x :: y :: z :: r) p => chkT sc a x && chkT sc b (.BoolOp .Or (y :: z :: r) p)
  | .not a, .UnaryOp .Not x _ => chkT sc a x
  | .cmp o a b, .Compare x [p] [y] _ => sameCop o p && !behindInMarks p y && chkE sc a x && chkE sc b y
  | .chn o o' a b c, .Compare x [p, q] [y, z] _ => sameCop o p && sameCop o' q && !lastMarks [p, q] [y, z] && chkE sc a x && chkE sc b y && chkE sc c z
  | .var i, .Name x _ => decide (T.N[i]? = some x) && isVis sc x && plainN x
  | .con d, .Constant c k p => chkCon d (.Constant c k p)
  | .call s es ks, .Call (.Name x _) args kws _ => (match T.shs[s]? with
    | some sh => decide (sh.x = x) && isGl sc x && plainN x && decide (sh.n = args.length) && chkP sc es args && chkK sc ks sh.ks kws
    | none => false)
  | .bi .all a, .Call (.Name x _) [e] [] _ => decide (x = "all") && isGl sc x && notStar e && chkE sc a e
  | .isi a [t], .Call (.Name x _) [e, c] [] _ => decide (x = "isinstance") && isGl sc x && notStar e && chkE sc a e && chkTy sc t c
  | .isi a ts, .Call (.Name x _) [e, .Tuple cs _ _] [] _ => decide (x = "isinstance") && isGl sc x && notStar e && chkE sc a e && chkTys sc ts cs && decide (ts.length ≤ 10)
  | .ix a i, .Subscript x y _ => notSlice y && chkE sc a x && chkE sc i y
  | _, _ => false
/-- items of a display -/
def chkA (sc : Scope) : Es → List Expr → Bool
  | .nil, [] => true
  | .star e es, .Starred x _ :: xs => chkE sc e x && chkA sc es xs
  | .cons e es, x :: xs => notStar x && chkE sc e x && chkA sc es xs
  | _, _ => false
/-- positional arguments -/
def chkP (sc : Scope) : Es → List Expr → Bool
  | .nil, [] => true
  | .cons e es, x :: xs => notStar x && chkE sc e x && chkP sc es xs
  | _, _ => false
/-- keyword arguments -/
def chkK (sc : Scope) : Es → List Str → List Keyword → Bool
  | .nil, [], [] => true
  | .cons e es, k :: ks, ⟨some x, v, _⟩ :: xs => decide (k = x) && chkE sc e v && chkK sc es ks xs
  | _, _, _ => false
def chkO (sc : Scope) : Eo → Option Expr → Bool
  | .no, none => true
  | .so e, some x => chkE sc e x
  | _, _ => false
def chkC (sc : Scope) : Eo → List Expr → Bool
  | .no, [] => true
  | .so e, [x] => chkT sc e x
  | _, _ => false
def chkI (sc : Scope) (tg : Expr) : It → Expr → Bool
  | .rng a, .Call (.Name x _) [e] [] _ => decide (x = "range") && isGl sc x && notStar e && chkE sc a e
  | .rng2 a b, .Call (.Name x _) [e, f] [] _ => decide (x = "range") && isGl sc x && notStar e && notStar f && chkE sc a e && chkE sc b f
  | .enm a, .Call (.Name x _) [e] [] _ => isTupE tg && decide (x = "enumerate") && isGl sc x && notStar e && chkE sc a e
  | .seq a, e => chkE sc a e
  | _, _ => false
end
end
end Rf

set_option maxHeartbeats 400000
/-! The rules by data. -/
namespace Rf
open PySem PySem.W L2

def bltNames : List Str := ["len", "all", "sum", "sorted", "tuple", "list", "int", "str", "min", "max", "isinstance", "range", "bool", "enumerate"]

structure Fk (T : Tab) (Φ : Fns) (gl : Nat → Option PyData) (b : Bg) (P : Program) (w : World) (K : Frag) (mg : Str → Option Value) (base : Heap) (A : Around) : Prop where
  un2 : A.units + 70 < cLine
  glos : ∀ k x d, T.glos[k]? = some x → gl k = some d → ∃ u v, mg x = some u ∧ RelV v u ∧ ∀ S, Rp K b S v d
  shs : ∀ s sh, T.shs[s]? = some sh → ∃ (f : Addr) (fd : FuncData) (ps : List Str) (g : List Value → List Value → List Value) (gV : List V → List V → List V) (k : Nat) (sp : Sp),
    mg sh.x = some (.ref f) ∧ keepIn K (.ref f) = true ∧ FnOk P w K mg base CX0 k f fd ps sp ∧ Room k A ∧ KBn K fd ps sh.n sh.ks g gV ∧
    ∀ S H gb vs zs ds es d gb' Q, Bs K b S gb H → RpAll K b S vs ds → RpAll K b S zs es → ds.length = sh.n → es.length = sh.ks.length → Φ s ds es gb = some (d, gb') → (∀ v S' H', Stp b S H S' H' → Bs K b S' gb' H' → Rp K b S' v d → Q v H') → sp (gV vs zs) H Q E0
  blt : ∀ x, x ∈ bltNames → mg x = none
theorem Fk.un {T : Tab} {Φ : Fns} {gl : Nat → Option PyData} {b : Bg} {P : Program} {w : World} {K : Frag} {mg : Str → Option Value} {base : Heap} {A : Around} (h : Fk T Φ gl b P w K mg base A) : A.units + 65 < cLine := Nat.lt_of_le_of_lt (Nat.add_le_add_left (by decide) _) h.un2
structure Ok (T : Tab) (Φ : Fns) (gl : Nat → Option PyData) (b : Bg) (X : Cx) (sc : Scope) : Prop where
  fk : Fk T Φ gl b X.prog X.w X.K X.mg X.base X.A
  N : X.N = T.N
  nd : T.N.Nodup
  calm : X.calm = true
  vis : ∀ x, isVis sc x = true → Vis X.env.scope x
  loc : ∀ x, isLoc sc x = true → Loc X.env.scope x
  hf' : ∀ x, isLoc sc x = true → X.fn x = true ∨ X.env.scope.names.lookup x = some .local
  gls : ∀ x, isGl sc x = true → X.env.scope.names.lookup x = some .globalImplicit
  cf : ∀ x, sc.names.lookup x = some .cell ∨ sc.names.lookup x = some .free → X.env.scope.names.lookup x = some .cell ∨ X.env.scope.names.lookup x = some .free

/-- a def's own body -/
theorem Ok.of {T : Tab} {Φ : Fns} {gl : Nat → Option PyData} {b : Bg} {X : Cx} (fk : Fk T Φ gl b X.prog X.w X.K X.mg X.base X.A) (N : X.N = T.N) (nd : T.N.Nodup) (calm : X.calm = true) (fn : ∀ x, X.fn x = true) : Ok T Φ gl b X X.env.scope :=
  ⟨fk, N, nd, calm, fun _ h => isVis_ok h, fun _ h => isLoc_ok h, fun x _ => .inl (fn x), fun _ h => isGl_ok h, fun _ h => h⟩
theorem lookup_relabel {env : PySem.Env} {x : Str} : ∀ (names : List (Str × NameKind)), (names.map fun (n, k) => if (k == NameKind.free && env.scope.kind == .function && env.kindOf n == some .cell) then (n, NameKind.cell) else (n, k)).lookup x =
    (names.lookup x).map fun k => if (k == NameKind.free && env.scope.kind == .function && env.kindOf x == some .cell) then NameKind.cell else k
  | [] => rfl
  | (n, k) :: r => by
    show List.lookup x ((if (k == NameKind.free && env.scope.kind == .function && env.kindOf n == some .cell) = true then (n, NameKind.cell) else (n, k)) :: _) = _
    cases hx : x == n with
    | true =>
      cases eq_of_beq hx
      rw [List.lookup_cons_self]
      by_cases hc : (k == NameKind.free && env.scope.kind == .function && env.kindOf x == some .cell) = true
      · rw [if_pos hc, List.lookup_cons_self, Option.map_some, if_pos hc]
      · rw [if_neg hc, List.lookup_cons_self, Option.map_some, if_neg hc]
    | false =>
      have ih := lookup_relabel (env := env) (x := x) r
      by_cases hc : (k == NameKind.free && env.scope.kind == .function && env.kindOf n == some .cell) = true
      · rw [if_pos hc]
        simp only [List.lookup_cons, hx]
        exact ih
      · rw [if_neg hc]
        simp only [List.lookup_cons, hx]
        exact ih
theorem relabel_cases {env : PySem.Env} {scope : Scope} {x : Str} {k : NameKind} (h : scope.names.lookup x = some k) : (relabel scope env).names.lookup x = some k ∨ (k = .free ∧ (relabel scope env).names.lookup x = some .cell) := by
  have e := lookup_relabel (env := env) (x := x) scope.names
  rw [h, Option.map_some] at e
  by_cases hc : (k == NameKind.free && env.scope.kind == .function && env.kindOf x == some .cell) = true
  · rw [if_pos hc] at e
    refine .inr ⟨?_, e⟩
    simp only [Bool.and_eq_true] at hc
    revert hc
    cases k <;> intro hc <;> first | rfl | exact absurd hc.1.1 (by decide)
  · rw [if_neg hc] at e
    exact .inl e
/-- a comprehension's block -/
theorem Ok.blk {T : Tab} {Φ : Fns} {gl : Nat → Option PyData} {b : Bg} {X : Cx} {sc : Scope} (ok : Ok T Φ gl b X sc) (s : Shared) (H : Hp) (scope : Scope) (C : Addr) (cl : List (Str × Addr)) (fp : List Addr) : Ok T Φ gl b (X.blk s H scope (compEnvC scope cl C X.env) fp) scope := by
  refine ⟨ok.fk, ok.N, ok.nd, ok.calm, fun x h => ?_, fun x h => ?_, fun x h => ?_, fun x h => ?_, fun x h => ?_⟩
  · show Vis (relabel scope X.env) x
    rcases isVis_ok h with q | q | q
    · rcases relabel_cases (env := X.env) q with z | ⟨z, _⟩
      · exact .inl z
      · cases z
    · rcases relabel_cases (env := X.env) q with z | ⟨z, _⟩
      · exact .inr (.inl z)
      · cases z
    · rcases relabel_cases (env := X.env) q with z | ⟨_, z⟩
      · exact .inr (.inr z)
      · exact .inr (.inl z)
  · show Loc (relabel scope X.env) x
    rcases isLoc_ok h with q | q
    · rcases relabel_cases (env := X.env) q with z | ⟨z, _⟩
      · exact .inl z
      · cases z
    · rcases relabel_cases (env := X.env) q with z | ⟨z, _⟩
      · exact .inr z
      · cases z
  · show (scope.names.lookup x == some .cell) = true ∨ (relabel scope X.env).names.lookup x = some .local
    rcases isLoc_ok h with q | q
    · rcases relabel_cases (env := X.env) q with z | ⟨z, _⟩
      · exact .inr z
      · cases z
    · rw [q]
      exact .inl rfl
  · show (relabel scope X.env).names.lookup x = some .globalImplicit
    rcases relabel_cases (env := X.env) (isGl_ok h) with z | ⟨z, _⟩
    · exact z
    · cases z
  · show (relabel scope X.env).names.lookup x = some .cell ∨ (relabel scope X.env).names.lookup x = some .free
    rcases h with q | q
    · rcases relabel_cases (env := X.env) q with z | ⟨z, _⟩
      · exact .inl z
      · cases z
    · rcases relabel_cases (env := X.env) q with z | ⟨_, z⟩
      · exact .inr z
      · exact .inl z

section
variable {T : Tab} {Φ : Fns} {gl : Nat → Option PyData} {b : Bg} {X : Cx} {sc : Scope}
theorem Ok.isg (ok : Ok T Φ gl b X sc) {x : Str} (h : isGl sc x = true) : Gl X x := ok.gls x h
theorem Ok.hf (ok : Ok T Φ gl b X sc) {x : Str} (h : isLoc sc x = true) : X.fn x = true ∨ X.env.scope.names.lookup x = some .local := ok.hf' x h
theorem plainN_ok {x : Str} (h : plainN x = true) : (x == ("__debug__" : Str)) = false ∧ (x == ("__classdict__" : Str)) = false ∧ x ≠ "__name__" := by
  unfold plainN at h
  simp only [Bool.and_eq_true, Bool.not_eq_true'] at h
  refine ⟨h.1.1, h.1.2, fun z => ?_⟩
  rw [z] at h
  exact absurd h.2 (by simp)

/-! ### names and constants -/
theorem d_var {i : Nat} {x : Str} {p : Pos} (ok : Ok T Φ gl b X sc) (h1 : T.N[i]? = some x) (h2 : isVis sc x = true) (h3 : plainN x = true) : PE X (.Name x p) (tD X.K b (evE Φ gl (.var i))) := by
  refine PE.imp (pe_var (i := i) (by rw [ok.N]; exact h1) (ok.vis x h2) (plainN_ok h3).1 (plainN_ok h3).2.1) fun σ H Q h => ?_
  obtain ⟨S, η, g, B, Z, d, g', e, k⟩ := h
  simp only [evE] at e
  split at e
  · rename_i d' hd
    cases e
    obtain ⟨v, h1, h2⟩ := Z.at_ _ _ hd
    exact ⟨v, h1, k v S H (Stp.refl b S H) B h2⟩
  · cases e
theorem d_const {e : Expr} {v : V} {d : PyData} (h : PE X e (tC v)) (r : ∀ S, Rp X.K b S v d) {m : Md} (hm : ∀ η g, m η g = some (d, g)) : PE X e (tD X.K b m) := by
  refine PE.imp h fun σ H Q q => ?_
  obtain ⟨S, η, g, B, Z, d, g', e, k⟩ := q
  rw [hm] at e
  cases e
  exact k v S H (Stp.refl b S H) B (r S)
theorem d_con {d : PyData} {e : Expr} (h : chkCon d e = true) : PE X e (tD X.K b (evE Φ gl (.con d))) := by
  unfold chkCon at h
  split at h
  · cases of_decide_eq_true h
    exact d_const pe_int (fun S => .int _) fun η g => rfl
  · cases eq_of_beq h
    exact d_const pe_bl (fun S => .bl _) fun η g => rfl
  · cases of_decide_eq_true h
    exact d_const pe_str (fun S => .str _) fun η g => rfl
  · exact d_const pe_non (fun S => .non) fun η g => rfl
  · cases h
theorem d_glo {k : Nat} {x : Str} {p : Pos} (ok : Ok T Φ gl b X sc) (h1 : T.glos[k]? = some x) (h2 : isGl sc x = true) (h3 : plainN x = true) : PE X (.Name x p) (tD X.K b (evE Φ gl (.glo k))) := by
  cases hd : gl k with
  | none =>
    refine ⟨fun pins s σ H Q I q => ?_⟩
    obtain ⟨S, η, g, B, Z, d, g', e, k⟩ := q
    simp only [evE, hd] at e
    cases e
  | some d =>
    obtain ⟨u, v, e1, e2, r⟩ := ok.fk.glos k x d h1 hd
    exact d_const (pe_glob (ok.isg h2) e1 e2 (plainN_ok h3).1) r fun η g => by simp only [evE, hd]; rfl

/-! ### operators -/
theorem d_bin {o : Bop} {a a' : E} {x y : Expr} {p : Pos} (ha : PE X x (tD X.K b (evE Φ gl a))) (hb : PE X y (tD X.K b (evE Φ gl a'))) : PE X (.BinOp x (bopOp o) y p) (tD X.K b (evE Φ gl (.bin o a a'))) := by
  refine PE.imp (pe_op (opr_bop o) ha hb) fun σ H Q h => ?_
  obtain ⟨S, η, g, B, Z, d, g', e, k⟩ := h
  simp only [evE] at e
  split at e
  · rename_i d1 g1 e1
    split at e
    · rename_i d2 g2 e2
      cases e3 : binD o d1 d2 with
      | none =>
        rw [e3] at e
        cases e
      | some z =>
        rw [e3] at e
        cases e
        refine tD.seq B Z e1 fun v S1 H1 st1 B1 Z1 r1 => ?_
        refine tD.seq B1 Z1 e2 fun u S2 H2 st2 B2 Z2 r2 => ?_
        exact bin_post B2 (r1.mono st2.ex) r2 e3 fun w S3 H3 st3 B3 r3 => k w S3 H3 ((st1.trans st2).trans st3) B3 r3
    · cases e
  · cases e
theorem d_neg {a : E} {x : Expr} {p : Pos} (ha : PE X x (tD X.K b (evE Φ gl a))) : PE X (.UnaryOp .USub x p) (tD X.K b (evE Φ gl (.neg a))) := by
  refine PE.imp (pe_un un_neg ha) fun σ H Q h => ?_
  obtain ⟨S, η, g, B, Z, d, g', e, k⟩ := h
  simp only [evE] at e
  split at e
  · rename_i i g1 e1
    cases e
    refine tD.seq B Z e1 fun v S1 H1 st1 B1 Z1 r1 => ?_
    cases r1.int_inv
    exact ⟨i, rfl, k _ S1 H1 st1 B1 (.int _)⟩
  · cases e
theorem d_cmp {o : Cop} {a a' : E} {x y : Expr} {p : Pos} (ok : Ok T Φ gl b X sc) (hm : behindInMarks (copOp o) y = false) (ha : PE X x (tD X.K b (evE Φ gl a))) (hb : PE X y (tD X.K b (evE Φ gl a'))) :
    PE X (.Compare x [copOp o] [y] p) (tD X.K b (evE Φ gl (.cmp o a a'))) := by
  refine PE.imp (pe_cmpR (opr_cop ok.fk.un o) ha hb hm) fun σ H Q h => ?_
  obtain ⟨S, η, g, B, Z, d, g', e, k⟩ := h
  simp only [evE] at e
  split at e
  · rename_i d1 g1 e1
    split at e
    · rename_i d2 g2 e2
      cases e3 : cmpD o d1 d2 with
      | none =>
        rw [e3] at e
        cases e
      | some z =>
        rw [e3] at e
        cases e
        refine tD.seq B Z e1 fun v S1 H1 st1 B1 Z1 r1 => ?_
        refine tD.seq B1 Z1 e2 fun u S2 H2 st2 B2 Z2 r2 => ?_
        exact cmp_post B2 (r1.mono st2.ex) r2 e3 fun w S3 H3 st3 B3 r3 => k w S3 H3 ((st1.trans st2).trans st3) B3 r3
    · cases e
  · cases e
/-- the truth of a datum that is a bool -/
def evB (Φ : Fns) (gl : Nat → Option PyData) (e : E) : Mt := fun η g => match evE Φ gl e η g with
  | some (.bool c, g) => some (c, g)
  | _ => none
theorem evB_inv {e : E} {η : Env} {g g' : Bag} {c : Bool} (h : evB Φ gl e η g = some (c, g')) : evE Φ gl e η g = some (.bool c, g') := by
  unfold evB at h
  split at h
  · rename_i c' g2 q
    cases h
    exact q
  · cases h
/-- a test by its value -/
theorem d_tval {ir : E} {e : Expr} (h : PE X e (tD X.K b (evE Φ gl ir))) (he : ∀ whole, isTrue e X.env whole = (do let v ← whole; standAt e.pos; holding [v] (truthy v))) : PT X e (tDT X.K b (evB Φ gl ir)) := by
  refine PT.imp (pt_val h he) fun σ H Q q => ?_
  obtain ⟨S, η, g, B, Z, c, g', e1, k⟩ := q
  refine tD.seq B Z (evB_inv e1) fun v S1 H1 st B1 Z1 r => ?_
  cases r.bl_inv
  exact ⟨c, rfl, k S1 H1 st B1⟩
theorem d_tcmp {o : Cop} {a a' : E} {x y : Expr} {p : Pos} (ok : Ok T Φ gl b X sc) (hm : behindInMarks (copOp o) y = false) (ha : PE X x (tD X.K b (evE Φ gl a))) (hb : PE X y (tD X.K b (evE Φ gl a'))) :
    PT X (.Compare x [copOp o] [y] p) (tDT X.K b (evB Φ gl (.cmp o a a'))) := by
  refine PT.imp (pt_cmpR (opr_cop ok.fk.un o) ha hb hm) fun σ H Q h => ?_
  obtain ⟨S, η, g, B, Z, d, g', e, k⟩ := h
  have e := evB_inv e
  simp only [evE] at e
  split at e
  · rename_i d1 g1 e1
    split at e
    · rename_i d2 g2 e2
      cases e3 : cmpD o d1 d2 with
      | none =>
        rw [e3] at e
        cases e
      | some z =>
        rw [e3] at e
        cases e
        refine tD.seq B Z e1 fun v S1 H1 st1 B1 Z1 r1 => ?_
        refine tD.seq B1 Z1 e2 fun u S2 H2 st2 B2 Z2 r2 => ?_
        refine cmp_post B2 (r1.mono st2.ex) r2 e3 fun w S3 H3 st3 B3 r3 => ?_
        cases r3.bl_inv
        exact ⟨_, rfl, k S3 H3 ((st1.trans st2).trans st3) B3⟩
    · cases e
  · cases e
theorem chain_post {o o' : Cop} {a a' a'' : E} {ta tb tc : TE} {σ : St} {H : Hp} {Q : VK} {S : Hp} {η : Env} {g g' : Bag} {d : PyData} (B : Bs X.K b S g H) (Z : Sees X.K b S η σ) (e : evE Φ gl (.chn o o' a a' a'') η g = some (d, g'))
    (k : ∀ v S' H', Stp b S H S' H' → Bs X.K b S' g' H' → Rp X.K b S' v d → Q v H') : tChain (rCop X.K o) (rCop X.K o') (tD X.K b (evE Φ gl a)) (tD X.K b (evE Φ gl a')) (tD X.K b (evE Φ gl a'')) σ H Q := by
  simp only [evE] at e
  split at e
  · rename_i d1 g1 e1
    split at e
    · rename_i d2 g2 e2
      refine tD.seq B Z e1 fun v S1 H1 st1 B1 Z1 r1 => ?_
      refine tD.seq B1 Z1 e2 fun u S2 H2 st2 B2 Z2 r2 => ?_
      split at e
      · rename_i e3
        split at e
        · rename_i d3 g3 e4
          cases e5 : cmpD o' d2 d3 with
          | none =>
            rw [e5] at e
            cases e
          | some z =>
            rw [e5] at e
            cases e
            refine cmp_post B2 (r1.mono st2.ex) r2 e3 fun w S3 H3 st3 B3 r3 => ?_
            cases r3.bl_inv
            refine ⟨true, rfl, iteT ?_⟩
            refine tD.seq B3 (Z2.mono st3.ex) e4 fun u' S4 H4 st4 B4 Z4 r4 => ?_
            exact cmp_post B4 ((r2.mono st3.ex).mono st4.ex) r4 e5 fun w S5 H5 st5 B5 r5 => k w S5 H5 ((((st1.trans st2).trans st3).trans st4).trans st5) B5 r5
        · cases e
      · rename_i e3
        cases e
        refine cmp_post B2 (r1.mono st2.ex) r2 e3 fun w S3 H3 st3 B3 r3 => ?_
        cases r3.bl_inv
        exact ⟨false, rfl, iteF (k _ S3 H3 ((st1.trans st2).trans st3) B3 (.bl _))⟩
      · cases e
    · cases e
  · cases e
theorem d_chn {o o' : Cop} {a a' a'' : E} {x y z : Expr} {p : Pos} (ok : Ok T Φ gl b X sc) (hm : lastMarks [copOp o, copOp o'] [y, z] = false) (ha : PE X x (tD X.K b (evE Φ gl a))) (hb : PE X y (tD X.K b (evE Φ gl a'))) (hc : PE X z (tD X.K b (evE Φ gl a''))) :
    PE X (.Compare x [copOp o, copOp o'] [y, z] p) (tD X.K b (evE Φ gl (.chn o o' a a' a''))) := by
  refine PE.imp (pe_chain (opr_cop ok.fk.un o) (opr_cop ok.fk.un o') ha hb hc hm) fun σ H Q h => ?_
  obtain ⟨S, η, g, B, Z, d, g', e, k⟩ := h
  exact chain_post (ta := tC .non) (tb := tC .non) (tc := tC .non) B Z e k
theorem d_tchn {o o' : Cop} {a a' a'' : E} {x y z : Expr} {p : Pos} (ok : Ok T Φ gl b X sc) (hm : lastMarks [copOp o, copOp o'] [y, z] = false) (ha : PE X x (tD X.K b (evE Φ gl a))) (hb : PE X y (tD X.K b (evE Φ gl a'))) (hc : PE X z (tD X.K b (evE Φ gl a''))) :
    PT X (.Compare x [copOp o, copOp o'] [y, z] p) (tDT X.K b (evB Φ gl (.chn o o' a a' a''))) := by
  refine PT.imp (pt_chain (opr_cop ok.fk.un o) (opr_cop ok.fk.un o') ha hb hc hm) fun σ H Q h => ?_
  obtain ⟨S, η, g, B, Z, d, g', e, k⟩ := h
  refine chain_post (ta := tC .non) (tb := tC .non) (tc := tC .non) B Z (evB_inv e) fun v S' H' st B' r => ?_
  cases r.bl_inv
  exact ⟨_, rfl, k S' H' st B'⟩
end
end Rf

set_option maxHeartbeats 400000
/-! More rules by data. -/
namespace Rf
open PySem PySem.W L2
section
variable {T : Tab} {Φ : Fns} {gl : Nat → Option PyData} {b : Bg} {X : Cx} {sc : Scope}
/-! ### and, or, not, if .. else -/
theorem d_one {op : PySem.BoolOp} {x : Expr} {p : Pos} {m : Md} (h : PE X x (tD X.K b m)) : PE X (.BoolOp op [x] p) (tD X.K b m) := pe_one h
theorem d_and {a a' : E} {x y : Expr} {r : List Expr} {p : Pos} (ha : PE X x (tD X.K b (evE Φ gl a))) (hb : PE X (.BoolOp .And (y :: r) p) (tD X.K b (evE Φ gl a'))) : PE X (.BoolOp .And (x :: y :: r) p) (tD X.K b (evE Φ gl (.and a a'))) := by
  refine PE.imp (pe_and ha hb) fun σ H Q h => ?_
  obtain ⟨S, η, g, B, Z, d, g', e, k⟩ := h
  simp only [evE] at e
  split at e
  · rename_i g1 e1
    refine tD.seq B Z e1 fun v S1 H1 st1 B1 Z1 r1 => ?_
    cases r1.bl_inv
    exact ⟨true, rfl, iteT (tD.seq B1 Z1 e fun u S2 H2 st2 B2 _ r2 => k u S2 H2 (st1.trans st2) B2 r2)⟩
  · rename_i g1 e1
    cases e
    refine tD.seq B Z e1 fun v S1 H1 st1 B1 Z1 r1 => ?_
    cases r1.bl_inv
    exact ⟨false, rfl, iteF (k _ S1 H1 st1 B1 (.bl _))⟩
  · cases e
theorem d_or {a a' : E} {x y : Expr} {r : List Expr} {p : Pos} (ha : PE X x (tD X.K b (evE Φ gl a))) (hb : PE X (.BoolOp .Or (y :: r) p) (tD X.K b (evE Φ gl a'))) : PE X (.BoolOp .Or (x :: y :: r) p) (tD X.K b (evE Φ gl (.or a a'))) := by
  refine PE.imp (pe_or ha hb) fun σ H Q h => ?_
  obtain ⟨S, η, g, B, Z, d, g', e, k⟩ := h
  simp only [evE] at e
  split at e
  · rename_i g1 e1
    cases e
    refine tD.seq B Z e1 fun v S1 H1 st1 B1 Z1 r1 => ?_
    cases r1.bl_inv
    exact ⟨true, rfl, iteT (k _ S1 H1 st1 B1 (.bl _))⟩
  · rename_i g1 e1
    refine tD.seq B Z e1 fun v S1 H1 st1 B1 Z1 r1 => ?_
    cases r1.bl_inv
    exact ⟨false, rfl, iteF (tD.seq B1 Z1 e fun u S2 H2 st2 B2 _ r2 => k u S2 H2 (st1.trans st2) B2 r2)⟩
  · cases e
theorem d_not {a : E} {x : Expr} {p : Pos} (ha : PE X x (tD X.K b (evE Φ gl a))) : PE X (.UnaryOp .Not x p) (tD X.K b (evE Φ gl (.not a))) := by
  refine PE.imp (pe_not ha) fun σ H Q h => ?_
  obtain ⟨S, η, g, B, Z, d, g', e, k⟩ := h
  simp only [evE] at e
  split at e
  · rename_i c g1 e1
    cases e
    refine tD.seq B Z e1 fun v S1 H1 st1 B1 Z1 r1 => ?_
    cases r1.bl_inv
    exact ⟨c, rfl, k _ S1 H1 st1 B1 (.bl _)⟩
  · cases e
theorem d_ite {t a a' : E} {z x y : Expr} {p : Pos} (ht : PT X z (tDT X.K b (evB Φ gl t))) (ha : PE X x (tD X.K b (evE Φ gl a))) (hb : PE X y (tD X.K b (evE Φ gl a'))) : PE X (.IfExp z x y p) (tD X.K b (evE Φ gl (.ite t a a'))) := by
  refine PE.imp (pe_ifExp ht ha hb) fun σ H Q h => ?_
  obtain ⟨S, η, g, B, Z, d, g', e, k⟩ := h
  simp only [evE] at e
  split at e
  · rename_i g1 e1
    refine tDT.seq (d := true) (g' := g1) B Z (by unfold evB; rw [e1]) fun S1 H1 st1 B1 Z1 => ?_
    exact iteT (tD.seq B1 Z1 e fun u S2 H2 st2 B2 _ r2 => k u S2 H2 (st1.trans st2) B2 r2)
  · rename_i g1 e1
    refine tDT.seq (d := false) (g' := g1) B Z (by unfold evB; rw [e1]) fun S1 H1 st1 B1 Z1 => ?_
    exact iteF (tD.seq B1 Z1 e fun u S2 H2 st2 B2 _ r2 => k u S2 H2 (st1.trans st2) B2 r2)
  · cases e
theorem evB_and {a a' : E} {η : Env} {g g' : Bag} {c : Bool} (h : evB Φ gl (.and a a') η g = some (c, g')) : (∃ g1, evB Φ gl a η g = some (true, g1) ∧ evB Φ gl a' η g1 = some (c, g')) ∨ (evB Φ gl a η g = some (false, g') ∧ c = false) := by
  have h := evB_inv h
  simp only [evE] at h
  split at h
  · rename_i g1 e1
    exact .inl ⟨g1, by unfold evB; rw [e1], by unfold evB; rw [h]⟩
  · rename_i g1 e1
    cases h
    exact .inr ⟨by unfold evB; rw [e1], rfl⟩
  · cases h
theorem evB_or {a a' : E} {η : Env} {g g' : Bag} {c : Bool} (h : evB Φ gl (.or a a') η g = some (c, g')) : (∃ g1, evB Φ gl a η g = some (false, g1) ∧ evB Φ gl a' η g1 = some (c, g')) ∨ (evB Φ gl a η g = some (true, g') ∧ c = true) := by
  have h := evB_inv h
  simp only [evE] at h
  split at h
  · rename_i g1 e1
    cases h
    exact .inr ⟨by unfold evB; rw [e1], rfl⟩
  · rename_i g1 e1
    exact .inl ⟨g1, by unfold evB; rw [e1], by unfold evB; rw [h]⟩
  · cases h
theorem d_tand {a a' : E} {x y : Expr} {r : List Expr} {p : Pos} (ha : PT X x (tDT X.K b (evB Φ gl a))) (hb : PW X (.BoolOp .And (y :: r) p) (tDT X.K b (evB Φ gl a'))) : PT X (.BoolOp .And (x :: y :: r) p) (tDT X.K b (evB Φ gl (.and a a'))) := by
  refine PT.imp (PW.pt (pw_and ha hb)) fun σ H Q h => ?_
  obtain ⟨S, η, g, B, Z, d, g', e, k⟩ := h
  rcases evB_and e with ⟨g1, e1, e2⟩ | ⟨e1, rfl⟩
  · refine tDT.seq B Z e1 fun S1 H1 st1 B1 Z1 => ?_
    exact iteT (tDT.seq B1 Z1 e2 fun S2 H2 st2 B2 _ => k S2 H2 (st1.trans st2) B2)
  · refine tDT.seq B Z e1 fun S1 H1 st1 B1 Z1 => ?_
    exact iteF (k S1 H1 st1 B1)
theorem d_tor {a a' : E} {x y : Expr} {r : List Expr} {p : Pos} (ha : PT X x (tDT X.K b (evB Φ gl a))) (hb : PW X (.BoolOp .Or (y :: r) p) (tDT X.K b (evB Φ gl a'))) : PT X (.BoolOp .Or (x :: y :: r) p) (tDT X.K b (evB Φ gl (.or a a'))) := by
  refine PT.imp (PW.pt (pw_or ha hb)) fun σ H Q h => ?_
  obtain ⟨S, η, g, B, Z, d, g', e, k⟩ := h
  rcases evB_or e with ⟨g1, e1, e2⟩ | ⟨e1, rfl⟩
  · refine tDT.seq B Z e1 fun S1 H1 st1 B1 Z1 => ?_
    exact iteF (tDT.seq B1 Z1 e2 fun S2 H2 st2 B2 _ => k S2 H2 (st1.trans st2) B2)
  · refine tDT.seq B Z e1 fun S1 H1 st1 B1 Z1 => ?_
    exact iteT (k S1 H1 st1 B1)
theorem d_tnot {a : E} {x : Expr} {p : Pos} (ha : PT X x (tDT X.K b (evB Φ gl a))) : PT X (.UnaryOp .Not x p) (tDT X.K b (evB Φ gl (.not a))) := by
  refine PT.imp (pt_not ha) fun σ H Q h => ?_
  obtain ⟨S, η, g, B, Z, d, g', e, k⟩ := h
  have e := evB_inv e
  simp only [evE] at e
  split at e
  · rename_i c g1 e1
    cases e
    exact tDT.seq B Z (by unfold evB; rw [e1]) fun S1 H1 st1 B1 Z1 => k S1 H1 st1 B1
  · cases e
theorem pw_of {op : PySem.BoolOp} {es : List Expr} {p : Pos} {t : TT} (h : PT X (.BoolOp op es p) t) : PW X (.BoolOp op es p) t := ⟨fun _ pins s σ H Q I q => h.run pins s σ H Q I q⟩

/-! ### argument lists, displays -/
theorem d_anil : PA X [] (tDA X.K b (evA Φ gl .nil)) := by
  refine PA.imp pa_nil fun σ H Q h => ?_
  obtain ⟨S, η, g, B, Z, d, g', e, k⟩ := h
  simp only [evA] at e
  cases e
  exact k [] S H (Stp.refl b S H) B .nil
theorem d_acons {a : E} {as : Es} {x : Expr} {xs : List Expr} (hn : notStar x = true) (ha : PE X x (tD X.K b (evE Φ gl a))) (hr : PA X xs (tDA X.K b (evA Φ gl as))) : PA X (x :: xs) (tDA X.K b (evA Φ gl (.cons a as))) := by
  refine PA.imp (pa_cons ha hr (starEach_of hn)) fun σ H Q h => ?_
  obtain ⟨S, η, g, B, Z, d, g', e, k⟩ := h
  simp only [evA] at e
  split at e
  · rename_i d1 g1 e1
    cases e2 : evA Φ gl as η g1 with
    | none =>
      rw [e2] at e
      cases e
    | some z =>
      rw [e2] at e
      cases e
      refine tD.seq B Z e1 fun v S1 H1 st1 B1 Z1 r1 => ?_
      exact tDA.seq B1 Z1 e2 fun vs S2 H2 st2 B2 _ r2 => k _ S2 H2 (st1.trans st2) B2 (.cons (r1.mono st2.ex) r2)
  · cases e
theorem d_astar {a : E} {as : Es} {x : Expr} {p : Pos} {xs : List Expr} (ha : PE X x (tD X.K b (evE Φ gl a))) (hr : PA X xs (tDA X.K b (evA Φ gl as))) : PA X (.Starred x p :: xs) (tDA X.K b (evA Φ gl (.star a as))) := by
  refine PA.imp (StX.pa_star ha hr) fun σ H Q h => ?_
  obtain ⟨S, η, g, B, Z, d, g', e, k⟩ := h
  simp only [evA] at e
  split at e
  · rename_i d1 g1 e1
    cases e2 : evA Φ gl as η g1 with
    | none =>
      rw [e2] at e
      cases e
    | some z =>
      rw [e2] at e
      cases e
      refine tD.seq B Z e1 fun v S1 H1 st1 B1 Z1 r1 => ?_
      obtain ⟨a, ys, rfl, hx, _, rr⟩ := r1.lst_inv
      exact ⟨a, ys, rfl, .inr (.inl (.inl (B1.sub _ _ hx))), tDA.seq B1 Z1 e2 fun vs S2 H2 st2 B2 _ r2 => k _ S2 H2 (st1.trans st2) B2 ((rr.mono st2.ex).append r2)⟩
  · rename_i d1 g1 e1
    cases e2 : evA Φ gl as η g1 with
    | none =>
      rw [e2] at e
      cases e
    | some z =>
      rw [e2] at e
      cases e
      refine tD.seq B Z e1 fun v S1 H1 st1 B1 Z1 r1 => ?_
      obtain ⟨a, ys, rfl, hx, _, rr⟩ := r1.tup_inv
      exact ⟨a, ys, rfl, .inl (B1.sub.sqT hx), tDA.seq B1 Z1 e2 fun vs S2 H2 st2 B2 _ r2 => k _ S2 H2 (st1.trans st2) B2 ((rr.mono st2.ex).append r2)⟩
  · cases e
theorem d_tup {as : Es} {xs : List Expr} {c} {p : Pos} (h : PA X xs (tDA X.K b (evA Φ gl as))) : PE X (.Tuple xs c p) (tD X.K b (evE Φ gl (.tup as))) := by
  refine PE.imp (pe_tup h) fun σ H Q h => ?_
  obtain ⟨S, η, g, B, Z, d, g', e, k⟩ := h
  simp only [evE] at e
  split at e
  · rename_i ds g1 e1
    split at e
    · rename_i hl
      cases e
      refine tDA.seq B Z e1 fun vs S1 H1 st1 B1 Z1 r1 => ⟨le_size (by rw [r1.length]; exact hl), fun q hq => ?_⟩
      exact k _ _ _ (st1.trans (Stp.new1 B1 hq _)) (B1.new hq _) (B1.newT hq r1 hl)
    · cases e
  · cases e
theorem d_lst {as : Es} {xs : List Expr} {p : Pos} (h : PA X xs (tDA X.K b (evA Φ gl as))) : PE X (.List xs p) (tD X.K b (evE Φ gl (.lst as))) := by
  refine PE.imp (pe_lst h) fun σ H Q h => ?_
  obtain ⟨S, η, g, B, Z, d, g', e, k⟩ := h
  simp only [evE] at e
  split at e
  · rename_i ds g1 e1
    split at e
    · rename_i hl
      cases e
      refine tDA.seq B Z e1 fun vs S1 H1 st1 B1 Z1 r1 => ⟨le_size (by rw [r1.length]; exact hl), fun q hq => ?_⟩
      exact k _ _ _ (st1.trans (Stp.new1 B1 hq _)) (B1.new hq _) (B1.newL hq r1 hl)
    · cases e
  · cases e

/-! ### items, slices -/
theorem d_ix {a a' : E} {x y : Expr} {p : Pos} (hn : notSlice y = true) (ha : PE X x (tD X.K b (evE Φ gl a))) (hb : PE X y (tD X.K b (evE Φ gl a'))) : PE X (.Subscript x y p) (tD X.K b (evE Φ gl (.ix a a'))) := by
  refine PE.imp (pe_ix ix_seq ha hb (plainIx_of hn)) fun σ H Q h => ?_
  obtain ⟨S, η, g, B, Z, d, g', e, k⟩ := h
  simp only [evE] at e
  split at e
  · rename_i d1 g1 e1
    split at e
    · rename_i d2 g2 e2
      cases e3 : ixD d1 d2 with
      | none =>
        rw [e3] at e
        cases e
      | some z =>
        rw [e3] at e
        cases e
        refine tD.seq B Z e1 fun v S1 H1 st1 B1 Z1 r1 => ?_
        refine tD.seq B1 Z1 e2 fun u S2 H2 st2 B2 Z2 r2 => ?_
        exact ix_post B2 (r1.mono st2.ex) r2 e3 fun w S3 H3 st3 B3 r3 => k w S3 H3 ((st1.trans st2).trans st3) B3 r3
    · cases e
  · cases e
theorem d_ono : PO X none (tDO X.K b (evO Φ gl .no)) := by
  refine PO.imp po_none fun σ H Q h => ?_
  obtain ⟨S, η, g, B, Z, d, g', e, k⟩ := h
  simp only [evO] at e
  cases e
  exact k S H (Stp.refl b S H) B
theorem d_oso {a : E} {x : Expr} (ha : PE X x (tD X.K b (evE Φ gl a))) : PO X (some x) (tDO X.K b (evO Φ gl (.so a))) := by
  refine PO.imp (po_some ha) fun σ H Q h => ?_
  obtain ⟨S, η, g, B, Z, d, g', e, k⟩ := h
  simp only [evO] at e
  split at e
  · rename_i i g1 e1
    cases e
    refine tD.seq B Z e1 fun v S1 H1 st1 B1 Z1 r1 => ?_
    cases r1.int_inv
    exact ⟨i, rfl, k S1 H1 st1 B1⟩
  · cases e
theorem d_sl {a : E} {lo hi : Eo} {x : Expr} {l h : Option Expr} {p p2 : Pos} (ha : PE X x (tD X.K b (evE Φ gl a))) (hl : PO X l (tDO X.K b (evO Φ gl lo))) (hh : PO X h (tDO X.K b (evO Φ gl hi))) : PE X (.Subscript x (.Slice l h none p2) p) (tD X.K b (evE Φ gl (.sl a lo hi))) := by
  refine PE.imp (pe_slice sl_any ha hl hh) fun σ H Q h => ?_
  obtain ⟨S, η, g, B, Z, d, g', e, k⟩ := h
  simp only [evE] at e
  split at e
  · rename_i d1 g1 e1
    split at e
    · rename_i l1 g2 e2
      split at e
      · rename_i h1 g3 e3
        cases e4 : slD d1 l1 h1 with
        | none =>
          rw [e4] at e
          cases e
        | some z =>
          rw [e4] at e
          cases e
          refine tD.seq B Z e1 fun v S1 H1 st1 B1 Z1 r1 => ?_
          refine tDO.seq B1 Z1 e2 fun S2 H2 st2 B2 Z2 => ?_
          refine tDO.seq B2 Z2 e3 fun S3 H3 st3 B3 Z3 => ?_
          exact sl_post B3 ((r1.mono st2.ex).mono st3.ex) e4 fun w S4 H4 st4 B4 r4 => k w S4 H4 (((st1.trans st2).trans st3).trans st4) B4 r4
      · cases e
    · cases e
  · cases e
/-! ### backwards; joined -/
theorem d_rv {a : E} {x c : Expr} {p p2 : Pos} (hc : isNeg1 c = true) (ha : PE X x (tD X.K b (evE Φ gl a))) : PE X (.Subscript x (.Slice none none (some c) p2) p) (tD X.K b (evE Φ gl (.rv a))) := by
  obtain ⟨j, q1, q2, rfl⟩ := isNeg1_ok hc
  refine PE.imp (pe_revT ha) fun σ H Q h => ?_
  obtain ⟨S, η, g, B, Z, d, g', e, k⟩ := h
  simp only [evE] at e
  split at e
  · rename_i d1 g1 e1
    refine tD.seq B Z e1 fun v S1 H1 st1 B1 Z1 r1 => ?_
    cases d1 with
    | list ds =>
      cases e
      obtain ⟨a', xs, rfl, hx, l, rr⟩ := r1.lst_inv
      exact ⟨a', xs, rfl, .inl ⟨.inl (.inl (B1.sub _ _ hx)), fun p hp => k _ _ _ (st1.trans (Stp.new1 B1 hp _)) (B1.new hp _) (B1.newL hp rr.reverse (by rw [List.length_reverse, ← rr.length]; exact l))⟩⟩
    | tuple ds =>
      cases e
      obtain ⟨a', xs, rfl, hx, l, rr⟩ := r1.tup_inv
      exact ⟨a', xs, rfl, .inr ⟨B1.sub.sqT hx, fun p hp => k _ _ _ (st1.trans (Stp.new1 B1 hp _)) (B1.new hp _) (B1.newT hp rr.reverse (by rw [List.length_reverse, ← rr.length]; exact l))⟩⟩
    | _ => cases e
  · cases e
theorem strs_inv {S : Hp} : ∀ {xs : List V} {ds : List PyData} {bs : List Str}, RpAll X.K b S xs ds → strsOf ds = some bs → xs = bs.map V.str
  | _, _, _, .nil, h => by
    cases h
    rfl
  | _, d :: ds, bs, .cons h t, e => by
    cases d with
    | str c =>
      cases e2 : strsOf ds with
      | none =>
        simp [strsOf, e2] at e
      | some cs =>
        simp [strsOf, e2] at e
        subst e
        rw [h.str_inv, strs_inv t e2]
        rfl
    | _ => simp [strsOf] at e
theorem d_jn {a a' : E} {c : Const} {j : Nat} {q0 : Pos} {y : Expr} {m : Str} {p2 p3 : Pos} (hm : m = "join") (hn : notStar y = true) (hp : (p2.endLine == p3.line) = true) (ha : PE X (.Constant c j q0) (tD X.K b (evE Φ gl a))) (hb : PE X y (tD X.K b (evE Φ gl a'))) : PE X (.Call (.Attribute (.Constant c j q0) m p2) [y] [] p3) (tD X.K b (evE Φ gl (.jn a a'))) := by
  subst hm
  refine PE.imp (pe_bm PySem.F.plainAttrs_str PySem.F.slot_str_join PySem.F.type_str_join mt_join ha (pa_cons hb pa_nil (starEach_of hn)) rfl (by rw [starEach_of hn]; rfl) hp (starEach_of hn) rfl) fun σ H Q h => ?_
  obtain ⟨S, η, g, B, Z, d, g', e, k⟩ := h
  simp only [evE] at e
  split at e
  · rename_i d1 g1 e1
    split at e
    · rename_i d2 g2 e2
      cases e3 : jnD d1 d2 with
      | none =>
        rw [e3] at e
        cases e
      | some z =>
        rw [e3] at e
        cases e
        unfold jnD at e3
        split at e3
        · rename_i s ds
          split at e3
          · rename_i ys hy
            split at e3
            · rename_i hlim
              cases e3
              refine tD.seq B Z e1 fun v S1 H1 st1 B1 Z1 r1 => ?_
              cases r1.str_inv
              refine ⟨rfl, tD.seq B1 Z1 e2 fun u S2 H2 st2 B2 Z2 r2 => ?_⟩
              obtain ⟨q, xs, rfl, hx, l, rr⟩ := r2.lst_inv
              rw [strs_inv rr hy] at hx
              exact ⟨s, q, ys, rfl, rfl, .inl (.inl (.inl (B2.sub _ _ hx))), hlim, k _ S2 H2 (st1.trans st2) B2 (.str _)⟩
            · cases e3
          · cases e3
        · cases e3
    · cases e
  · cases e
end
end Rf

set_option maxHeartbeats 400000
/-! sorted by data. -/
namespace Rf
open PySem PySem.W L2 PyProof.Rows PySem.SeqAt
section
variable {prog : Program} {w : World} {A : Around} {E : Value → Shared → Prop} {s : Shared}
/-- the call of tuple's own __lt__ -/
theorem call_tuple_lt {Q : Value → Shared → Prop} {l b : Addr} {items items2 : Array Value} {e r : Nat → Bool} (hl : s.heap.IsTuple l items) (hb : s.heap.IsTuple b items2)
    (he : ∀ j (h1 : j < items.size) (h2 : j < items2.size), EqAt A.in1 s items[j] items2[j] (e j)) (hr : ∀ j (h1 : j < items.size) (h2 : j < items2.size), e j = false → RcLt A.in1 s items[j] items2[j] (r j))
    (h : Q (.bool (firstLt e r (decide (items.size < items2.size)) (List.range (min items.size items2.size)))) s) : wpAny (model prog w) A (call (.builtin "tuple.__lt__") [.ref l, .ref b]) Q E s := by
  obtain ⟨⟨cls, dd, data, sl⟩, ho, hc, n, hd⟩ := id hl
  obtain ⟨⟨cls2, dd2, data2, sl2⟩, ho2, hc2, n2, hd2⟩ := id hb
  simp only at hc hd hc2 hd2
  subst hc hd hc2 hd2
  exact call_meets F.slot_tuple_lt ⟨_, ho, rfl⟩ F.entry_tuple_lt (F.args_tuple_lt_2 _ _) (PySem.SeqAt.tuple_ltAt l b items items2 n n2 dd dd2 sl sl2 e r) ⟨ho, ho2, he, hr, h⟩
/-- tuples against one another as one type -/
theorem oneLt_tups {xs ys : List PyData} {a b : Value} {as bs : List Addr} {Q : Bool → Shared → Prop} (ra : Reads s.heap a (.tuple xs) as) (rb : Reads s.heap b (.tuple ys) bs) (h : alike (.tuple xs) (.tuple ys) = true)
    (hu : A.units + min (PyData.tuple xs).depth (PyData.tuple ys).depth < cLine) (hq : Q (dataLt (.tuple xs) (.tuple ys)) s) : wpAny (model prog w) A (oneLt' true a b) Q E s := by
  have hal : alikeAll xs ys = true := by simpa [alike] using h
  cases ra with
  | @tuple l o vs n _ as₁ h1 h2 h3 h4 =>
    cases rb with
    | @tuple l' o' vs' n' _ bs₁ k1 k2 k3 k4 =>
      have n1 : vs.size = xs.length := by simpa using ReadsAll.length _ _ _ h4
      have n2 : vs'.size = ys.length := by simpa using ReadsAll.length _ _ _ k4
      rw [dataLt_tuple, ← firstLt_toks xs ys hal, ← n1, ← n2] at hq
      rw [oneLt'_eq]
      simp only [if_true]
      refine wpAny_bind (wpAny_cRoomFor (room_here hu) ?_)
      refine wpAny_bind (wpAny_callSpecialIfBound?_slot (T := "tuple") ⟨_, h1, h2⟩ F.slot_tuple_lt (call_tuple_lt (e := pairEq xs ys) (r := fun j => dataLt (xs.getD j .none) (ys.getD j .none)) ⟨_, h1, h2, _, h3⟩ ⟨_, k1, k2, _, k3⟩ (fun j j1 j2 => ?_) (fun j j1 j2 hj => ?_) ?_))
      · have := eqAt_alikeAll xs ys A.in1 s vs.toList vs'.toList _ _ h4 k4 hal (room_in hu) j (by simpa using j1) (by simpa using j2)
        simpa using this
      · have := rcLt_alikeAll xs ys A.in1 s vs.toList vs'.toList _ _ h4 k4 hal (room_in hu) j (by simpa using j1) (by simpa using j2) hj
        simpa using this
      · exact wpAny_truthy_bool hq
/-- the first items of tuples, where there are any -/
theorem firsts_any {M : Model} : ∀ (vs : List Value) (ds : List PyData) {Q : List (Option Value) → Shared → Prop}, EachIs (fun v d => ∃ as, Reads s.heap v d as) vs ds → (∀ d ∈ ds, ∃ xs, d = .tuple xs) →
    (∀ fs : List (Option Value), EachIs (fun f d => f.isSome = true ↔ d ≠ .tuple []) fs ds → Q fs s) → wpAny M A (vs.mapM firstOfTuple') Q E s
  | [], [], _, _, _, h => by
    rw [List.mapM_nil]
    exact wpAny_pure (h [] .nil)
  | v :: vs, d :: ds, Q, .cons ⟨as, r⟩ t, ht, h => by
    obtain ⟨xs, rfl⟩ := ht d List.mem_cons_self
    rw [List.mapM_cons]
    cases r with
    | @tuple l o its n _ as₁ h1 h2 h3 h4 =>
      have hl : its.size = xs.length := by simpa using ReadsAll.length _ _ _ h4
      rw [kas_first_eq]
      refine wpAny_bind (wpAny_bind (Looks.here (show Looks M s.heap (typeOf (.ref l)) o.cls from (Looks.ld h1).andThen .now) ?_))
      rw [h2, if_neg (by first | decide | simp)]
      refine wpAny_bind (listItems_at h1 h3 (wpAny_pure ?_))
      refine wpAny_bind (firsts_any vs ds (Q := fun bs s' => wpAny M A (pure (its[0]? :: bs)) Q E s') t (fun d m => ht d (List.mem_cons_of_mem _ m)) fun fs hfs => wpAny_pure (h _ (.cons ?_ hfs)))
      cases xs with
      | nil =>
        have hz : its.size = 0 := hl
        rw [Array.getElem?_eq_none (by omega)]
        simp
      | cons x r =>
        have hz : 0 < its.size := by
          rw [hl]
          exact Nat.succ_pos _
        rw [Array.getElem?_eq_getElem hz]
        simp
  | [], _ :: _, _, h, _, _ => by cases h
  | _ :: _, [], _, h, _, _ => by cases h
theorem eachIs_right {α β : Type} {R : α → β → Prop} {as : List α} {bs : List β} (h : EachIs R as bs) : ∀ b ∈ bs, ∃ a, a ∈ as ∧ R a b := by
  induction h with
  | nil => intro b hb; cases hb
  | cons r t ih =>
    intro b hb
    cases hb with
    | head => exact ⟨_, List.mem_cons_self, r⟩
    | tail _ hb =>
      obtain ⟨a, ha, r⟩ := ih b hb
      exact ⟨a, List.mem_cons_of_mem _ ha, r⟩
/-- tuples, empty ones among them, can be sorted -/
theorem SortsAt.tups {vs : List Value} {ds : List PyData} (e : EachIs (fun v d => ∃ as, Reads s.heap v d as) vs ds) (hal : AllAlike ds) (ht : ∀ d ∈ ds, ∃ xs, d = .tuple xs) (hu : ∀ d, d ∈ ds → A.units + d.depth < cLine) : SortsAt prog w A s (dataKind s.heap ds) vs := by
  by_cases hne : ∀ d ∈ ds, d ≠ .tuple []
  · refine SortsAt.data e hal (.inl fun d hd => ?_) hu
    obtain ⟨xs, rfl⟩ := ht d hd
    cases xs with
    | nil => exact absurd rfl (hne _ hd)
    | cons x r => exact ⟨x, r, rfl⟩
  have room : ∀ {d d' : PyData}, d ∈ ds → A.units + min d.depth d'.depth < cLine := fun {d d'} hd => Nat.lt_of_le_of_lt (Nat.add_le_add_left (Nat.min_le_left _ _) _) (hu d hd)
  have hkeys : ∀ v, v ∈ vs → ∃ a, (dataKind s.heap ds).keyOf v = some a := fun v hv => by
    obtain ⟨d, hd, as, r⟩ := e.left v hv
    exact ⟨_, dataKind_some hal hd r⟩
  -- not all have a first item
  have some_empty : ∀ fs : List (Option Value), EachIs (fun f d => f.isSome = true ↔ d ≠ .tuple []) fs ds → fs.all (·.isSome) = false := fun fs hfs => by
    cases q : fs.all (·.isSome) with
    | false => rfl
    | true =>
      refine absurd (fun d hd => ?_) hne
      obtain ⟨f, hf, h⟩ := eachIs_right hfs d hd
      exact h.mp (List.all_eq_true.mp q f hf)
  have isT : ∀ v ∈ vs, Looks (model prog w) s.heap (typeOf v) (.type "tuple") := fun v hv => by
    obtain ⟨d, hd, as, r⟩ := e.left v hv
    obtain ⟨xs, rfl⟩ := ht d hd
    exact looks_reads r
  cases ds with
  | nil => exact absurd (fun d hd => by cases hd) hne
  | cons d₀ ds₀ =>
    by_cases h0 : d₀ = .tuple []
    · -- one type
      refine ⟨hkeys, oneType', ?_, fun h2 E Q hq => ?_⟩
      · intro E x y a b Q ha hb hq
        obtain ⟨d, as, hd, ra, rfl⟩ := dataKind_inv ha
        obtain ⟨d', as', hd', rb, rfl⟩ := dataKind_inv hb
        have hdd := hal d hd d' hd'
        have hroom := room (d' := d') hd
        obtain ⟨xs, rfl⟩ := ht d hd
        obtain ⟨ys, rfl⟩ := ht d' hd'
        rw [keyLt'_oneType]
        exact oneLt_tups ra rb hdd hroom hq
      · rw [keyKind'_eq, List.mapM_toArray, map_eq_pure_bind]
        refine wpAny_bind (wpAny_bind (firsts_any vs _ e ht fun fs hfs => wpAny_pure ?_))
        have na := some_empty fs hfs
        rw [if_neg (by rw [List.all_toArray, na]; exact Bool.false_ne_true)]
        cases hfs with
        | @cons f _ fr _ hf hr =>
          have fn : f = none := by
            cases f with
            | none => rfl
            | some z => exact absurd h0 (hf.mp rfl)
          subst fn
          rw [if_neg (by simp)]
          obtain ⟨v₁, rest, rfl⟩ : ∃ v₁ rest, vs = v₁ :: rest := by
            cases vs with
            | nil => simp at h2
            | cons a r => exact ⟨a, r, rfl⟩
          rw [oneTypeOnly'_eq, List.mapM_toArray, map_eq_pure_bind]
          refine wpAny_bind (wpAny_bind (wpAny_bind (kas_mapM (r := .type "tuple") _ (fun v hv Q' hq => (isT v hv).here hq) (wpAny_pure ?_))))
          have hall : ((List.map (fun _ => Value.type "tuple") (v₁ :: rest)).toArray.all fun x => x == Value.type "tuple") = true := by
            simp only [List.all_toArray, List.all_map, List.all_eq_true]
            intro _ _
            exact beq_self_eq_true _
          have h00 : (List.map (fun _ => Value.type "tuple") (v₁ :: rest)).toArray[0]? = some (.type "tuple") := by simp
          rw [h00]
          simp only [hall, if_true]
          exact wpAny_pure (wpAny_pure hq)
    · -- the general comparison
      refine ⟨hkeys, general', ?_, fun h2 E Q hq => ?_⟩
      · intro E x y a b Q ha hb hq
        obtain ⟨d, as, hd, ra, rfl⟩ := dataKind_inv ha
        obtain ⟨d', as', hd', rb, rfl⟩ := dataKind_inv hb
        have hdd := hal d hd d' hd'
        have hroom := room (d' := d') hd
        obtain ⟨xs, rfl⟩ := ht d hd
        show wpAny _ _ (oneLt' false x y) _ _ _
        exact oneLt_alike (f := false) (fun z => by cases z) ra rb hdd (fun z => by cases z) hroom hq
      · rw [keyKind'_eq, List.mapM_toArray, map_eq_pure_bind]
        refine wpAny_bind (wpAny_bind (firsts_any vs _ e ht fun fs hfs => wpAny_pure ?_))
        have na := some_empty fs hfs
        rw [if_neg (by rw [List.all_toArray, na]; exact Bool.false_ne_true)]
        cases hfs with
        | @cons f _ fr _ hf hr =>
          have fs : f.isSome = true := hf.mpr h0
          rw [if_pos (by simpa using fs)]
          exact wpAny_pure hq
theorem sorted_tups {l : Addr} {β : Type} {vs : List Value} {bs : List β} {enc : β → PyData} {R : Value → β → Prop} {Q : Value → Shared → Prop} (hl : s.heap.IsList l vs.toArray) (e : EachIs R vs bs) (er : EachIs (fun v b => ∃ as, Reads s.heap v (enc b) as) vs bs) (hal : AllAlike (bs.map enc)) (ht : ∀ d ∈ bs.map enc, ∃ xs, d = .tuple xs) (hL : bs.length ≤ sizeLine)
    (hu : ∀ b, b ∈ bs → A.units + 2 + (enc b).depth < cLine) (h : ∀ out, out.length = bs.length → EachIs R out (bs.mergeSort (dataLe false enc)) → Q (.ref (s.heap.objs.size + 1)) { s with heap := sortedAll s.heap vs (List.toArray out) }) :
    wpAny (model prog w) A (call (.builtin "sorted") [.ref l]) Q E s := by
  have er' : EachIs (fun v b => ∃ as, Reads (sortingHeap (copyHeap s.heap vs) (s.heap.objs.size + 1) vs) v (enc b) as) vs bs := er.mono fun _ _ ⟨as, r⟩ => ⟨as, PyProof.Rows.Reads.keeps (fun _ _ => sorting_copy_old) r⟩
  exact sorted_vals hl (SortsAt.tups (s := { s with heap := sortingHeap (copyHeap s.heap vs) (s.heap.objs.size + 1) vs }) (each_map (R := fun v d => ∃ as, Reads (sortingHeap (copyHeap s.heap vs) (s.heap.objs.size + 1) vs) v d as) enc er') hal ht (bound_map hu)) (by rw [e.length]; exact hL)
    (h _ (by rw [sortVals_length false rfl]; exact e.length) (sortVals_data false e er' hal))
theorem sorted_rev_tups {l : Addr} {b : Bool} {β : Type} {vs : List Value} {bs : List β} {enc : β → PyData} {R : Value → β → Prop} {Q : Value → Shared → Prop} (hl : s.heap.IsList l vs.toArray) (e : EachIs R vs bs) (er : EachIs (fun v b => ∃ as, Reads s.heap v (enc b) as) vs bs) (hal : AllAlike (bs.map enc)) (ht : ∀ d ∈ bs.map enc, ∃ xs, d = .tuple xs) (hL : bs.length ≤ sizeLine)
    (hu : ∀ b, b ∈ bs → A.units + 2 + (enc b).depth < cLine) (h : ∀ out, out.length = bs.length → EachIs R out (bs.mergeSort (dataLe b enc)) → Q (.ref (s.heap.objs.size + 1)) { s with heap := sortedAll s.heap vs (List.toArray out) }) :
    wpAny (model prog w) A (call (.builtin "sorted") [.ref l] [(Str.ofString "reverse", .bool b)]) Q E s := by
  have er' : EachIs (fun v b => ∃ as, Reads (sortingHeap (copyHeap s.heap vs) (s.heap.objs.size + 1) vs) v (enc b) as) vs bs := er.mono fun _ _ ⟨as, r⟩ => ⟨as, PyProof.Rows.Reads.keeps (fun _ _ => sorting_copy_old) r⟩
  exact sorted_rev_vals hl (SortsAt.tups (s := { s with heap := sortingHeap (copyHeap s.heap vs) (s.heap.objs.size + 1) vs }) (each_map (R := fun v d => ∃ as, Reads (sortingHeap (copyHeap s.heap vs) (s.heap.objs.size + 1) vs) v d as) enc er') hal ht (bound_map hu)) (by rw [e.length]; exact hL)
    (h _ (by rw [sortVals_length b rfl]; exact e.length) (sortVals_data b e er' hal))
end
/-! ### over the layer -/
def rSortD (K : Frag) (srt : List PyData → List PyData) : List V → Hp → VK → Prop := fun vs H Q => ∃ a xs ds, vs = [.ref a] ∧ H a = some (.lst xs) ∧ DpAll K H xs ds ∧ allAlike ds = true ∧
  ∀ (zs : List (V × PyData)) (p : Addr), zs.Perm (xs.zip ds) → zs.map (·.2) = srt ds → H p = none → Q (.ref p) (upd H p (.lst (zs.map (·.1))))
theorem DpAll.len {K : Frag} {H : Hp} : ∀ {xs : List V} {ds : List PyData}, DpAll K H xs ds → xs.length = ds.length
  | _, _, .nil => rfl
  | _, _, .cons _ t => by rw [List.length_cons, List.length_cons, DpAll.len t]
theorem each_vals : ∀ {xs : List V} {us : List Value} {ds : List PyData}, Vals xs us → xs.length = ds.length → EachIs (fun v (z : V × PyData) => RelV z.1 v) us (xs.zip ds)
  | [], [], [], .nil, _ => .nil
  | x :: xs, u :: us, d :: ds, .cons r t, h => .cons r (each_vals t (by simpa using h))
theorem vals_each : ∀ {us : List Value} {zs : List (V × PyData)}, EachIs (fun v (z : V × PyData) => RelV z.1 v) us zs → Vals (zs.map (·.1)) us
  | [], [], .nil => .nil
  | u :: us, z :: zs, .cons r t => .cons r (vals_each t)
theorem each_reads {h : Heap} : ∀ {xs : List V} {us : List Value} {ds : List PyData} {as : List Addr}, xs.length = ds.length → ReadsAll h us ds as → EachIs (fun v (z : V × PyData) => ∃ as, Reads h v z.2 as) us (xs.zip ds)
  | [], _, [], _, _, t => by
    cases t
    exact .nil
  | x :: xs, _, d :: ds, _, h, t => by
    cases t with
    | cons r t => exact .cons ⟨_, r⟩ (each_reads (by simpa using h) t)
theorem zip_snd : ∀ {xs : List V} {ds : List PyData}, xs.length = ds.length → (xs.zip ds).map (·.2) = ds
  | [], [], _ => rfl
  | x :: xs, d :: ds, h => by
    rw [List.zip_cons_cons, List.map_cons, zip_snd (by simpa using h)]
theorem allAlike_inv {ds : List PyData} (h : allAlike ds = true) : AllAlike ds ∧ (∀ d ∈ ds, ∃ xs, d = .tuple xs) ∧ ∀ d ∈ ds, d.depth ≤ 64 := by
  unfold allAlike at h
  simp only [Bool.and_eq_true, List.all_eq_true] at h
  refine ⟨fun d hd d' hd' => h.2 d hd d' hd', fun d hd => ?_, fun d hd => depth_of_shaped (h.1 d hd).2⟩
  have q := (h.1 d hd).1
  cases d with
  | tuple xs => exact ⟨xs, rfl⟩
  | _ => cases q
theorem cr_sortedD {X : Cx} (hu : X.A.units + 70 < cLine) : CallR X (.builtin "sorted") (rSortD X.K dataSort) := by
  intro pins s σ H vs us Q I r h
  obtain ⟨a, xs, ds, rfl, ha, hd, hal, q⟩ := h
  rw [Vals.ref1 r]
  obtain ⟨its, rv, hl, hz⟩ := I.list (SqL.of ha)
  obtain ⟨as, ra⟩ := Dp.readsAll I ds xs its hd rv
  obtain ⟨h1, h2, h3⟩ := allAlike_inv hal
  have hlen := DpAll.len hd
  have hsnd := zip_snd hlen
  refine sorted_tups (bs := xs.zip ds) (enc := (·.2)) (R := fun v (z : V × PyData) => RelV z.1 v) hl.isList (each_vals rv hlen) (each_reads hlen ra) (by rw [hsnd]; exact h1) (by rw [hsnd]; exact h2) (by rw [List.length_zip, hlen, Nat.min_self, ← hlen]; exact hz) (fun z hm => ?_) fun out ho he => ?_
  · have := h3 z.2 (by rw [← hsnd]; exact List.mem_map.mpr ⟨z, hm, rfl⟩)
    omega
  · obtain ⟨ep, he'⟩ := PyProof.Rows.sortedAll_at s.heap its out.toArray
    have hp : ((xs.zip ds).mergeSort (dataLe false (·.2))).Perm (xs.zip ds) := List.mergeSort_perm _ _
    have hm : ((xs.zip ds).mergeSort (dataLe false (·.2))).map (·.2) = dataSort ds := by
      unfold dataSort
      have := List.map_mergeSort (r := dataLe false (fun z : V × PyData => z.2)) (s := fun a b => !dataLt b a) (f := fun z : V × PyData => z.2) (l := xs.zip ds) (fun a _ b _ => rfl)
      rw [hsnd] at this
      exact this
    have hl2 : (((xs.zip ds).mergeSort (dataLe false (·.2))).map (·.1)).length ≤ sizeLine := by
      rw [List.length_map, hp.length_eq, List.length_zip, hlen, Nat.min_self, ← hlen]
      exact hz
    exact ⟨.ref _, upd H (s.heap.objs.size + 1) (.lst _), I.laid (t' := s.toks) (fun _ _ => PyProof.Rows.sortedAll_old) (Nat.le_succ _) ⟨hl2, out, ep, vals_each he, he'⟩, rfl, q _ _ hp hm (I.hok.fresh (Nat.le_succ _))⟩
theorem cr_sortedRD {X : Cx} (hu : X.A.units + 70 < cLine) : CallRK X (.builtin "sorted") ["reverse"] (fun xs zs H Q => zs = [.bl true] ∧ rSortD X.K dataSortR xs H Q) := by
  intro pins s σ H vs zs us ws Q I r rz h
  obtain ⟨rfl, a, xs, ds, rfl, ha, hd, hal, q⟩ := h
  rw [Vals.ref1 r]
  obtain ⟨u, rfl, ru⟩ : ∃ u, ws = [u] ∧ RelV (.bl true) u := by
    cases rz with
    | cons r t =>
      cases t
      exact ⟨_, rfl, r⟩
  cases ru
  obtain ⟨its, rv, hl, hz⟩ := I.list (SqL.of ha)
  obtain ⟨as, ra⟩ := Dp.readsAll I ds xs its hd rv
  obtain ⟨h1, h2, h3⟩ := allAlike_inv hal
  have hlen := DpAll.len hd
  have hsnd := zip_snd hlen
  refine sorted_rev_tups (b := true) (bs := xs.zip ds) (enc := (·.2)) (R := fun v (z : V × PyData) => RelV z.1 v) hl.isList (each_vals rv hlen) (each_reads hlen ra) (by rw [hsnd]; exact h1) (by rw [hsnd]; exact h2) (by rw [List.length_zip, hlen, Nat.min_self, ← hlen]; exact hz) (fun z hm => ?_) fun out ho he => ?_
  · have := h3 z.2 (by rw [← hsnd]; exact List.mem_map.mpr ⟨z, hm, rfl⟩)
    omega
  · obtain ⟨ep, he'⟩ := PyProof.Rows.sortedAll_at s.heap its out.toArray
    have hp : ((xs.zip ds).mergeSort (dataLe true (·.2))).Perm (xs.zip ds) := List.mergeSort_perm _ _
    have hm : ((xs.zip ds).mergeSort (dataLe true (·.2))).map (·.2) = dataSortR ds := by
      unfold dataSortR
      have := List.map_mergeSort (r := dataLe true (fun z : V × PyData => z.2)) (s := fun a b => !dataLt a b) (f := fun z : V × PyData => z.2) (l := xs.zip ds) (fun a _ b _ => rfl)
      rw [hsnd] at this
      exact this
    have hl2 : (((xs.zip ds).mergeSort (dataLe true (·.2))).map (·.1)).length ≤ sizeLine := by
      rw [List.length_map, hp.length_eq, List.length_zip, hlen, Nat.min_self, ← hlen]
      exact hz
    exact ⟨.ref _, upd H (s.heap.objs.size + 1) (.lst _), I.laid (t' := s.toks) (fun _ _ => PyProof.Rows.sortedAll_old) (Nat.le_succ _) ⟨hl2, out, ep, vals_each he, he'⟩, rfl, q _ _ hp hm (I.hok.fresh (Nat.le_succ _))⟩
end Rf

set_option maxHeartbeats 400000
/-! Calls by data. -/
namespace Rf
open PySem PySem.W L2
theorem backTo_any (pos : Pos) : ∀ l : List (Bool × Sem Value), (backTo pos l).any (·.1) = l.any (·.1)
  | [] => rfl
  | x :: l => by
    show (x.1 || (backTo pos l).any (·.1)) = (x.1 || l.any (·.1))
    rw [backTo_any pos l]
theorem backToKw_all (pos : Pos) : ∀ l : List (Option Str × Sem Value), (backToKw pos l).all (·.1.isSome) = l.all (·.1.isSome)
  | [] => rfl
  | x :: l => by
    show (x.1.isSome && (backToKw pos l).all (·.1.isSome)) = (x.1.isSome && l.all (·.1.isSome))
    rw [backToKw_all pos l]
theorem backToKw_none (pos : Pos) : ∀ l : List (Option Str × Sem Value), (backToKw pos l).any (·.1.isNone) = l.any (·.1.isNone)
  | [] => rfl
  | x :: l => by
    show (x.1.isNone || (backToKw pos l).any (·.1.isNone)) = (x.1.isNone || l.any (·.1.isNone))
    rw [backToKw_none pos l]
theorem backToKw_map (pos : Pos) : ∀ l : List (Option Str × Sem Value), (backToKw pos l).filterMap (·.1) = l.filterMap (·.1)
  | [] => rfl
  | (none, t) :: l => by
    show (backToKw pos l).filterMap (·.1) = l.filterMap (·.1)
    exact backToKw_map pos l
  | (some k, t) :: l => by
    show k :: (backToKw pos l).filterMap (·.1) = k :: l.filterMap (·.1)
    rw [backToKw_map pos l]

section
variable {T : Tab} {Φ : Fns} {gl : Nat → Option PyData} {b : Bg} {X : Cx} {sc : Scope}
def noStars (es : List Expr) : Bool := es.all notStar
theorem starEach_any {env : PySem.Env} : ∀ {es : List Expr}, noStars es = true → (starEach es env).any (·.1) = false
  | [], _ => rfl
  | e :: es, h => by
    unfold noStars at h
    simp only [List.all_cons, Bool.and_eq_true] at h
    rw [starEach_of h.1]
    show (false || (starEach es env).any (·.1)) = false
    rw [starEach_any (es := es) h.2]
    rfl
/-- keywords by their names -/
def kwNames : List Keyword → Option (List Str)
  | [] => some []
  | ⟨some k, _, _⟩ :: r => (kwNames r).map (k :: ·)
  | ⟨none, _, _⟩ :: _ => none
theorem kw_all {env : PySem.Env} : ∀ {kws : List Keyword} {ks : List Str}, kwNames kws = some ks → (keywordEach kws env).all (·.1.isSome) = true ∧ (keywordEach kws env).any (·.1.isNone) = false ∧ (keywordEach kws env).filterMap (·.1) = ks
  | [], ks, h => by
    cases h
    exact ⟨rfl, rfl, rfl⟩
  | ⟨none, v, p⟩ :: r, ks, h => by cases h
  | ⟨some k, v, p⟩ :: r, ks, h => by
    unfold kwNames at h
    cases e : kwNames r with
    | none =>
      rw [e] at h
      cases h
    | some rs =>
      rw [e] at h
      cases h
      obtain ⟨h1, h2, h3⟩ := kw_all (env := env) e
      refine ⟨?_, ?_, ?_⟩
      · show (true && (keywordEach r env).all (·.1.isSome)) = true
        rw [h1]
        rfl
      · show (false || (keywordEach r env).any (·.1.isNone)) = false
        rw [h2]
        rfl
      · show k :: (keywordEach r env).filterMap (·.1) = k :: rs
        rw [h3]
/-- x(e, .., k = v, ..) -/
theorem d_call {s : Nat} {es ks : Es} {sh : Shp} {x : Str} {args : List Expr} {kws : List Keyword} {p pos : Pos} (ok : Ok T Φ gl b X sc) (hs : T.shs[s]? = some sh) (hx : sh.x = x) (hg : isGl sc x = true) (hp : plainN x = true) (hst : noStars args = true) (hkw : kwNames kws = some sh.ks)
    (hnil : args = [] → es = .nil) (hl : ∀ η g ds g', evA Φ gl es η g = some (ds, g') → ds.length = sh.n) (hl2 : ∀ η g ds g', evA Φ gl ks η g = some (ds, g') → ds.length = sh.ks.length) (ha : PA X args (tDA X.K b (evA Φ gl es))) (hk : PK X kws (tDA X.K b (evA Φ gl ks))) : PE X (.Call (.Name x p) args kws pos) (tD X.K b (evE Φ gl (.call s es ks))) := by
  refine ⟨fun pins sh0 σ H Q I h => ?_⟩
  obtain ⟨S, η, g, B, Z, d, g', e, k⟩ := h
  obtain ⟨f, fd, ps, gg, gV, lv, sp, hm, hkeep, F, hr, hb, hsp⟩ := ok.fk.shs s sh hs
  subst hx
  obtain ⟨q1, q2, q3⟩ := kw_all (env := X.env) hkw
  simp only [evE] at e
  split at e
  · rename_i ds g1 e1
    split at e
    · rename_i zs g2 e2
      have run : ∀ (us ws : List Value) (s2 : Shared) (vs ys : List V) (S2 H2 : Hp), Inv X pins σ H2 s2 → Vals vs us → Vals ys ws → Stp b S H S2 H2 → Bs X.K b S2 g2 H2 → RpAll X.K b S2 vs ds → RpAll X.K b S2 ys zs → wpAny (model X.prog X.w) X.A (call (.ref f) us (sh.ks.zip ws)) (EP X pins σ Q) X.xe s2 := fun us ws s2 vs ys S2 H2 I2 r rz st2 B2 rv ry =>
        run_fnN F hr hb pass0 I2 r rz (by rw [rv.length]; exact hl _ _ _ _ e1) (by rw [ry.length]; exact hl2 _ _ _ _ e2) (hsp S2 H2 g2 vs ys ds zs d g' Q B2 rv ry (hl _ _ _ _ e1) (hl2 _ _ _ _ e2) e fun v S3 H3 st3 B3 r3 => k v S3 H3 (st2.trans st3) B3 r3)
      refine wpAny_Call_Name_kw (ld_glob I (ok.isg hg) hm ?_ (plainN_ok hp).1)
      have hall : (backToKw pos (keywordEach kws X.env)).all (·.1.isSome) = true := by rw [backToKw_all]; exact q1
      have hks : (backToKw pos (keywordEach kws X.env)).filterMap (·.1) = sh.ks := by rw [backToKw_map]; exact q3
      have hpl : ((backTo pos (starEach args X.env)).any (·.1) || (backToKw pos (keywordEach kws X.env)).any (·.1.isNone)) = false := by
        rw [backTo_any, backToKw_none, starEach_any hst, q2]
        rfl
      cases args with
      | nil =>
        cases hnil rfl
        simp only [evA] at e1
        cases e1
        refine callWith_KW0 (h₀ := X.base) I.ok.mod.kin hkeep hall ?_ hpl
        refine thn (hk.run pos pins sh0 σ H (fun ys H2 => ∃ S2, Stp b S H S2 H2 ∧ Bs X.K b S2 g2 H2 ∧ RpAll X.K b S2 ys zs) I (tDA.seq B Z e2 fun vs S2 H2 st B2 Z2 r => ⟨S2, st, B2, r⟩)) fun ws s2 ⟨ys, H2, I2, rz, S2, st2, B2, ry⟩ => ⟨I2.kIn, ?_⟩
        rw [hks]
        exact run [] ws s2 [] ys S2 H2 I2 .nil rz st2 B2 .nil ry
      | cons a args =>
        unfold noStars at hst
        simp only [List.all_cons, Bool.and_eq_true] at hst
        refine callWith_KW (h₀ := X.base) I.ok.mod.kin hkeep hall (thn (ha.run pos pins sh0 σ H (fun vs H2 => ∃ S2, Stp b S H S2 H2 ∧ Bs X.K b S2 g1 H2 ∧ Sees X.K b S2 η σ ∧ RpAll X.K b S2 vs ds) I (tDA.seq B Z e1 fun vs S2 H2 st B2 Z2 r => ⟨S2, st, B2, Z2, r⟩)) fun us s1 ⟨vs, H1, I1, r, S1, st1, B1, Z1, rv⟩ => ?_) hpl (starEach_of hst.1)
        refine thn (hk.run pos pins s1 σ H1 (fun ys H2 => ∃ S2, Stp b S1 H1 S2 H2 ∧ Bs X.K b S2 g2 H2 ∧ RpAll X.K b S2 ys zs) I1 (tDA.seq B1 Z1 e2 fun vs S2 H2 st B2 Z2 r => ⟨S2, st, B2, r⟩)) fun ws s2 ⟨ys, H2, I2, rz, S2, st2, B2, ry⟩ => ⟨I2.kIn, ?_⟩
        rw [hks]
        exact run us ws s2 vs ys S2 H2 I2 r rz (st1.trans st2) B2 (rv.mono st2.ex) ry
    · cases e
  · cases e
theorem d_knil : PK X [] (tDA X.K b (evA Φ gl .nil)) := by
  refine ⟨fun pos pins s σ H Q I h => ?_⟩
  refine pk_nil.run pos pins s σ H Q I ?_
  obtain ⟨S, η, g, B, Z, d, g', e, k⟩ := h
  simp only [evA] at e
  cases e
  exact k [] S H (Stp.refl b S H) B .nil
theorem d_kcons {a : E} {as : Es} {n : Option Str} {x : Expr} {kp : Pos} {xs : List Keyword} (ha : PE X x (tD X.K b (evE Φ gl a))) (hr : PK X xs (tDA X.K b (evA Φ gl as))) : PK X (⟨n, x, kp⟩ :: xs) (tDA X.K b (evA Φ gl (.cons a as))) := by
  refine ⟨fun pos pins s σ H Q I h => ?_⟩
  refine (pk_cons ha hr).run pos pins s σ H Q I ?_
  obtain ⟨S, η, g, B, Z, d, g', e, k⟩ := h
  simp only [evA] at e
  split at e
  · rename_i d1 g1 e1
    cases e2 : evA Φ gl as η g1 with
    | none =>
      rw [e2] at e
      cases e
    | some z =>
      rw [e2] at e
      cases e
      refine tD.seq B Z e1 fun v S1 H1 st1 B1 Z1 r1 => ?_
      exact tDA.seq B1 Z1 e2 fun vs S2 H2 st2 B2 _ r2 => k _ S2 H2 (st1.trans st2) B2 (.cons (r1.mono st2.ex) r2)
  · cases e

/-! ### built-ins -/
theorem d_vac {e : Expr} {m : Md} (h : ∀ η g d g', m η g ≠ some (d, g')) : PE X e (tD X.K b m) := ⟨fun pins s σ H Q I q => by
  obtain ⟨S, η, g, B, Z, d, g', e, k⟩ := q
  exact absurd e (h η g d g')⟩
/-- a built-in of one argument, by its rule on values -/
theorem d_bi1 {o : Bi} {a : E} {x : Expr} {e : Expr} {r : List V → Hp → VK → Prop} (h : PE X e (tCB r (tDA X.K b (evA Φ gl (.cons a .nil)))))
    (hr : ∀ S g H v d z Q, Bs X.K b S g H → Rp X.K b S v d → biD o d = some z → Post X.K b S g H z Q → r [v] H Q) : PE X e (tD X.K b (evE Φ gl (.bi o a))) := by
  refine PE.imp h fun σ H Q q => ?_
  obtain ⟨S, η, g, B, Z, d, g', e, k⟩ := q
  simp only [evE] at e
  split at e
  · rename_i d1 g1 e1
    cases e2 : biD o d1 with
    | none =>
      rw [e2] at e
      cases e
    | some z =>
      rw [e2] at e
      cases e
      refine tDA.seq (d := [d1]) (g' := g') B Z (by simp only [evA, e1]; rfl) fun vs S1 H1 st1 B1 Z1 r1 => ?_
      cases r1 with
      | cons r1 rr =>
        cases rr
        exact hr S1 g' H1 _ d1 d Q B1 r1 e2 fun w S3 H3 st3 B3 r3 => k w S3 H3 (st1.trans st3) B3 r3
  · cases e
theorem vac_bi {o : Bi} {a : E} (h : biD o = fun _ => none) : ∀ η g d g', evE Φ gl (.bi o a) η g ≠ some (d, g') := fun η g d g' e => by
  simp only [evE, h] at e
  split at e
  · cases e
  · cases e
theorem star1 {e : Expr} {env : PySem.Env} {pos : Pos} (h : notStar e = true) : (backTo pos (starEach ([] : List Expr) env)).any (·.1) = false := rfl
theorem d_bi {o : Bi} {a : E} {x : Expr} {p pos : Pos} (ok : Ok T Φ gl b X sc) (ho : o ≠ .rev) (hg : isGl sc (biName o) = true) (hn : notStar x = true) (ha : PE X x (tD X.K b (evE Φ gl a))) : PE X (.Call (.Name (biName o) p) [x] [] pos) (tD X.K b (evE Φ gl (.bi o a))) := by
  have hA : PA X [x] (tDA X.K b (evA Φ gl (.cons a .nil))) := d_acons hn ha d_anil
  have hG := ok.isg hg
  cases o with
  | len =>
    refine d_bi1 (x := x) (pe_callB call_len hG (ok.fk.blt _ (by decide)) PySem.boot_len hA (by decide) (by decide) (starEach_of hn)) fun S g H v d z Q B r h P => ?_
    cases d with
    | list ds =>
      cases h
      obtain ⟨q, xs, rfl, hx, _, rr⟩ := r.lst_inv
      refine ⟨.ref q, xs.length, rfl, .inl ⟨xs, .inl (.inl (B.sub _ _ hx)), rfl⟩, ?_⟩
      rw [rr.length]
      exact P.here B (.int _)
    | tuple ds =>
      cases h
      obtain ⟨q, xs, rfl, hx, _, rr⟩ := r.tup_inv
      refine ⟨.ref q, xs.length, rfl, .inr ⟨xs, B.sub.sqT hx, rfl⟩, ?_⟩
      rw [rr.length]
      exact P.here B (.int _)
    | str s =>
      cases r.str_inv
      simp only [biD] at h
      split at h
      · rename_i hl
        cases h
        exact ⟨.str s, s.length, rfl, ⟨le_size hl, rfl⟩, P.here B (.int _)⟩
      · cases h
    | _ => cases h
  | all =>
    refine d_bi1 (x := x) (pe_callB (cr_all ok.calm) hG (ok.fk.blt _ (by decide)) (by decide +kernel) hA (by decide) (by decide) (starEach_of hn)) fun S g H v d z Q B r h P => ?_
    cases d with
    | list ds =>
      simp only [biD] at h
      cases e : boolsOf ds with
      | none =>
        rw [e] at h
        cases h
      | some bs =>
        rw [e] at h
        cases h
        obtain ⟨q, xs, rfl, hx, _, rr⟩ := r.lst_inv
        cases bools_inv rr e
        exact ⟨q, bs, rfl, .inl (.inl (B.sub _ _ hx)), P.here B (.bl _)⟩
    | _ => cases h
  | sum =>
    refine d_bi1 (x := x) (pe_callB (cr_sum ok.calm) hG (ok.fk.blt _ (by decide)) (by decide +kernel) hA (by decide) (by decide) (starEach_of hn)) fun S g H v d z Q B r h P => ?_
    cases d with
    | list ds =>
      simp only [biD] at h
      cases e : intsOf ds with
      | none =>
        rw [e] at h
        cases h
      | some bs =>
        rw [e] at h
        cases h
        obtain ⟨q, xs, rfl, hx, _, rr⟩ := r.lst_inv
        cases ints_inv rr e
        exact ⟨q, bs, rfl, .inl (.inl (B.sub _ _ hx)), P.here B (.int _)⟩
    | _ => cases h
  | sorted =>
    refine d_bi1 (x := x) (pe_callB (cr_sortedD ok.fk.un2) hG (ok.fk.blt _ (by decide)) (by decide +kernel) hA (by decide) (by decide) (starEach_of hn)) fun S g H v d z Q B r h P => ?_
    cases d with
    | list ds =>
      simp only [biD] at h
      split at h
      · rename_i hal
        cases h
        obtain ⟨q, xs, rfl, hx, l, rr⟩ := r.lst_inv
        refine ⟨q, xs, ds, rfl, B.sub _ _ hx, rr.dp B.sub (allAlike_lay hal), hal, fun zs p hz e hp => ?_⟩
        have r2 := rr.perm hz
        rw [e] at r2
        exact P.lst B r2 (by rw [← r2.length, List.length_map, hz.length_eq, List.length_zip, rr.length, Nat.min_self, ← rr.length]; exact l) hp
      · cases h
    | _ => cases h
  | tuple =>
    refine d_bi1 (x := x) (pe_callTy call_tuple_of hG (ok.fk.blt _ (by decide)) (by decide +kernel) hA (by decide) (by decide) (starEach_of hn)) fun S g H v d z Q B r h P => ?_
    cases d with
    | list ds =>
      cases h
      obtain ⟨q, xs, rfl, hx, l, rr⟩ := r.lst_inv
      exact ⟨q, xs, rfl, .inl ⟨.inl (.inl (B.sub _ _ hx)), fun p hp => P.tup B rr (by rw [← rr.length]; exact l) hp⟩⟩
    | tuple ds =>
      cases h
      obtain ⟨q, xs, rfl, hx, l, rr⟩ := r.tup_inv
      exact ⟨q, xs, rfl, .inr ⟨B.sub.sqT hx, P.here B r⟩⟩
    | _ => cases h
  | list =>
    refine d_bi1 (x := x) (pe_callTy call_list_of hG (ok.fk.blt _ (by decide)) (by decide +kernel) hA (by decide) (by decide) (starEach_of hn)) fun S g H v d z Q B r h P => ?_
    cases d with
    | list ds =>
      cases h
      obtain ⟨q, xs, rfl, hx, l, rr⟩ := r.lst_inv
      exact ⟨q, xs, rfl, .inl (.inl (.inl (B.sub _ _ hx))), fun p hp => P.lst B rr (by rw [← rr.length]; exact l) hp⟩
    | tuple ds =>
      cases h
      obtain ⟨q, xs, rfl, hx, l, rr⟩ := r.tup_inv
      exact ⟨q, xs, rfl, .inr (B.sub.sqT hx), fun p hp => P.lst B rr (by rw [← rr.length]; exact l) hp⟩
    | _ => cases h
  | int =>
    refine d_bi1 (x := x) (pe_callTy call_int1 hG (ok.fk.blt _ (by decide)) (by decide +kernel) hA (by decide) (by decide) (starEach_of hn)) fun S g H v d z Q B r h P => ?_
    cases d with
    | int i =>
      cases h
      cases r.int_inv
      exact .inl ⟨i, rfl, P.here B (.int _)⟩
    | _ => cases h
  | str => exact d_vac (vac_bi rfl)
  | min =>
    refine d_bi1 (x := x) (pe_callB (cr_minD ok.calm (Nat.lt_of_le_of_lt (Nat.add_le_add_left (by decide) _) ok.fk.un2)) hG (ok.fk.blt _ (by decide)) PyProof.Rows.boot_min hA (by decide) (by decide) (starEach_of hn)) fun S g H v d z Q B r h P => ?_
    cases d with
    | list ds =>
      obtain ⟨a', xs, rfl, hx, l, rr⟩ := r.lst_inv
      simp only [biD] at h
      split at h
      · rename_i hm
        unfold minOk at hm
        simp only [Bool.and_eq_true, decide_eq_true_eq, List.all_eq_true, Bool.not_eq_true'] at hm
        refine ⟨a', xs, ds, rfl, .inl (.inl (B.sub _ _ hx)), rr.dp B.sub (canLayAll_of fun d hd => SeqAt.canLay_of_shaped (hm.1.2 d hd).1), hm.1.1, fun d hd => ⟨(hm.1.2 d hd).1, fun q => ?_⟩, hm.2, fun v hv => ?_⟩
        · have := (hm.1.2 d hd).2
          rw [q] at this
          cases this
        · obtain ⟨d', e1, e2⟩ := rr.get' hv
          rw [e1] at h
          cases h
          exact P.here B e2
      · cases h
    | _ => cases h
  | max => exact d_vac (vac_bi rfl)
  | rev => exact absurd rfl ho
theorem d_rev {a : E} {x : Expr} {p p2 p3 pos : Pos} {j : Nat} (ok : Ok T Φ gl b X sc) (hg : isGl sc "sorted" = true) (hn : notStar x = true) (ha : PE X x (tD X.K b (evE Φ gl a))) : PE X (.Call (.Name "sorted" p) [x] [⟨some "reverse", .Constant (.bool true) j p2, p3⟩] pos) (tD X.K b (evE Φ gl (.bi .rev a))) := by
  have hA : PA X [x] (tDA X.K b (evA Φ gl (.cons a .nil))) := d_acons hn ha d_anil
  refine PE.imp (pe_callBK (cr_sortedRD ok.fk.un2) (ok.isg hg) (ok.fk.blt _ (by decide)) (by decide +kernel) hA (pk_cons pe_bl pk_nil) (by decide) (by decide) (by rw [starEach_of hn]; rfl) (by rw [starEach_of hn]; rfl)) fun σ H Q q => ?_
  obtain ⟨S, η, g, B, Z, d, g', e, k⟩ := q
  simp only [evE] at e
  split at e
  · rename_i d1 g1 e1
    cases d1 with
    | list ds =>
      simp only [biD] at e
      split at e
      · rename_i hal
        cases e
        refine tDA.seq (d := [.list ds]) (g' := g') B Z (by simp only [evA, e1]; rfl) fun vs S1 H1 st1 B1 Z1 r1 => ?_
        cases r1 with
        | cons r1 rr =>
          cases rr
          refine ⟨rfl, ?_⟩
          obtain ⟨q, xs, rfl, hx, l, rr⟩ := r1.lst_inv
          refine ⟨q, xs, ds, rfl, B1.sub _ _ hx, rr.dp B1.sub (allAlike_lay hal), hal, fun zs p hz e hp => ?_⟩
          have r2 := rr.perm hz
          rw [e] at r2
          exact k _ _ _ (st1.trans (Stp.new1 B1 hp _)) (B1.new hp _) (B1.newL hp r2 (by rw [← r2.length, List.length_map, hz.length_eq, List.length_zip, rr.length, Nat.min_self, ← rr.length]; exact l))
      · cases e
    | _ => cases e
  · cases e

/-! ### isinstance -/
def dataTy : PyData → String
  | .none => "NoneType"
  | .bool _ => "bool"
  | .int _ => "int"
  | .str _ => "str"
  | .list _ => "list"
  | .tuple _ => "tuple"
  | .dict _ => "list"
theorem Rp.ty {S H : Hp} {v : V} {d : PyData} (r : Rp X.K b S v d) (e : Exd S H) (hd : tyOk d = true) : TyX X.K H v (.type (dataTy d)) := by
  cases r with
  | non => exact .base .non
  | bl c => exact .base (.bl c)
  | int i => exact .base (.int i)
  | str s => exact .base (.str s)
  | lst h _ _ => exact .base (.lst (e _ _ h))
  | tup h _ _ =>
    rcases h with (h | ⟨o, h⟩) | ⟨o, its, n, h1, h2, _⟩
    · exact .base (.tup (e _ _ h))
    · exact .fTuple (e _ _ h)
    · exact .kTuple h1 h2
  | bag => cases hd
def tyStr : Ty → String
  | .int => "int"
  | .str => "str"
  | .bool => "bool"
  | .list => "list"
  | .tuple => "tuple"
theorem kit_data {K : Frag} {d : PyData} {t : Ty} (hd : tyOk d = true) : kitOne K (.type (dataTy d)) (.type (tyStr t)) = some (tyIs t d) := by
  refine kit_ty ?_
  cases d with
  | dict _ => cases hd
  | none => cases t <;> (show kitB "NoneType" _ = some false; decide +kernel)
  | bool c => cases t <;> first | (show kitB "bool" _ = some false; decide +kernel) | (show kitB "bool" _ = some true; decide +kernel)
  | int c => cases t <;> first | (show kitB "int" _ = some false; decide +kernel) | (show kitB "int" _ = some true; decide +kernel)
  | str c => cases t <;> first | (show kitB "str" _ = some false; decide +kernel) | (show kitB "str" _ = some true; decide +kernel)
  | list c => cases t <;> first | (show kitB "list" _ = some false; decide +kernel) | (show kitB "list" _ = some true; decide +kernel)
  | tuple c => cases t <;> first | (show kitB "tuple" _ = some false; decide +kernel) | (show kitB "tuple" _ = some true; decide +kernel)
theorem kits_data {K : Frag} {d : PyData} (hd : tyOk d = true) : ∀ ts : List Ty, kitAny K (.type (dataTy d)) (ts.map fun t => .type (tyStr t)) = some (ts.any fun t => tyIs t d)
  | [] => rfl
  | t :: ts => by
    show (match kitOne K (.type (dataTy d)) (.type (tyStr t)) with
      | some true => some true
      | some false => kitAny K (.type (dataTy d)) (ts.map fun t => .type (tyStr t))
      | none => none) = _
    rw [kit_data hd, List.any_cons]
    cases tyIs t d with
    | true => rfl
    | false => exact kits_data hd ts
theorem d_ty {t : Ty} {p : Pos} (ok : Ok T Φ gl b X sc) (hg : isGl sc (tyName t) = true) : PE X (.Name (tyName t) p) (tC (.ty (tyStr t))) := by
  refine pe_bltn (u := .type (tyStr t)) (ok.isg hg) (ok.fk.blt _ (by cases t <;> decide)) ?_ rfl (by cases t <;> decide) (by cases t <;> decide)
  cases t <;> decide +kernel
theorem d_isi {t : Ty} {a : E} {x : Expr} {p p2 pos : Pos} (ok : Ok T Φ gl b X sc) (hg : isGl sc "isinstance" = true) (hn : notStar x = true) (ha : PE X x (tD X.K b (evE Φ gl a))) (hg2 : isGl sc (tyName t) = true) :
    PE X (.Call (.Name "isinstance" p) [x, .Name (tyName t) p2] [] pos) (tD X.K b (evE Φ gl (.isi a [t]))) := by
  refine PE.imp (pe_callB call_isi (ok.isg hg) (ok.fk.blt _ (by decide)) (by decide +kernel) (pa_cons ha (pa_cons (d_ty ok hg2) pa_nil) (starEach_of hn)) (by decide) (by decide) (starEach_of hn)) fun σ H Q q => ?_
  obtain ⟨S, η, g, B, Z, d, g', e, k⟩ := q
  simp only [evE] at e
  split at e
  · rename_i d1 g1 e1
    split at e
    · rename_i hd
      cases e
      refine tD.seq B Z e1 fun v S1 H1 st1 B1 Z1 r1 => ?_
      refine ⟨v, .ty (tyStr t), _, _, _, rfl, .ty _, r1.ty B1.sub hd, kit_data hd, ?_⟩
      have e2 : ([t].any fun t => tyIs t d1) = tyIs t d1 := by simp
      rw [e2] at k
      exact k _ S1 H1 st1 B1 (.bl _)
    · cases e
  · cases e
theorem d_tys (ok : Ok T Φ gl b X sc) : ∀ {ts : List Ty} {cs : List Expr}, chkTys sc ts cs = true → ∃ t : TA, PA X cs t ∧ ∀ σ H Q, Q (ts.map fun t => V.ty (tyStr t)) H → t σ H Q
  | [], [], _ => ⟨tNil, pa_nil, fun _ _ _ q => q⟩
  | t :: ts, .Name x p :: cs, h => by
    unfold chkTys at h
    simp only [Bool.and_eq_true] at h
    have h1 : (decide (x = tyName t) && isGl sc x) = true := h.1
    simp only [Bool.and_eq_true] at h1
    cases of_decide_eq_true h1.1
    obtain ⟨u, h3, h4⟩ := d_tys ok h.2
    exact ⟨_, pa_cons (d_ty ok h1.2) h3, fun σ H Q q => h4 σ H _ q⟩
theorem paired_cls : ∀ ts : List Ty, Paired ClsV (ts.map fun t => V.ty (tyStr t)) (ts.map fun t => Value.type (tyStr t))
  | [] => .nil
  | t :: ts => .cons (.ty _) (paired_cls ts)
theorem d_isiT {ts : List Ty} {a : E} {x : Expr} {cs : List Expr} {c} {p p2 pos : Pos} (ok : Ok T Φ gl b X sc) (hg : isGl sc "isinstance" = true) (hn : notStar x = true) (ha : PE X x (tD X.K b (evE Φ gl a))) (hc : chkTys sc ts cs = true) (hl : ts.length ≤ 10) :
    PE X (.Call (.Name "isinstance" p) [x, .Tuple cs c p2] [] pos) (tD X.K b (evE Φ gl (.isi a ts))) := by
  obtain ⟨u, h3, h4⟩ := d_tys ok hc
  refine PE.imp (pe_callB call_isiT (ok.isg hg) (ok.fk.blt _ (by decide)) (by decide +kernel) (pa_cons ha (pa_cons (pe_tup h3) pa_nil) (starEach_of hn)) (by decide) (by decide) (starEach_of hn)) fun σ H Q q => ?_
  obtain ⟨S, η, g, B, Z, d, g', e, k⟩ := q
  simp only [evE] at e
  split at e
  · rename_i d1 g1 e1
    split at e
    · rename_i hd
      cases e
      refine tD.seq B Z e1 fun v S1 H1 st1 B1 Z1 r1 => ?_
      refine h4 _ _ _ ⟨le_size (by rw [List.length_map]; exact Nat.le_trans hl (by decide)), fun q hq => ?_⟩
      refine ⟨v, q, _, _, _, _, rfl, upd_same, paired_cls ts, r1.ty (B1.sub.trans (Exd.new hq)) hd, kits_data hd ts, ?_⟩
      exact k _ _ _ (st1.trans (Stp.new1 B1 hq _)) (B1.new hq _) (.bl _)
    · cases e
  · cases e
end
end Rf

set_option maxHeartbeats 400000
/-! Targets, iterables, comprehensions by data. -/
namespace Rf
open PySem PySem.W L2
/-! ### targets -/
abbrev PutR (K : Frag) (b : Bg) (S : Hp) : List (Nat × PyData) → List (Nat × V) → Prop := Paired fun p q => p.1 = q.1 ∧ Rp K b S q.2 p.2
def putV (σ : St) (qs : List (Nat × V)) : St := qs.foldl (fun σ p => σ.set p.1 (some p.2)) σ
theorem putV_app (σ : St) (a c : List (Nat × V)) : putV σ (a ++ c) = putV (putV σ a) c := List.foldl_append
theorem PutR.app {K : Frag} {b : Bg} {S : Hp} : ∀ {p p' : List (Nat × PyData)} {q q' : List (Nat × V)}, PutR K b S p q → PutR K b S p' q' → PutR K b S (p ++ p') (q ++ q')
  | _, _, _, _, .nil, h => h
  | _, _, _, _, .cons r t, h => .cons r (PutR.app t h)
theorem PutR.slots {K : Frag} {b : Bg} {S : Hp} : ∀ {p : List (Nat × PyData)} {q : List (Nat × V)}, PutR K b S p q → q.map (·.1) = p.map (·.1)
  | _, _, .nil => rfl
  | _, _, .cons r t => by rw [List.map_cons, List.map_cons, r.1, PutR.slots t]
def gPut (K : Frag) (b : Bg) (t : Tg) : TG := fun v σ H Q => ∃ S g d ps, Bs K b S g H ∧ Rp K b S v d ∧ flat t d = some ps ∧ ∀ qs, PutR K b S ps qs → Q (putV σ qs) H
def gPuts (K : Frag) (b : Bg) (t : Tgs) : TGs := fun vs σ H Q => ∃ S g ds ps, Bs K b S g H ∧ RpAll K b S vs ds ∧ flats t ds = some ps ∧ ∀ qs, PutR K b S ps qs → Q (putV σ qs) H
theorem PG.imp {X : Cx} {e : Expr} {t t' : TG} (h : PG X e t) (k : ∀ v σ H Q, t' v σ H Q → t v σ H Q) : PG X e t' := ⟨fun pins s σ H v u Q I r q => h.run pins s σ H v u Q I r (k v σ H Q q)⟩
theorem PGs.imp {X : Cx} {e : List Expr} {t t' : TGs} (h : PGs X e t) (k : ∀ v σ H Q, t' v σ H Q → t v σ H Q) : PGs X e t' := ⟨fun pins s σ H v u Q I r q => h.run pins s σ H v u Q I r (k v σ H Q q)⟩

section
variable {T : Tab} {Φ : Fns} {gl : Nat → Option PyData} {b : Bg} {X : Cx} {sc : Scope}
theorem each_of {env : PySem.Env} : ∀ {l : Tgs} {es : List Expr}, chkTgs T.N sc l es = true → (assignEach es env).length = es.length ∧ (assignEach es env).findIdx? (·.1) = none
  | .nil, [], _ => ⟨rfl, rfl⟩
  | .cons a l, e :: es, h => by
    have h : (chkTg T.N sc a e && chkTgs T.N sc l es) = true := h
    simp only [Bool.and_eq_true] at h
    obtain ⟨h1, h2⟩ := each_of (env := env) h.2
    have hs : assignEach (e :: es) env = (false, assign e env) :: assignEach es env := by
      cases a with
      | n i =>
        cases e <;> first | rfl | exact absurd h.1 Bool.false_ne_true
      | t l =>
        cases e <;> first | rfl | exact absurd h.1 Bool.false_ne_true
    rw [hs]
    refine ⟨by rw [List.length_cons, List.length_cons, h1], ?_⟩
    rw [List.findIdx?_cons, h2]
    rfl
  | .nil, _ :: _, h => absurd h Bool.false_ne_true
  | .cons _ _, [], h => absurd h Bool.false_ne_true
theorem flats_len : ∀ (l : Tgs) (es : List Expr) {ds : List PyData} {ps : List (Nat × PyData)}, chkTgs T.N sc l es = true → flats l ds = some ps → ds.length = es.length
  | .nil, [], [], _, _, _ => rfl
  | .nil, [], _ :: _, _, _, e => by cases e
  | .nil, _ :: _, _, _, h, _ => absurd h Bool.false_ne_true
  | .cons _ _, [], _, _, h, _ => absurd h Bool.false_ne_true
  | .cons a l, e :: es, [], _, h, q => by cases q
  | .cons a l, e :: es, d :: ds, ps, h, q => by
    have h : (chkTg T.N sc a e && chkTgs T.N sc l es) = true := h
    simp only [Bool.and_eq_true] at h
    simp only [flats] at q
    split at q
    · cases e2 : flats l ds with
      | none =>
        rw [e2] at q
        cases q
      | some z => rw [List.length_cons, List.length_cons, flats_len l es h.2 e2]
    · cases q
theorem each_cons {env : PySem.Env} {a : Tg} {e : Expr} {es : List Expr} (h : chkTg T.N sc a e = true) : assignEach (e :: es) env = (false, assign e env) :: assignEach es env := by
  cases a with
  | n i => cases e <;> first | rfl | exact absurd h Bool.false_ne_true
  | t l => cases e <;> first | rfl | exact absurd h Bool.false_ne_true
mutual
theorem d_tg (ok : Ok T Φ gl b X sc) : ∀ (t : Tg) (e : Expr), chkTg T.N sc t e = true → PG X e (gPut X.K b t)
  | .n i, e, h => by
    cases e with
    | Name x p =>
      have h : (decide (T.N[i]? = some x) && isLoc sc x) = true := h
      simp only [Bool.and_eq_true] at h
      refine PG.imp (pg_name (i := i) (by rw [ok.N]; exact ok.nd) (by rw [ok.N]; exact of_decide_eq_true h.1) (ok.loc _ h.2) (ok.hf h.2)) fun v σ H Q q => ?_
      obtain ⟨S, g, d, ps, B, r, e, k⟩ := q
      simp only [flat] at e
      cases e
      exact k [(i, v)] (.cons ⟨rfl, r⟩ .nil)
    | _ => exact absurd h Bool.false_ne_true
  | .t l, e, h => by
    cases e with
    | Tuple es c p =>
      have h : chkTgs T.N sc l es = true := h
      obtain ⟨h1, h2⟩ := each_of (env := X.env) h
      refine PG.imp (pg_tup ok.calm (d_tgs ok l es h) h1 h2) fun v σ H Q q => ?_
      obtain ⟨S, g, d, ps, B, r, e, k⟩ := q
      cases d with
      | tuple ds =>
        have e : flats l ds = some ps := e
        obtain ⟨a, xs, rfl, hx, _, rr⟩ := r.tup_inv
        refine ⟨a, xs, rfl, B.sub.sqT hx, ?_, S, g, ds, ps, B, rr, e, k⟩
        rw [rr.length]
        exact flats_len l es h e
      | _ => cases e
    | _ => exact absurd h Bool.false_ne_true
theorem d_tgs (ok : Ok T Φ gl b X sc) : ∀ (t : Tgs) (es : List Expr), chkTgs T.N sc t es = true → PGs X es (gPuts X.K b t)
  | .nil, [], h => by
    refine PGs.imp pgs_nil fun v σ H Q q => ?_
    obtain ⟨S, g, ds, ps, B, r, e, k⟩ := q
    cases r with
    | nil =>
      cases e
      exact ⟨rfl, k [] .nil⟩
    | cons => cases e
  | .nil, _ :: _, h => absurd h Bool.false_ne_true
  | .cons _ _, [], h => absurd h Bool.false_ne_true
  | .cons a l, e :: es, h => by
    have h : (chkTg T.N sc a e && chkTgs T.N sc l es) = true := h
    simp only [Bool.and_eq_true] at h
    refine PGs.imp (pgs_cons (d_tg ok a e h.1) (d_tgs ok l es h.2) (by rw [each_cons h.1]; rfl)) fun vs σ H Q q => ?_
    obtain ⟨S, g, ds, ps, B, r, q, k⟩ := q
    cases r with
    | nil => cases q
    | cons r rr =>
      simp only [flats] at q
      split at q
      · rename_i p1 q1
        rename_i v vs d ds _
        cases e2 : flats l ds with
        | none =>
          rw [e2] at q
          cases q
        | some z =>
          rw [e2] at q
          cases q
          refine ⟨v, vs, rfl, S, g, d, p1, B, r, q1, fun qs h1 => ?_⟩
          refine ⟨S, g, ds, z, B, rr, e2, fun qs2 h2 => ?_⟩
          rw [← putV_app]
          exact k _ (h1.app h2)
      · cases q
end
end

/-! ### slots behind targets -/
section
variable {K : Frag} {b : Bg} {S : Hp}
theorem putV_len : ∀ (qs : List (Nat × V)) (σ : St), (putV σ qs).length = σ.length
  | [], σ => rfl
  | q :: qs, σ => by
    show (putV (σ.set q.1 (some q.2)) qs).length = σ.length
    rw [putV_len qs, List.length_set]
theorem sees_put : ∀ {ps : List (Nat × PyData)} {qs : List (Nat × V)} {η : Env} {σ : St}, PutR K b S ps qs → Sees K b S η σ → Sees K b S (putE η ps) (putV σ qs)
  | _, _, _, _, .nil, Z => Z
  | p :: ps, q :: qs, η, σ, .cons r t, Z => by
    show Sees K b S (putE (η.set p.1 (some p.2)) ps) (putV (σ.set q.1 (some q.2)) qs)
    refine sees_put t ⟨by rw [List.length_set, List.length_set, Z.len], fun i d e => ?_⟩
    rw [r.1] at e
    by_cases hi : q.1 = i
    · subst hi
      by_cases hl : q.1 < η.length
      · rw [List.getElem?_set_self hl] at e
        cases e
        exact ⟨q.2, by rw [List.getElem?_set_self (by rw [← Z.len]; exact hl)], r.2⟩
      · rw [List.getElem?_eq_none (by rw [List.length_set]; omega)] at e
        cases e
    · rw [List.getElem?_set_ne hi] at e
      rw [List.getElem?_set_ne hi]
      exact Z.at_ i d e
theorem wipe_get (σ : St) : ∀ (vs : List Nat) (i : Nat), (wipe σ vs)[i]? = if i ∈ vs then σ[i]?.map fun _ => none else σ[i]?
  | [], i => by simp [wipe]
  | v :: vs, i => by
    unfold wipe
    by_cases hv : v = i
    · subst hv
      rw [if_pos List.mem_cons_self]
      by_cases hl : v < σ.length
      · rw [List.getElem?_set_self (by rw [wipe_length]; exact hl), List.getElem?_eq_getElem hl]
        rfl
      · rw [List.getElem?_eq_none (by rw [List.length_set, wipe_length]; omega), List.getElem?_eq_none (by omega)]
        rfl
    · rw [List.getElem?_set_ne hv, wipe_get σ vs i]
      by_cases hm : i ∈ vs
      · rw [if_pos hm, if_pos (List.mem_cons_of_mem _ hm)]
      · rw [if_neg hm, if_neg]
        intro z
        rcases List.mem_cons.mp z with z | z
        · exact hv z.symm
        · exact hm z
theorem putV_get : ∀ (qs : List (Nat × V)) (σ : St) (i : Nat), i ∉ qs.map (·.1) → (putV σ qs)[i]? = σ[i]?
  | [], σ, i, _ => rfl
  | q :: qs, σ, i, h => by
    rw [List.map_cons, List.mem_cons, not_or] at h
    show (putV (σ.set q.1 (some q.2)) qs)[i]? = σ[i]?
    rw [putV_get qs _ i h.2, List.getElem?_set_ne (Ne.symm h.1)]
theorem wipe_put {σ : St} {qs : List (Nat × V)} {vs : List Nat} (h : ∀ i ∈ qs.map (·.1), i ∈ vs) : wipe (putV (wipe σ vs) qs) vs = wipe σ vs := by
  apply List.ext_getElem?
  intro i
  rw [wipe_get, wipe_get]
  by_cases hm : i ∈ vs
  · rw [if_pos hm, if_pos hm]
    have e : (putV (wipe σ vs) qs).length = σ.length := by rw [putV_len, wipe_length]
    by_cases hl : i < σ.length
    · rw [List.getElem?_eq_getElem hl, List.getElem?_eq_getElem (by rw [e]; exact hl)]
      rfl
    · rw [List.getElem?_eq_none (show (putV (wipe σ vs) qs).length ≤ i by rw [e]; omega), List.getElem?_eq_none (show σ.length ≤ i by omega)]
  · rw [if_neg hm, if_neg hm, putV_get qs _ i (fun z => hm (h i z)), wipe_get, if_neg hm]
theorem wipeE_len (η : Env) : ∀ vs : List Nat, (wipeE η vs).length = η.length
  | [] => rfl
  | v :: vs => by unfold wipeE; rw [List.length_set, wipeE_len η vs]
theorem sees_wipe {η : Env} {σ : St} (Z : Sees K b S η σ) : ∀ vs : List Nat, Sees K b S (wipeE η vs) (wipe σ vs)
  | [] => Z
  | v :: vs => by
    have ih := sees_wipe Z vs
    refine ⟨by rw [wipeE_len, wipe_length]; exact Z.len, fun i d e => ?_⟩
    unfold wipeE at e
    unfold wipe
    by_cases hv : v = i
    · subst hv
      by_cases hl : v < (wipeE η vs).length
      · rw [List.getElem?_set_self hl] at e
        cases e
      · rw [List.getElem?_eq_none (by rw [List.length_set]; omega)] at e
        cases e
    · rw [List.getElem?_set_ne hv] at e
      rw [List.getElem?_set_ne hv]
      exact ih.at_ i d e
mutual
theorem flat_slots : ∀ (t : Tg) {d : PyData} {ps : List (Nat × PyData)}, flat t d = some ps → ∀ i ∈ ps.map (·.1), i ∈ t.slots
  | .n i, d, ps, h, j, hj => by
    simp only [flat] at h
    cases h
    simpa [Tg.slots] using hj
  | .t l, .tuple ds, ps, h, j, hj => flats_slots l (show flats l ds = some ps from h) j hj
  | .t l, .none, _, h, _, _ => by cases h
  | .t l, .bool _, _, h, _, _ => by cases h
  | .t l, .int _, _, h, _, _ => by cases h
  | .t l, .str _, _, h, _, _ => by cases h
  | .t l, .list _, _, h, _, _ => by cases h
  | .t l, .dict _, _, h, _, _ => by cases h
theorem flats_slots : ∀ (t : Tgs) {ds : List PyData} {ps : List (Nat × PyData)}, flats t ds = some ps → ∀ i ∈ ps.map (·.1), i ∈ t.slots
  | .nil, [], _, h, j, hj => by
    cases h
    simp at hj
  | .nil, _ :: _, _, h, _, _ => by cases h
  | .cons a l, [], _, h, _, _ => by cases h
  | .cons a l, d :: ds, ps, h, j, hj => by
    simp only [flats] at h
    split at h
    · rename_i p1 q1
      cases e2 : flats l ds with
      | none =>
        rw [e2] at h
        cases h
      | some z =>
        rw [e2] at h
        cases h
        rw [List.map_append] at hj
        simp only [Tgs.slots]
        rcases List.mem_append.mp hj with m | m
        · exact List.mem_append.mpr (.inl (flat_slots a q1 j m))
        · exact List.mem_append.mpr (.inr (flats_slots l e2 j m))
    · cases h
end
end

/-! ### iterables -/
structure Wk (K : Frag) (b : Bg) (S : Hp) (J : L2.It) (ds : List PyData) : Prop where
  go : ∀ i H, Exd S H → i < ds.length → J.go i H
  yld : ∀ i H x H' S1 g, Exd S S1 → Bs K b S1 g H → i < ds.length → J.yld i H x H' → ∃ d S2, ds[i]? = some d ∧ Stp b S1 H S2 H' ∧ Bs K b S2 g H' ∧ Rp K b S2 x d
  stop : ∀ H, Exd S H → J.stop ds.length H
def tDI (K : Frag) (b : Bg) (m : Ma) : TI := fun σ H R => ∃ S η g, Bs K b S g H ∧ Sees K b S η σ ∧ ∃ ds g', m η g = some (ds, g') ∧ ∀ J S' H', Stp b S H S' H' → Bs K b S' g' H' → Wk K b S' J ds → R J H'
section
variable {K : Frag} {b : Bg} {S : Hp}
theorem sqT_fun {H : Hp} {a : Addr} {xs ys : List V} (h : SqT K H a xs) (e : H a = some (.tup ys)) : SqT K H a ys := .inl (.inl e)
theorem wk_lst {a : Addr} {xs : List V} {ds : List PyData} (h : S a = some (.lst xs)) (r : RpAll K b S xs ds) : Wk K b S (Itl K a) ds where
  go := fun i H e hi => by
    obtain ⟨v, h1, _⟩ := r.get (List.getElem?_eq_getElem hi)
    exact ⟨xs, v, .inl (.inl (e _ _ h)), h1⟩
  yld := fun i H x H' S1 g e B hi y => by
    obtain ⟨rfl, y⟩ := y
    have hx := y xs (.inl (.inl (B.sub _ _ (e _ _ h))))
    obtain ⟨d, h1, h2⟩ := r.get' hx
    exact ⟨d, S1, h1, Stp.refl b S1 _, B, h2.mono e⟩
  stop := fun H e => ⟨xs, .inl (.inl (e _ _ h)), by rw [r.length]; exact Nat.le_refl _⟩
theorem wk_tup {a : Addr} {xs : List V} {ds : List PyData} (h : SqT K S a xs) (r : RpAll K b S xs ds) : Wk K b S (Itt K a) ds where
  go := fun i H e hi => by
    obtain ⟨v, h1, _⟩ := r.get (List.getElem?_eq_getElem hi)
    exact ⟨xs, v, e.sqT h, h1⟩
  yld := fun i H x H' S1 g e B hi y => by
    obtain ⟨rfl, y⟩ := y
    have hx := y xs (B.sub.sqT (e.sqT h))
    obtain ⟨d, h1, h2⟩ := r.get' hx
    exact ⟨d, S1, h1, Stp.refl b S1 _, B, h2.mono e⟩
  stop := fun H e => ⟨xs, e.sqT h, by rw [r.length]; exact Nat.le_refl _⟩
theorem wk_rng (lo : Int) (n : Nat) : Wk K b S (Itr lo n) (rangeD lo n) where
  go := fun i H e hi => by
    show i < n
    simpa [rangeD] using hi
  yld := fun i H x H' S1 g e B hi y => by
    obtain ⟨rfl, rfl⟩ := y
    have hn : i < n := by simpa [rangeD] using hi
    exact ⟨.int (lo + i), S1, by simp [rangeD, hn], Stp.refl b S1 _, B, .int _⟩
  stop := fun H e => by
    show n ≤ (rangeD lo n).length
    simp [rangeD]
theorem wk_str (s : Str) : Wk K b S (Its s) (s.cps.toList.map fun c => .str ⟨#[c]⟩) where
  go := fun i H e hi => by
    show i < s.cps.size
    simpa using hi
  yld := fun i H x H' S1 g e B hi y => by
    obtain ⟨rfl, c, hc, rfl⟩ := y
    refine ⟨.str ⟨#[c]⟩, S1, ?_, Stp.refl b S1 _, B, .str _⟩
    rw [List.getElem?_map]
    have e : s.cps.toList[i]? = some c := by simpa using hc
    rw [e]
    rfl
  stop := fun H e => by
    show s.cps.size ≤ _
    simp
theorem enm_len : ∀ (i : Nat) (ds : List PyData), (enmD i ds).length = ds.length
  | _, [] => rfl
  | i, d :: ds => by rw [enmD, List.length_cons, List.length_cons, enm_len (i + 1) ds]
theorem enm_get : ∀ (ds : List PyData) (k i : Nat) {d : PyData}, ds[i]? = some d → (enmD k ds)[i]? = some (.tuple [.int ((k + i : Nat) : Int), d])
  | [], _, _, _, h => by simp at h
  | d :: ds, k, 0, _, h => by
    simp at h
    subst h
    simp [enmD]
  | d :: ds, k, i + 1, e, h => by
    have := enm_get ds (k + 1) i (d := e) (by simpa using h)
    rw [enmD, List.getElem?_cons_succ, this]
    congr 4
    omega
theorem wk_enmL {a : Addr} {xs : List V} {ds : List PyData} (h : S a = some (.lst xs)) (r : RpAll K b S xs ds) : Wk K b S (Ite K a) (enmD 0 ds) where
  go := fun i H e hi => by
    rw [enm_len] at hi
    obtain ⟨v, h1, _⟩ := r.get (List.getElem?_eq_getElem hi)
    exact ⟨xs, v, .inl (.inl (e _ _ h)), h1⟩
  yld := fun i H x H' S1 g e B hi y => by
    obtain ⟨q, x', rfl, hq, rfl, y⟩ := y
    have hx := y xs (.inl (.inl (B.sub _ _ (e _ _ h))))
    obtain ⟨d, h1, h2⟩ := r.get' hx
    exact ⟨_, _, by rw [enm_get ds 0 i h1, Nat.zero_add], Stp.new1 B hq _, B.new hq _, B.newT hq (.cons (.int _) (.cons (h2.mono e) .nil)) (by show 2 ≤ lim; decide)⟩
  stop := fun H e => ⟨xs, .inl (.inl (e _ _ h)), by rw [enm_len, r.length]; exact Nat.le_refl _⟩
theorem wk_enmT {a : Addr} {xs : List V} {ds : List PyData} (h : SqT K S a xs) (r : RpAll K b S xs ds) : Wk K b S (IteT K a) (enmD 0 ds) where
  go := fun i H e hi => by
    rw [enm_len] at hi
    obtain ⟨v, h1, _⟩ := r.get (List.getElem?_eq_getElem hi)
    exact ⟨xs, v, e.sqT h, h1⟩
  yld := fun i H x H' S1 g e B hi y => by
    obtain ⟨q, x', rfl, hq, rfl, y⟩ := y
    have hx := y xs (B.sub.sqT (e.sqT h))
    obtain ⟨d, h1, h2⟩ := r.get' hx
    exact ⟨_, _, by rw [enm_get ds 0 i h1, Nat.zero_add], Stp.new1 B hq _, B.new hq _, B.newT hq (.cons (.int _) (.cons (h2.mono e) .nil)) (by show 2 ≤ lim; decide)⟩
  stop := fun H e => ⟨xs, e.sqT h, by rw [enm_len, r.length]⟩
end
section
variable {T : Tab} {Φ : Fns} {gl : Nat → Option PyData} {b : Bg} {X : Cx} {sc : Scope} {tg : Expr}
theorem d_iseq {a : E} {x : Expr} (ha : PE X x (tD X.K b (evE Φ gl a))) : PI X tg x (tDI X.K b (evI Φ gl (.seq a))) := by
  refine ⟨fun pins s σ H R I h => ?_⟩
  obtain ⟨S, η, g, B, Z, ds, g', e, k⟩ := h
  simp only [evI] at e
  split at e
  · rename_i d1 g1 e1
    cases d1 with
    | list ds1 =>
      cases e
      refine (pi_list ha).run pins s σ H R I (tD.seq B Z e1 fun v S1 H1 st1 B1 Z1 r1 => ?_)
      obtain ⟨q, xs, rfl, hx, _, rr⟩ := r1.lst_inv
      exact ⟨q, rfl, ⟨xs, .inl (.inl (B1.sub _ _ hx))⟩, k _ S1 H1 st1 B1 (wk_lst hx rr)⟩
    | tuple ds1 =>
      cases e
      refine (pi_tup ha).run pins s σ H R I (tD.seq B Z e1 fun v S1 H1 st1 B1 Z1 r1 => ?_)
      obtain ⟨q, xs, rfl, hx, _, rr⟩ := r1.tup_inv
      exact ⟨q, rfl, ⟨xs, B1.sub.sqT hx⟩, k _ S1 H1 st1 B1 (wk_tup hx rr)⟩
    | str t =>
      cases e
      refine (pi_str ha).run pins s σ H R I (tD.seq B Z e1 fun v S1 H1 st1 B1 Z1 r1 => ?_)
      cases r1.str_inv
      exact ⟨t, rfl, k _ S1 H1 st1 B1 (wk_str t)⟩
    | _ => cases e
  · cases e
theorem d_irng {a : E} {x : Expr} {p pos : Pos} (ok : Ok T Φ gl b X sc) (hg : isGl sc "range" = true) (hn : notStar x = true) (ha : PE X x (tD X.K b (evE Φ gl a))) : PI X tg (.Call (.Name "range" p) [x] [] pos) (tDI X.K b (evI Φ gl (.rng a))) := by
  refine ⟨fun pins s σ H R I h => ?_⟩
  obtain ⟨S, η, g, B, Z, ds, g', e, k⟩ := h
  refine (pi_range1 (ok.isg hg) (ok.fk.blt _ (by decide)) (pa_cons ha pa_nil (starEach_of hn)) (starEach_of hn)).run pins s σ H R I ?_
  simp only [evI] at e
  split at e
  · rename_i j g1 e1
    split at e
    · rename_i hj
      cases e
      refine tD.seq B Z e1 fun v S1 H1 st1 B1 Z1 r1 => ?_
      cases r1.int_inv
      have hL : ((lim : Nat) : Int) = 16777216 := rfl
      exact ⟨j, rfl, by omega, by omega, k _ S1 H1 st1 B1 (wk_rng 0 _)⟩
    · cases e
  · cases e
theorem d_irng2 {a a' : E} {x y : Expr} {p pos : Pos} (ok : Ok T Φ gl b X sc) (hg : isGl sc "range" = true) (hn : notStar x = true) (hn2 : notStar y = true) (ha : PE X x (tD X.K b (evE Φ gl a))) (hb : PE X y (tD X.K b (evE Φ gl a'))) : PI X tg (.Call (.Name "range" p) [x, y] [] pos) (tDI X.K b (evI Φ gl (.rng2 a a'))) := by
  refine ⟨fun pins s σ H R I h => ?_⟩
  obtain ⟨S, η, g, B, Z, ds, g', e, k⟩ := h
  refine (pi_range2 (ok.isg hg) (ok.fk.blt _ (by decide)) (pa_cons ha (pa_cons hb pa_nil (starEach_of hn2)) (starEach_of hn)) (by rw [starEach_of hn, starEach_of hn2]; rfl) (starEach_of hn2)).run pins s σ H R I ?_
  simp only [evI] at e
  split at e
  · rename_i i g1 e1
    split at e
    · rename_i j g2 e2
      split at e
      · rename_i hj
        cases e
        refine tD.seq B Z e1 fun v S1 H1 st1 B1 Z1 r1 => ?_
        cases r1.int_inv
        refine tD.seq B1 Z1 e2 fun v S2 H2 st2 B2 Z2 r2 => ?_
        cases r2.int_inv
        have hL : ((lim : Nat) : Int) = 16777216 := rfl
        exact ⟨i, j, rfl, by omega, k _ S2 H2 (st1.trans st2) B2 (wk_rng i _)⟩
      · cases e
    · cases e
  · cases e

/-! ### comprehensions -/
theorem d_ienm {a : E} {x : Expr} {p pos tpos : Pos} {elts : List Expr} {kk : Nat} (ok : Ok T Φ gl b X sc) (hg : isGl sc "enumerate" = true) (hn : notStar x = true) (ha : PE X x (tD X.K b (evE Φ gl a))) : PI X (.Tuple elts kk tpos) (.Call (.Name "enumerate" p) [x] [] pos) (tDI X.K b (evI Φ gl (.enm a))) := by
  refine ⟨fun pins s σ H R I h => ?_⟩
  obtain ⟨S, η, g, B, Z, ds, g', e, k⟩ := h
  simp only [evI] at e
  split at e
  · rename_i d1 g1 e1
    have e2 : evA Φ gl (.cons a .nil) η g = some ([d1], g1) := by simp only [evA, e1, Option.map_some]
    refine (pi_enumA (ok.isg hg) (ok.fk.blt _ (by decide)) (d_acons hn ha d_anil) (starEach_of hn)).run pins s σ H R I (tDA.seq B Z e2 fun vs S1 H1 st1 B1 Z1 r1 => ?_)
    cases r1 with
    | cons r rr =>
      cases rr
      cases d1 with
      | list ds1 =>
        cases e
        obtain ⟨q, xs, rfl, hx, _, rr⟩ := r.lst_inv
        exact ⟨q, xs, rfl, .inl ⟨.inl (.inl (B1.sub _ _ hx)), k _ S1 H1 st1 B1 (wk_enmL hx rr)⟩⟩
      | tuple ds1 =>
        cases e
        obtain ⟨q, xs, rfl, hx, _, rr⟩ := r.tup_inv
        exact ⟨q, xs, rfl, .inr ⟨B1.sub.sqT hx, k _ S1 H1 st1 B1 (wk_enmT hx rr)⟩⟩
      | _ => cases e
  · cases e
theorem d_cno : PTs X [] (tDT X.K b (evC Φ gl .no)) := by
  refine ⟨fun pins s σ H Q I q => ?_⟩
  refine pts_nil.run pins s σ H Q I ?_
  obtain ⟨S, η, g, B, Z, d, g', e, k⟩ := q
  simp only [evC] at e
  cases e
  exact k S H (Stp.refl b S H) B
theorem evC_so {a : E} : evC Φ gl (.so a) = evB Φ gl a := by
  funext η g
  simp only [evC, evB]
  try rfl
theorem d_cso {a : E} {x : Expr} (h : PT X x (tDT X.K b (evB Φ gl a))) : PTs X [x] (tDT X.K b (evC Φ gl (.so a))) := by
  rw [evC_so]
  exact pts_one h
/-- one more item in the list under way -/
theorem Bs.grow {K : Frag} {S H : Hp} {g : Bag} {D : Addr} {o : HO} (B : Bs K b S g H) (hD : S D = none) (hb : b.a ≠ D) : Bs K b S g (upd H D o) where
  sub := fun a u e => by
    rw [upd_ne (ne_of_none e hD)]
    exact B.sub a u e
  sb := B.sb
  bag := by
    exact ⟨by rw [upd_ne hb]; exact B.bag.1, B.bag.2⟩
theorem Stp.keepD {S H S' H' : Hp} {D : Addr} {o : HO} (st : Stp b S H S' H') (hS : S D = none) (hH : H D = some o) (hb : D ≠ b.a) : S' D = none ∧ H' D = some o := by
  refine ⟨?_, st.kp D o hb hH⟩
  cases e : S' D with
  | none => rfl
  | some u =>
    rcases st.new D u e with z | z
    · rw [hS] at z
      cases z
    · rw [hH] at z
      cases z
theorem Stp.grow {S0 H0 S H : Hp} {D : Addr} {o : HO} (st : Stp b S0 H0 S H) (h0 : H0 D = none) : Stp b S0 H0 S (upd H D o) where
  ex := st.ex
  new := st.new
  kp := fun a u n e => by
    rw [upd_ne (ne_of_none e h0)]
    exact st.kp a u n e
  dm := fun a e => by
    by_cases ha : a = D
    · rw [ha]
      exact h0
    · rw [upd_ne ha] at e
      exact st.dm a e
theorem comp_len {f : PyData → Bag → Option (Option PyData × Bag)} : ∀ {ds acc : List PyData} {g : Bag} {res : List PyData} {g' : Bag}, comp f ds acc g = some (res, g') → res.length ≤ acc.length + ds.length
  | [], acc, g, res, g', h => by
    cases h
    simp
  | d :: ds, acc, g, res, g', h => by
    simp only [comp] at h
    split at h
    · have ih := comp_len h
      simp only [List.length_append, List.length_cons, List.length_nil] at ih ⊢
      omega
    · have ih := comp_len h
      simp only [List.length_cons] at ih ⊢
      omega
    · cases h
/-- the value is a new list, not among the shared ones -/
def tDL (K : Frag) (b : Bg) (m : Md) : TE := fun σ H Q => ∃ S η g, Bs K b S g H ∧ Sees K b S η σ ∧ ∃ ds g', m η g = some (.list ds, g') ∧
  ∀ D S' H' acc, H D = none → S' D = none → H' D = some (.lst acc) → RpAll K b S' acc ds → acc.length ≤ lim → Stp b S H S' H' → Bs K b S' g' H' → Q (.ref D) H'
theorem lc_readL {t : Tg} {own : List Nat} {it : It} {c : Eo} {e : E} (hown : ∀ i ∈ t.slots, i ∈ own) {σ : St} {H : Hp} {Q : VK} (q : tDL X.K b (evE Φ gl (.lc t own it c e)) σ H Q) :
    tLc (tDI X.K b (evI Φ gl it)) (gPut X.K b t) (tDT X.K b (evC Φ gl c)) (tD X.K b (evE Φ gl e)) own σ H Q := by
  obtain ⟨S, η, g, B, Z, d, g', ev, k⟩ := q
  simp only [evE] at ev
  split at ev
  · rename_i ds g1 e1
    split at ev
    · rename_i hlen
      generalize hf : lcF t own (evC Φ gl c) (evE Φ gl e) η = f at ev
      cases ev2 : comp f ds [] g1 with
      | none =>
        rw [ev2] at ev
        cases ev
      | some res =>
        rw [ev2] at ev
        cases ev
        refine ⟨S, η, g, B, Z, ds, g1, e1, fun J S1 H1 st1 B1 W1 D hD => ?_⟩
        have hD0 : H D = none := st1.dm D hD
        have hbD : D ≠ b.a := Ne.symm (B1.nb hD)
        refine ⟨fun i m Hi => ∃ (Si : Hp) (gi : Bag) (acc : List V) (accd : List PyData), m = ds.length - i ∧ i ≤ ds.length ∧ Bs X.K b Si gi Hi ∧ Exd S1 Si ∧ Stp b S H Si Hi ∧ Si D = none ∧ Hi D = some (.lst acc) ∧ RpAll X.K b Si acc accd ∧ accd.length ≤ i ∧ comp f (ds.drop i) accd gi = some res,
          ⟨ds.length, S1, g1, [], [], by simp, Nat.zero_le _, B1.grow (B1.free hD) (Ne.symm hbD), Exd.refl _, st1.grow hD0, B1.free hD, upd_same, .nil, Nat.le_refl _, ev2⟩, fun i m Hi hW => ?_⟩
        obtain ⟨Si, gi, acc, accd, rfl, hil, Bi, exi, sti, SD, HD, racc, lacc, evi⟩ := hW
        by_cases hlt : i < ds.length
        · refine .inr ⟨W1.go i Hi (exi.trans Bi.sub) hlt, fun H' => ∃ (Si' : Hp) (gi' : Bag) (acc' : List V) (accd' : List PyData), Bs X.K b Si' gi' H' ∧ Exd S1 Si' ∧ Stp b S H Si' H' ∧ Si' D = none ∧ H' D = some (.lst acc') ∧ RpAll X.K b Si' acc' accd' ∧ accd'.length ≤ i + 1 ∧ comp f (ds.drop (i + 1)) accd' gi' = some res, ?_, ?_⟩
          · rintro H' ⟨Si', gi', acc', accd', h1, h2, h3, h4, h5, h6, h7, h8⟩
            exact ⟨ds.length - (i + 1), by omega, Si', gi', acc', accd', rfl, hlt, h1, h2, h3, h4, h5, h6, h7, h8⟩
          · intro x H' hy
            obtain ⟨d, S2, hd, st2, B2, r2⟩ := W1.yld i Hi x H' Si gi exi Bi hlt hy
            obtain ⟨SD2, HD2⟩ := st2.keepD SD HD hbD
            have edrop : ds.drop i = d :: ds.drop (i + 1) := by
              rw [List.drop_eq_getElem_cons hlt]
              rw [List.getElem?_eq_getElem hlt] at hd
              cases hd
              rfl
            rw [edrop] at evi
            simp only [comp] at evi
            cases ef : f d gi with
            | none =>
              rw [ef] at evi
              cases evi
            | some fr =>
              rw [ef] at evi
              have ef2 := ef
              rw [← hf] at ef2
              unfold lcF at ef2
              cases efl : flat t d with
              | none =>
                rw [efl] at ef2
                cases ef2
              | some ps =>
                rw [efl] at ef2
                simp only at ef2
                refine ⟨S2, gi, d, ps, B2, r2, efl, fun qs hqs => ⟨?_, ?_⟩⟩
                · refine wipe_put fun j hj => ?_
                  rw [hqs.slots] at hj
                  exact hown j (flat_slots t efl j hj)
                · have Z2 : Sees X.K b S2 (putE (wipeE η own) ps) (putV (wipe σ own) qs) := sees_put hqs (sees_wipe (Z.mono (sti.ex.trans st2.ex)) own)
                  cases ec : evC Φ gl c (putE (wipeE η own) ps) gi with
                  | none =>
                    rw [ec] at ef2
                    cases ef2
                  | some cr =>
                    obtain ⟨cb, gc⟩ := cr
                    rw [ec] at ef2
                    refine tDT.seq B2 Z2 ec fun S3 H3 st3 B3 Z3 => ?_
                    obtain ⟨SD3, HD3⟩ := st3.keepD SD2 HD2 hbD
                    cases cb with
                    | false =>
                      cases ef2
                      exact iteF ⟨S3, gc, acc, accd, B3, (exi.trans st2.ex).trans st3.ex, (sti.trans st2).trans st3, SD3, HD3, (racc.mono st2.ex).mono st3.ex, Nat.le_succ_of_le lacc, evi⟩
                    | true =>
                      simp only at ef2
                      cases ee : evE Φ gl e (putE (wipeE η own) ps) gc with
                      | none =>
                        rw [ee] at ef2
                        cases ef2
                      | some er =>
                        obtain ⟨z, ge⟩ := er
                        rw [ee] at ef2
                        cases ef2
                        refine iteT (tD.seq B3 Z3 ee fun y S4 H4 st4 B4 Z4 r4 => ?_)
                        obtain ⟨SD4, HD4⟩ := st4.keepD SD3 HD3 hbD
                        refine ⟨acc, HD4, ?_, S4, ge, acc ++ [y], accd ++ [z], B4.grow SD4 (Ne.symm hbD), ((exi.trans st2.ex).trans st3.ex).trans st4.ex, (((sti.trans st2).trans st3).trans st4).grow hD0, SD4, upd_same, (((racc.mono st2.ex).mono st3.ex).mono st4.ex).snoc r4, ?_, evi⟩
                        · rw [racc.length]
                          exact lt_size (by omega)
                        · rw [List.length_append, List.length_singleton]
                          omega
        · have hi : i = ds.length := by omega
          subst hi
          rw [List.drop_length] at evi
          simp only [comp] at evi
          cases evi
          refine .inl ⟨W1.stop Hi (exi.trans Bi.sub), ?_⟩
          exact k D Si Hi acc hD0 SD HD racc (by rw [racc.length]; omega) sti Bi
    · cases ev
  · cases ev
theorem tD.toL {m : Md} (hm : ∀ η g d g', m η g = some (d, g') → ∃ ds, d = .list ds) {σ : St} {H : Hp} {Q : VK} (q : tD X.K b m σ H Q) : tDL X.K b m σ H Q := by
  obtain ⟨S, η, g, B, Z, d, g', ev, k⟩ := q
  obtain ⟨ds, rfl⟩ := hm η g d g' ev
  refine ⟨S, η, g, B, Z, ds, g', ev, fun D Si Hi acc hD0 SD HD racc hl sti Bi => ?_⟩
  have hbD : D ≠ b.a := fun z => by
    obtain ⟨o, ho⟩ := B.hb
    rw [← z, hD0] at ho
    cases ho
  refine k (.ref D) (upd Si D (.lst acc)) Hi ⟨sti.ex.trans (Exd.new SD), fun a o e => ?_, sti.kp, sti.dm⟩ ⟨fun a o e => ?_, ?_, ?_⟩ (.lst upd_same hl (racc.mono (Exd.new SD)))
  · by_cases ha : a = D
    · rw [ha]
      exact .inr hD0
    · rw [upd_ne ha] at e
      exact sti.new a o e
  · by_cases ha : a = D
    · rw [ha, upd_same] at e
      cases e
      rw [ha]
      exact HD
    · rw [upd_ne ha] at e
      exact Bi.sub a o e
  · rw [upd_ne (Ne.symm hbD)]
    exact Bi.sb
  · exact ⟨Bi.bag.1, (Exd.new SD).sqL Bi.bag.2⟩
theorem lc_list {t : Tg} {own : List Nat} {it : It} {c : Eo} {e : E} : ∀ η g d g', evE Φ gl (.lc t own it c e) η g = some (d, g') → ∃ ds, d = .list ds := fun η g d g' h => by
  simp only [evE] at h
  split at h
  · split at h
    · rename_i ds g1 _ _
      cases q : comp (lcF t own (evC Φ gl c) (evE Φ gl e) η) ds [] g1 with
      | none =>
        rw [q] at h
        cases h
      | some r =>
        rw [q] at h
        cases h
        exact ⟨_, rfl⟩
    · cases h
  · cases h
theorem lc_read {t : Tg} {own : List Nat} {it : It} {c : Eo} {e : E} (hown : ∀ i ∈ t.slots, i ∈ own) {σ : St} {H : Hp} {Q : VK} (q : tD X.K b (evE Φ gl (.lc t own it c e)) σ H Q) :
    tLc (tDI X.K b (evI Φ gl it)) (gPut X.K b t) (tDT X.K b (evC Φ gl c)) (tD X.K b (evE Φ gl e)) own σ H Q := lc_readL hown (tD.toL lc_list q)
theorem own_ids (N : List Str) (own : List Nat) : (own.map fun i => (N.getD i Str.empty, i)).map (·.2) = own := by
  rw [List.map_map]
  exact List.map_id' own
theorem d_lc {t : Tg} {own : List Nat} {it : It} {c : Eo} {e : E} {elt tgt iter : Expr} {ifs : List Expr} {scope : Scope} {pos : Pos} (ok : Ok T Φ gl b X sc)
    (hblk : blkC T.N sc scope (own.map fun i => (T.N.getD i Str.empty, i)) = true) (hown : ∀ i ∈ t.slots, i ∈ own) (hset : notSet iter = true) (hi : PI X tgt iter (tDI X.K b (evI Φ gl it)))
    (hg : ∀ X', Ok T Φ gl b X' scope → PG X' tgt (gPut X'.K b t)) (hc : ∀ X', Ok T Φ gl b X' scope → PTs X' ifs (tDT X'.K b (evC Φ gl c))) (he : ∀ X', Ok T Φ gl b X' scope → PE X' elt (tD X'.K b (evE Φ gl e))) :
    PE X (.ListComp elt [⟨tgt, iter, ifs, 0⟩] scope pos) (tD X.K b (evE Φ gl (.lc t own it c e))) := by
  have ok' : ∀ (s : Shared) (H : Hp) (C : Addr) (cl : List (Str × Addr)) (fp : List Addr), Ok T Φ gl b (X.blk s H scope (compEnvC scope cl C X.env) fp) scope := fun s H C cl fp => ok.blk s H scope C cl fp
  have h := pe_lc (pos := pos) (g := gPut X.K b t) (tt := tDT X.K b (evC Φ gl c)) (te := tD X.K b (evE Φ gl e)) (own := own.map fun i => (T.N.getD i Str.empty, i)) ok.calm (by rw [ok.N]; exact ok.nd) hi (by rw [ok.N]; have z := blkOk_by hblk; exact ⟨z.kind, z.uniq, z.ix, fun y hy e => ok.cf _ (z.free y hy e), z.own⟩)
    (fun s H C cl fp => hg _ (ok' s H C cl fp)) (fun s H C cl fp => hc _ (ok' s H C cl fp)) (fun s H C cl fp => he _ (ok' s H C cl fp)) (folded_of hset)
  rw [own_ids] at h
  exact PE.imp h fun σ H Q q => lc_read hown q
/-- name = [..] on one line -/
theorem d_setLc {i : Nat} {y : Str} {py spos : Pos} {t : Tg} {own : List Nat} {it : It} {c : Eo} {e : E} {elt tgt iter : Expr} {ifs : List Expr} {scope : Scope} {pos : Pos} (ok : Ok T Φ gl b X sc) (hy : T.N[i]? = some y) (hyl : X.env.scope.names.lookup y = some .local)
    (hsw : swapsWith (.ListComp elt [⟨tgt, iter, ifs, 0⟩] scope pos) (some (.Name y py)) spos.line X.env = pure true)
    (hblk : blkC T.N sc scope (own.map fun i => (T.N.getD i Str.empty, i)) = true) (hown : ∀ i ∈ t.slots, i ∈ own) (hset : notSet iter = true) (hi : PI X tgt iter (tDI X.K b (evI Φ gl it)))
    (hg : ∀ X', Ok T Φ gl b X' scope → PG X' tgt (gPut X'.K b t)) (hc : ∀ X', Ok T Φ gl b X' scope → PTs X' ifs (tDT X'.K b (evC Φ gl c))) (he : ∀ X', Ok T Φ gl b X' scope → PE X' elt (tD X'.K b (evE Φ gl e))) :
    PS X (.Assign [.Name y py] (.ListComp elt [⟨tgt, iter, ifs, 0⟩] scope pos) spos) (tAsg (tD X.K b (evE Φ gl (.lc t own it c e))) (gName i)) := by
  have ok' : ∀ (s : Shared) (H : Hp) (C : Addr) (cl : List (Str × Addr)) (fp : List Addr), Ok T Φ gl b (X.blk s H scope (compEnvC scope cl C X.env) fp) scope := fun s H C cl fp => ok.blk s H scope C cl fp
  have h := ps_setLc (i := i) (pos := pos) (g := gPut X.K b t) (tt := tDT X.K b (evC Φ gl c)) (te := tD X.K b (evE Φ gl e)) (own := own.map fun i => (T.N.getD i Str.empty, i)) ok.calm (by rw [ok.N]; exact ok.nd) (by rw [ok.N]; exact hy) hyl hsw hi (by rw [ok.N]; have z := blkOk_by hblk; exact ⟨z.kind, z.uniq, z.ix, fun y hy e => ok.cf _ (z.free y hy e), z.own⟩)
    (fun s H C cl fp => hg _ (ok' s H C cl fp)) (fun s H C cl fp => hc _ (ok' s H C cl fp)) (fun s H C cl fp => he _ (ok' s H C cl fp)) (folded_of hset)
  rw [own_ids] at h
  exact PS.imp h fun D σ H q => lc_read hown q
theorem d_lcL {t : Tg} {own : List Nat} {it : It} {c : Eo} {e : E} {elt tgt iter : Expr} {ifs : List Expr} {scope : Scope} {pos : Pos} (ok : Ok T Φ gl b X sc)
    (hblk : blkC T.N sc scope (own.map fun i => (T.N.getD i Str.empty, i)) = true) (hown : ∀ i ∈ t.slots, i ∈ own) (hset : notSet iter = true) (hi : PI X tgt iter (tDI X.K b (evI Φ gl it)))
    (hg : ∀ X', Ok T Φ gl b X' scope → PG X' tgt (gPut X'.K b t)) (hc : ∀ X', Ok T Φ gl b X' scope → PTs X' ifs (tDT X'.K b (evC Φ gl c))) (he : ∀ X', Ok T Φ gl b X' scope → PE X' elt (tD X'.K b (evE Φ gl e))) :
    PE X (.ListComp elt [⟨tgt, iter, ifs, 0⟩] scope pos) (tDL X.K b (evE Φ gl (.lc t own it c e))) := by
  have ok' : ∀ (s : Shared) (H : Hp) (C : Addr) (cl : List (Str × Addr)) (fp : List Addr), Ok T Φ gl b (X.blk s H scope (compEnvC scope cl C X.env) fp) scope := fun s H C cl fp => ok.blk s H scope C cl fp
  have h := pe_lc (pos := pos) (g := gPut X.K b t) (tt := tDT X.K b (evC Φ gl c)) (te := tD X.K b (evE Φ gl e)) (own := own.map fun i => (T.N.getD i Str.empty, i)) ok.calm (by rw [ok.N]; exact ok.nd) hi (by rw [ok.N]; have z := blkOk_by hblk; exact ⟨z.kind, z.uniq, z.ix, fun y hy e => ok.cf _ (z.free y hy e), z.own⟩)
    (fun s H C cl fp => hg _ (ok' s H C cl fp)) (fun s H C cl fp => hc _ (ok' s H C cl fp)) (fun s H C cl fp => he _ (ok' s H C cl fp)) (folded_of hset)
  rw [own_ids] at h
  exact PE.imp h fun σ H Q q => lc_readL hown q
/-- the same, told as new -/
theorem d_setLcL {i : Nat} {y : Str} {py spos : Pos} {t : Tg} {own : List Nat} {it : It} {c : Eo} {e : E} {elt tgt iter : Expr} {ifs : List Expr} {scope : Scope} {pos : Pos} (ok : Ok T Φ gl b X sc) (hy : T.N[i]? = some y) (hyl : X.env.scope.names.lookup y = some .local)
    (hsw : swapsWith (.ListComp elt [⟨tgt, iter, ifs, 0⟩] scope pos) (some (.Name y py)) spos.line X.env = pure true)
    (hblk : blkC T.N sc scope (own.map fun i => (T.N.getD i Str.empty, i)) = true) (hown : ∀ i ∈ t.slots, i ∈ own) (hset : notSet iter = true) (hi : PI X tgt iter (tDI X.K b (evI Φ gl it)))
    (hg : ∀ X', Ok T Φ gl b X' scope → PG X' tgt (gPut X'.K b t)) (hc : ∀ X', Ok T Φ gl b X' scope → PTs X' ifs (tDT X'.K b (evC Φ gl c))) (he : ∀ X', Ok T Φ gl b X' scope → PE X' elt (tD X'.K b (evE Φ gl e))) :
    PS X (.Assign [.Name y py] (.ListComp elt [⟨tgt, iter, ifs, 0⟩] scope pos) spos) (tAsg (tDL X.K b (evE Φ gl (.lc t own it c e))) (gName i)) := by
  have ok' : ∀ (s : Shared) (H : Hp) (C : Addr) (cl : List (Str × Addr)) (fp : List Addr), Ok T Φ gl b (X.blk s H scope (compEnvC scope cl C X.env) fp) scope := fun s H C cl fp => ok.blk s H scope C cl fp
  have h := ps_setLc (i := i) (pos := pos) (g := gPut X.K b t) (tt := tDT X.K b (evC Φ gl c)) (te := tD X.K b (evE Φ gl e)) (own := own.map fun i => (T.N.getD i Str.empty, i)) ok.calm (by rw [ok.N]; exact ok.nd) (by rw [ok.N]; exact hy) hyl hsw hi (by rw [ok.N]; have z := blkOk_by hblk; exact ⟨z.kind, z.uniq, z.ix, fun y hy e => ok.cf _ (z.free y hy e), z.own⟩)
    (fun s H C cl fp => hg _ (ok' s H C cl fp)) (fun s H C cl fp => hc _ (ok' s H C cl fp)) (fun s H C cl fp => he _ (ok' s H C cl fp)) (folded_of hset)
  rw [own_ids] at h
  exact PS.imp h fun D σ H q => lc_readL hown q
end
end Rf

set_option maxHeartbeats 1000000
/-! What passes the check computes what the small language says: expressions. -/
namespace Rf
open PySem PySem.W L2
section
variable {T : Tab} {Φ : Fns} {gl : Nat → Option PyData} {b : Bg}
theorem chkP_len {sc : Scope} : ∀ (es : Es) (args : List Expr) {η : Env} {g g' : Bag} {ds : List PyData}, chkP T sc es args = true → evA Φ gl es η g = some (ds, g') → ds.length = args.length
  | .nil, [], _, _, _, _, _, e => by
    simp only [evA] at e
    cases e
    rfl
  | .nil, _ :: _, _, _, _, _, h, _ => absurd h Bool.false_ne_true
  | .cons _ _, [], _, _, _, _, h, _ => absurd h Bool.false_ne_true
  | .star _ _, [], _, _, _, _, h, _ => absurd h Bool.false_ne_true
  | .star _ _, _ :: _, _, _, _, _, h, _ => absurd h Bool.false_ne_true
  | .cons a as, x :: xs, η, g, g', ds, h, e => by
    have h : (notStar x && chkE T sc a x && chkP T sc as xs) = true := h
    simp only [Bool.and_eq_true] at h
    simp only [evA] at e
    split at e
    · rename_i d1 g1 e1
      cases e2 : evA Φ gl as η g1 with
      | none =>
        rw [e2] at e
        cases e
      | some z =>
        rw [e2] at e
        cases e
        rw [List.length_cons, List.length_cons, chkP_len as xs h.2 e2]
    · cases e
theorem chkP_stars {sc : Scope} : ∀ (es : Es) (args : List Expr), chkP T sc es args = true → noStars args = true
  | .nil, [], _ => rfl
  | .nil, _ :: _, h => absurd h Bool.false_ne_true
  | .cons _ _, [], h => absurd h Bool.false_ne_true
  | .star _ _, [], h => absurd h Bool.false_ne_true
  | .star _ _, _ :: _, h => absurd h Bool.false_ne_true
  | .cons a as, x :: xs, h => by
    have h : (notStar x && chkE T sc a x && chkP T sc as xs) = true := h
    simp only [Bool.and_eq_true] at h
    have ih := chkP_stars as xs h.2
    unfold noStars at ih ⊢
    rw [List.all_cons, h.1.1, ih]
    rfl
theorem chkP_nil {sc : Scope} : ∀ (es : Es) (args : List Expr), chkP T sc es args = true → args = [] → es = .nil
  | .nil, _, _, _ => rfl
  | .cons _ _, [], h, _ => absurd h Bool.false_ne_true
  | .star _ _, [], h, _ => absurd h Bool.false_ne_true
  | .cons _ _, _ :: _, _, h => by cases h
  | .star _ _, _ :: _, _, h => by cases h
theorem chkK_names {sc : Scope} : ∀ (es : Es) (ks : List Str) (kws : List Keyword), chkK T sc es ks kws = true → kwNames kws = some ks
  | .nil, [], [], _ => rfl
  | .nil, _ :: _, _, h => absurd h Bool.false_ne_true
  | .nil, [], _ :: _, h => absurd h Bool.false_ne_true
  | .cons _ _, [], _, h => absurd h Bool.false_ne_true
  | .cons _ _, _ :: _, [], h => absurd h Bool.false_ne_true
  | .star _ _, _, _, h => absurd h Bool.false_ne_true
  | .cons _ _, _ :: _, ⟨none, _, _⟩ :: _, h => absurd h Bool.false_ne_true
  | .cons a as, k :: ks, ⟨some x, v, p⟩ :: xs, h => by
    have h : (decide (k = x) && chkE T sc a v && chkK T sc as ks xs) = true := h
    simp only [Bool.and_eq_true] at h
    cases of_decide_eq_true h.1.1
    unfold kwNames
    rw [chkK_names as ks xs h.2]
    rfl
theorem chkK_len {sc : Scope} : ∀ (es : Es) (ks : List Str) (kws : List Keyword) {η : Env} {g g' : Bag} {ds : List PyData}, chkK T sc es ks kws = true → evA Φ gl es η g = some (ds, g') → ds.length = ks.length
  | .nil, [], [], _, _, _, _, _, e => by
    simp only [evA] at e
    cases e
    rfl
  | .nil, _ :: _, _, _, _, _, _, h, _ => absurd h Bool.false_ne_true
  | .nil, [], _ :: _, _, _, _, _, h, _ => absurd h Bool.false_ne_true
  | .cons _ _, [], _, _, _, _, _, h, _ => absurd h Bool.false_ne_true
  | .cons _ _, _ :: _, [], _, _, _, _, h, _ => absurd h Bool.false_ne_true
  | .star _ _, _, _, _, _, _, _, h, _ => absurd h Bool.false_ne_true
  | .cons _ _, _ :: _, ⟨none, _, _⟩ :: _, _, _, _, _, h, _ => absurd h Bool.false_ne_true
  | .cons a as, k :: ks, ⟨some x, v, p⟩ :: xs, η, g, g', ds, h, e => by
    have h : (decide (k = x) && chkE T sc a v && chkK T sc as ks xs) = true := h
    simp only [Bool.and_eq_true] at h
    simp only [evA] at e
    split at e
    · rename_i d1 g1 e1
      cases e2 : evA Φ gl as η g1 with
      | none =>
        rw [e2] at e
        cases e
      | some z =>
        rw [e2] at e
        cases e
        rw [List.length_cons, List.length_cons, chkK_len as ks xs h.2 e2]
    · cases e
theorem beh {p : CmpOp} {y : Expr} (h : (!behindInMarks p y) = true) : behindInMarks p y = false := by simpa using h
theorem lst_marks {p : List CmpOp} {y : List Expr} (h : (!lastMarks p y) = true) : lastMarks p y = false := by simpa using h
theorem snd_isi {a : E} {ts : List Ty} {X : Cx} {sc : Scope} {x : Str} {q p : Pos} {x1 x2 : Expr} (ih : ∀ e, Ok T Φ gl b X sc → chkE T sc a e = true → PE X e (tD X.K b (evE Φ gl a))) (ok : Ok T Φ gl b X sc)
    (h : chkE T sc (.isi a ts) (.Call (.Name x q) [x1, x2] [] p) = true) : PE X (.Call (.Name x q) [x1, x2] [] p) (tD X.K b (evE Φ gl (.isi a ts))) := by
  have tupc : ∀ (us : List Ty) (cs : List Expr) (c : _) (pp : Pos), (decide (x = "isinstance") && isGl sc x && notStar x1 && chkE T sc a x1 && chkTys sc us cs && decide (us.length ≤ 10)) = true → PE X (.Call (.Name x q) [x1, .Tuple cs c pp] [] p) (tD X.K b (evE Φ gl (.isi a us))) := fun us cs c pp h => by
    simp only [Bool.and_eq_true] at h
    cases of_decide_eq_true h.1.1.1.1.1
    exact d_isiT ok h.1.1.1.1.2 h.1.1.1.2 (ih x1 ok h.1.1.2) h.1.2 (of_decide_eq_true h.2)
  rcases ts with _ | ⟨t, _ | ⟨t2, ts⟩⟩
  · cases x2 with
    | Tuple cs c pp => exact tupc [] cs c pp h
    | _ => exact absurd h Bool.false_ne_true
  · have h : (decide (x = "isinstance") && isGl sc x && notStar x1 && chkE T sc a x1 && chkTy sc t x2) = true := h
    simp only [Bool.and_eq_true] at h
    cases of_decide_eq_true h.1.1.1.1
    cases x2 with
    | Name y yp =>
      have h2 : (decide (y = tyName t) && isGl sc y) = true := h.2
      simp only [Bool.and_eq_true] at h2
      cases of_decide_eq_true h2.1
      exact d_isi ok h.1.1.1.2 h.1.1.2 (ih x1 ok h.1.2) h2.2
    | _ => exact absurd h.2 Bool.false_ne_true
  · cases x2 with
    | Tuple cs c pp => exact tupc (t :: t2 :: ts) cs c pp h
    | _ => exact absurd h Bool.false_ne_true
theorem snd_rv {a : E} {X : Cx} {sc : Scope} {e : Expr} (ih : ∀ e, chkE T sc a e = true → PE X e (tD X.K b (evE Φ gl a))) (h : chkE T sc (.rv a) e = true) : PE X e (tD X.K b (evE Φ gl (.rv a))) := by
  have h2 : (match revArg e with | some x => chkE T sc a x | none => false) = true := h
  clear h
  split at h2
  · rename_i x hx
    obtain ⟨c, p, q, hc, rfl⟩ := revArg_ok hx
    exact d_rv hc (ih x h2)
  · cases h2
theorem snd_jn {a a' : E} {X : Cx} {sc : Scope} {e : Expr} (ih : ∀ e, chkE T sc a e = true → PE X e (tD X.K b (evE Φ gl a))) (ih' : ∀ e, chkE T sc a' e = true → PE X e (tD X.K b (evE Φ gl a'))) (h : chkE T sc (.jn a a') e = true) : PE X e (tD X.K b (evE Φ gl (.jn a a'))) := by
  have h2 : (match joinArgs e with | some (x, y) => chkE T sc a x && chkE T sc a' y | none => false) = true := h
  clear h
  split at h2
  · rename_i x y hx
    simp only [Bool.and_eq_true] at h2
    obtain ⟨c, j, q, m, p2, p3, h1, h3, h4, rfl, rfl⟩ := joinArgs_ok hx
    exact d_jn h1 h3 h4 (ih _ h2.1) (ih' y h2.2)
  · cases h2
theorem d_bad {X : Cx} {e : Expr} : PE X e (tD X.K b (evE Φ gl .bad)) := d_vac fun η g d g' => by simp only [evE]; exact fun z => by cases z
mutual
theorem sndE : ∀ (ir : E) (X : Cx) (sc : Scope) (e : Expr), Ok T Φ gl b X sc → chkE T sc ir e = true → PE X e (tD X.K b (evE Φ gl ir))
  | .var i, X, sc, e, ok, h => by
    cases e with
    | Name x p =>
      have h : (decide (T.N[i]? = some x) && isVis sc x && plainN x) = true := h
      simp only [Bool.and_eq_true] at h
      exact d_var ok (of_decide_eq_true h.1.1) h.1.2 h.2
    | _ => exact absurd h Bool.false_ne_true
  | .con d, X, sc, e, ok, h => d_con h
  | .glo k, X, sc, e, ok, h => by
    cases e with
    | Name x p =>
      have h : (decide (T.glos[k]? = some x) && isGl sc x && plainN x) = true := h
      simp only [Bool.and_eq_true] at h
      exact d_glo ok (of_decide_eq_true h.1.1) h.1.2 h.2
    | _ => exact absurd h Bool.false_ne_true
  | .tup es, X, sc, e, ok, h => by
    cases e with
    | Tuple l c p => exact d_tup (sndA es X sc l ok h)
    | _ => exact absurd h Bool.false_ne_true
  | .lst es, X, sc, e, ok, h => by
    cases e with
    | List l p => exact d_lst (sndA es X sc l ok h)
    | _ => exact absurd h Bool.false_ne_true
  | .bin o a a', X, sc, e, ok, h => by
    cases e with
    | BinOp x p y q =>
      have h : (sameBop o p && chkE T sc a x && chkE T sc a' y) = true := h
      simp only [Bool.and_eq_true] at h
      cases sameBop_ok h.1.1
      exact d_bin (sndE a X sc x ok h.1.2) (sndE a' X sc y ok h.2)
    | _ => exact absurd h Bool.false_ne_true
  | .neg a, X, sc, e, ok, h => by
    cases e with
    | UnaryOp o x p =>
      cases o with
      | USub => exact d_neg (sndE a X sc x ok h)
      | _ => exact absurd h Bool.false_ne_true
    | _ => exact absurd h Bool.false_ne_true
  | .cmp o a a', X, sc, e, ok, h => by
    cases e with
    | Compare x ops cs p =>
      rcases ops with _ | ⟨q, _ | ⟨q2, ops⟩⟩
      · exact absurd h Bool.false_ne_true
      · rcases cs with _ | ⟨y, _ | ⟨y2, cs⟩⟩
        · exact absurd h Bool.false_ne_true
        · have h : (sameCop o q && !behindInMarks q y && chkE T sc a x && chkE T sc a' y) = true := h
          simp only [Bool.and_eq_true] at h
          cases sameCop_ok h.1.1.1
          exact d_cmp ok (beh h.1.1.2) (sndE a X sc x ok h.1.2) (sndE a' X sc y ok h.2)
        · exact absurd h Bool.false_ne_true
      · exact absurd h Bool.false_ne_true
    | _ => exact absurd h Bool.false_ne_true
  | .chn o o' a a' a'', X, sc, e, ok, h => by
    cases e with
    | Compare x ops cs p =>
      rcases ops with _ | ⟨q, _ | ⟨q2, _ | ⟨q3, ops⟩⟩⟩
      · exact absurd h Bool.false_ne_true
      · exact absurd h Bool.false_ne_true
      · rcases cs with _ | ⟨y, _ | ⟨y2, _ | ⟨y3, cs⟩⟩⟩
        · exact absurd h Bool.false_ne_true
        · exact absurd h Bool.false_ne_true
        · have h : (sameCop o q && sameCop o' q2 && !lastMarks [q, q2] [y, y2] && chkE T sc a x && chkE T sc a' y && chkE T sc a'' y2) = true := h
          simp only [Bool.and_eq_true] at h
          cases sameCop_ok h.1.1.1.1.1
          cases sameCop_ok h.1.1.1.1.2
          exact d_chn ok (lst_marks h.1.1.1.2) (sndE a X sc x ok h.1.1.2) (sndE a' X sc y ok h.1.2) (sndE a'' X sc y2 ok h.2)
        · exact absurd h Bool.false_ne_true
      · exact absurd h Bool.false_ne_true
    | _ => exact absurd h Bool.false_ne_true
  | .and a a', X, sc, e, ok, h => by
    cases e with
    | BoolOp op vs p =>
      cases op with
      | And =>
        rcases vs with _ | ⟨x, _ | ⟨y, _ | ⟨z, r⟩⟩⟩
        · exact absurd h Bool.false_ne_true
        · exact absurd h Bool.false_ne_true
        · have h : (chkE T sc a x && chkE T sc a' y) = true := h
          simp only [Bool.and_eq_true] at h
          exact d_and (sndE a X sc x ok h.1) (d_one (sndE a' X sc y ok h.2))
        · have h : (chkE T sc a x && chkE T sc a' (.BoolOp .And (y :: z :: r) p)) = true := h
          simp only [Bool.and_eq_true] at h
          exact d_and (sndE a X sc x ok h.1) (sndE a' X sc _ ok h.2)
      | Or => exact absurd h Bool.false_ne_true
    | _ => exact absurd h Bool.false_ne_true
  | .or a a', X, sc, e, ok, h => by
    cases e with
    | BoolOp op vs p =>
      cases op with
      | Or =>
        rcases vs with _ | ⟨x, _ | ⟨y, _ | ⟨z, r⟩⟩⟩
        · exact absurd h Bool.false_ne_true
        · exact absurd h Bool.false_ne_true
        · have h : (chkE T sc a x && chkE T sc a' y) = true := h
          simp only [Bool.and_eq_true] at h
          exact d_or (sndE a X sc x ok h.1) (d_one (sndE a' X sc y ok h.2))
        · have h : (chkE T sc a x && chkE T sc a' (.BoolOp .Or (y :: z :: r) p)) = true := h
          simp only [Bool.and_eq_true] at h
          exact d_or (sndE a X sc x ok h.1) (sndE a' X sc _ ok h.2)
      | And => exact absurd h Bool.false_ne_true
    | _ => exact absurd h Bool.false_ne_true
  | .not a, X, sc, e, ok, h => by
    cases e with
    | UnaryOp o x p =>
      cases o with
      | Not => exact d_not (sndE a X sc x ok h)
      | _ => exact absurd h Bool.false_ne_true
    | _ => exact absurd h Bool.false_ne_true
  | .ite t a a', X, sc, e, ok, h => by
    cases e with
    | IfExp z x y p =>
      have h : (chkT T sc t z && chkE T sc a x && chkE T sc a' y) = true := h
      simp only [Bool.and_eq_true] at h
      exact d_ite (sndT t X sc z ok h.1.1) (sndE a X sc x ok h.1.2) (sndE a' X sc y ok h.2)
    | _ => exact absurd h Bool.false_ne_true
  | .call s es ks, X, sc, e, ok, h => by
    cases e with
    | Call fn args kws p =>
      cases fn with
      | Name x q =>
        have h : (match T.shs[s]? with
          | some sh => decide (sh.x = x) && isGl sc x && plainN x && decide (sh.n = args.length) && chkP T sc es args && chkK T sc ks sh.ks kws
          | none => false) = true := h
        split at h
        · rename_i sh hs
          simp only [Bool.and_eq_true] at h
          exact d_call ok hs (of_decide_eq_true h.1.1.1.1.1) h.1.1.1.1.2 h.1.1.1.2 (chkP_stars es args h.1.2) (chkK_names ks sh.ks kws h.2) (chkP_nil es args h.1.2)
            (fun η g ds g' e => by rw [of_decide_eq_true h.1.1.2]; exact chkP_len es args h.1.2 e) (fun η g ds g' e => chkK_len ks sh.ks kws h.2 e) (sndP es X sc args ok h.1.2) (sndK ks X sc sh.ks kws ok h.2)
        · cases h
      | _ => exact absurd h Bool.false_ne_true
    | _ => exact absurd h Bool.false_ne_true
  | .bi o a, X, sc, e, ok, h => by
    by_cases ho : o = .rev
    · subst ho
      cases e with
      | Call fn args kws p =>
        cases fn with
        | Name x q =>
          rcases args with _ | ⟨x1, _ | ⟨x2, args⟩⟩
          · exact absurd h Bool.false_ne_true
          · rcases kws with _ | ⟨⟨_ | k, v, kp⟩, _ | ⟨k2, kws⟩⟩
            · exact absurd h Bool.false_ne_true
            · exact absurd h Bool.false_ne_true
            · exact absurd h Bool.false_ne_true
            · have h : (decide (x = "sorted") && decide (k = "reverse") && isTrueC v && isGl sc x && notStar x1 && chkE T sc a x1) = true := h
              simp only [Bool.and_eq_true] at h
              cases of_decide_eq_true h.1.1.1.1.1
              cases of_decide_eq_true h.1.1.1.1.2
              obtain ⟨j, pp, rfl⟩ := isTrueC_ok h.1.1.1.2
              exact d_rev ok h.1.1.2 h.1.2 (sndE a X sc x1 ok h.2)
            · exact absurd h Bool.false_ne_true
          · exact absurd h Bool.false_ne_true
        | _ => exact absurd h Bool.false_ne_true
      | _ => exact absurd h Bool.false_ne_true
    · cases e with
      | Call fn args kws p =>
        cases fn with
        | Name x q =>
          rcases args with _ | ⟨x1, _ | ⟨x2, args⟩⟩
          · cases o <;> exact absurd h Bool.false_ne_true
          · rcases kws with _ | ⟨k, kws⟩
            · have h : (decide (x = biName o) && isGl sc x && notStar x1 && chkE T sc a x1) = true := by
                cases o <;> first | exact h | exact absurd rfl ho
              simp only [Bool.and_eq_true] at h
              cases of_decide_eq_true h.1.1.1
              exact d_bi ok ho h.1.1.2 h.1.2 (sndE a X sc x1 ok h.2)
            · cases o <;> first | exact absurd h Bool.false_ne_true | exact absurd rfl ho
          · cases o <;> exact absurd h Bool.false_ne_true
        | _ => cases o <;> exact absurd h Bool.false_ne_true
      | _ => cases o <;> exact absurd h Bool.false_ne_true
  | .isi a ts, X, sc, e, ok, h => by
    cases e with
    | Call fn args kws p =>
      cases fn with
      | Name x q =>
        rcases args with _ | ⟨x1, _ | ⟨x2, _ | ⟨x3, args⟩⟩⟩
        · rcases ts with _ | ⟨t, _ | ⟨t2, ts⟩⟩ <;> exact absurd h Bool.false_ne_true
        · rcases ts with _ | ⟨t, _ | ⟨t2, ts⟩⟩ <;> exact absurd h Bool.false_ne_true
        · rcases kws with _ | ⟨k, kws⟩
          · exact snd_isi (sndE a X sc) ok h
          · rcases ts with _ | ⟨t, _ | ⟨t2, ts⟩⟩ <;> first | exact absurd h Bool.false_ne_true | (cases x2 <;> exact absurd h Bool.false_ne_true)
        · rcases ts with _ | ⟨t, _ | ⟨t2, ts⟩⟩ <;> first | exact absurd h Bool.false_ne_true | (cases x2 <;> exact absurd h Bool.false_ne_true)
      | _ => rcases ts with _ | ⟨t, _ | ⟨t2, ts⟩⟩ <;> exact absurd h Bool.false_ne_true
    | _ => rcases ts with _ | ⟨t, _ | ⟨t2, ts⟩⟩ <;> exact absurd h Bool.false_ne_true
  | .ix a i, X, sc, e, ok, h => by
    cases e with
    | Subscript x y p =>
      have h : (notSlice y && chkE T sc a x && chkE T sc i y) = true := h
      simp only [Bool.and_eq_true] at h
      exact d_ix h.1.1 (sndE a X sc x ok h.1.2) (sndE i X sc y ok h.2)
    | _ => exact absurd h Bool.false_ne_true
  | .sl a lo hi, X, sc, e, ok, h => by
    cases e with
    | Subscript x y p =>
      cases y with
      | Slice l u st q =>
        cases st with
        | none =>
          have h : (chkE T sc a x && chkO T sc lo l && chkO T sc hi u) = true := h
          simp only [Bool.and_eq_true] at h
          exact d_sl (sndE a X sc x ok h.1.1) (sndO lo X sc l ok h.1.2) (sndO hi X sc u ok h.2)
        | some _ => exact absurd h Bool.false_ne_true
      | _ => exact absurd h Bool.false_ne_true
    | _ => exact absurd h Bool.false_ne_true
  | .lc t own it c el, X, sc, e, ok, h => by
    cases e with
    | ListComp elt gs scope p =>
      rcases gs with _ | ⟨⟨tgt, iter, ifs, asy⟩, _ | ⟨g2, gs⟩⟩
      · exact absurd h Bool.false_ne_true
      · have h : (decide (asy = 0) && blkC T.N sc scope (own.map fun i => (T.N.getD i Str.empty, i)) && chkTg T.N scope t tgt && (t.slots.all fun i => own.contains i) && notSet iter && chkI T sc tgt it iter && chkC T scope c ifs && chkE T scope el elt) = true := h
        simp only [Bool.and_eq_true] at h
        cases of_decide_eq_true h.1.1.1.1.1.1.1
        refine d_lc ok h.1.1.1.1.1.1.2 (fun i hi => ?_) h.1.1.1.2 (sndI it X sc tgt iter ok h.1.1.2) (fun X' ok' => d_tg ok' t tgt h.1.1.1.1.1.2) (fun X' ok' => sndC c X' scope ifs ok' h.1.2) (fun X' ok' => sndE el X' scope elt ok' h.2)
        have z := List.all_eq_true.mp h.1.1.1.1.2 i hi
        simpa using z
      · exact absurd h Bool.false_ne_true
    | _ => exact absurd h Bool.false_ne_true
  | .rv a, X, sc, e, ok, h => snd_rv (fun e h => sndE a X sc e ok h) h
  | .jn a a', X, sc, e, ok, h => snd_jn (fun e h => sndE a X sc e ok h) (fun e h => sndE a' X sc e ok h) h
  | .bad, X, sc, e, ok, h => d_bad
theorem sndT : ∀ (ir : E) (X : Cx) (sc : Scope) (e : Expr), Ok T Φ gl b X sc → chkT T sc ir e = true → PT X e (tDT X.K b (evB Φ gl ir))
  | .and a a', X, sc, e, ok, h => by
    cases e with
    | BoolOp op vs p =>
      cases op with
      | And =>
        rcases vs with _ | ⟨x, _ | ⟨y, _ | ⟨z, r⟩⟩⟩
        · exact absurd h Bool.false_ne_true
        · exact absurd h Bool.false_ne_true
        · have h : (chkT T sc a x && chkT T sc a' y) = true := h
          simp only [Bool.and_eq_true] at h
          exact d_tand (sndT a X sc x ok h.1) (pw_and1 (sndT a' X sc y ok h.2))
        · have h : (chkT T sc a x && chkT T sc a' (.BoolOp .And (y :: z :: r) p)) = true := h
          simp only [Bool.and_eq_true] at h
          exact d_tand (sndT a X sc x ok h.1) (pw_of (sndT a' X sc _ ok h.2))
      | Or => exact absurd h Bool.false_ne_true
    | _ => exact absurd h Bool.false_ne_true
  | .or a a', X, sc, e, ok, h => by
    cases e with
    | BoolOp op vs p =>
      cases op with
      | Or =>
        rcases vs with _ | ⟨x, _ | ⟨y, _ | ⟨z, r⟩⟩⟩
        · exact absurd h Bool.false_ne_true
        · exact absurd h Bool.false_ne_true
        · have h : (chkT T sc a x && chkT T sc a' y) = true := h
          simp only [Bool.and_eq_true] at h
          exact d_tor (sndT a X sc x ok h.1) (pw_or1 (sndT a' X sc y ok h.2))
        · have h : (chkT T sc a x && chkT T sc a' (.BoolOp .Or (y :: z :: r) p)) = true := h
          simp only [Bool.and_eq_true] at h
          exact d_tor (sndT a X sc x ok h.1) (pw_of (sndT a' X sc _ ok h.2))
      | And => exact absurd h Bool.false_ne_true
    | _ => exact absurd h Bool.false_ne_true
  | .not a, X, sc, e, ok, h => by
    cases e with
    | UnaryOp o x p =>
      cases o with
      | Not => exact d_tnot (sndT a X sc x ok h)
      | _ => exact absurd h Bool.false_ne_true
    | _ => exact absurd h Bool.false_ne_true
  | .cmp o a a', X, sc, e, ok, h => by
    cases e with
    | Compare x ops cs p =>
      rcases ops with _ | ⟨q, _ | ⟨q2, ops⟩⟩
      · exact absurd h Bool.false_ne_true
      · rcases cs with _ | ⟨y, _ | ⟨y2, cs⟩⟩
        · exact absurd h Bool.false_ne_true
        · have h : (sameCop o q && !behindInMarks q y && chkE T sc a x && chkE T sc a' y) = true := h
          simp only [Bool.and_eq_true] at h
          cases sameCop_ok h.1.1.1
          exact d_tcmp ok (beh h.1.1.2) (sndE a X sc x ok h.1.2) (sndE a' X sc y ok h.2)
        · exact absurd h Bool.false_ne_true
      · exact absurd h Bool.false_ne_true
    | _ => exact absurd h Bool.false_ne_true
  | .chn o o' a a' a'', X, sc, e, ok, h => by
    cases e with
    | Compare x ops cs p =>
      rcases ops with _ | ⟨q, _ | ⟨q2, _ | ⟨q3, ops⟩⟩⟩
      · exact absurd h Bool.false_ne_true
      · exact absurd h Bool.false_ne_true
      · rcases cs with _ | ⟨y, _ | ⟨y2, _ | ⟨y3, cs⟩⟩⟩
        · exact absurd h Bool.false_ne_true
        · exact absurd h Bool.false_ne_true
        · have h : (sameCop o q && sameCop o' q2 && !lastMarks [q, q2] [y, y2] && chkE T sc a x && chkE T sc a' y && chkE T sc a'' y2) = true := h
          simp only [Bool.and_eq_true] at h
          cases sameCop_ok h.1.1.1.1.1
          cases sameCop_ok h.1.1.1.1.2
          exact d_tchn ok (lst_marks h.1.1.1.2) (sndE a X sc x ok h.1.1.2) (sndE a' X sc y ok h.1.2) (sndE a'' X sc y2 ok h.2)
        · exact absurd h Bool.false_ne_true
      · exact absurd h Bool.false_ne_true
    | _ => exact absurd h Bool.false_ne_true
  | .var i, X, sc, e, ok, h => by
    cases e with
    | Name x p =>
      have h : (decide (T.N[i]? = some x) && isVis sc x && plainN x) = true := h
      simp only [Bool.and_eq_true] at h
      exact d_tval (d_var ok (of_decide_eq_true h.1.1) h.1.2 h.2) fun _ => rfl
    | _ => exact absurd h Bool.false_ne_true
  | .con d, X, sc, e, ok, h => by
    cases e with
    | Constant c k p =>
      have h : chkCon d (.Constant c k p) = true := h
      exact d_tval (d_con h) fun _ => rfl
    | _ => exact absurd h Bool.false_ne_true
  | .call s es ks, X, sc, e, ok, h => by
    cases e with
    | Call fn args kws p =>
      cases fn with
      | Name x q =>
        have h : (match T.shs[s]? with
          | some sh => decide (sh.x = x) && isGl sc x && plainN x && decide (sh.n = args.length) && chkP T sc es args && chkK T sc ks sh.ks kws
          | none => false) = true := h
        split at h
        · rename_i sh hs
          simp only [Bool.and_eq_true] at h
          exact d_tval (d_call ok hs (of_decide_eq_true h.1.1.1.1.1) h.1.1.1.1.2 h.1.1.1.2 (chkP_stars es args h.1.2) (chkK_names ks sh.ks kws h.2) (chkP_nil es args h.1.2)
            (fun η g ds g' e => by rw [of_decide_eq_true h.1.1.2]; exact chkP_len es args h.1.2 e) (fun η g ds g' e => chkK_len ks sh.ks kws h.2 e) (sndP es X sc args ok h.1.2) (sndK ks X sc sh.ks kws ok h.2)) fun _ => rfl
        · cases h
      | _ => exact absurd h Bool.false_ne_true
    | _ => exact absurd h Bool.false_ne_true
  | .bi o a, X, sc, e, ok, h => by
    cases o with
    | all =>
      cases e with
      | Call fn args kws p =>
        cases fn with
        | Name x q =>
          rcases args with _ | ⟨x1, _ | ⟨x2, args⟩⟩
          · exact absurd h Bool.false_ne_true
          · rcases kws with _ | ⟨k, kws⟩
            · have h : (decide (x = "all") && isGl sc x && notStar x1 && chkE T sc a x1) = true := h
              simp only [Bool.and_eq_true] at h
              cases of_decide_eq_true h.1.1.1
              exact d_tval (d_bi (o := .all) ok (by intro z; cases z) h.1.1.2 h.1.2 (sndE a X sc x1 ok h.2)) fun _ => rfl
            · exact absurd h Bool.false_ne_true
          · exact absurd h Bool.false_ne_true
        | _ => exact absurd h Bool.false_ne_true
      | _ => exact absurd h Bool.false_ne_true
    | _ => exact absurd h Bool.false_ne_true
  | .isi a ts, X, sc, e, ok, h => by
    cases e with
    | Call fn args kws p =>
      cases fn with
      | Name x q =>
        rcases args with _ | ⟨x1, _ | ⟨x2, _ | ⟨x3, args⟩⟩⟩
        · rcases ts with _ | ⟨t, _ | ⟨t2, ts⟩⟩ <;> exact absurd h Bool.false_ne_true
        · rcases ts with _ | ⟨t, _ | ⟨t2, ts⟩⟩ <;> exact absurd h Bool.false_ne_true
        · rcases kws with _ | ⟨k, kws⟩
          · refine d_tval (snd_isi (sndE a X sc) ok ?_) fun _ => rfl
            rcases ts with _ | ⟨t, _ | ⟨t2, ts⟩⟩
            · cases x2 <;> exact h
            · exact h
            · cases x2 <;> exact h
          · rcases ts with _ | ⟨t, _ | ⟨t2, ts⟩⟩ <;> first | exact absurd h Bool.false_ne_true | (cases x2 <;> exact absurd h Bool.false_ne_true)
        · rcases ts with _ | ⟨t, _ | ⟨t2, ts⟩⟩ <;> first | exact absurd h Bool.false_ne_true | (cases x2 <;> exact absurd h Bool.false_ne_true)
      | _ => rcases ts with _ | ⟨t, _ | ⟨t2, ts⟩⟩ <;> exact absurd h Bool.false_ne_true
    | _ => rcases ts with _ | ⟨t, _ | ⟨t2, ts⟩⟩ <;> exact absurd h Bool.false_ne_true
  | .ix a i, X, sc, e, ok, h => by
    cases e with
    | Subscript x y p =>
      have h : (notSlice y && chkE T sc a x && chkE T sc i y) = true := h
      simp only [Bool.and_eq_true] at h
      exact d_tval (d_ix h.1.1 (sndE a X sc x ok h.1.2) (sndE i X sc y ok h.2)) fun _ => rfl
    | _ => exact absurd h Bool.false_ne_true
  | .glo _, X, sc, e, ok, h => absurd h (by cases e <;> exact Bool.false_ne_true)
  | .tup _, X, sc, e, ok, h => absurd h (by cases e <;> exact Bool.false_ne_true)
  | .lst _, X, sc, e, ok, h => absurd h (by cases e <;> exact Bool.false_ne_true)
  | .bin _ _ _, X, sc, e, ok, h => absurd h (by cases e <;> exact Bool.false_ne_true)
  | .neg _, X, sc, e, ok, h => absurd h (by cases e <;> exact Bool.false_ne_true)
  | .ite _ _ _, X, sc, e, ok, h => absurd h (by cases e <;> exact Bool.false_ne_true)
  | .sl _ _ _, X, sc, e, ok, h => absurd h (by cases e <;> exact Bool.false_ne_true)
  | .lc _ _ _ _ _, X, sc, e, ok, h => absurd h (by cases e <;> exact Bool.false_ne_true)
  | .rv _, X, sc, e, ok, h => absurd h (by cases e <;> exact Bool.false_ne_true)
  | .jn _ _, X, sc, e, ok, h => absurd h (by cases e <;> exact Bool.false_ne_true)
  | .bad, X, sc, e, ok, h => absurd h (by cases e <;> exact Bool.false_ne_true)
theorem sndA : ∀ (es : Es) (X : Cx) (sc : Scope) (l : List Expr), Ok T Φ gl b X sc → chkA T sc es l = true → PA X l (tDA X.K b (evA Φ gl es))
  | .nil, X, sc, l, ok, h => by
    cases l with
    | nil => exact d_anil
    | cons x xs => exact absurd h Bool.false_ne_true
  | .cons a as, X, sc, l, ok, h => by
    cases l with
    | nil => exact absurd h Bool.false_ne_true
    | cons x xs =>
      have h : (notStar x && chkE T sc a x && chkA T sc as xs) = true := by
        cases x <;> exact h
      simp only [Bool.and_eq_true] at h
      exact d_acons h.1.1 (sndE a X sc x ok h.1.2) (sndA as X sc xs ok h.2)
  | .star a as, X, sc, l, ok, h => by
    cases l with
    | nil => exact absurd h Bool.false_ne_true
    | cons x xs =>
      cases x with
      | Starred y p =>
        have h : (chkE T sc a y && chkA T sc as xs) = true := h
        simp only [Bool.and_eq_true] at h
        exact d_astar (sndE a X sc y ok h.1) (sndA as X sc xs ok h.2)
      | _ => exact absurd h Bool.false_ne_true
theorem sndP : ∀ (es : Es) (X : Cx) (sc : Scope) (l : List Expr), Ok T Φ gl b X sc → chkP T sc es l = true → PA X l (tDA X.K b (evA Φ gl es))
  | .nil, X, sc, l, ok, h => by
    cases l with
    | nil => exact d_anil
    | cons x xs => exact absurd h Bool.false_ne_true
  | .cons a as, X, sc, l, ok, h => by
    cases l with
    | nil => exact absurd h Bool.false_ne_true
    | cons x xs =>
      have h : (notStar x && chkE T sc a x && chkP T sc as xs) = true := h
      simp only [Bool.and_eq_true] at h
      exact d_acons h.1.1 (sndE a X sc x ok h.1.2) (sndP as X sc xs ok h.2)
  | .star a as, X, sc, l, ok, h => by
    cases l with
    | nil => exact absurd h Bool.false_ne_true
    | cons x xs => exact absurd h Bool.false_ne_true
theorem sndK : ∀ (es : Es) (X : Cx) (sc : Scope) (ks : List Str) (l : List Keyword), Ok T Φ gl b X sc → chkK T sc es ks l = true → PK X l (tDA X.K b (evA Φ gl es))
  | .nil, X, sc, ks, l, ok, h => by
    cases l with
    | nil => exact d_knil
    | cons x xs => cases ks <;> exact absurd h Bool.false_ne_true
  | .cons a as, X, sc, ks, l, ok, h => by
    cases ks with
    | nil => exact absurd h Bool.false_ne_true
    | cons k ks =>
      cases l with
      | nil => exact absurd h Bool.false_ne_true
      | cons x xs =>
        obtain ⟨n, v, p⟩ := x
        cases n with
        | none => exact absurd h Bool.false_ne_true
        | some n =>
          have h : (decide (k = n) && chkE T sc a v && chkK T sc as ks xs) = true := h
          simp only [Bool.and_eq_true] at h
          exact d_kcons (sndE a X sc v ok h.1.2) (sndK as X sc ks xs ok h.2)
  | .star a as, X, sc, ks, l, ok, h => absurd h (by cases ks <;> cases l <;> exact Bool.false_ne_true)
theorem sndO : ∀ (o : Eo) (X : Cx) (sc : Scope) (e : Option Expr), Ok T Φ gl b X sc → chkO T sc o e = true → PO X e (tDO X.K b (evO Φ gl o))
  | .no, X, sc, e, ok, h => by
    cases e with
    | none => exact d_ono
    | some x => exact absurd h Bool.false_ne_true
  | .so a, X, sc, e, ok, h => by
    cases e with
    | none => exact absurd h Bool.false_ne_true
    | some x => exact d_oso (sndE a X sc x ok h)
theorem sndC : ∀ (o : Eo) (X : Cx) (sc : Scope) (e : List Expr), Ok T Φ gl b X sc → chkC T sc o e = true → PTs X e (tDT X.K b (evC Φ gl o))
  | .no, X, sc, e, ok, h => by
    cases e with
    | nil => exact d_cno
    | cons x xs => exact absurd h Bool.false_ne_true
  | .so a, X, sc, e, ok, h => by
    rcases e with _ | ⟨x, _ | ⟨y, r⟩⟩
    · exact absurd h Bool.false_ne_true
    · exact d_cso (sndT a X sc x ok h)
    · exact absurd h Bool.false_ne_true
theorem sndI : ∀ (i : It) (X : Cx) (sc : Scope) (tg e : Expr), Ok T Φ gl b X sc → chkI T sc tg i e = true → PI X tg e (tDI X.K b (evI Φ gl i))
  | .seq a, X, sc, tg, e, ok, h => by
    have h : chkE T sc a e = true := h
    exact d_iseq (sndE a X sc e ok h)
  | .rng a, X, sc, tg, e, ok, h => by
    cases e with
    | Call fn args kws p =>
      cases fn with
      | Name x q =>
        rcases args with _ | ⟨x1, _ | ⟨x2, args⟩⟩
        · exact absurd h Bool.false_ne_true
        · rcases kws with _ | ⟨k, kws⟩
          · have h : (decide (x = "range") && isGl sc x && notStar x1 && chkE T sc a x1) = true := h
            simp only [Bool.and_eq_true] at h
            cases of_decide_eq_true h.1.1.1
            exact d_irng ok h.1.1.2 h.1.2 (sndE a X sc x1 ok h.2)
          · exact absurd h Bool.false_ne_true
        · exact absurd h Bool.false_ne_true
      | _ => exact absurd h Bool.false_ne_true
    | _ => exact absurd h Bool.false_ne_true
  | .rng2 a a', X, sc, tg, e, ok, h => by
    cases e with
    | Call fn args kws p =>
      cases fn with
      | Name x q =>
        rcases args with _ | ⟨x1, _ | ⟨x2, _ | ⟨x3, args⟩⟩⟩
        · exact absurd h Bool.false_ne_true
        · exact absurd h Bool.false_ne_true
        · rcases kws with _ | ⟨k, kws⟩
          · have h : (decide (x = "range") && isGl sc x && notStar x1 && notStar x2 && chkE T sc a x1 && chkE T sc a' x2) = true := h
            simp only [Bool.and_eq_true] at h
            cases of_decide_eq_true h.1.1.1.1.1
            exact d_irng2 ok h.1.1.1.1.2 h.1.1.1.2 h.1.1.2 (sndE a X sc x1 ok h.1.2) (sndE a' X sc x2 ok h.2)
          · exact absurd h Bool.false_ne_true
        · exact absurd h Bool.false_ne_true
      | _ => exact absurd h Bool.false_ne_true
    | _ => exact absurd h Bool.false_ne_true
  | .enm a, X, sc, tg, e, ok, h => by
    cases e with
    | Call fn args kws p =>
      cases fn with
      | Name x q =>
        rcases args with _ | ⟨x1, _ | ⟨x2, args⟩⟩
        · exact absurd h Bool.false_ne_true
        · rcases kws with _ | ⟨k, kws⟩
          · have h : (isTupE tg && decide (x = "enumerate") && isGl sc x && notStar x1 && chkE T sc a x1) = true := h
            simp only [Bool.and_eq_true] at h
            cases of_decide_eq_true h.1.1.1.2
            cases tg with
            | Tuple es kk tp => exact d_ienm ok h.1.1.2 h.1.2 (sndE a X sc x1 ok h.2)
            | _ => exact absurd h.1.1.1.1 Bool.false_ne_true
          · exact absurd h Bool.false_ne_true
        · exact absurd h Bool.false_ne_true
      | _ => exact absurd h Bool.false_ne_true
    | _ => exact absurd h Bool.false_ne_true
end
end
end Rf

set_option maxHeartbeats 1000000
/-! Statements by data: the slots' state. -/
namespace Rf
open PySem PySem.W L2

structure RS (K : Frag) (b : Bg) (Se He S : Hp) (ρ : List Sl) (g : Bag) (σ : St) (H : Hp) : Prop where
  bs : Bs K b S g H
  st : Stp b Se He S H
  len : ρ.length = σ.length
  sh : ∀ (i : Nat) (d : PyData), ρ[i]? = some (.sh d) → ∃ v, σ[i]? = some (some v) ∧ Rp K b S v d
  ow : ∀ (i : Nat) (ds : List PyData), ρ[i]? = some (.ow ds) → ∃ p xs, σ[i]? = some (some (.ref p)) ∧ H p = some (.lst xs) ∧ S p = none ∧ He p = none ∧ p ≠ b.a ∧ RpAll K b S xs ds ∧ ds.length ≤ lim
  dis : ∀ (i j : Nat) (ds es : List PyData) (p : Addr), i ≠ j → ρ[i]? = some (.ow ds) → ρ[j]? = some (.ow es) → σ[i]? = some (some (.ref p)) → σ[j]? = some (some (.ref p)) → False

theorem seeF_get (F : List Nat) : ∀ (ρ : List Sl) (k i : Nat) (d : PyData), (seeF F k ρ)[i]? = some (some d) → ρ[i]? = some (.sh d) ∨ (k + i ∈ F ∧ ∃ ds, d = .list ds ∧ ρ[i]? = some (.ow ds))
  | [], _, _, _, h => by simp [seeF] at h
  | .un :: ρ, k, 0, d, h => by simp [seeF] at h
  | .sh d' :: ρ, k, 0, d, h => by
    simp [seeF] at h
    subst h
    exact .inl rfl
  | .ow ds :: ρ, k, 0, d, h => by
    simp only [seeF, List.getElem?_cons_zero, Option.some.injEq] at h
    split at h
    · rename_i hk
      cases h
      exact .inr ⟨hk, ds, rfl, rfl⟩
    · cases h
  | .un :: ρ, k, i + 1, d, h => by
    have h : (seeF F (k + 1) ρ)[i]? = some (some d) := by simpa [seeF] using h
    rcases seeF_get F ρ (k + 1) i d h with q | ⟨q, r⟩
    · exact .inl (by simpa using q)
    · exact .inr ⟨by rw [show k + (i + 1) = k + 1 + i by omega]; exact q, by simpa using r⟩
  | .sh _ :: ρ, k, i + 1, d, h => by
    have h : (seeF F (k + 1) ρ)[i]? = some (some d) := by simpa [seeF] using h
    rcases seeF_get F ρ (k + 1) i d h with q | ⟨q, r⟩
    · exact .inl (by simpa using q)
    · exact .inr ⟨by rw [show k + (i + 1) = k + 1 + i by omega]; exact q, by simpa using r⟩
  | .ow _ :: ρ, k, i + 1, d, h => by
    have h : (seeF F (k + 1) ρ)[i]? = some (some d) := by simpa [seeF] using h
    rcases seeF_get F ρ (k + 1) i d h with q | ⟨q, r⟩
    · exact .inl (by simpa using q)
    · exact .inr ⟨by rw [show k + (i + 1) = k + 1 + i by omega]; exact q, by simpa using r⟩
theorem seeF_len (F : List Nat) : ∀ (ρ : List Sl) (k : Nat), (seeF F k ρ).length = ρ.length
  | [], _ => rfl
  | .un :: ρ, k => by simp [seeF, seeF_len F ρ]
  | .sh _ :: ρ, k => by simp [seeF, seeF_len F ρ]
  | .ow _ :: ρ, k => by simp [seeF, seeF_len F ρ]
theorem frzF_len (F : List Nat) : ∀ (ρ : List Sl) (k : Nat), (frzF F k ρ).length = ρ.length
  | [], _ => rfl
  | .un :: ρ, k => by simp [frzF, frzF_len F ρ]
  | .sh _ :: ρ, k => by simp [frzF, frzF_len F ρ]
  | .ow _ :: ρ, k => by simp [frzF, frzF_len F ρ]
theorem frzF_get (F : List Nat) : ∀ (ρ : List Sl) (k i : Nat) (s : Sl), (frzF F k ρ)[i]? = some s → (ρ[i]? = some s ∧ (∀ ds, s = .ow ds → k + i ∉ F)) ∨ (k + i ∈ F ∧ ∃ ds, s = .sh (.list ds) ∧ ρ[i]? = some (.ow ds))
  | [], _, _, _, h => by simp [frzF] at h
  | .un :: ρ, k, 0, s, h => by
    simp [frzF] at h
    subst h
    exact .inl ⟨rfl, fun _ z => by cases z⟩
  | .sh d' :: ρ, k, 0, s, h => by
    simp [frzF] at h
    subst h
    exact .inl ⟨rfl, fun _ z => by cases z⟩
  | .ow ds :: ρ, k, 0, s, h => by
    simp only [frzF, List.getElem?_cons_zero, Option.some.injEq] at h
    split at h
    · rename_i hk
      subst h
      exact .inr ⟨hk, ds, rfl, rfl⟩
    · rename_i hk
      subst h
      exact .inl ⟨rfl, fun _ _ => hk⟩
  | .un :: ρ, k, i + 1, d, h => by
    have h : (frzF F (k + 1) ρ)[i]? = some d := by simpa [frzF] using h
    rw [show k + (i + 1) = k + 1 + i by omega]
    rcases frzF_get F ρ (k + 1) i d h with ⟨q, r⟩ | ⟨q, r⟩
    · exact .inl ⟨by simpa using q, r⟩
    · exact .inr ⟨q, by simpa using r⟩
  | .sh _ :: ρ, k, i + 1, d, h => by
    have h : (frzF F (k + 1) ρ)[i]? = some d := by simpa [frzF] using h
    rw [show k + (i + 1) = k + 1 + i by omega]
    rcases frzF_get F ρ (k + 1) i d h with ⟨q, r⟩ | ⟨q, r⟩
    · exact .inl ⟨by simpa using q, r⟩
    · exact .inr ⟨q, by simpa using r⟩
  | .ow _ :: ρ, k, i + 1, d, h => by
    have h : (frzF F (k + 1) ρ)[i]? = some d := by simpa [frzF] using h
    rw [show k + (i + 1) = k + 1 + i by omega]
    rcases frzF_get F ρ (k + 1) i d h with ⟨q, r⟩ | ⟨q, r⟩
    · exact .inl ⟨by simpa using q, r⟩
    · exact .inr ⟨q, by simpa using r⟩

/-! ### data without lists stand without the lists -/
section
variable {K : Frag} {b : Bg} {S S' : Hp}
mutual
theorem Rp.lose (h : ∀ a o, S a = some o → (∀ xs, o ≠ .lst xs) → S' a = some o) : ∀ {v : V} {d : PyData}, Rp K b S v d → noList d = true → Rp K b S' v d
  | _, _, .non, _ => .non
  | _, _, .bl c, _ => .bl c
  | _, _, .int i, _ => .int i
  | _, _, .str x, _ => .str x
  | _, _, .lst _ _ _, n => by simp [noList] at n
  | _, .tuple ds, .tup q l r, n => by
    have n : noLists ds = true := by simpa [noList] using n
    refine .tup ?_ l (RpAll.lose h r n)
    rcases q with (q | ⟨o, q⟩) | q
    · exact .inl (.inl (h _ _ q fun _ z => by cases z))
    · exact .inl (.inr ⟨o, h _ _ q fun _ z => by cases z⟩)
    · exact .inr q
  | _, _, .bag, n => by simp [noList] at n
theorem RpAll.lose (h : ∀ a o, S a = some o → (∀ xs, o ≠ .lst xs) → S' a = some o) : ∀ {vs : List V} {ds : List PyData}, RpAll K b S vs ds → noLists ds = true → RpAll K b S' vs ds
  | _, _, .nil, _ => .nil
  | _, _, .cons q t, n => by
    simp only [noLists, Bool.and_eq_true] at n
    exact .cons (q.lose h n.1) (t.lose h n.2)
end
end

/-! ### an expression within a statement -/
section
variable {K : Frag} {b : Bg} {Se He S : Hp} {ρ : List Sl} {g : Bag} {σ : St} {H : Hp}
open Classical in
/-- the own lists that F names are seen -/
theorem RS.see (R : RS K b Se He S ρ g σ H) (F : List Nat) : ∃ SF, Bs K b SF g H ∧ Sees K b SF (seeF F 0 ρ) σ ∧ ∀ S' H' g', Stp b SF H S' H' → Bs K b S' g' H' →
    RS K b Se He S' (frzF F 0 ρ) g' σ H' ∧ Exd S S' ∧ ∃ S'', RS K b Se He S'' ρ g' σ H' ∧ Exd S S'' ∧ (∀ v d, noList d = true → Rp K b S' v d → Rp K b S'' v d) ∧ Exd S'' S' := by
  let own : Addr → Prop := fun a => ∃ (i : Nat) (ds : List PyData), i ∈ F ∧ ρ[i]? = some (.ow ds) ∧ σ[i]? = some (some (.ref a))
  let SF : Hp := fun a => if own a then H a else S a
  have hown : ∀ a, own a → ∃ xs, H a = some (.lst xs) ∧ S a = none ∧ He a = none ∧ a ≠ b.a := fun a ⟨i, ds, hi, ho, hs⟩ => by
    obtain ⟨p, xs, h1, h2, h3, h4, h5, _, _⟩ := R.ow i ds ho
    rw [hs] at h1
    cases h1
    exact ⟨xs, h2, h3, h4, h5⟩
  have yes : ∀ a, own a → SF a = H a := fun a h => if_pos h
  have no : ∀ a, ¬ own a → SF a = S a := fun a h => if_neg h
  have exS : Exd S SF := fun a o e => by
    by_cases h : own a
    · obtain ⟨xs, _, h3, _⟩ := hown a h
      rw [h3] at e
      cases e
    · rw [no a h]
      exact e
  have BF : Bs K b SF g H := by
    refine ⟨fun a o e => ?_, ?_, R.bs.bag.1, exS.sqL R.bs.bag.2⟩
    · by_cases h : own a
      · rw [yes a h] at e
        exact e
      · rw [no a h] at e
        exact R.bs.sub a o e
    · have h : ¬ own b.a := fun h => by
        obtain ⟨_, _, _, _, h5⟩ := hown _ h
        exact h5 rfl
      rw [no _ h]
      exact R.bs.sb
  refine ⟨SF, BF, ⟨by rw [seeF_len]; exact R.len, fun i d e => ?_⟩, fun S' H' g' st B' => ?_⟩
  · rcases seeF_get F ρ 0 i d e with q | ⟨q, ds, rfl, ho⟩
    · obtain ⟨v, h1, h2⟩ := R.sh i d q
      exact ⟨v, h1, h2.mono exS⟩
    · obtain ⟨p, xs, h1, h2, h3, h4, h5, h6, h7⟩ := R.ow i ds ho
      rw [Nat.zero_add] at q
      exact ⟨.ref p, h1, .lst (by rw [yes p ⟨i, ds, q, ho, h1⟩]; exact h2) (by rw [h6.length]; exact h7) (h6.mono exS)⟩
  · -- an own list that F does not name
    have other : ∀ i ds p, ρ[i]? = some (.ow ds) → σ[i]? = some (some (.ref p)) → i ∉ F → ¬ own p := fun i ds p ho hs hF ⟨j, es, hj, ho', hs'⟩ => by
      by_cases hij : i = j
      · subst hij
        exact hF hj
      · exact R.dis i j ds es p hij ho ho' hs hs'
    have none' : ∀ p, H p ≠ none → SF p = none → S' p = none := fun p hH hS => by
      cases e : S' p with
      | none => rfl
      | some o =>
        rcases st.new p o e with z | z
        · rw [hS] at z
          cases z
        · exact absurd z hH
    have exS' : Exd S S' := exS.trans st.ex
    refine ⟨⟨B', ?_, by rw [frzF_len]; exact R.len, fun i d e => ?_, fun i ds e => ?_, fun i j ds es p hij e1 e2 s1 s2 => ?_⟩, exS', ?_⟩
    · refine ⟨R.st.ex.trans exS', fun a o e => ?_, fun a o n e => st.kp a o n (R.st.kp a o n e), fun a e => R.st.dm a (st.dm a e)⟩
      rcases st.new a o e with z | z
      · by_cases h : own a
        · obtain ⟨_, _, _, h4, _⟩ := hown a h
          exact .inr h4
        · rw [no a h] at z
          exact R.st.new a o z
      · exact .inr (R.st.dm a z)
    · rcases frzF_get F ρ 0 i _ e with ⟨q, _⟩ | ⟨q, ds, z, ho⟩
      · obtain ⟨v, h1, h2⟩ := R.sh i d q
        exact ⟨v, h1, h2.mono exS'⟩
      · cases z
        obtain ⟨p, xs, h1, h2, h3, h4, h5, h6, h7⟩ := R.ow i ds ho
        rw [Nat.zero_add] at q
        exact ⟨.ref p, h1, .lst (st.ex _ _ (by rw [yes p ⟨i, ds, q, ho, h1⟩]; exact h2)) (by rw [h6.length]; exact h7) (h6.mono exS')⟩
    · rcases frzF_get F ρ 0 i _ e with ⟨q, hF⟩ | ⟨_, es, z, _⟩
      · obtain ⟨p, xs, h1, h2, h3, h4, h5, h6, h7⟩ := R.ow i ds q
        have hF := hF ds rfl
        rw [Nat.zero_add] at hF
        exact ⟨p, xs, h1, st.kp p _ h5 h2, none' p (by rw [h2]; exact fun z => by cases z) (by rw [no p (other i ds p q h1 hF)]; exact h3), h4, h5, h6.mono exS', h7⟩
      · cases z
    · rcases frzF_get F ρ 0 i _ e1 with ⟨q1, _⟩ | ⟨_, es, z, _⟩
      · rcases frzF_get F ρ 0 j _ e2 with ⟨q2, _⟩ | ⟨_, es, z, _⟩
        · exact R.dis i j ds es p hij q1 q2 s1 s2
        · cases z
      · cases z
    · -- given back
      let S'' : Hp := fun a => if own a then none else S' a
      have yes2 : ∀ a, own a → S'' a = none := fun a h => if_pos h
      have no2 : ∀ a, ¬ own a → S'' a = S' a := fun a h => if_neg h
      have exS2 : Exd S S'' := fun a o e => by
        have h : ¬ own a := fun h => by
          obtain ⟨xs, _, h3, _⟩ := hown a h
          rw [h3] at e
          cases e
        rw [no2 a h]
        exact exS' a o e
      have sub2 : Exd S'' S' := fun a o e => by
        by_cases h : own a
        · rw [yes2 a h] at e
          cases e
        · rw [no2 a h] at e
          exact e
      refine ⟨S'', ⟨⟨sub2.trans B'.sub, ?_, B'.bag.1, exS2.sqL R.bs.bag.2⟩, ?_, R.len, fun i d e => ?_, fun i ds e => ?_, R.dis⟩, exS2, fun v d n r => ?_, sub2⟩
      · by_cases h : own b.a
        · exact yes2 _ h
        · rw [no2 _ h]
          exact B'.sb
      · refine ⟨R.st.ex.trans exS2, fun a o e => ?_, fun a o n e => st.kp a o n (R.st.kp a o n e), fun a e => R.st.dm a (st.dm a e)⟩
        by_cases h : own a
        · rw [yes2 a h] at e
          cases e
        · rw [no2 a h] at e
          rcases st.new a o e with z | z
          · rw [no a h] at z
            exact R.st.new a o z
          · exact .inr (R.st.dm a z)
      · obtain ⟨v, h1, h2⟩ := R.sh i d e
        exact ⟨v, h1, h2.mono exS2⟩
      · obtain ⟨p, xs, h1, h2, h3, h4, h5, h6, h7⟩ := R.ow i ds e
        refine ⟨p, xs, h1, st.kp p _ h5 h2, ?_, h4, h5, h6.mono exS2, h7⟩
        by_cases h : own p
        · exact yes2 p h
        · rw [no2 p h]
          exact none' p (by rw [h2]; exact fun z => by cases z) (by rw [no p h]; exact h3)
      · refine r.lose (fun a o e ho => ?_) n
        by_cases h : own a
        · obtain ⟨xs, h2, _, _, h5⟩ := hown a h
          have z := B'.sub a o e
          rw [st.kp a _ h5 h2] at z
          cases z
          exact absurd rfl (ho xs)
        · rw [no2 a h]
          exact e
variable {Φ : Fns} {gl : Nat → Option PyData}
/-- an expression's value, in a statement -/
theorem RS.evX {e : E} {d : PyData} {ρ' : List Sl} {g' : Bag} {Q : VK} (R : RS K b Se He S ρ g σ H) (h : evX Φ gl e ρ g = some (d, ρ', g')) (k : ∀ v S' H', RS K b Se He S' ρ' g' σ H' → Exd S S' → Rp K b S' v d → Q v H') : tD K b (evE Φ gl e) σ H Q := by
  unfold Rf.evX at h
  split at h
  · rename_i d1 g1 e1
    cases h
    obtain ⟨SF, BF, ZF, fin⟩ := R.see e.vars
    refine ⟨SF, _, g, BF, ZF, d, g', e1, fun v S' H' st B' r => ?_⟩
    obtain ⟨h1, x1, S'', h2, x2, h3, _⟩ := fin S' H' g' st B'
    unfold settle at k
    by_cases n : noList d = true
    · rw [if_pos n] at k
      exact k v S'' H' h2 x2 (h3 v d n r)
    · rw [if_neg n] at k
      exact k v S' H' h1 x1 r
  · cases h
theorem RS.evT {e : E} {c : Bool} {g' : Bag} {Q : Bool → Hp → Prop} (R : RS K b Se He S ρ g σ H) (h : evT Φ gl e ρ g = some (c, g')) (k : ∀ S' H', RS K b Se He S' ρ g' σ H' → Exd S S' → Q c H') : tDT K b (evB Φ gl e) σ H Q := by
  unfold Rf.evT at h
  split at h
  · rename_i c1 g1 e1
    cases h
    obtain ⟨SF, BF, ZF, fin⟩ := R.see e.vars
    refine ⟨SF, _, g, BF, ZF, c, g', by unfold evB; rw [e1], fun S' H' st B' => ?_⟩
    obtain ⟨h1, x1, S'', h2, x2, h3, _⟩ := fin S' H' g' st B'
    exact k S'' H' h2 x2
  · cases h
end
end Rf

set_option maxHeartbeats 1000000
/-! Statements by data: the rules. -/
namespace Rf
open PySem PySem.W L2
section
variable {K : Frag} {b : Bg} {Se He S : Hp} {ρ : List Sl} {g : Bag} {σ : St} {H : Hp}
/-! ### the slots change -/
theorem RS.put (R : RS K b Se He S ρ g σ H) {i : Nat} {v : V} {d : PyData} (r : Rp K b S v d) : RS K b Se He S (ρ.set i (.sh d)) g (σ.set i (some v)) H := by
  refine ⟨R.bs, R.st, by rw [List.length_set, List.length_set, R.len], fun j d' e => ?_, fun j ds e => ?_, fun j l ds es p hjl e1 e2 s1 s2 => ?_⟩
  · by_cases h : i = j
    · subst h
      by_cases hl : i < ρ.length
      · rw [List.getElem?_set_self hl] at e
        cases e
        exact ⟨v, List.getElem?_set_self (by rw [← R.len]; exact hl), r⟩
      · rw [List.getElem?_eq_none (by rw [List.length_set]; omega)] at e
        cases e
    · rw [List.getElem?_set_ne h] at e
      rw [List.getElem?_set_ne h]
      exact R.sh j d' e
  · by_cases h : i = j
    · subst h
      by_cases hl : i < ρ.length
      · rw [List.getElem?_set_self hl] at e
        cases e
      · rw [List.getElem?_eq_none (by rw [List.length_set]; omega)] at e
        cases e
    · rw [List.getElem?_set_ne h] at e
      rw [List.getElem?_set_ne h]
      exact R.ow j ds e
  · have nj : ∀ (m : Nat), (ρ.set i (.sh d))[m]? = some (.ow ds) ∨ (ρ.set i (.sh d))[m]? = some (.ow es) → i ≠ m := fun m h z => by
      subst z
      by_cases hl : i < ρ.length
      · rw [List.getElem?_set_self hl] at h
        rcases h with h | h <;> cases h
      · rw [List.getElem?_eq_none (by rw [List.length_set]; omega)] at h
        rcases h with h | h <;> cases h
    have h1 := nj j (.inl e1)
    have h2 := nj l (.inr e2)
    rw [List.getElem?_set_ne h1] at e1 s1
    rw [List.getElem?_set_ne h2] at e2 s2
    exact R.dis j l ds es p hjl e1 e2 s1 s2
theorem RS.puts : ∀ {ps : List (Nat × PyData)} {qs : List (Nat × V)} {ρ : List Sl} {σ : St}, PutR K b S ps qs → RS K b Se He S ρ g σ H → RS K b Se He S (putS ρ ps) g (putV σ qs) H
  | _, _, _, _, .nil, R => R
  | p :: ps, q :: qs, ρ, σ, .cons r t, R => by
    show RS K b Se He S (putS (ρ.set p.1 (.sh p.2)) ps) g (putV (σ.set q.1 (some q.2)) qs) H
    have R2 := R.put (i := q.1) r.2
    rw [← r.1] at R2 ⊢
    exact RS.puts t R2
/-- a new list of the def's own -/
theorem RS.own (R : RS K b Se He S ρ g σ H) {i : Nat} {p : Addr} {xs : List V} {ds : List PyData} (hp : H p = none) (r : RpAll K b S xs ds) (hl : ds.length ≤ lim) : RS K b Se He S (ρ.set i (.ow ds)) g (σ.set i (some (.ref p))) (upd H p (.lst xs)) := by
  have np : ∀ (j : Nat) (es : List PyData) (q : Addr), ρ[j]? = some (.ow es) → σ[j]? = some (some (.ref q)) → q ≠ p := fun j es q e s z => by
    obtain ⟨q', ys, h1, h2, _⟩ := R.ow j es e
    rw [s] at h1
    cases h1
    rw [z, hp] at h2
    cases h2
  refine ⟨R.bs.grow (R.bs.free hp) (R.bs.nb hp), R.st.grow (R.st.dm p hp), by rw [List.length_set, List.length_set, R.len], fun j d' e => ?_, fun j es e => ?_, fun j l es fs q hjl e1 e2 s1 s2 => ?_⟩
  · by_cases h : i = j
    · subst h
      by_cases hl : i < ρ.length
      · rw [List.getElem?_set_self hl] at e
        cases e
      · rw [List.getElem?_eq_none (by rw [List.length_set]; omega)] at e
        cases e
    · rw [List.getElem?_set_ne h] at e
      rw [List.getElem?_set_ne h]
      exact R.sh j d' e
  · by_cases h : i = j
    · subst h
      by_cases hl : i < ρ.length
      · rw [List.getElem?_set_self hl] at e
        cases e
        exact ⟨p, xs, List.getElem?_set_self (by rw [← R.len]; exact hl), upd_same, R.bs.free hp, R.st.dm p hp, Ne.symm (R.bs.nb hp), r, by assumption⟩
      · rw [List.getElem?_eq_none (by rw [List.length_set]; omega)] at e
        cases e
    · rw [List.getElem?_set_ne h] at e
      rw [List.getElem?_set_ne h]
      obtain ⟨q, ys, h1, h2, h3⟩ := R.ow j es e
      exact ⟨q, ys, h1, by rw [upd_ne (np j es q e h1)]; exact h2, h3⟩
  · have tell : ∀ (m : Nat) (fs : List PyData) (q : Addr), (ρ.set i (.ow ds))[m]? = some (.ow fs) → (σ.set i (some (.ref p)))[m]? = some (some (.ref q)) → (m = i ∧ q = p) ∨ (i ≠ m ∧ ρ[m]? = some (.ow fs) ∧ σ[m]? = some (some (.ref q)) ∧ q ≠ p) := fun m fs q e s => by
      by_cases h : i = m
      · subst h
        by_cases hl : i < σ.length
        · rw [List.getElem?_set_self hl] at s
          cases s
          exact .inl ⟨rfl, rfl⟩
        · rw [List.getElem?_eq_none (by rw [List.length_set]; omega)] at s
          cases s
      · rw [List.getElem?_set_ne h] at e s
        exact .inr ⟨h, e, s, np m fs q e s⟩
    rcases tell j es q e1 s1 with ⟨a1, a2⟩ | ⟨a1, a2, a3, a4⟩
    · rcases tell l fs q e2 s2 with ⟨b1, b2⟩ | ⟨b1, b2, b3, b4⟩
      · exact hjl (a1.trans b1.symm)
      · exact b4 a2
    · rcases tell l fs q e2 s2 with ⟨b1, b2⟩ | ⟨b1, b2, b3, b4⟩
      · exact a4 b2
      · exact R.dis j l es fs q hjl a2 b2 a3 b3
theorem RS.ownAt (R : RS K b Se He S ρ g σ H) {i : Nat} {p : Addr} {xs : List V} {ds : List PyData} (hp : H p = some (.lst xs)) (hS : S p = none) (hHe : He p = none) (hb : p ≠ b.a) (np : ∀ (j : Nat) (es : List PyData) (q : Addr), ρ[j]? = some (.ow es) → σ[j]? = some (some (.ref q)) → q ≠ p) (r : RpAll K b S xs ds) (hl : ds.length ≤ lim) : RS K b Se He S (ρ.set i (.ow ds)) g (σ.set i (some (.ref p))) H := by
  refine ⟨R.bs, R.st, by rw [List.length_set, List.length_set, R.len], fun j d' e => ?_, fun j es e => ?_, fun j l es fs q hjl e1 e2 s1 s2 => ?_⟩
  · by_cases h : i = j
    · subst h
      by_cases hl : i < ρ.length
      · rw [List.getElem?_set_self hl] at e
        cases e
      · rw [List.getElem?_eq_none (by rw [List.length_set]; omega)] at e
        cases e
    · rw [List.getElem?_set_ne h] at e
      rw [List.getElem?_set_ne h]
      exact R.sh j d' e
  · by_cases h : i = j
    · subst h
      by_cases hl : i < ρ.length
      · rw [List.getElem?_set_self hl] at e
        cases e
        exact ⟨p, xs, List.getElem?_set_self (by rw [← R.len]; exact hl), hp, hS, hHe, hb, r, by assumption⟩
      · rw [List.getElem?_eq_none (by rw [List.length_set]; omega)] at e
        cases e
    · rw [List.getElem?_set_ne h] at e
      rw [List.getElem?_set_ne h]
      obtain ⟨q, ys, h1, h2, h3⟩ := R.ow j es e
      exact ⟨q, ys, h1, h2, h3⟩
  · have tell : ∀ (m : Nat) (fs : List PyData) (q : Addr), (ρ.set i (.ow ds))[m]? = some (.ow fs) → (σ.set i (some (.ref p)))[m]? = some (some (.ref q)) → (m = i ∧ q = p) ∨ (i ≠ m ∧ ρ[m]? = some (.ow fs) ∧ σ[m]? = some (some (.ref q)) ∧ q ≠ p) := fun m fs q e s => by
      by_cases h : i = m
      · subst h
        by_cases hl : i < σ.length
        · rw [List.getElem?_set_self hl] at s
          cases s
          exact .inl ⟨rfl, rfl⟩
        · rw [List.getElem?_eq_none (by rw [List.length_set]; omega)] at s
          cases s
      · rw [List.getElem?_set_ne h] at e s
        exact .inr ⟨h, e, s, np m fs q e s⟩
    rcases tell j es q e1 s1 with ⟨a1, a2⟩ | ⟨a1, a2, a3, a4⟩
    · rcases tell l fs q e2 s2 with ⟨b1, b2⟩ | ⟨b1, b2, b3, b4⟩
      · exact hjl (a1.trans b1.symm)
      · exact b4 a2
    · rcases tell l fs q e2 s2 with ⟨b1, b2⟩ | ⟨b1, b2, b3, b4⟩
      · exact a4 b2
      · exact R.dis j l es fs q hjl a2 b2 a3 b3
/-- an own list grows -/
theorem RS.grown (R : RS K b Se He S ρ g σ H) {i : Nat} {p : Addr} {xs : List V} {ds es : List PyData} (ho : ρ[i]? = some (.ow ds)) (hs : σ[i]? = some (some (.ref p))) (r : RpAll K b S xs es) (hl : es.length ≤ lim) : RS K b Se He S (ρ.set i (.ow es)) g σ (upd H p (.lst xs)) := by
  obtain ⟨p', ys, h1, h2, h3, h4, h5, h6, h7⟩ := R.ow i ds ho
  rw [hs] at h1
  cases h1
  have np : ∀ (j : Nat) (es : List PyData) (q : Addr), i ≠ j → ρ[j]? = some (.ow es) → σ[j]? = some (some (.ref q)) → q ≠ p := fun j es q n e s z => by
    subst z
    exact R.dis i j ds es q n ho e hs s
  have hi : i < ρ.length := (List.getElem?_eq_some_iff.mp ho).1
  refine ⟨R.bs.grow h3 (Ne.symm h5), R.st.grow h4, by rw [List.length_set, R.len], fun j d' e => ?_, fun j fs e => ?_, fun j l fs gs q hjl e1 e2 s1 s2 => ?_⟩
  · by_cases h : i = j
    · subst h
      rw [List.getElem?_set_self hi] at e
      cases e
    · rw [List.getElem?_set_ne h] at e
      exact R.sh j d' e
  · by_cases h : i = j
    · subst h
      rw [List.getElem?_set_self hi] at e
      cases e
      exact ⟨p, xs, hs, upd_same, h3, h4, h5, r, hl⟩
    · rw [List.getElem?_set_ne h] at e
      obtain ⟨q, zs, k1, k2, k3⟩ := R.ow j fs e
      exact ⟨q, zs, k1, by rw [upd_ne (np j fs q h e k1)]; exact k2, k3⟩
  · have tell : ∀ (m : Nat) (fs : List PyData), (ρ.set i (.ow es))[m]? = some (.ow fs) → ∃ fs', ρ[m]? = some (.ow fs') := fun m fs e => by
      by_cases h : i = m
      · subst h
        exact ⟨ds, ho⟩
      · rw [List.getElem?_set_ne h] at e
        exact ⟨fs, e⟩
    obtain ⟨f1, a1⟩ := tell j fs e1
    obtain ⟨f2, a2⟩ := tell l gs e2
    exact R.dis j l f1 f2 q hjl a1 a2 s1 s2
theorem RS.newObj (R : RS K b Se He S ρ g σ H) {q : Addr} (hq : H q = none) (o : HO) : RS K b Se He (upd S q o) ρ g σ (upd H q o) := by
  refine ⟨R.bs.new hq o, R.st.trans (Stp.new1 R.bs hq o), R.len, fun i d e => ?_, fun i ds e => ?_, R.dis⟩
  · obtain ⟨v, h1, h2⟩ := R.sh i d e
    exact ⟨v, h1, h2.mono (Exd.new (R.bs.free hq))⟩
  · obtain ⟨p, xs, h1, h2, h3, h4, h5, h6, h7⟩ := R.ow i ds e
    have n : p ≠ q := ne_of_none h2 hq
    exact ⟨p, xs, h1, by rw [upd_ne n]; exact h2, by rw [upd_ne n]; exact h3, h4, h5, h6.mono (Exd.new (R.bs.free hq)), h7⟩
theorem noLists_mem : ∀ {ds : List PyData}, noLists ds = true → ∀ {d}, d ∈ ds → noList d = true
  | d :: ds, h, e, m => by
    simp only [noLists, Bool.and_eq_true] at h
    rcases List.mem_cons.mp m with rfl | m
    · exact h.1
    · exact noLists_mem h.2 m
theorem RpAll.byEach {S' : Hp} : ∀ {vs : List V} {ds : List PyData}, RpAll K b S vs ds → (∀ v d, d ∈ ds → Rp K b S v d → Rp K b S' v d) → RpAll K b S' vs ds
  | _, _, .nil, _ => .nil
  | _, _, .cons r t, h => .cons (h _ _ List.mem_cons_self r) (t.byEach fun v d m r => h v d (List.mem_cons_of_mem _ m) r)
end

/-! ### readings of statements -/
def endOk (K : Frag) (b : Bg) (Se He : Hp) (S0 : Hp) (D : Ends) : Fl → List Sl → Bag → Prop
  | .nx, ρ, g => ∀ σ S H, RS K b Se He S ρ g σ H → Exd S0 S → D.nx σ H
  | .br, ρ, g => ∀ σ S H, RS K b Se He S ρ g σ H → Exd S0 S → D.bk σ H
  | .ct, ρ, g => ∀ σ S H, RS K b Se He S ρ g σ H → Exd S0 S → D.ct σ H
  | .rt d, _, g => ∀ v S H, Stp b Se He S H → Bs K b S g H → Rp K b S v d → D.rt v H
def tSt (K : Frag) (b : Bg) (Se He : Hp) (m : List Sl → Bag → R) : TS := fun D σ H => ∃ S ρ g, RS K b Se He S ρ g σ H ∧ ∃ f ρ' g', m ρ g = some (f, ρ', g') ∧ endOk K b Se He S D f ρ' g'
theorem endOk.up {K : Frag} {b : Bg} {Se He S S1 : Hp} {D : Ends} {f : Fl} {ρ : List Sl} {g : Bag} (h : endOk K b Se He S D f ρ g) (e : Exd S S1) : endOk K b Se He S1 D f ρ g := by
  cases f with
  | nx => exact fun σ S2 H R x => h σ S2 H R (e.trans x)
  | br => exact fun σ S2 H R x => h σ S2 H R (e.trans x)
  | ct => exact fun σ S2 H R x => h σ S2 H R (e.trans x)
  | rt d => exact h

section
variable {T : Tab} {Φ : Fns} {gl : Nat → Option PyData} {b : Bg} {X : Cx} {sc : Scope} {Se He : Hp}
theorem s_nil : PSs X [] (tSt X.K b Se He (evSs Φ gl .nil)) := by
  refine PSs.imp pss_nil fun D σ H h => ?_
  obtain ⟨S, ρ, g, R, f, ρ', g', e, k⟩ := h
  simp only [evSs] at e
  cases e
  exact k σ S H R (Exd.refl S)
theorem s_cons {s : Rf.S} {ss : Ss} {st : Stmt} {rest : List Stmt} (h1 : PS X st (tSt X.K b Se He (evS Φ gl s))) (h2 : PSs X rest (tSt X.K b Se He (evSs Φ gl ss))) : PSs X (st :: rest) (tSt X.K b Se He (evSs Φ gl (.cons s ss))) := by
  refine PSs.imp (pss_cons h1 h2) fun D σ H h => ?_
  obtain ⟨S, ρ, g, R, f, ρ', g', e, k⟩ := h
  simp only [evSs] at e
  cases e1 : evS Φ gl s ρ g with
  | none =>
    rw [e1] at e
    cases e
  | some r =>
    obtain ⟨f1, ρ1, g1⟩ := r
    rw [e1] at e
    refine ⟨S, ρ, g, R, f1, ρ1, g1, e1, ?_⟩
    cases f1 with
    | nx => exact fun σ1 S1 H1 R1 x => ⟨S1, ρ1, g1, R1, f, ρ', g', e, k.up x⟩
    | br =>
      cases e
      exact k
    | ct =>
      cases e
      exact k
    | rt d =>
      cases e
      exact k
theorem s_pas {p : Pos} : PS X (.Pass p) (tSt X.K b Se He (evS Φ gl .pas)) := by
  refine PS.imp ps_pass fun D σ H h => ?_
  obtain ⟨S, ρ, g, R, f, ρ', g', e, k⟩ := h
  simp only [evS] at e
  cases e
  exact k σ S H R (Exd.refl S)
theorem s_brk {p : Pos} : PS X (.Break p) (tSt X.K b Se He (evS Φ gl .brk)) := by
  refine PS.imp ps_break fun D σ H h => ?_
  obtain ⟨S, ρ, g, R, f, ρ', g', e, k⟩ := h
  simp only [evS] at e
  cases e
  exact k σ S H R (Exd.refl S)
theorem s_cnt {p : Pos} : PS X (.Continue p) (tSt X.K b Se He (evS Φ gl .cnt)) := by
  refine PS.imp ps_continue fun D σ H h => ?_
  obtain ⟨S, ρ, g, R, f, ρ', g', e, k⟩ := h
  simp only [evS] at e
  cases e
  exact k σ S H R (Exd.refl S)
theorem s_ret {e : E} {x : Expr} {p : Pos} (h : PE X x (tD X.K b (evE Φ gl e))) : PS X (.Return (some x) p) (tSt X.K b Se He (evS Φ gl (.ret e))) := by
  refine PS.imp (ps_ret h) fun D σ H h => ?_
  obtain ⟨S, ρ, g, R, f, ρ', g', e1, k⟩ := h
  simp only [evS] at e1
  split at e1
  · rename_i d ρ1 g1 e2
    cases e1
    exact R.evX e2 fun v S' H' R' x r => k v S' H' R'.st R'.bs r
  · cases e1
theorem s_ifs {c : E} {a a' : Ss} {x : Expr} {s1 s2 : List Stmt} {p : Pos} (hc : PT X x (tDT X.K b (evB Φ gl c))) (h1 : PSs X s1 (tSt X.K b Se He (evSs Φ gl a))) (h2 : PSs X s2 (tSt X.K b Se He (evSs Φ gl a'))) : PS X (.If x s1 s2 p) (tSt X.K b Se He (evS Φ gl (.ifs c a a'))) := by
  refine PS.imp (ps_if hc h1 h2) fun D σ H h => ?_
  obtain ⟨S, ρ, g, R, f, ρ', g', e1, k⟩ := h
  simp only [evS] at e1
  split at e1
  · rename_i g1 e2
    exact R.evT e2 fun S' H' R' x => iteT ⟨S', ρ, g1, R', f, ρ', g', e1, k.up x⟩
  · rename_i g1 e2
    exact R.evT e2 fun S' H' R' x => iteF ⟨S', ρ, g1, R', f, ρ', g', e1, k.up x⟩
  · cases e1
/-- name = e, by the assignment's reading -/
theorem s_set {i : Nat} {e : E} {st : Stmt} (h : PS X st (tAsg (tD X.K b (evE Φ gl e)) (gName i))) : PS X st (tSt X.K b Se He (evS Φ gl (.set i e))) := by
  refine PS.imp h fun D σ H h => ?_
  obtain ⟨S, ρ, g, R, f, ρ', g', e1, k⟩ := h
  simp only [evS] at e1
  split at e1
  · rename_i d ρ1 g1 e2
    split at e1
    · cases e1
      exact R.evX e2 fun v S' H' R' x r => k _ S' H' (R'.put r) x
    · cases e1
  · cases e1
/-- name = [a, b, ..]: a list of the def's own -/
theorem s_setL {i : Nat} {es : Es} {x : Str} {xs : List Expr} {p1 p2 p : Pos} (ok : Ok T Φ gl b X sc) (hx : T.N[i]? = some x) (hl : isLoc sc x = true) (h : PA X xs (tDA X.K b (evA Φ gl es))) : PS X (.Assign [.Name x p1] (.List xs p2) p) (tSt X.K b Se He (evS Φ gl (.own i es))) := by
  refine PS.imp (ps_set (i := i) (by rw [ok.N]; exact ok.nd) (by rw [ok.N]; exact hx) (ok.loc _ hl) (pe_lst h) rfl (ok.hf hl)) fun D σ H h => ?_
  obtain ⟨S, ρ, g, R, f, ρ', g', e1, k⟩ := h
  simp only [evS] at e1
  split at e1
  · rename_i ds ρ1 g1 e2
    split at e1
    · rename_i hi
      unfold Rf.evX at e2
      split at e2
      · rename_i d2 g2 e3
        cases e2
        simp only [evE] at e3
        split at e3
        · rename_i ds3 g3 e4
          split at e3
          · rename_i hlim
            cases e3
            obtain ⟨SF, BF, ZF, fin⟩ := R.see (E.lst es).vars
            refine tDA.seq BF ZF e4 fun vs S1 H1 st1 B1 Z1 r1 => ⟨le_size (by rw [r1.length]; exact hlim), fun q hq => ?_⟩
            obtain ⟨R1, x1, S2, R2, x2, dn, _⟩ := fin S1 H1 g1 st1 B1
            split at e1
            · rename_i hno
              cases e1
              have r2 : RpAll X.K b S2 vs ds := RpAll.byEach r1 fun v d m hd => dn v d (noLists_mem hno m) hd
              exact k _ S2 _ (R2.own hq r2 hlim) x2
            · cases e1
              have st : settle (E.lst es).vars (.list ds) ρ = frzF (E.lst es).vars 0 ρ := by
                unfold settle
                rw [if_neg (by simp [noList])]
              have R3 := R1.newObj hq (.lst vs)
              rw [st] at k
              exact k _ _ _ (R3.put (B1.newL hq r1 hlim)) (x1.trans (Exd.new (B1.free hq)))
          · cases e3
        · cases e3
      · cases e2
    · cases e1
  · cases e1
/-- name = [e for ..]: a list of the def's own -/
theorem s_ownl {i : Nat} {e : E} {st : Stmt} (h : PS X st (tAsg (tDL X.K b (evE Φ gl e)) (gName i))) : PS X st (tSt X.K b Se He (evS Φ gl (.ownl i e))) := by
  refine PS.imp h fun D σ H h => ?_
  obtain ⟨S, ρ, g, R, f, ρ', g', e1, k⟩ := h
  simp only [evS] at e1
  split at e1
  · rename_i ds ρ1 g1 e2
    split at e1
    · rename_i hi
      unfold Rf.evX at e2
      split at e2
      · rename_i d2 g2 e3
        cases e2
        obtain ⟨SF, BF, ZF, fin⟩ := R.see e.vars
        refine ⟨SF, _, g, BF, ZF, ds, g1, e3, fun q S1 H1 acc hq0 hq1 hq2 r1 hl st1 B1 => ?_⟩
        obtain ⟨R1, x1, S2, R2, x2, dn, sb⟩ := fin S1 H1 g1 st1 B1
        have hl2 : ds.length ≤ lim := by rw [← r1.length]; exact hl
        split at e1
        · rename_i hno
          cases e1
          have r2 : RpAll X.K b S2 acc ds := RpAll.byEach r1 fun v d m hd => dn v d (noLists_mem hno m) hd
          have hq3 : S2 q = none := by
            cases z : S2 q with
            | none => rfl
            | some o =>
              have := sb q o z
              rw [hq1] at this
              cases this
          have hqb : q ≠ b.a := fun z => by
            obtain ⟨o, ho⟩ := R.bs.hb
            rw [← z, hq0] at ho
            cases ho
          refine k _ S2 _ (R2.ownAt hq2 hq3 (R.st.dm q hq0) hqb (fun j es p e s z => ?_) r2 hl2) x2
          obtain ⟨p', ys, h1, h2, _⟩ := R.ow j es e
          rw [s] at h1
          cases h1
          rw [z, hq0] at h2
          cases h2
        · cases e1
          have st : settle e.vars (.list ds) ρ = frzF e.vars 0 ρ := by
            unfold settle
            rw [if_neg (by simp [noList])]
          rw [st] at k
          have hqb : b.a ≠ q := fun z => by
            obtain ⟨o, ho⟩ := R.bs.hb
            rw [z, hq0] at ho
            cases ho
          have B2 : Bs X.K b (upd S1 q (.lst acc)) g' H1 := ⟨fun a o ea => by
            by_cases ha : a = q
            · rw [ha, upd_same] at ea
              cases ea
              rw [ha]
              exact hq2
            · rw [upd_ne ha] at ea
              exact B1.sub a o ea, by rw [upd_ne hqb]; exact B1.sb, B1.bag.1, (Exd.new hq1).sqL B1.bag.2⟩
          have st2 : Stp b SF H (upd S1 q (.lst acc)) H1 := ⟨st1.ex.trans (Exd.new hq1), fun a o ea => by
            by_cases ha : a = q
            · rw [ha]
              exact .inr hq0
            · rw [upd_ne ha] at ea
              exact st1.new a o ea, st1.kp, st1.dm⟩
          obtain ⟨R3, x3, _⟩ := fin _ H1 g' st2 B2
          exact k _ _ _ (R3.put (.lst upd_same hl (r1.mono (Exd.new hq1)))) x3
      · cases e2
    · cases e1
  · cases e1
end
end Rf

set_option maxHeartbeats 1000000
/-! Statements by data: more rules, the check, soundness. -/
namespace Rf
open PySem PySem.W L2
section
variable {K : Frag} {b : Bg} {Se He S : Hp} {ρ : List Sl} {g : Bag} {σ : St} {H : Hp}
theorem RS.step (R : RS K b Se He S ρ g σ H) {S' H' : Hp} {g' : Bag} (st : Stp b S H S' H') (B' : Bs K b S' g' H') : RS K b Se He S' ρ g' σ H' := by
  refine ⟨B', R.st.trans st, R.len, fun i d e => ?_, fun i ds e => ?_, R.dis⟩
  · obtain ⟨v, h1, h2⟩ := R.sh i d e
    exact ⟨v, h1, h2.mono st.ex⟩
  · obtain ⟨p, xs, h1, h2, h3, h4, h5, h6, h7⟩ := R.ow i ds e
    obtain ⟨k1, k2⟩ := st.keepD h3 h2 h5
    exact ⟨p, xs, h1, k2, k1, h4, h5, h6.mono st.ex, h7⟩
end
section
variable {T : Tab} {Φ : Fns} {gl : Nat → Option PyData} {b : Bg} {X : Cx} {sc : Scope} {Se He : Hp}
theorem s_tset {t : Tg} {e : E} {st : Stmt} (h : PS X st (tAsg (tD X.K b (evE Φ gl e)) (gPut X.K b t))) : PS X st (tSt X.K b Se He (evS Φ gl (.tset t e))) := by
  refine PS.imp h fun D σ H h => ?_
  obtain ⟨S, ρ, g, R, f, ρ', g', e1, k⟩ := h
  simp only [evS] at e1
  split at e1
  · rename_i d ρ1 g1 e2
    cases e3 : flat t d with
    | none =>
      rw [e3] at e1
      cases e1
    | some ps =>
      rw [e3] at e1
      cases e1
      exact R.evX e2 fun v S' H' R' x r => ⟨S', g', d, ps, R'.bs, r, e3, fun qs hq => k _ S' H' (R'.puts hq) x⟩
  · cases e1
theorem s_par {i j : Nat} {a a' : E} {st : Stmt} {xs : List Expr} {x y : Expr} (hij : i ≠ j) (hA : PS X st (tPar i j (tCons (tD X.K b (evE Φ gl a)) (tCons (tD X.K b (evE Φ gl a')) tNil)))) : PS X st (tSt X.K b Se He (evS Φ gl (.par i j a a'))) := by
  refine PS.imp hA fun D σ H h => ?_
  obtain ⟨S, ρ, g, R, f, ρ', g', e1, k⟩ := h
  simp only [evS] at e1
  split at e1
  · rename_i d ρ1 g1 e2
    split at e1
    · rename_i d2 ρ2 g2 e3
      split at e1
      · cases e1
        refine R.evX e2 fun v S1 H1 R1 x1 r1 => ?_
        refine R1.evX e3 fun w S2 H2 R2 x2 r2 => ?_
        exact ⟨v, w, rfl, k _ S2 H2 ((R2.put (r1.mono x2)).put r2) (x1.trans x2)⟩
      · cases e1
    · cases e1
  · cases e1
theorem s_par3 {i j l : Nat} {a a' a'' : E} {st : Stmt} (hA : PS X st (tPar3 i j l (tCons (tD X.K b (evE Φ gl a)) (tCons (tD X.K b (evE Φ gl a')) (tCons (tD X.K b (evE Φ gl a'')) tNil))))) : PS X st (tSt X.K b Se He (evS Φ gl (.par3 i j l a a' a''))) := by
  refine PS.imp hA fun D σ H h => ?_
  obtain ⟨S, ρ, g, R, f, ρ', g', e1, k⟩ := h
  simp only [evS] at e1
  split at e1
  · rename_i d ρ1 g1 e2
    split at e1
    · rename_i d2 ρ2 g2 e3
      split at e1
      · rename_i d3 ρ3 g3 e4
        split at e1
        · cases e1
          refine R.evX e2 fun v S1 H1 R1 x1 r1 => ?_
          refine R1.evX e3 fun w S2 H2 R2 x2 r2 => ?_
          refine R2.evX e4 fun u S3 H3 R3 x3 r3 => ?_
          exact ⟨v, w, u, rfl, k _ S3 H3 (((R3.put ((r1.mono x2).mono x3)).put (r2.mono x3)).put r3) ((x1.trans x2).trans x3)⟩
        · cases e1
      · cases e1
    · cases e1
  · cases e1
theorem s_rai {st : Stmt} : PS X st (tSt X.K b Se He (evS Φ gl .rai)) := ⟨fun pins s σ H D I q => by
  obtain ⟨S, ρ, g, R, f, ρ', g', e1, k⟩ := q
  simp only [evS] at e1
  cases e1⟩
theorem s_aug {i : Nat} {e : E} {st : Stmt} (h : PS X st (tAug i (tD X.K b (evE Φ gl e)) (ipI fun i j => i + j))) : PS X st (tSt X.K b Se He (evS Φ gl (.aug i e))) := by
  refine PS.imp h fun D σ H h => ?_
  obtain ⟨S, ρ, g, R, f, ρ', g', e1, k⟩ := h
  simp only [evS] at e1
  split at e1
  · rename_i m hm
    split at e1
    · rename_i j ρ1 g1 e2
      cases e1
      obtain ⟨v, hv, rv⟩ := R.sh i _ hm
      cases rv.int_inv
      refine ⟨.int m, hv, R.evX e2 fun w S1 H1 R1 x1 r1 => ?_⟩
      cases r1.int_inv
      exact ⟨m, j, rfl, rfl, k _ S1 H1 (R1.put (.int _)) x1⟩
    · cases e1
  · cases e1
theorem s_for {t : Tg} {it : It} {bd : Ss} {tg iter : Expr} {body : List Stmt} {p : Pos} (hp : PassesOwn (model X.prog X.w) X.A X.env X.xe) (hc : X.calm = true) (hi : PI X tg iter (tDI X.K b (evI Φ gl it))) (hg : PG X tg (gPut X.K b t)) (hb : PSs X body (tSt X.K b Se He (evSs Φ gl bd)))
    (hs : ∀ x, foldedSetIterable iter X.env x = pure x) : PS X (.For tg iter body [] p) (tSt X.K b Se He (evS Φ gl (.for_ t it bd))) := by
  refine PS.imp (ps_for hp hc hi hg hb hs) fun D σ H h => ?_
  obtain ⟨S, ρ, g, R, f, ρ', g', e1, k⟩ := h
  simp only [evS] at e1
  split at e1
  · rename_i ds g1 e2
    obtain ⟨SF, BF, ZF, fin⟩ := R.see it.vars
    refine ⟨SF, _, g, BF, ZF, ds, g1, e2, fun J S1 H1 st1 B1 W1 => ?_⟩
    obtain ⟨R1, x1, _⟩ := fin S1 H1 g1 st1 B1
    refine ⟨fun i m σi Hi => ∃ (Si : Hp) (ρi : List Sl) (gi : Bag), m = ds.length - i ∧ i ≤ ds.length ∧ RS X.K b Se He Si ρi gi σi Hi ∧ Exd S1 Si ∧ turns t (evSs Φ gl bd) (ds.drop i) ρi gi = some (f, ρ', g'),
      ⟨ds.length, S1, _, g1, by simp, Nat.zero_le _, R1, Exd.refl _, e1⟩, fun i m σi Hi hW => ?_⟩
    obtain ⟨Si, ρi, gi, rfl, hil, Ri, exi, evi⟩ := hW
    by_cases hlt : i < ds.length
    · refine .inr ⟨W1.go i Hi (exi.trans Ri.bs.sub) hlt, fun σ2 H2 => ∃ (S2 : Hp) (ρ2 : List Sl) (g2 : Bag), RS X.K b Se He S2 ρ2 g2 σ2 H2 ∧ Exd S1 S2 ∧ turns t (evSs Φ gl bd) (ds.drop (i + 1)) ρ2 g2 = some (f, ρ', g'), ?_, ?_⟩
      · rintro σ2 H2 ⟨S2, ρ2, g2, h1, h2, h3⟩
        exact ⟨ds.length - (i + 1), by omega, S2, ρ2, g2, rfl, hlt, h1, h2, h3⟩
      · intro x H' hy
        obtain ⟨d, S2, hd, st2, B2, r2⟩ := W1.yld i Hi x H' Si gi exi Ri.bs hlt hy
        have edrop : ds.drop i = d :: ds.drop (i + 1) := by
          rw [List.drop_eq_getElem_cons hlt]
          rw [List.getElem?_eq_getElem hlt] at hd
          cases hd
          rfl
        rw [edrop] at evi
        simp only [turns] at evi
        cases efl : flat t d with
        | none =>
          rw [efl] at evi
          cases evi
        | some ps =>
          rw [efl] at evi
          simp only at evi
          refine ⟨S2, gi, d, ps, B2, r2, efl, fun qs hqs => ?_⟩
          have R2 := (Ri.step st2 B2).puts hqs
          cases eb : evSs Φ gl bd (putS ρi ps) gi with
          | none =>
            rw [eb] at evi
            cases evi
          | some r =>
            obtain ⟨f1, ρ3, g3⟩ := r
            rw [eb] at evi
            refine ⟨S2, _, gi, R2, f1, ρ3, g3, eb, ?_⟩
            have x12 : Exd S1 S2 := exi.trans st2.ex
            cases f1 with
            | nx => exact fun σ3 S3 H3 R3 x3 => ⟨S3, ρ3, g3, R3, x12.trans x3, evi⟩
            | ct => exact fun σ3 S3 H3 R3 x3 => ⟨S3, ρ3, g3, R3, x12.trans x3, evi⟩
            | br =>
              cases evi
              exact fun σ3 S3 H3 R3 x3 => k σ3 S3 H3 R3 ((x1.trans x12).trans x3)
            | rt z =>
              cases evi
              exact k
    · have hi : i = ds.length := by omega
      subst hi
      rw [List.drop_length] at evi
      simp only [turns] at evi
      cases evi
      exact .inl ⟨W1.stop Hi (exi.trans Ri.bs.sub), k σi Si Hi Ri (x1.trans exi)⟩
  · cases e1
theorem s_whl {n : Nat} {c : E} {bd : Ss} {x : Expr} {body : List Stmt} {p : Pos} (hp : PassesOwn (model X.prog X.w) X.A X.env X.xe) (hc : PT X x (tDT X.K b (evB Φ gl c))) (hb : PSs X body (tSt X.K b Se He (evSs Φ gl bd))) : PS X (.While x body [] p) (tSt X.K b Se He (evS Φ gl (.whl n c bd))) := by
  refine PS.imp (ps_while hp hc hb) fun D σ H h => ?_
  obtain ⟨S, ρ, g, R, f, ρ', g', e1, k⟩ := h
  simp only [evS] at e1
  refine ⟨fun m σi Hi => ∃ (Si : Hp) (ρi : List Sl) (gi : Bag), RS X.K b Se He Si ρi gi σi Hi ∧ Exd S Si ∧ whilst (Rf.evT Φ gl c) (evSs Φ gl bd) m ρi gi = some (f, ρ', g'), ⟨n, S, ρ, g, R, Exd.refl _, e1⟩, fun m σi Hi hW => ?_⟩
  obtain ⟨Si, ρi, gi, Ri, exi, evi⟩ := hW
  cases m with
  | zero => cases evi
  | succ m =>
    simp only [whilst] at evi
    cases et : Rf.evT Φ gl c ρi gi with
    | none =>
      rw [et] at evi
      cases evi
    | some r =>
      obtain ⟨cb, g1⟩ := r
      rw [et] at evi
      refine Ri.evT et fun S1 H1 R1 x1 => ?_
      cases cb with
      | false =>
        cases evi
        exact iteF (k σi S1 H1 R1 (exi.trans x1))
      | true =>
        simp only at evi
        refine iteT ⟨fun σ2 H2 => ∃ (S2 : Hp) (ρ2 : List Sl) (g2 : Bag), RS X.K b Se He S2 ρ2 g2 σ2 H2 ∧ Exd S S2 ∧ whilst (Rf.evT Φ gl c) (evSs Φ gl bd) m ρ2 g2 = some (f, ρ', g'), fun σ2 H2 ⟨S2, ρ2, g2, h1, h2, h3⟩ => ⟨m, Nat.lt_succ_self m, S2, ρ2, g2, h1, h2, h3⟩, ?_⟩
        cases eb : evSs Φ gl bd ρi g1 with
        | none =>
          rw [eb] at evi
          cases evi
        | some r =>
          obtain ⟨f1, ρ3, g3⟩ := r
          rw [eb] at evi
          refine ⟨S1, ρi, g1, R1, f1, ρ3, g3, eb, ?_⟩
          have x12 : Exd S S1 := exi.trans x1
          cases f1 with
          | nx => exact fun σ3 S3 H3 R3 x3 => ⟨S3, ρ3, g3, R3, x12.trans x3, evi⟩
          | ct => exact fun σ3 S3 H3 R3 x3 => ⟨S3, ρ3, g3, R3, x12.trans x3, evi⟩
          | br =>
            cases evi
            exact fun σ3 S3 H3 R3 x3 => k σ3 S3 H3 R3 (x12.trans x3)
          | rt z =>
            cases evi
            exact k
/-- x.append(e) -/
theorem s_app {i : Nat} {e : E} {x : Str} {y : Expr} {p1 p2 p3 p : Pos} (ok : Ok T Φ gl b X sc) (hx : T.N[i]? = some x) (hv : isVis sc x = true) (hp : plainN x = true) (hn : notStar y = true) (hl : (p2.endLine == p3.line) = true) (he : PE X y (tD X.K b (evE Φ gl e))) :
    PS X (.Expr (.Call (.Attribute (.Name x p1) "append" p2) [y] [] p3) p) (tSt X.K b Se He (evS Φ gl (.app i e))) := by
  have hr : PE X (.Name x p1) (tVar i) := pe_var (by rw [ok.N]; exact hx) (ok.vis _ hv) (plainN_ok hp).1 (plainN_ok hp).2.1
  refine PS.imp (ps_expr (pe_bm PySem.F.plainAttrs_list PySem.F.slot_list_append PySem.F.type_list_append mt_append hr (pa_cons he pa_nil (starEach_of hn)) rfl (by rw [starEach_of hn]; rfl) hl (starEach_of hn) rfl) rfl) fun D σ H h => ?_
  obtain ⟨S, ρ, g, R, f, ρ', g', e1, k⟩ := h
  simp only [evS] at e1
  split at e1
  · rename_i d ρ1 g1 e2
    split at e1
    · rename_i ds e3
      split at e1
      · rename_i hlim
        cases e1
        have ho : ∃ ds', ρ[i]? = some (.ow ds') := by
          unfold Rf.evX at e2
          split at e2
          · cases e2
            unfold settle at e3
            split at e3
            · exact ⟨_, e3⟩
            · rcases frzF_get _ ρ 0 i _ e3 with ⟨q, _⟩ | ⟨_, es, z, _⟩
              · exact ⟨_, q⟩
              · cases z
          · cases e2
        obtain ⟨ds', ho⟩ := ho
        obtain ⟨q, xs, h1, h2, _⟩ := R.ow i ds' ho
        refine ⟨.ref q, h1, .inl ⟨rfl, xs, .inl (.inl h2)⟩, R.evX e2 fun v S1 H1 R1 x1 r1 => ?_⟩
        obtain ⟨q', ys, k1, k2, k3, k4, k5, k6, k7⟩ := R1.ow i ds e3
        rw [h1] at k1
        cases k1
        refine ⟨q, ys, v, rfl, rfl, k2, lt_size (by rw [k6.length]; exact hlim), ?_⟩
        exact k σ S1 _ (R1.grown e3 h1 (k6.snoc r1) (by rw [List.length_append, List.length_singleton]; omega)) x1
      · cases e1
    · cases e1
  · cases e1
/-- x.insert(0, e) -/
theorem s_ins0 {i : Nat} {e : E} {x : Str} {y : Expr} {j : Nat} {p1 p2 p3 p4 p : Pos} (ok : Ok T Φ gl b X sc) (hx : T.N[i]? = some x) (hv : isVis sc x = true) (hp : plainN x = true) (hn : notStar y = true) (hl : (p2.endLine == p3.line) = true) (he : PE X y (tD X.K b (evE Φ gl e))) :
    PS X (.Expr (.Call (.Attribute (.Name x p1) "insert" p2) [.Constant (.int 0) j p4, y] [] p3) p) (tSt X.K b Se He (evS Φ gl (.ins0 i e))) := by
  have hr : PE X (.Name x p1) (tVar i) := pe_var (by rw [ok.N]; exact hx) (ok.vis _ hv) (plainN_ok hp).1 (plainN_ok hp).2.1
  refine PS.imp (ps_expr (pe_bm PySem.F.plainAttrs_list PySem.F.slot_list_insert PySem.F.type_list_insert mt_insert hr (pa_cons pe_int (pa_cons he pa_nil (starEach_of hn))) rfl (by rw [starEach_of (e := .Constant (.int 0) j p4) rfl, starEach_of hn]; rfl) hl rfl (by rw [starEach_of hn]; rfl)) rfl) fun D σ H h => ?_
  obtain ⟨S, ρ, g, R, f, ρ', g', e1, k⟩ := h
  simp only [evS] at e1
  split at e1
  · rename_i d ρ1 g1 e2
    split at e1
    · rename_i ds e3
      split at e1
      · rename_i hlim
        cases e1
        have ho : ∃ ds', ρ[i]? = some (.ow ds') := by
          unfold Rf.evX at e2
          split at e2
          · cases e2
            unfold settle at e3
            split at e3
            · exact ⟨_, e3⟩
            · rcases frzF_get _ ρ 0 i _ e3 with ⟨q, _⟩ | ⟨_, es, z, _⟩
              · exact ⟨_, q⟩
              · cases z
          · cases e2
        obtain ⟨ds', ho⟩ := ho
        obtain ⟨q, xs, h1, h2, _⟩ := R.ow i ds' ho
        refine ⟨.ref q, h1, .inl ⟨rfl, xs, .inl (.inl h2)⟩, R.evX e2 fun v S1 H1 R1 x1 r1 => ?_⟩
        obtain ⟨q', ys, k1, k2, k3, k4, k5, k6, k7⟩ := R1.ow i ds e3
        rw [h1] at k1
        cases k1
        refine ⟨q, ys, 0, v, rfl, rfl, k2, lt_size (by rw [k6.length]; exact hlim), by decide, by decide, ?_⟩
        have e5 : ys.take (0 : Int).toNat ++ [v] ++ ys.drop (0 : Int).toNat = v :: ys := by simp
        rw [e5]
        exact k σ S1 _ (R1.grown e3 h1 (.cons r1 k6) (by rw [List.length_cons]; omega)) x1
      · cases e1
    · cases e1
  · cases e1
end
end Rf

set_option maxHeartbeats 1000000
/-! Statements by data: the check and soundness. -/
namespace Rf
open PySem PySem.W L2
def notTup : Expr → Bool
  | .Tuple _ _ _ => false
  | _ => true
theorem swapped_of {t v : Expr} {env : PySem.Env} (h : notTup v = true) : swappedStores [t] v env = pure none := by
  cases v <;> first | (cases t <;> rfl) | cases h
theorem block_fn {env : PySem.Env} (hk : env.scope.kind = .function) : env.blockKind = .function := by
  unfold PySem.Env.blockKind
  rw [hk]
  rfl
def swapOk (a b : Expr) : Bool := notStar a && notStar b && !(([a, b].all (foldedForSure 8))) && !([a, b].all (constantsAlone 8))
theorem any_two {p : Expr → Bool} {a b : Expr} (h1 : p a = false) (h2 : p b = false) : [a, b].any p = false := by simp [h1, h2]
def swapOk3 (a b c : Expr) : Bool := notStar a && notStar b && notStar c && !(([a, b, c].all (foldedForSure 8))) && !([a, b, c].all (constantsAlone 8))
theorem any_three {p : Expr → Bool} {a b c : Expr} (h1 : p a = false) (h2 : p b = false) (h3 : p c = false) : [a, b, c].any p = false := by simp [h1, h2, h3]
theorem beq_flip {x y : Str} (hne : (x == y) = false) : (y == x) = false := by
  cases e : y == x with
  | false => rfl
  | true =>
    rw [eq_of_beq e] at hne
    simp at hne
theorem swapped_three {x y z : Str} {px py pz pt pt2 : Pos} {kt k2} {a b c : Expr} {env : PySem.Env} (hk : env.scope.kind = .function) (hx : env.scope.names.lookup x = some .local) (hy : env.scope.names.lookup y = some .local) (hz : env.scope.names.lookup z = some .local) (hl : (py.line == px.line) = true) (hl2 : (pz.line == px.line) = true) (hxy : (x == y) = false) (hxz : (x == z) = false) (hyz : (y == z) = false) (h : swapOk3 a b c = true) :
    swappedStores [.Tuple [.Name x px, .Name y py, .Name z pz] kt pt] (.Tuple [a, b, c] k2 pt2) env = pure (some [x, y, z]) := by
  unfold swapOk3 at h
  simp only [Bool.and_eq_true, Bool.not_eq_true'] at h
  obtain ⟨⟨⟨⟨h1, h2⟩, h2'⟩, h3⟩, h4⟩ := h
  have hb := block_fn hk
  have kx : env.kindOf x = some .local := hx
  have ky : env.kindOf y = some .local := hy
  have kz : env.kindOf z = some .local := hz
  have hyx := beq_flip hxy
  have hzx := beq_flip hxz
  have hzy := beq_flip hyz
  unfold swappedStores
  simp only [hb, h3, h4, kx, ky, kz, List.length_cons, List.length_nil, List.filterMap_cons, List.filterMap_nil, List.head?_cons, Option.map_some, Option.getD_some, Expr.pos, hl, hl2, beq_self_eq_true, Bool.and_self, Bool.and_true, if_true, List.eraseDups_cons, List.eraseDups_nil, List.filter_cons, List.filter_nil, hyx, hzx, hzy, Bool.not_false, Bool.false_eq_true, if_false]
  rw [if_neg (by decide)]
  rw [if_neg]
  · rfl
  · rw [any_three]
    · decide
    · cases a <;> first | rfl | cases h1
    · cases b <;> first | rfl | cases h2
    · cases c <;> first | rfl | cases h2'
theorem swapped_two {x y : Str} {px py pt pt2 : Pos} {kt k2} {a b : Expr} {env : PySem.Env} (hk : env.scope.kind = .function) (hx : env.scope.names.lookup x = some .local) (hy : env.scope.names.lookup y = some .local) (hl : (py.line == px.line) = true) (hne : (x == y) = false) (h : swapOk a b = true) :
    swappedStores [.Tuple [.Name x px, .Name y py] kt pt] (.Tuple [a, b] k2 pt2) env = pure (some [x, y]) := by
  unfold swapOk at h
  simp only [Bool.and_eq_true, Bool.not_eq_true'] at h
  obtain ⟨⟨⟨h1, h2⟩, h3⟩, h4⟩ := h
  have hb := block_fn hk
  have kx : env.kindOf x = some .local := hx
  have ky : env.kindOf y = some .local := hy
  have hyx : (y == x) = false := by
    cases e : y == x with
    | false => rfl
    | true =>
      rw [eq_of_beq e] at hne
      simp at hne
  unfold swappedStores
  simp only [hb, h3, h4, kx, ky, List.length_cons, List.length_nil, List.filterMap_cons, List.filterMap_nil, List.head?_cons, Option.map_some, Option.getD_some, Expr.pos, hl, beq_self_eq_true, Bool.and_self, Bool.and_true, if_true, List.eraseDups_cons, List.eraseDups_nil, List.filter_cons, List.filter_nil, hyx, Bool.not_false, Bool.false_eq_true, if_false]
  rw [if_neg (by decide)]
  rw [if_neg]
  · rfl
  · rw [any_two]
    · decide
    · cases a <;> first | rfl | cases h1
    · cases b <;> first | rfl | cases h2
/-! ### the check -/
/-- x = [..]: stored by the comprehension itself, or not -/
def swapLc (sc : Scope) (x : Str) (py : Pos) : Expr → Bool
  | .ListComp _ _ scope pos => isLocal sc x && (py.line == pos.line) && !(scope.names.any fun (n, k) => n == x && (k == .local || k == .cell))
  | _ => false
def cellN (sc : Scope) (x : Str) : Bool := match sc.names.lookup x with
  | some .cell => true
  | _ => false
def isLCx : Expr → Bool
  | .ListComp _ _ _ _ => true
  | _ => false
def isLCE : E → Bool
  | .lc _ _ _ _ _ => true
  | _ => false
def parC (T : Tab) (sc : Scope) (i j : Nat) (ca cb : Expr → Bool) : List Expr → List Expr → Bool
  | [.Name x px, .Name y py], [u, v] => decide (T.N[i]? = some x) && decide (T.N[j]? = some y) && !(i == j) && isLocal sc x && isLocal sc y && (py.line == px.line) && !(x == y) && swapOk u v && ca u && cb v
  | _, _ => false
def par3C (T : Tab) (sc : Scope) (i j l : Nat) (ca cb cc : Expr → Bool) : Stmt → Bool
  | .Assign [.Tuple [.Name x px, .Name y py, .Name z pz] _ _] (.Tuple [u, v, w] _ _) _ => decide (T.N[i]? = some x) && decide (T.N[j]? = some y) && decide (T.N[l]? = some z) && !(i == j) && !(i == l) && !(j == l) && isLocal sc x && isLocal sc y && isLocal sc z && (py.line == px.line) && (pz.line == px.line) && !(x == y) && !(x == z) && !(y == z) && swapOk3 u v w && ca u && cb v && cc w
  | _ => false
theorem par3C_inv {T : Tab} {sc : Scope} {i j l : Nat} {ca cb cc : Expr → Bool} {st : Stmt} (h : par3C T sc i j l ca cb cc st = true) : ∃ x px y py z pz u v w k1 p1 k2 p2 p, st = .Assign [.Tuple [.Name x px, .Name y py, .Name z pz] k1 p1] (.Tuple [u, v, w] k2 p2) p ∧
    (decide (T.N[i]? = some x) && decide (T.N[j]? = some y) && decide (T.N[l]? = some z) && !(i == j) && !(i == l) && !(j == l) && isLocal sc x && isLocal sc y && isLocal sc z && (py.line == px.line) && (pz.line == px.line) && !(x == y) && !(x == z) && !(y == z) && swapOk3 u v w && ca u && cb v && cc w) = true := by
  unfold par3C at h
  split at h
  · exact ⟨_, _, _, _, _, _, _, _, _, _, _, _, _, _, rfl, h⟩
  · cases h
def augC (T : Tab) (sc : Scope) (i : Nat) (ce : Expr → Bool) : Stmt → Bool
  | .AugAssign (.Name x _) .Add e _ => decide (T.N[i]? = some x) && isLoc sc x && plainN x && ce e
  | _ => false
theorem augC_inv {T : Tab} {sc : Scope} {i : Nat} {ce : Expr → Bool} {st : Stmt} (h : augC T sc i ce st = true) : ∃ x px e p, st = .AugAssign (.Name x px) .Add e p ∧ (decide (T.N[i]? = some x) && isLoc sc x && plainN x && ce e) = true := by
  unfold augC at h
  split at h
  · exact ⟨_, _, _, _, rfl, h⟩
  · cases h
theorem parC_inv {T : Tab} {sc : Scope} {i j : Nat} {ca cb : Expr → Bool} {es vs : List Expr} (h : parC T sc i j ca cb es vs = true) : ∃ x px y py u v, es = [.Name x px, .Name y py] ∧ vs = [u, v] ∧
    (decide (T.N[i]? = some x) && decide (T.N[j]? = some y) && !(i == j) && isLocal sc x && isLocal sc y && (py.line == px.line) && !(x == y) && swapOk u v && ca u && cb v) = true := by
  unfold parC at h
  split at h
  · exact ⟨_, _, _, _, _, _, rfl, rfl, h⟩
  · cases h
section
variable (T : Tab)
mutual
def chkS (sc : Scope) : S → Stmt → Bool
  | .set i e, .Assign [.Name x py] v _ => decide (T.N[i]? = some x) && isLoc sc x && chkE T sc e v && (notComp v || (isLCE e && swapLc sc x py v) || (isLCx v && cellN sc x))
  | .own i es, .Assign [.Name x _] (.List l _) _ => decide (T.N[i]? = some x) && isLoc sc x && chkA T sc es l
  | .tset t e, .Assign [.Tuple ts k p'] v _ => notComp v && notTup v && chkTg T.N sc t (.Tuple ts k p') && chkE T sc e v
  | .par i j a b, .Assign [.Tuple ts _ _] (.Tuple vs _ _) _ => parC T sc i j (chkE T sc a) (chkE T sc b) ts vs
  | .par3 i j l a b c, st => par3C T sc i j l (chkE T sc a) (chkE T sc b) (chkE T sc c) st
  | .aug i e, st => augC T sc i (chkE T sc e) st
  | .rai, _ => true
  | .ownl i e, .Assign [.Name x py] v _ => decide (T.N[i]? = some x) && isLoc sc x && chkE T sc e v && ((isLCE e && swapLc sc x py v) || (isLCE e && isLCx v && cellN sc x))
  | .app i e, .Expr (.Call (.Attribute (.Name x _) m p2) [y] [] p3) _ => decide (T.N[i]? = some x) && isVis sc x && plainN x && decide (m = "append") && notStar y && (p2.endLine == p3.line) && chkE T sc e y
  | .ins0 i e, .Expr (.Call (.Attribute (.Name x _) m p2) [.Constant (.int k) _ _, y] [] p3) _ => decide (T.N[i]? = some x) && isVis sc x && plainN x && decide (m = "insert") && decide (k = 0) && notStar y && (p2.endLine == p3.line) && chkE T sc e y
  | .ret e, .Return (some x) _ => chkE T sc e x
  | .ifs c a b, .If x s1 s2 _ => chkT T sc c x && chkSs sc a s1 && chkSs sc b s2
  | .for_ t it bd, .For tg iter body [] _ => chkTg T.N sc t tg && notSet iter && chkI T sc tg it iter && chkSs sc bd body
  | .whl _ c bd, .While x body [] _ => chkT T sc c x && chkSs sc bd body
  | .brk, .Break _ => true
  | .cnt, .Continue _ => true
  | .pas, .Pass _ => true
  | _, _ => false
def chkSs (sc : Scope) : Ss → List Stmt → Bool
  | .nil, [] => true
  | .cons s ss, st :: sts => chkS sc s st && chkSs sc ss sts
  | _, _ => false
end
end
/-- a def's body context -/
structure OkS (T : Tab) (Φ : Fns) (gl : Nat → Option PyData) (b : Bg) (X : Cx) (sc : Scope) : Prop where
  ok : Ok T Φ gl b X sc
  hsc : X.env.scope = sc
  kd : sc.kind = .function
  pass : PassesOwn (model X.prog X.w) X.A X.env X.xe
section
variable {T : Tab} {Φ : Fns} {gl : Nat → Option PyData} {b : Bg} {X : Cx} {sc : Scope} {Se He : Hp}
theorem swaps_cell {elt : Expr} {gs : List Comprehension} {scope : Scope} {pos py : Pos} {y : Str} {l : Nat} {env : PySem.Env} (hy : env.scope.names.lookup y = some .cell) : swapsWith (.ListComp elt gs scope pos) (some (.Name y py)) l env = pure false := by
  have ky : env.kindOf y = some .cell := hy
  unfold swapsWith
  simp only [ky]
  have z : ((some NameKind.cell : Option NameKind) == some NameKind.local) = false := by decide
  rw [z]
  simp
theorem cellN_ok {x : Str} (h : cellN sc x = true) : sc.names.lookup x = some .cell := by
  unfold cellN at h
  split at h
  · rename_i e
    exact e
  · cases h
theorem snd_set {i : Nat} {e : E} {x : Str} {py p : Pos} {v : Expr} (ok : OkS T Φ gl b X sc) (h : chkS T sc (.set i e) (.Assign [.Name x py] v p) = true) : PS X (.Assign [.Name x py] v p) (tSt X.K b Se He (evS Φ gl (.set i e))) := by
  have h : (decide (T.N[i]? = some x) && isLoc sc x && chkE T sc e v && (notComp v || (isLCE e && swapLc sc x py v) || (isLCx v && cellN sc x))) = true := h
  simp only [Bool.and_eq_true, Bool.or_eq_true] at h
  have hx : T.N[i]? = some x := of_decide_eq_true h.1.1.1
  have he := sndE e X sc v ok.ok h.1.2
  have plain : swapsWith v (some (.Name x py)) p.line X.env = pure false → PS X (.Assign [.Name x py] v p) (tSt X.K b Se He (evS Φ gl (.set i e))) := fun hs =>
    s_set (ps_set (i := i) (by rw [ok.ok.N]; exact ok.ok.nd) (by rw [ok.ok.N]; exact hx) (ok.ok.loc _ h.1.1.2) he hs (ok.ok.hf h.1.1.2))
  rcases h.2 with (q | ⟨q1, q2⟩) | ⟨q0, q⟩
  · exact plain (swaps_of q)
  · cases e with
    | lc t own it c el =>
      cases v with
      | ListComp elt gs scope pos =>
        have q2 : (isLocal sc x && (py.line == pos.line) && !(scope.names.any fun (n, k) => n == x && (k == .local || k == .cell))) = true := q2
        simp only [Bool.and_eq_true, Bool.not_eq_true'] at q2
        obtain ⟨⟨u1, u2⟩, u3⟩ := q2
        have hc := h.1.2
        rcases gs with _ | ⟨⟨tgt, iter, ifs, asy⟩, _ | ⟨g2, gs⟩⟩
        · exact absurd hc Bool.false_ne_true
        · have hc : (decide (asy = 0) && blkC T.N sc scope (own.map fun i => (T.N.getD i Str.empty, i)) && chkTg T.N scope t tgt && (t.slots.all fun i => own.contains i) && notSet iter && chkI T sc tgt it iter && chkC T scope c ifs && chkE T scope el elt) = true := hc
          simp only [Bool.and_eq_true] at hc
          cases of_decide_eq_true hc.1.1.1.1.1.1.1
          refine s_set (d_setLc ok.ok hx (by rw [ok.hsc]; exact isLocal_ok u1) (sw_true (by rw [ok.hsc]; exact ok.kd) (by rw [ok.hsc]; exact isLocal_ok u1) u2 u3) hc.1.1.1.1.1.1.2 (fun i hi => ?_) hc.1.1.1.2 (sndI it X sc tgt iter ok.ok hc.1.1.2) (fun X' ok' => d_tg ok' t tgt hc.1.1.1.1.1.2) (fun X' ok' => sndC c X' scope ifs ok' hc.1.2) (fun X' ok' => sndE el X' scope elt ok' hc.2))
          have z := List.all_eq_true.mp hc.1.1.1.1.2 i hi
          simpa using z
        · exact absurd hc Bool.false_ne_true
      | _ => exact absurd q2 Bool.false_ne_true
    | _ => exact absurd q1 Bool.false_ne_true
  · cases v with
    | ListComp elt gs scope pos => exact plain (swaps_cell (by rw [ok.hsc]; exact cellN_ok q))
    | _ => exact absurd q0 Bool.false_ne_true
theorem snd_ownl {i : Nat} {e : E} {x : Str} {py p : Pos} {v : Expr} (ok : OkS T Φ gl b X sc) (h : chkS T sc (.ownl i e) (.Assign [.Name x py] v p) = true) : PS X (.Assign [.Name x py] v p) (tSt X.K b Se He (evS Φ gl (.ownl i e))) := by
  have h : (decide (T.N[i]? = some x) && isLoc sc x && chkE T sc e v && ((isLCE e && swapLc sc x py v) || (isLCE e && isLCx v && cellN sc x))) = true := h
  simp only [Bool.and_eq_true, Bool.or_eq_true] at h
  have hx : T.N[i]? = some x := of_decide_eq_true h.1.1.1
  have hlc : isLCE e = true := by
    rcases h.2 with q | q
    · exact q.1
    · exact q.1.1
  cases e with
  | lc t own it c el =>
    cases v with
    | ListComp elt gs scope pos =>
      have hc := h.1.2
      rcases gs with _ | ⟨⟨tgt, iter, ifs, asy⟩, _ | ⟨g2, gs⟩⟩
      · exact absurd hc Bool.false_ne_true
      · have hc : (decide (asy = 0) && blkC T.N sc scope (own.map fun i => (T.N.getD i Str.empty, i)) && chkTg T.N scope t tgt && (t.slots.all fun i => own.contains i) && notSet iter && chkI T sc tgt it iter && chkC T scope c ifs && chkE T scope el elt) = true := hc
        simp only [Bool.and_eq_true] at hc
        cases of_decide_eq_true hc.1.1.1.1.1.1.1
        have hown : ∀ i ∈ t.slots, i ∈ own := fun i hi => by
          have z := List.all_eq_true.mp hc.1.1.1.1.2 i hi
          simpa using z
        rcases h.2 with ⟨_, q2⟩ | ⟨_, q⟩
        · have q2 : (isLocal sc x && (py.line == pos.line) && !(scope.names.any fun (n, k) => n == x && (k == .local || k == .cell))) = true := q2
          simp only [Bool.and_eq_true, Bool.not_eq_true'] at q2
          obtain ⟨⟨u1, u2⟩, u3⟩ := q2
          exact s_ownl (d_setLcL ok.ok hx (by rw [ok.hsc]; exact isLocal_ok u1) (sw_true (by rw [ok.hsc]; exact ok.kd) (by rw [ok.hsc]; exact isLocal_ok u1) u2 u3) hc.1.1.1.1.1.1.2 hown hc.1.1.1.2 (sndI it X sc tgt iter ok.ok hc.1.1.2) (fun X' ok' => d_tg ok' t tgt hc.1.1.1.1.1.2) (fun X' ok' => sndC c X' scope ifs ok' hc.1.2) (fun X' ok' => sndE el X' scope elt ok' hc.2))
        · exact s_ownl (ps_set (i := i) (by rw [ok.ok.N]; exact ok.ok.nd) (by rw [ok.ok.N]; exact hx) (ok.ok.loc _ h.1.1.2) (d_lcL ok.ok hc.1.1.1.1.1.1.2 hown hc.1.1.1.2 (sndI it X sc tgt iter ok.ok hc.1.1.2) (fun X' ok' => d_tg ok' t tgt hc.1.1.1.1.1.2) (fun X' ok' => sndC c X' scope ifs ok' hc.1.2) (fun X' ok' => sndE el X' scope elt ok' hc.2)) (swaps_cell (by rw [ok.hsc]; exact cellN_ok q)) (ok.ok.hf h.1.1.2))
      · exact absurd hc Bool.false_ne_true
    | _ => exact absurd h.1.2 Bool.false_ne_true
  | _ => exact absurd hlc Bool.false_ne_true
theorem app_inv {i : Nat} {e : E} {st : Stmt} (h : chkS T sc (.app i e) st = true) : ∃ x p1 m p2 y p3 p, st = .Expr (.Call (.Attribute (.Name x p1) m p2) [y] [] p3) p ∧ (decide (T.N[i]? = some x) && isVis sc x && plainN x && decide (m = "append") && notStar y && (p2.endLine == p3.line) && chkE T sc e y) = true := by
  cases st with
  | Expr v p =>
    cases v with
    | Call fn args kws p3 =>
      cases fn with
      | Attribute o m p2 =>
        cases o with
        | Name x p1 =>
          rcases args with _ | ⟨y, _ | ⟨y2, args⟩⟩
          · exact absurd h Bool.false_ne_true
          · cases kws with
            | nil => exact ⟨x, p1, m, p2, y, p3, p, rfl, h⟩
            | cons _ _ => exact absurd h Bool.false_ne_true
          · exact absurd h Bool.false_ne_true
        | _ => exact absurd h Bool.false_ne_true
      | _ => exact absurd h Bool.false_ne_true
    | _ => exact absurd h Bool.false_ne_true
  | _ => exact absurd h Bool.false_ne_true
theorem ins_inv {i : Nat} {e : E} {st : Stmt} (h : chkS T sc (.ins0 i e) st = true) : ∃ x p1 m p2 k j p4 y p3 p, st = .Expr (.Call (.Attribute (.Name x p1) m p2) [.Constant (.int k) j p4, y] [] p3) p ∧ (decide (T.N[i]? = some x) && isVis sc x && plainN x && decide (m = "insert") && decide (k = 0) && notStar y && (p2.endLine == p3.line) && chkE T sc e y) = true := by
  cases st with
  | Expr v p =>
    cases v with
    | Call fn args kws p3 =>
      cases fn with
      | Attribute o m p2 =>
        cases o with
        | Name x p1 =>
          rcases args with _ | ⟨y, args⟩
          · exact absurd h Bool.false_ne_true
          · cases y with
            | Constant c j p4 =>
              cases c with
              | int k =>
                rcases args with _ | ⟨y, _ | ⟨y2, args⟩⟩
                · exact absurd h Bool.false_ne_true
                · cases kws with
                  | nil => exact ⟨x, p1, m, p2, k, j, p4, y, p3, p, rfl, h⟩
                  | cons _ _ => exact absurd h Bool.false_ne_true
                · exact absurd h Bool.false_ne_true
              | _ => exact absurd h Bool.false_ne_true
            | _ => exact absurd h Bool.false_ne_true
        | _ => exact absurd h Bool.false_ne_true
      | _ => exact absurd h Bool.false_ne_true
    | _ => exact absurd h Bool.false_ne_true
  | _ => exact absurd h Bool.false_ne_true
mutual
theorem sndS : ∀ (s : S) (st : Stmt), OkS T Φ gl b X sc → chkS T sc s st = true → PS X st (tSt X.K b Se He (evS Φ gl s))
  | .set i e, st, ok, h => by
    cases st with
    | Assign ts v p =>
      rcases ts with _ | ⟨t, _ | ⟨t2, ts⟩⟩
      · exact absurd h Bool.false_ne_true
      · cases t with
        | Name x py => exact snd_set ok h
        | _ => exact absurd h Bool.false_ne_true
      · exact absurd h (by cases t <;> exact Bool.false_ne_true)
    | _ => exact absurd h Bool.false_ne_true
  | .own i es, st, ok, h => by
    cases st with
    | Assign ts v p =>
      rcases ts with _ | ⟨t, _ | ⟨t2, ts⟩⟩
      · exact absurd h Bool.false_ne_true
      · cases t with
        | Name x py =>
          cases v with
          | List l p2 =>
            have h : (decide (T.N[i]? = some x) && isLoc sc x && chkA T sc es l) = true := h
            simp only [Bool.and_eq_true] at h
            exact s_setL ok.ok (of_decide_eq_true h.1.1) h.1.2 (sndA es X sc l ok.ok h.2)
          | _ => exact absurd h Bool.false_ne_true
        | _ => exact absurd h Bool.false_ne_true
      · exact absurd h (by cases t <;> exact Bool.false_ne_true)
    | _ => exact absurd h Bool.false_ne_true
  | .tset t e, st, ok, h => by
    cases st with
    | Assign ts v p =>
      rcases ts with _ | ⟨tg, _ | ⟨t2, ts⟩⟩
      · exact absurd h Bool.false_ne_true
      · cases tg with
        | Tuple es k p' =>
          have h : (notComp v && notTup v && chkTg T.N sc t (.Tuple es k p') && chkE T sc e v) = true := h
          simp only [Bool.and_eq_true] at h
          exact s_tset (ps_asg (sndE e X sc v ok.ok h.2) (d_tg ok.ok t _ h.1.2) (show swapsWith v (some (.Tuple es k p')) p.line X.env = pure false from swaps_of h.1.1.1) (swapped_of h.1.1.2) rfl)
        | _ => exact absurd h Bool.false_ne_true
      · exact absurd h (by cases tg <;> exact Bool.false_ne_true)
    | _ => exact absurd h Bool.false_ne_true
  | .par i j a a', st, ok, h => by
    cases st with
    | Assign ts v p =>
      rcases ts with _ | ⟨tg, _ | ⟨t2, ts⟩⟩
      · exact absurd h Bool.false_ne_true
      · cases tg with
        | Tuple es k p' =>
          cases v with
          | Tuple vs k2 p2 =>
            have h : parC T sc i j (chkE T sc a) (chkE T sc a') es vs = true := h
            obtain ⟨x, px, y, py, u, w, e1, e2, h'⟩ := parC_inv h
            subst e1
            subst e2
            clear h
            have h := h'
            · clear h'
              simp only [Bool.and_eq_true, Bool.not_eq_true'] at h
              obtain ⟨⟨⟨⟨⟨⟨⟨⟨⟨h1, h2⟩, h3⟩, h4⟩, h5⟩, h6⟩, h7⟩, h8⟩, h9⟩, h10⟩ := h
              have hij : i ≠ j := fun z => by
                rw [z] at h3
                simp at h3
              have sw := h8
              unfold swapOk at sw
              simp only [Bool.and_eq_true] at sw
              refine s_par (xs := []) (x := u) (y := w) hij ?_
              exact ps_par ok.ok.calm (by rw [ok.ok.N]; exact ok.ok.nd) (by rw [ok.ok.N]; exact of_decide_eq_true h1) (by rw [ok.ok.N]; exact of_decide_eq_true h2) hij (by rw [ok.hsc]; exact isLocal_ok h4) (by rw [ok.hsc]; exact isLocal_ok h5)
                (pa_cons (sndE a X sc u ok.ok h9) (pa_cons (sndE a' X sc w ok.ok h10) pa_nil (starEach_of sw.1.1.2)) (starEach_of sw.1.1.1)) (swapped_two (by rw [ok.hsc]; exact ok.kd) (by rw [ok.hsc]; exact isLocal_ok h4) (by rw [ok.hsc]; exact isLocal_ok h5) h6 h7 h8) rfl
          | _ => exact absurd h Bool.false_ne_true
        | _ => exact absurd h Bool.false_ne_true
      · exact absurd h (by cases tg <;> exact Bool.false_ne_true)
    | _ => exact absurd h Bool.false_ne_true
  | .app i e, st, ok, h => by
    obtain ⟨x, p1, m, p2, y, p3, p, e0, h'⟩ := app_inv h
    subst e0
    clear h
    have h := h'
    simp only [Bool.and_eq_true] at h
    cases of_decide_eq_true h.1.1.1.2
    exact s_app ok.ok (of_decide_eq_true h.1.1.1.1.1.1) h.1.1.1.1.1.2 h.1.1.1.1.2 h.1.1.2 h.1.2 (sndE e X sc y ok.ok h.2)
  | .par3 i j l a a' a'', st, ok, h => by
    have h : par3C T sc i j l (chkE T sc a) (chkE T sc a') (chkE T sc a'') st = true := h
    obtain ⟨x, px, y, py, z, pz, u, v, w, k1, p1, k2, p2, p, rfl, h'⟩ := par3C_inv h
    clear h
    simp only [Bool.and_eq_true, Bool.not_eq_true'] at h'
    obtain ⟨⟨⟨⟨⟨⟨⟨⟨⟨⟨⟨⟨⟨⟨⟨⟨⟨h1, h2⟩, h3⟩, n1⟩, n2⟩, n3⟩, l1⟩, l2⟩, l3⟩, q1⟩, q2⟩, m1⟩, m2⟩, m3⟩, sw⟩, ca⟩, cb⟩, cc⟩ := h'
    have ne : ∀ {i j : Nat}, (i == j) = false → i ≠ j := fun {i j} q z => by
      rw [z] at q
      simp at q
    have sw' := sw
    unfold swapOk3 at sw'
    simp only [Bool.and_eq_true, Bool.not_eq_true'] at sw'
    have hx := isLocal_ok l1
    have hy := isLocal_ok l2
    have hz := isLocal_ok l3
    rw [← ok.hsc] at hx hy hz
    exact s_par3 (ps_par3 ok.ok.calm (by rw [ok.ok.N]; exact ok.ok.nd) (by rw [ok.ok.N]; exact of_decide_eq_true h1) (by rw [ok.ok.N]; exact of_decide_eq_true h2) (by rw [ok.ok.N]; exact of_decide_eq_true h3) (ne n1) (ne n2) (ne n3) hx hy hz
      (pa_cons (sndE a X sc u ok.ok ca) (pa_cons (sndE a' X sc v ok.ok cb) (pa_cons (sndE a'' X sc w ok.ok cc) pa_nil (starEach_of sw'.1.1.2)) (starEach_of sw'.1.1.1.2)) (starEach_of sw'.1.1.1.1))
      (swapped_three (by rw [ok.hsc]; exact ok.kd) hx hy hz q1 q2 m1 m2 m3 sw) rfl)
  | .aug i e, st, ok, h => by
    have h : augC T sc i (chkE T sc e) st = true := h
    obtain ⟨x, px, y, p, rfl, h'⟩ := augC_inv h
    clear h
    simp only [Bool.and_eq_true] at h'
    exact s_aug (ps_aug (by rw [ok.ok.N]; exact ok.ok.nd) (by rw [ok.ok.N]; exact of_decide_eq_true h'.1.1.1) (ok.ok.loc x h'.1.1.2) (sndE e X sc y ok.ok h'.2) ip_add (ok.ok.hf h'.1.1.2))
  | .rai, st, ok, h => s_rai
  | .ownl i e, st, ok, h => by
    cases st with
    | Assign ts v p =>
      rcases ts with _ | ⟨tg, _ | ⟨t2, ts⟩⟩
      · exact absurd h Bool.false_ne_true
      · cases tg with
        | Name x py => exact snd_ownl ok h
        | _ => exact absurd h Bool.false_ne_true
      · exact absurd h (by cases tg <;> exact Bool.false_ne_true)
    | _ => exact absurd h Bool.false_ne_true
  | .ins0 i e, st, ok, h => by
    obtain ⟨x, p1, m, p2, k, j, p4, y, p3, p, e0, h'⟩ := ins_inv h
    subst e0
    clear h
    have h := h'
    simp only [Bool.and_eq_true] at h
    cases of_decide_eq_true h.1.1.1.1.2
    cases of_decide_eq_true h.1.1.1.2
    exact s_ins0 ok.ok (of_decide_eq_true h.1.1.1.1.1.1.1) h.1.1.1.1.1.1.2 h.1.1.1.1.1.2 h.1.1.2 h.1.2 (sndE e X sc y ok.ok h.2)
  | .ret e, st, ok, h => by
    cases st with
    | Return v p =>
      cases v with
      | some x => exact s_ret (sndE e X sc x ok.ok h)
      | none => exact absurd h Bool.false_ne_true
    | _ => exact absurd h Bool.false_ne_true
  | .ifs c a a', st, ok, h => by
    cases st with
    | If x s1 s2 p =>
      have h : (chkT T sc c x && chkSs T sc a s1 && chkSs T sc a' s2) = true := h
      simp only [Bool.and_eq_true] at h
      exact s_ifs (sndT c X sc x ok.ok h.1.1) (sndSs a s1 ok h.1.2) (sndSs a' s2 ok h.2)
    | _ => exact absurd h Bool.false_ne_true
  | .for_ t it bd, st, ok, h => by
    cases st with
    | For tg iter body els p =>
      cases els with
      | nil =>
        have h : (chkTg T.N sc t tg && notSet iter && chkI T sc tg it iter && chkSs T sc bd body) = true := h
        simp only [Bool.and_eq_true] at h
        exact s_for ok.pass ok.ok.calm (sndI it X sc tg iter ok.ok h.1.2) (d_tg ok.ok t tg h.1.1.1) (sndSs bd body ok h.2) (folded_of h.1.1.2)
      | cons _ _ => exact absurd h Bool.false_ne_true
    | _ => exact absurd h Bool.false_ne_true
  | .whl n c bd, st, ok, h => by
    cases st with
    | While x body els p =>
      cases els with
      | nil =>
        have h : (chkT T sc c x && chkSs T sc bd body) = true := h
        simp only [Bool.and_eq_true] at h
        exact s_whl ok.pass (sndT c X sc x ok.ok h.1) (sndSs bd body ok h.2)
      | cons _ _ => exact absurd h Bool.false_ne_true
    | _ => exact absurd h Bool.false_ne_true
  | .brk, st, ok, h => by
    cases st with
    | Break p => exact s_brk
    | _ => exact absurd h Bool.false_ne_true
  | .cnt, st, ok, h => by
    cases st with
    | Continue p => exact s_cnt
    | _ => exact absurd h Bool.false_ne_true
  | .pas, st, ok, h => by
    cases st with
    | Pass p => exact s_pas
    | _ => exact absurd h Bool.false_ne_true
theorem sndSs : ∀ (ss : Ss) (sts : List Stmt), OkS T Φ gl b X sc → chkSs T sc ss sts = true → PSs X sts (tSt X.K b Se He (evSs Φ gl ss))
  | .nil, [], ok, h => s_nil
  | .nil, _ :: _, ok, h => absurd h Bool.false_ne_true
  | .cons _ _, [], ok, h => absurd h Bool.false_ne_true
  | .cons s ss, st :: sts, ok, h => by
    have h : (chkS T sc s st && chkSs T sc ss sts) = true := h
    simp only [Bool.and_eq_true] at h
    exact s_cons (sndS s st ok h.1) (sndSs ss sts ok h.2)
end
end
end Rf

set_option maxHeartbeats 1000000
/-! Whole programs: every def computes what the small language says. -/
namespace Rf
open PySem PySem.W L2

structure Fn where
  x : Str
  ps : List Str
  N : List Str
  body : Ss
/-- where a parameter's value comes from -/
inductive Src where
  | p (j : Nat)
  | k (j : Nat)
  | c (d : PyData)
structure Pr where
  fns : List Fn
  glos : List (Str × PyData)
  shs : List (Shp × Nat × List Src)
def arr (srcs : List Src) (ds es : List PyData) : List PyData := srcs.map fun s => match s with
  | .p j => ds.getD j .none
  | .k j => es.getD j .none
  | .c d => d

/-! ### the draw -/
def M31 : Int := 2147483647
theorem m31 (x : Int) : 0 ≤ x % 2147483647 ∧ x % 2147483647 < 2147483647 := ⟨Int.emod_nonneg _ (by decide), Int.emod_lt_of_pos _ (by decide)⟩
/-- the next cell -/
def feed (cells : List Int) (g : Bag) : Bag :=
  if g.big = 0 ∧ g.at_ < cells.length then
    (if h : 10 ^ 18 ≤ cells.getD g.at_ 0 then { g with at_ := g.at_ + 1, big := cells.getD g.at_ 0, hb := Int.le_trans (by decide) h }
     else { g with at_ := g.at_ + 1, salt := (g.salt * 38119 + cells.getD g.at_ 0 % 2147483579 + 17) % 2147483647, hs := m31 _ })
  else g
def draw (g : Bag) (n : Int) : Int × Bag :=
  if 0 < g.big then (g.big % n, { g with big := max 0 (g.big / n), hb := Int.le_max_left 0 _ })
  else
    let seed := (g.salt + ((g.cnt + 1 : Nat) : Int) * 7103) % 2147483647
    let salt := (seed ^ 3 + 30091 * seed + 2027) % 2147483647
    ((salt / 73 + salt % 7919 * 47) % n, { g with salt := salt, cnt := g.cnt + 1, hs := m31 _ })
def pull (cells : List Int) (g : Bag) (n : Int) : Int × Bag := draw (feed cells g) n
theorem pull_lt (cells : List Int) (g : Bag) {n : Int} (h : 0 < n) : 0 ≤ (pull cells g n).1 ∧ (pull cells g n).1 < n := by
  unfold pull draw
  dsimp only
  split
  · exact ⟨Int.emod_nonneg _ (Int.ne_of_gt h), Int.emod_lt_of_pos _ h⟩
  · exact ⟨Int.emod_nonneg _ (Int.ne_of_gt h), Int.emod_lt_of_pos _ h⟩
def pullD (cells : List Int) : List PyData → Bag → Option (PyData × Bag)
  | [.dict [], .int n], g => if 0 < n ∧ n.natAbs.log2 < 9000 then some (.int (pull cells g n).1, (pull cells g n).2) else none
  | _, _ => none

/-! ### programs -/
/-- the slots at a def's entry -/
def entry (F : Fn) (ds : List PyData) : List Sl := ds.map .sh ++ List.replicate (F.N.length - ds.length) .un
def outD : R → Option (PyData × Bag)
  | some (.rt d, _, g) => some (d, g)
  | some (.nx, _, g) => some (.none, g)
  | _ => none
def Pr.gl (P : Pr) (k : Nat) : Option PyData := P.glos[k]?.map (·.2)
section
variable (P : Pr) (cells : List Int)
/-- a call of the shape s, by what the defs give -/
def shaped (φ : Nat → List PyData → Bag → Option (PyData × Bag)) : Fns := fun s ds es g => match P.shs[s]? with
  | some (_, f, srcs) => φ f (arr srcs ds es) g
  | none => none
def ev : Nat → Nat → List PyData → Bag → Option (PyData × Bag)
  | 0, _, _, _ => none
  | _ + 1, 0, ds, g => pullD cells ds g
  | n + 1, f + 1, ds, g => match P.fns[f + 1]? with
    | some F => if ds.length = F.ps.length then outD (evSs (shaped P (ev n)) P.gl F.body (entry F ds) g) else none
    | none => none
abbrev Φ (n : Nat) : Fns := shaped P (ev P cells n)
end
def Pr.tab (P : Pr) (F : Fn) : Tab := ⟨F.N, P.glos.map (·.1), P.shs.map (·.1)⟩

/-- what the head tells -/
structure Hd (P : Pr) (prog : Program) (w : World) (K : Frag) (mg : Str → Option Value) (ad : Nat → Addr) (fd : Nat → FuncData) : Prop where
  fns : ∀ (f : Nat) (F : Fn), P.fns[f + 1]? = some F → ∃ params body scope dvs kws, FunD K F.x F.x params body scope dvs kws (ad (f + 1)) (fd (f + 1)) ∧ FnScope F.N F.ps scope ∧ chkSs (P.tab F) scope F.body body = true
  pull : ∀ F, P.fns[0]? = some F → F.ps = (["_law_bag_here", "_law_sides"] : List Str)
  shs : ∀ (s : Nat) (sh : Shp) (f : Nat) (srcs : List Src), P.shs[s]? = some (sh, f, srcs) → ∃ F, P.fns[f]? = some F ∧ mg sh.x = some (.ref (ad f)) ∧ keepIn K (.ref (ad f)) = true ∧ srcs.length = F.ps.length ∧ ∃ g gV, KBn K (fd f) F.ps sh.n sh.ks g gV ∧
    ∀ (b : Bg) (S : Hp) vs zs ds es, RpAll K b S vs ds → RpAll K b S zs es → ds.length = sh.n → es.length = sh.ks.length → RpAll K b S (gV vs zs) (arr srcs ds es)
  glos : ∀ (k : Nat) (x : Str) (d : PyData), P.glos[k]? = some (x, d) → ∃ u v, mg x = some u ∧ RelV v u ∧ ∀ (b : Bg) (S : Hp), Rp K b S v d
  blt : ∀ x, x ∈ bltNames → mg x = none

section
variable (P : Pr) (cells : List Int) {prog : Program} {w : World} {K : Frag} {mg : Str → Option Value} {ad : Nat → Addr} {fd : Nat → FuncData} {base : Heap}
def psOf (f : Nat) : List Str := match P.fns[f]? with
  | some F => F.ps
  | none => []
def spF (K : Frag) (n f : Nat) : Sp := fun vs H Q _ => ∃ (b : Bg) (S : Hp) (ds : List PyData) (g : Bag) (d : PyData) (g' : Bag), b.cells = cells ∧ vs.length = (psOf P f).length ∧ Bs K b S g H ∧ RpAll K b S vs ds ∧ ev P cells n f ds g = some (d, g') ∧
  ∀ v S' H', Stp b S H S' H' → Bs K b S' g' H' → Rp K b S' v d → Q v H'
/-- the shapes, from the defs of a level -/
theorem fk_of (h : Hd P prog w K mg ad fd) {n : Nat} (ih : ∀ f F, P.fns[f]? = some F → FnOk prog w K mg base CX0 n (ad f) (fd f) F.ps (spF P cells K n f)) {A : Around} (hr : Room n A) (b : Bg) (hb : b.cells = cells) (F : Fn) : Fk (P.tab F) (Φ P cells n) P.gl b prog w K mg base A := by
  refine ⟨?_, ?_, ?_, h.blt⟩
  · have := hr.un
    omega
  · intro k x d hx hd
    have hx : (P.glos.map (·.1))[k]? = some x := hx
    rw [List.getElem?_map] at hx
    unfold Pr.gl at hd
    cases e : P.glos[k]? with
    | none =>
      rw [e] at hx
      cases hx
    | some q =>
      rw [e] at hx hd
      cases hx
      cases hd
      obtain ⟨u, v, h1, h2, h3⟩ := h.glos k _ _ (by rw [e])
      exact ⟨u, v, h1, h2, h3 b⟩
  · intro s sh hs
    have hs : (P.shs.map (·.1))[s]? = some sh := hs
    rw [List.getElem?_map] at hs
    cases e : P.shs[s]? with
    | none =>
      rw [e] at hs
      cases hs
    | some q =>
      obtain ⟨sh', f, srcs⟩ := q
      rw [e] at hs
      cases hs
      obtain ⟨G, hF, hm, hk, hl, g, gV, kb, rel⟩ := h.shs s _ f srcs e
      refine ⟨ad f, fd f, G.ps, g, gV, n, _, hm, hk, ih f G hF, hr, kb, fun S H gb vs zs ds es d gb' Q B rv rz l1 l2 ev k => ?_⟩
      have r := rel b S vs zs ds es rv rz l1 l2
      refine ⟨b, S, arr srcs ds es, gb, d, gb', hb, ?_, B, r, ?_, k⟩
      · rw [r.length]
        unfold arr psOf
        rw [hF, List.length_map]
        exact hl
      · unfold Φ shaped at ev
        rw [e] at ev
        exact ev
theorem start_get {N : List Str} {vs : List V} {i : Nat} {v : V} (h : vs[i]? = some v) : (L2.start N vs)[i]? = some (some v) := by
  unfold L2.start
  have hl : i < vs.length := (List.getElem?_eq_some_iff.mp h).1
  rw [List.getElem?_append_left (by rw [List.length_map]; exact hl), List.getElem?_map, h]
  rfl
theorem rs_start {b : Bg} {S : Hp} {g : Bag} {H : Hp} {F : Fn} {vs : List V} {ds : List PyData} (B : Bs K b S g H) (r : RpAll K b S vs ds) : RS K b S H S (entry F ds) g (L2.start F.N vs) H := by
  have no : ∀ (i : Nat) (es : List PyData), (entry F ds)[i]? ≠ some (.ow es) := fun i es e => by
    unfold entry at e
    by_cases hi : i < ds.length
    · rw [List.getElem?_append_left (by rw [List.length_map]; exact hi), List.getElem?_map] at e
      cases q : ds[i]? with
      | none =>
        rw [q] at e
        cases e
      | some z =>
        rw [q] at e
        cases e
    · rw [List.getElem?_append_right (by rw [List.length_map]; omega)] at e
      have := List.mem_of_getElem? e
      rw [List.mem_replicate] at this
      cases this.2
  refine ⟨B, Stp.refl _ _ _, ?_, fun i d e => ?_, fun i es e => absurd e (no i es), fun i j es fs p _ e => absurd e (no i es)⟩
  · unfold entry L2.start
    rw [List.length_append, List.length_append, List.length_map, List.length_map, List.length_replicate, List.length_replicate, r.length]
  · unfold entry at e
    by_cases hi : i < ds.length
    · rw [List.getElem?_append_left (by rw [List.length_map]; exact hi), List.getElem?_map] at e
      cases q : ds[i]? with
      | none =>
        rw [q] at e
        cases e
      | some z =>
        rw [q] at e
        cases e
        obtain ⟨v, h1, h2⟩ := r.get q
        exact ⟨v, start_get h1, h2⟩
    · rw [List.getElem?_append_right (by rw [List.length_map]; omega)] at e
      have := List.mem_of_getElem? e
      rw [List.mem_replicate] at this
      cases this.2
theorem oks_of {X : Cx} {T : Tab} {Φ' : Fns} {gl : Nat → Option PyData} {b : Bg} {sc : Scope} (fk : Fk T Φ' gl b X.prog X.w X.K X.mg X.base X.A) (hN : X.N = T.N) (nd : T.N.Nodup) (calm : X.calm = true) (fn : ∀ x, X.fn x = true) (hsc : X.env.scope = sc) (kd : sc.kind = .function) (pass : PassesOwn (model X.prog X.w) X.A X.env X.xe) : OkS T Φ' gl b X sc := by
  subst hsc
  exact ⟨Ok.of fk hN nd calm fn, rfl, kd, pass⟩
/-- every def keeps its promise, at every level -/
theorem all_ok (h : Hd P prog w K mg ad fd) (hp : ∀ F n, P.fns[0]? = some F → FnOk prog w K mg base CX0 (n + 1) (ad 0) (fd 0) F.ps (spF P cells K (n + 1) 0)) : ∀ n f F, P.fns[f]? = some F → FnOk prog w K mg base CX0 n (ad f) (fd f) F.ps (spF P cells K n f)
  | 0, f, F, hF => by
    refine ⟨fun vs H Q E q => ?_, fun A outer s H args us vs Q E hr he hb hv q => ?_⟩
    · obtain ⟨b, S, ds, g, d, g', _, _, _, _, e, _⟩ := q
      simp only [ev] at e
      cases e
    · obtain ⟨b, S, ds, g, d, g', _, _, _, _, e, _⟩ := q
      simp only [ev] at e
      cases e
  | n + 1, 0, F, hF => hp F n hF
  | n + 1, f + 1, F, hF => by
    have ih := all_ok h hp n
    obtain ⟨params, body, scope, dvs, kws, FD, S, hc⟩ := h.fns f F hF
    have hps : psOf P (f + 1) = F.ps := by
      unfold psOf
      rw [hF]
    refine FD.ok S (fun vs H Q E q => ?_) (fun cdv A outer s H vs Q E hr q => ?_)
    · obtain ⟨b, S, ds, g, d, g', _, hl, _⟩ := q
      rw [hl, hps]
    · obtain ⟨b, S0, ds, g, d, g', hb, hl, B, r, e, k⟩ := q
      simp only [ev, hF] at e
      split at e
      · refine ⟨tSt K b S0 H (evSs (Φ P cells n) P.gl F.body), PSs.nox (sndSs (T := P.tab F) (X := (cxOf CX0 prog w K mg base F.N F.x scope (ad (f + 1)) cdv A outer s H E).nox) F.body body (oks_of (fk_of P cells h ih hr b hb F) rfl S.nd rfl (fun _ => rfl) rfl S.kind PassesOwn.never) hc), ?_⟩
        cases e2 : evSs (Φ P cells n) P.gl F.body (entry F ds) g with
        | none =>
          rw [e2] at e
          cases e
        | some z =>
          obtain ⟨fl, ρ, g2⟩ := z
          rw [e2] at e
          refine ⟨S0, entry F ds, g, rs_start B r, fl, ρ, g2, e2, ?_⟩
          cases fl with
          | nx =>
            cases e
            exact fun σ S1 H1 R1 _ => k .non S1 H1 R1.st R1.bs .non
          | rt z =>
            cases e
            exact fun v S1 H1 st1 B1 r1 => k v S1 H1 st1 B1 r1
          | br => cases e
          | ct => cases e
      · cases e
end
end Rf

set_option maxHeartbeats 1000000
/-! The law's own draw, by hand. -/
namespace Rf
open PySem PySem.W L2
abbrev bx (K : Frag) (j : Int) : TE := tOp (rIxL K) (tVar 0) (tC (.int j))
abbrev tInt1 (t : TE) : TE := tCB (fun xs H Q => (∃ i, xs = [V.int i] ∧ Q (V.int i) H) ∨ ∃ k, xs = [V.bl k] ∧ Q (V.int (if k = true then 1 else 0)) H) (tCons t tNil)
abbrev tLenB (K : Frag) (t : TE) : TE := tCB (fun xs H Q => ∃ x n, xs = [x] ∧ LenV K x H n ∧ Q (V.int (n : Nat)) H) (tCons t tNil)
abbrev aAdd : R2 := rI0 fun i j => V.int (i + j)
abbrev aMul : R2 := rI CMul fun i j => V.int (i * j)
abbrev aMod : R2 := rI (fun _ j => 0 < j) fun i j => V.int (i % j)
abbrev aDiv : R2 := rI CDivW fun i j => V.int (i / j)
abbrev aPow : R2 := rI CPow fun i j => V.int (i ^ j.toNat)
abbrev aLt : R2 := rI0 fun i j => V.bl (decide (i < j))
abbrev aGt : R2 := rI0 fun i j => V.bl (decide (j < i))
abbrev aGe : R2 := rI0 fun i j => V.bl (decide (j ≤ i))
abbrev tI (i : Int) : TE := tC (.int i)
abbrev store (j : Int) (e : TE) : TS := tAsg e (gSub (tVar 0) (tI j) rSetL)
def t_pull (K : Frag) : TS :=
  tSeq (tIfS (tAnd (tTest (tOp rEq (bx K 2) (tI 0))) (tTest (tOp aLt (bx K 1) (tLenB K (bx K 0)))))
    (tSeq (tAsg (tOp (rIxL K) (bx K 0) (bx K 1)) (gName 2)) (tSeq (store 1 (tOp aAdd (bx K 1) (tI 1)))
      (tIfS (tTest (tOp aGe (tVar 2) (tOp aPow (tI 10) (tI 18)))) (store 2 (tVar 2))
        (store 3 (tOp aMod (tOp aAdd (tOp aAdd (tOp aMul (bx K 3) (tI 38119)) (tOp aMod (tInt1 (tVar 2)) (tI 2147483579))) (tI 17)) (tI 2147483647)))))) tNext)
  (tSeq (tIfS (tTest (tOp aGt (bx K 2) (tI 0)))
    (tSeq (tAsg (tOp aMod (tInt1 (bx K 2)) (tVar 1)) (gName 3)) (tSeq (store 2 (tOp aDiv (bx K 2) (tVar 1))) (tRet (tVar 3)))) tNext)
  (tSeq (store 4 (tOp aAdd (bx K 4) (tI 1)))
  (tSeq (tAsg (tOp aMod (tOp aAdd (bx K 3) (tOp aMul (bx K 4) (tI 7103))) (tI 2147483647)) (gName 4))
  (tSeq (store 3 (tOp aMod (tOp aAdd (tOp aAdd (tOp aPow (tVar 4) (tI 3)) (tOp aMul (tI 30091) (tVar 4))) (tI 2027)) (tI 2147483647)))
    (tRet (tOp aMod (tOp aAdd (tOp aDiv (bx K 3) (tI 73)) (tOp aMul (tOp aMod (tInt1 (bx K 3)) (tI 7919)) (tI 47))) (tVar 1)))))))
section
variable {K : Frag} {σ : St} {H : Hp} {a : Addr} {xs : List V}
theorem v_bx {j : Nat} {v : V} (hs : σ[0]? = some (some (.ref a))) (hH : H a = some (.lst xs)) (hv : xs[j]? = some v) : Val (bx K j) σ H v :=
  val_op (val_var hs) val_c fun Q q => ⟨a, xs, j, v, rfl, rfl, .inl (.inl hH), atI_nat hv, q⟩
theorem v_add {ta tb : TE} {i j : Int} (ha : Val ta σ H (.int i)) (hb : Val tb σ H (.int j)) : Val (tOp aAdd ta tb) σ H (.int (i + j)) := val_op ha hb fun Q q => ⟨i, j, rfl, rfl, q⟩
theorem v_mul {ta tb : TE} {i j : Int} (ha : Val ta σ H (.int i)) (hb : Val tb σ H (.int j)) (h : CMul i j) : Val (tOp aMul ta tb) σ H (.int (i * j)) := val_op ha hb fun Q q => ⟨i, j, rfl, rfl, h, q⟩
theorem v_mod {ta tb : TE} {i j : Int} (ha : Val ta σ H (.int i)) (hb : Val tb σ H (.int j)) (h : 0 < j) : Val (tOp aMod ta tb) σ H (.int (i % j)) := val_op ha hb fun Q q => ⟨i, j, rfl, rfl, h, q⟩
theorem v_div {ta tb : TE} {i j : Int} (ha : Val ta σ H (.int i)) (hb : Val tb σ H (.int j)) (h : CDivW i j) : Val (tOp aDiv ta tb) σ H (.int (i / j)) := val_op ha hb fun Q q => ⟨i, j, rfl, rfl, h, q⟩
theorem v_pow {ta tb : TE} {i j : Int} (ha : Val ta σ H (.int i)) (hb : Val tb σ H (.int j)) (h : CPow i j) : Val (tOp aPow ta tb) σ H (.int (i ^ j.toNat)) := val_op ha hb fun Q q => ⟨i, j, rfl, rfl, h, q⟩
theorem v_int {ta : TE} {i : Int} (ha : Val ta σ H (.int i)) : Val (tInt1 ta) σ H (.int i) := fun Q q => ha _ (.inl ⟨i, rfl, q⟩)
theorem v_len {ta : TE} {l : Addr} {ys : List V} (ha : Val ta σ H (.ref l)) (h : SqL K H l ys) : Val (tLenB K ta) σ H (.int (ys.length : Nat)) := fun Q q => ha _ ⟨.ref l, ys.length, rfl, .inl ⟨ys, h, rfl⟩, q⟩
theorem a_lt {ta tb : TE} {i j : Int} {c : Bool} (ha : Val ta σ H (.int i)) (hb : Val tb σ H (.int j)) (h : decide (i < j) = c) : Ans (tTest (tOp aLt ta tb)) σ H c := ans_cmp ha hb fun Q q => ⟨i, j, rfl, rfl, by show Q (V.bl (decide (i < j))) H; rw [h]; exact q⟩
theorem a_gt {ta tb : TE} {i j : Int} {c : Bool} (ha : Val ta σ H (.int i)) (hb : Val tb σ H (.int j)) (h : decide (j < i) = c) : Ans (tTest (tOp aGt ta tb)) σ H c := ans_cmp ha hb fun Q q => ⟨i, j, rfl, rfl, by show Q (V.bl (decide (j < i))) H; rw [h]; exact q⟩
theorem a_ge {ta tb : TE} {i j : Int} {c : Bool} (ha : Val ta σ H (.int i)) (hb : Val tb σ H (.int j)) (h : decide (j ≤ i) = c) : Ans (tTest (tOp aGe ta tb)) σ H c := ans_cmp ha hb fun Q q => ⟨i, j, rfl, rfl, by show Q (V.bl (decide (j ≤ i))) H; rw [h]; exact q⟩
theorem s_store {te : TE} {v : V} {D : Ends} {j : Nat} (hs : σ[0]? = some (some (.ref a))) (hH : H a = some (.lst xs)) (hj : j < xs.length) (he : Val te σ H v) (q : D.nx σ (upd H a (.lst (xs.set j v)))) : store j te D σ H := by
  refine he _ ?_
  refine ⟨.ref a, hs, a, xs, j, j, rfl, rfl, hH, ?_, q⟩
  unfold ixN
  rw [if_pos (Int.natCast_nonneg j), if_pos (by omega)]
  simp
end
abbrev bagL (b : Bg) (g : Bag) : List V := [.ref b.l, .int g.at_, .int g.big, .int g.salt, .int g.cnt]
theorem cmulR {i j : Int} (h1 : -(2 ^ 64) < j) (h2 : j < 2 ^ 64) : CMul i j := .inr ⟨h1, h2⟩
theorem cmulL {i j : Int} (h1 : -(2 ^ 64) < i) (h2 : i < 2 ^ 64) : CMul i j := .inl ⟨h1, h2⟩
theorem cdiv73 {i : Int} : CDivW i 73 := ⟨by decide, by decide +kernel⟩
theorem pure_pull {K : Frag} {b : Bg} {S H : Hp} {g : Bag} {n : Int} {D : Ends} (B : Bs K b S g H) (hn : 0 < n) (hn2 : n.natAbs.log2 < 9000) (k : D.rt (.int (pull b.cells g n).1) (upd H b.a (.lst (bagL b (pull b.cells g n).2)))) :
    t_pull K D [some (.ref b.a), some (.int n), none, none, none] H := by
  have hB : H b.a = some (.lst (bagL b g)) := B.bag.1
  -- the second half, from what is fed
  have half : ∀ (g1 : Bag) (H1 : Hp) (x : Option V), g1 = feed b.cells g → H1 b.a = some (.lst (bagL b g1)) → (∀ o, upd H1 b.a o = upd H b.a o) →
      (tSeq (tIfS (tTest (tOp aGt (bx K 2) (tI 0)))
    (tSeq (tAsg (tOp aMod (tInt1 (bx K 2)) (tVar 1)) (gName 3)) (tSeq (store 2 (tOp aDiv (bx K 2) (tVar 1))) (tRet (tVar 3)))) tNext)
  (tSeq (store 4 (tOp aAdd (bx K 4) (tI 1)))
  (tSeq (tAsg (tOp aMod (tOp aAdd (bx K 3) (tOp aMul (bx K 4) (tI 7103))) (tI 2147483647)) (gName 4))
  (tSeq (store 3 (tOp aMod (tOp aAdd (tOp aAdd (tOp aPow (tVar 4) (tI 3)) (tOp aMul (tI 30091) (tVar 4))) (tI 2027)) (tI 2147483647)))
    (tRet (tOp aMod (tOp aAdd (tOp aDiv (bx K 3) (tI 73)) (tOp aMul (tOp aMod (tInt1 (bx K 3)) (tI 7919)) (tI 47))) (tVar 1))))))) D [some (.ref b.a), some (.int n), x, none, none] H1 := fun g1 H1 x e1 h1 u1 => by
    have ep : pull b.cells g n = draw g1 n := by
      unfold pull
      rw [← e1]
    rw [ep] at k
    by_cases hb : 0 < g1.big
    · have e2 : max 0 (g1.big / n) = g1.big / n := Int.max_eq_right (Int.ediv_nonneg g1.hb (Int.le_of_lt hn))
      have k1 : (draw g1 n).1 = g1.big % n := by
        unfold draw
        rw [if_pos hb]
      have k2 : bagL b (draw g1 n).2 = [V.ref b.l, .int g1.at_, .int (g1.big / n), .int g1.salt, .int g1.cnt] := by
        unfold draw
        rw [if_pos hb]
        show [V.ref b.l, .int g1.at_, .int (max 0 (g1.big / n)), .int g1.salt, .int g1.cnt] = _
        rw [e2]
      rw [k1, k2] at k
      refine st_yes (a_gt (v_bx (j := 2) rfl h1 rfl) val_c (decide_eq_true hb)) ?_
      refine st_set (v_mod (v_int (v_bx (j := 2) rfl h1 rfl)) (val_var rfl) hn) ?_
      refine s_store (j := 2) rfl h1 (by simp) (v_div (v_bx (j := 2) rfl h1 rfl) (val_var rfl) ⟨hn, hn2⟩) ?_
      refine st_ret (val_var rfl) ?_
      rw [u1]
      exact k
    · have k1 : (draw g1 n).1 = (((((g1.salt + ((g1.cnt + 1 : Nat) : Int) * 7103) % 2147483647) ^ 3 + 30091 * ((g1.salt + ((g1.cnt + 1 : Nat) : Int) * 7103) % 2147483647) + 2027) % 2147483647) / 73 + ((((g1.salt + ((g1.cnt + 1 : Nat) : Int) * 7103) % 2147483647) ^ 3 + 30091 * ((g1.salt + ((g1.cnt + 1 : Nat) : Int) * 7103) % 2147483647) + 2027) % 2147483647) % 7919 * 47) % n := by
        unfold draw
        rw [if_neg hb]
      have k2 : bagL b (draw g1 n).2 = [V.ref b.l, .int g1.at_, .int g1.big, .int ((((g1.salt + ((g1.cnt + 1 : Nat) : Int) * 7103) % 2147483647) ^ 3 + 30091 * ((g1.salt + ((g1.cnt + 1 : Nat) : Int) * 7103) % 2147483647) + 2027) % 2147483647), .int ((g1.cnt + 1 : Nat) : Int)] := by
        unfold draw
        rw [if_neg hb]
      rw [k1, k2] at k
      refine st_no (a_gt (v_bx (j := 2) rfl h1 rfl) val_c (decide_eq_false hb)) ?_
      refine s_store (j := 4) rfl h1 (by simp) (v_add (v_bx (j := 4) rfl h1 rfl) val_c) ?_
      have h2 : (upd H1 b.a (.lst ((bagL b g1).set 4 (.int ((g1.cnt : Int) + 1))))) b.a = some (.lst [.ref b.l, .int g1.at_, .int g1.big, .int g1.salt, .int ((g1.cnt : Int) + 1)]) := upd_same
      refine st_set (v_mod (v_add (v_bx (j := 3) rfl h2 rfl) (v_mul (v_bx (j := 4) rfl h2 rfl) val_c (cmulR (by decide) (by decide)))) val_c (by decide)) ?_
      have eq1 : (g1.salt + ((g1.cnt : Int) + 1) * 7103) = (g1.salt + ((g1.cnt + 1 : Nat) : Int) * 7103) := by rw [Int.natCast_add]; rfl
      have eqc : ((g1.cnt : Int) + 1) = ((g1.cnt + 1 : Nat) : Int) := by rw [Int.natCast_add]; rfl
      rw [eq1]
      have sd := m31 (g1.salt + ((g1.cnt + 1 : Nat) : Int) * 7103)
      generalize hseed : (g1.salt + ((g1.cnt + 1 : Nat) : Int) * 7103) % 2147483647 = seed at sd k ⊢
      refine s_store (j := 3) rfl h2 (by simp) (v_mod (v_add (v_add (v_pow (val_var rfl) val_c ⟨by decide, by decide, by omega⟩) (v_mul val_c (val_var rfl) (cmulL (by decide) (by decide)))) val_c) val_c (by decide)) ?_
      rw [upd_upd]
      have h3 : (upd H1 b.a (.lst ([V.ref b.l, .int g1.at_, .int g1.big, .int g1.salt, .int ((g1.cnt : Int) + 1)].set 3 (.int ((seed ^ (3 : Int).toNat + 30091 * seed + 2027) % 2147483647))))) b.a = some (.lst [.ref b.l, .int g1.at_, .int g1.big, .int ((seed ^ 3 + 30091 * seed + 2027) % 2147483647), .int ((g1.cnt : Int) + 1)]) := upd_same
      have s2 := m31 (seed ^ 3 + 30091 * seed + 2027)
      refine st_ret (v_mod (v_add (v_div (v_bx (j := 3) rfl h3 rfl) val_c cdiv73) (v_mul (v_mod (v_int (v_bx (j := 3) rfl h3 rfl)) val_c (by decide)) val_c (cmulR (by decide) (by decide)))) (val_var rfl) hn) ?_
      rw [u1, eqc]
      exact k
  by_cases hf : g.big = 0 ∧ g.at_ < b.cells.length
  · have hfeed : feed b.cells g = (if h : 10 ^ 18 ≤ b.cells.getD g.at_ 0 then { g with at_ := g.at_ + 1, big := b.cells.getD g.at_ 0, hb := Int.le_trans (by decide) h } else { g with at_ := g.at_ + 1, salt := (g.salt * 38119 + b.cells.getD g.at_ 0 % 2147483579 + 17) % 2147483647, hs := m31 _ }) := by
      unfold feed
      rw [if_pos hf]
    have hcell : (b.cells.map V.int)[g.at_]? = some (.int (b.cells.getD g.at_ 0)) := by
      rw [List.getElem?_map, List.getElem?_eq_getElem hf.2]
      simp [List.getD, List.getElem?_eq_getElem hf.2]
    have sq : SqL K H b.l (b.cells.map V.int) := B.sub.sqL B.bag.2
    refine st_seq (st_yes (ans_and (ans_eq (v_bx (j := 2) rfl hB rfl) val_c rfl (by rw [hf.1]; rfl)) (a_lt (v_bx (j := 1) rfl hB rfl) (v_len (v_bx (j := 0) rfl hB rfl) sq) (decide_eq_true (by rw [List.length_map]; omega)))) ?_)
    refine st_seq (st_set (val_op (v_bx (j := 0) rfl hB rfl) (v_bx (j := 1) rfl hB rfl) fun Q q => ⟨b.l, _, _, _, rfl, rfl, sq, atI_nat hcell, q⟩) ?_)
    refine st_seq (s_store (j := 1) rfl hB (by simp) (v_add (v_bx (j := 1) rfl hB rfl) val_c) ?_)
    have h1 : (upd H b.a (.lst ((bagL b g).set 1 (.int ((g.at_ : Int) + 1))))) b.a = some (.lst [.ref b.l, .int ((g.at_ : Int) + 1), .int g.big, .int g.salt, .int g.cnt]) := upd_same
    have eat : ((g.at_ : Int) + 1) = ((g.at_ + 1 : Nat) : Int) := by rw [Int.natCast_add]; rfl
    by_cases hbig : 10 ^ 18 ≤ b.cells.getD g.at_ 0
    · rw [dif_pos hbig] at hfeed
      refine st_yes (a_ge (val_var rfl) (v_pow val_c val_c ⟨by decide, by decide, by decide⟩) (decide_eq_true (show (10 : Int) ^ (18 : Int).toNat ≤ b.cells.getD g.at_ 0 from hbig))) ?_
      refine s_store (j := 2) rfl h1 (by simp) (val_var rfl) ?_
      rw [upd_upd]
      refine half _ _ _ hfeed.symm ?_ fun o => upd_upd
      rw [upd_same, eat]
      rfl
    · rw [dif_neg hbig] at hfeed
      refine st_no (a_ge (val_var rfl) (v_pow val_c val_c ⟨by decide, by decide, by decide⟩) (decide_eq_false (show ¬ (10 : Int) ^ (18 : Int).toNat ≤ b.cells.getD g.at_ 0 from hbig))) ?_
      refine s_store (j := 3) rfl h1 (by simp) (v_mod (v_add (v_add (v_mul (v_bx (j := 3) rfl h1 rfl) val_c (cmulR (by decide) (by decide))) (v_mod (v_int (val_var rfl)) val_c (by decide))) val_c) val_c (by decide)) ?_
      rw [upd_upd]
      refine half _ _ _ hfeed.symm ?_ fun o => upd_upd
      rw [upd_same, eat]
      rfl
  · have hfeed : feed b.cells g = g := by
      unfold feed
      rw [if_neg hf]
    refine st_seq (st_no ?_ (st_next ?_))
    · by_cases h0 : g.big = 0
      · have h2 : ¬ g.at_ < b.cells.length := fun z => hf ⟨h0, z⟩
        have sq : SqL K H b.l (b.cells.map V.int) := B.sub.sqL B.bag.2
        exact ans_and (ans_eq (v_bx (j := 2) rfl hB rfl) val_c rfl (by rw [h0]; rfl)) (a_lt (v_bx (j := 1) rfl hB rfl) (v_len (v_bx (j := 0) rfl hB rfl) sq) (decide_eq_false (by rw [List.length_map]; omega)))
      · exact ans_and0 (ans_eq (v_bx (j := 2) rfl hB rfl) val_c rfl (decide_eq_false fun z => h0 (V.int.inj z)))
    · exact half g H none hfeed.symm hB fun o => rfl
end Rf

set_option maxHeartbeats 1000000
/-! The law's bag, and the law itself. -/
namespace Rf
open PySem PySem.W L2
abbrev tHead (K : Frag) : TE := tSl (rSlL K) (tVar 0) tNoPart (tPart (tI 63))
def t_bag (K : Frag) : TS :=
  tSeq (tAsg (tI 3827) (gName 1))
  (tSeq (tFor (iList K (tHead K)) (gName 2) (tAsg (tOp aMod (tOp aAdd (tOp aAdd (tOp aMul (tVar 1) (tI 46411)) (tOp aMod (tInt1 (tVar 2)) (tI 2147483587))) (tI 29)) (tI 2147483647)) (gName 1)))
    (tRet (tLst (tCons (tCB (fun xs H Q => ∃ p ys, xs = [V.ref p] ∧ (SqL K H p ys ∨ SqT K H p ys) ∧ ∀ l, H l = none → Q (V.ref l) (upd H l (HO.lst ys))) (tCons (tHead K) tNil)) (tCons (tI 0) (tCons (tI 0) (tCons (tVar 1) (tCons (tI 0) tNil))))))))
theorem cut63 {ns : List Int} (h : ns.length ≤ 63) : cutV (ns.map V.int) none (some 63) = ns.map V.int := by
  unfold cutV
  rw [HT.sIx_none, show HT.sIx (ns.map V.int).length (ns.map V.int).length (some 63) = min 63 (ns.map V.int).length from HT.sIx_nat _ _ 63]
  rw [List.drop_zero, Nat.sub_zero, Nat.min_eq_right (by rw [List.length_map]; exact h), List.take_length]
/-- a new bag at p, its inner list at l -/
def NewBag (ns : List Int) (H : Hp) (p l : Addr) (g : Bag) (H' : Hp) : Prop := g.at_ = 0 ∧ g.big = 0 ∧ g.cnt = 0 ∧ H p = none ∧ H l = none ∧ p ≠ l ∧ Exd H H' ∧ H' l = some (.lst (ns.map V.int)) ∧ H' p = some (.lst (bagL ⟨p, l, ns⟩ g))
def spBag (K : Frag) : Sp := fun vs H Q _ => ∃ (a : Addr) (ns : List Int), vs = [.ref a] ∧ SqL K H a (ns.map V.int) ∧ ns.length ≤ 63 ∧ ∀ p l g H', NewBag ns H p l g H' → Q (.ref p) H'
theorem pure_bag {K : Frag} {H : Hp} {a : Addr} {ns : List Int} {D : Ends} (hS : SqL K H a (ns.map V.int)) (hl : ns.length ≤ 63) (k : ∀ p l g H', NewBag ns H p l g H' → D.rt (.ref p) H') : t_bag K D [some (.ref a), none, none] H := by
  refine st_seq (st_set val_c ?_)
  refine st_seq ?_
  refine ⟨.ref a, rfl, 63, rfl, a, _, rfl, hS, fun c nc => ?_⟩
  rw [cut63 hl]
  have x1 : Exd H (upd H c (.lst (ns.map V.int))) := Exd.new nc
  refine ⟨c, rfl, ⟨_, .inl (.inl upd_same)⟩, for_list (K := K) (a := c) (xs := ns.map V.int) (fun i σ H' => ∃ (s : Int) (v : Option V), σ = [some (.ref a), some (.int s), v] ∧ 0 ≤ s ∧ s < 2147483647 ∧ H' = upd H c (.lst (ns.map V.int)))
    ⟨3827, none, rfl, by decide, by decide, rfl⟩ (fun i σ H' _ ⟨_, _, _, _, _, e⟩ => by rw [e]; exact .inl (.inl upd_same)) ?_ ?_⟩
  · rintro i x σ H' hi ⟨s, v, rfl, h0, h1, rfl⟩
    rw [List.getElem?_map] at hi
    cases e : ns[i]? with
    | none =>
      rw [e] at hi
      cases hi
    | some u =>
      rw [e] at hi
      cases hi
      refine st_set (v_mod (v_add (v_add (v_mul (val_var rfl) val_c (cmulR (by decide) (by decide))) (v_mod (v_int (val_var rfl)) val_c (by decide))) val_c) val_c (by decide)) ?_
      have z := m31 (s * 46411 + u % 2147483587 + 29)
      exact ⟨_, _, rfl, z.1, z.2, rfl⟩
  · rintro σ H' ⟨s, v, rfl, h0, h1, rfl⟩
    refine ⟨.ref a, rfl, 63, rfl, a, _, rfl, x1.sqL hS, fun c2 n2 => ?_⟩
    rw [cut63 hl]
    refine ⟨c2, _, rfl, .inl (.inl (.inl upd_same)), fun l nl => ?_⟩
    refine ⟨.int s, rfl, ?_⟩
    refine ⟨(show 5 ≤ sizeLine by decide), fun p np => ?_⟩
    have x2 := Exd.new (o := .lst (ns.map V.int)) n2
    have x3 := Exd.new (o := .lst (ns.map V.int)) nl
    have x4 := Exd.new (o := .lst [V.ref l, .int 0, .int 0, .int s, .int 0]) np
    have npl : p ≠ l := fun z => by
      rw [z, upd_same] at np
      cases np
    have fr : ∀ {A B : Hp} {q : Addr}, Exd A B → B q = none → A q = none := fun {A B q} x h => by
      cases e : A q with
      | none => rfl
      | some o =>
        rw [x q o e] at h
        cases h
    refine k p l ⟨0, 0, s, 0, by decide, ⟨h0, h1⟩⟩ _ ⟨rfl, rfl, rfl, fr ((x1.trans x2).trans x3) np, fr (x1.trans x2) nl, npl, ((x1.trans x2).trans x3).trans x4, ?_, upd_same⟩
    rw [upd_ne (Ne.symm npl), upd_same]

/-! ### the law -/
theorem PSs.ex {ι : Sort _} {X : Cx} {st : List Stmt} {t : ι → TS} (h : ∀ z, PSs X st (t z)) : PSs X st (fun D σ H => ∃ z, t z D σ H) := ⟨fun pins s σ H D I ⟨z, q⟩ => (h z).run pins s σ H D I q⟩
def spLaw (K : Frag) : Sp := fun vs H Q _ => ∃ (a : Addr) (ns : List Int), vs = [.ref a] ∧ SqL K H a (ns.map V.int) ∧ ns.length ≤ 63 ∧ ∀ H', Q (.bl true) H'
/-- the slots behind the law's first statement -/
def lawIn (N : List Str) : List Sl := .un :: .sh (.dict []) :: List.replicate (N.length - 2) .un
open Classical in
theorem law_read {K : Frag} {N : List Str} {ns : List Int} {a p l : Addr} {g : Bag} {H H1 : Hp} {m : List Sl → Bag → R} {D : Ends} (nb : NewBag ns H p l g H1) (e : ∃ ρ' g', m (lawIn N) g = some (.rt (.bool true), ρ', g')) (k : ∀ H', D.rt (.bl true) H') :
    ∃ z : {b : Bg // b.cells = ns} × Hp × Hp, tSt K z.1.1 z.2.1 z.2.2 m D (some (.ref a) :: some (.ref p) :: List.replicate (N.length - 2) none) H1 := by
  obtain ⟨_, _, _, hp, hl, npl, ex, el, ep⟩ := nb
  obtain ⟨ρ', g', e⟩ := e
  let S : Hp := fun q => if q = p then none else H1 q
  have Sl' : S l = H1 l := if_neg (Ne.symm npl)
  have B : Bs K ⟨p, l, ns⟩ S g H1 := by
    refine ⟨fun q o h => ?_, if_pos rfl, ep, .inl (.inl (by rw [Sl']; exact el))⟩
    by_cases hq : q = p
    · have z : S q = none := if_pos hq
      rw [z] at h
      cases h
    · have z : S q = H1 q := if_neg hq
      rw [z] at h
      exact h
  refine ⟨(⟨⟨p, l, ns⟩, rfl⟩, S, H1), S, lawIn N, g, ⟨B, Stp.refl _ _ _, ?_, fun i d h => ?_, fun i ds h => ?_, fun i j ds es q _ h => ?_⟩, .rt (.bool true), ρ', g', e, fun v S' H' _ _ r => ?_⟩
  · simp [lawIn]
  · rcases i with _ | _ | i
    · cases h
    · cases h
      exact ⟨.ref p, rfl, .bag⟩
    · have h : (List.replicate (N.length - 2) Sl.un)[i]? = some (.sh d) := h
      have := List.mem_of_getElem? h
      rw [List.mem_replicate] at this
      cases this.2
  · rcases i with _ | _ | i
    · cases h
    · cases h
    · have h : (List.replicate (N.length - 2) Sl.un)[i]? = some (.ow ds) := h
      have := List.mem_of_getElem? h
      rw [List.mem_replicate] at this
      cases this.2
  · rcases i with _ | _ | i
    · cases h
    · cases h
    · have h : (List.replicate (N.length - 2) Sl.un)[i]? = some (.ow ds) := h
      have := List.mem_of_getElem? h
      rw [List.mem_replicate] at this
      cases this.2
  · cases r.bl_inv
    exact k H'
/-- the law, from its first statement and the rest -/
theorem law_ok (P : Pr) {prog : Program} {w : World} {K : Frag} {mg : Str → Option Value} {ad : Nat → Addr} {fd : Nat → FuncData} {base : Heap} (h : Hd P prog w K mg ad fd)
    (hp : ∀ ns F n, P.fns[0]? = some F → FnOk prog w K mg base CX0 (n + 1) (ad 0) (fd 0) F.ps (spF P ns K (n + 1) 0))
    {F : Fn} {fL fB : Addr} {fdL fdB : FuncData} {params : Arguments} {rest : List Stmt} {scope : Scope} {dvs : List V} {kws : List (Str × V)} {n : Nat} {p1 p2 p3 p4 p5 : Pos} {kpB : keepIn K (.ref fB) = true}
    (FD : FunD K "law" "law" params (.Assign [.Name "_law_bag_here" p1] (.Call (.Name "_law_bag" p2) [.Name "_law_script" p3] [] p4) p5 :: rest) scope dvs kws fL fdL) (S : FnScope F.N ["_law_script"] scope)
    (hN0 : F.N[0]? = some ("_law_script" : Str)) (hN1 : F.N[1]? = some ("_law_bag_here" : Str)) (hv0 : isVis scope "_law_script" = true) (hv1 : isLoc scope "_law_bag_here" = true) (hgb : isGl scope "_law_bag" = true) (hlen : 2 ≤ F.N.length)
    (GB : FnOk prog w K mg base CX0 n fB fdB ["_law_script"] (spBag K)) (bB : Binds K fdB ["_law_script"] []) (mB : mg "_law_bag" = some (.ref fB)) (hc : chkSs (P.tab F) scope F.body rest = true)
    (hev : ∀ (ns : List Int) (g : Bag), ns.length ≤ 63 → ∃ ρ' g', evSs (Φ P ns n) P.gl F.body (lawIn F.N) g = some (.rt (.bool true), ρ', g')) :
    FnOk prog w K mg base CX0 (n + 1) fL fdL ["_law_script"] (spLaw K) := by
  refine FD.ok S (fun vs H Q E q => ?_) (fun cdv A outer s H vs Q E hr q => ?_)
  · obtain ⟨a, ns, rfl, _⟩ := q
    rfl
  · obtain ⟨a, ns, rfl, hS, hl, k⟩ := q
    have ih := all_ok P ns (base := base) h (hp ns) n
    have ok : ∀ b : Bg, b.cells = ns → OkS (P.tab F) (Φ P ns n) P.gl b (cxOf CX0 prog w K mg base F.N "law" scope fL cdv A outer s H E).nox scope := fun b hb => oks_of (fk_of P ns h ih hr b hb F) rfl S.nd rfl (fun _ => rfl) rfl S.kind PassesOwn.never
    have first : PS (cxOf CX0 prog w K mg base F.N "law" scope fL cdv A outer s H E).nox (.Assign [.Name "_law_bag_here" p1] (.Call (.Name "_law_bag" p2) [.Name "_law_script" p3] [] p4) p5) (tAsg (tCall (spBag K) [] E0 (tCons (tVar 0) tNil)) (gName 1)) :=
      ps_set (i := 1) S.nd hN1 (isLoc_ok hv1) (pe_call GB hr (isGl_ok hgb) mB kpB bB .nil pass0 (pa_cons (pe_var hN0 (isVis_ok hv0) (by decide) (by decide)) pa_nil) (by decide)) rfl (.inl rfl)
    refine ⟨_, PSs.nox (pss_cons first (PSs.ex fun (z : {b : Bg // b.cells = ns} × Hp × Hp) => sndSs (Se := z.2.1) (He := z.2.2) F.body rest (ok z.1.1 z.1.2) hc)), ?_⟩
    have est : L2.start F.N [V.ref a] = some (.ref a) :: none :: List.replicate (F.N.length - 2) none := by
      unfold L2.start
      have : F.N.length - 1 = (F.N.length - 2) + 1 := by omega
      simp only [List.map_cons, List.map_nil, List.length_singleton, List.singleton_append]
      rw [this, List.replicate_succ]
    rw [est]
    refine ⟨.ref a, rfl, a, ns, rfl, hS, hl, fun p l g H' nb => ?_⟩
    exact law_read (K := K) (N := F.N) nb (hev ns g hl) k
end Rf

set_option maxHeartbeats 1000000
/-! The head's facts, as the small language wants them. -/
namespace Rf
open PySem PySem.W L2
/-! ### written data -/
mutual
def dataIn (K : Frag) : PyData → Value → Bool
  | .none, .none => true
  | .bool a, .bool b => a == b
  | .int i, .int j _ => decide (i = j)
  | .str x, .str y _ => decide (x = y)
  | .tuple ds, .ref a => (match K.lookup a with
    | some ⟨.type c, _, .seq its _, _⟩ => decide (c = "tuple") && decide (its.size ≤ lim) && datasIn K ds its.toList
    | _ => false)
  | _, _ => false
def datasIn (K : Frag) : List PyData → List Value → Bool
  | [], [] => true
  | d :: ds, u :: us => dataIn K d u && datasIn K ds us
  | _, _ => false
end
mutual
theorem dataIn_ok {K : Frag} : ∀ (d : PyData) (u : Value), dataIn K d u = true → ∃ v, RelV v u ∧ ∀ (b : Bg) (S : Hp), Rp K b S v d
  | .none, u, h => by
    cases u with
    | none => exact ⟨.non, rfl, fun _ _ => .non⟩
    | _ => exact absurd h Bool.false_ne_true
  | .bool a, u, h => by
    cases u with
    | bool c =>
      have h : (a == c) = true := h
      cases eq_of_beq h
      exact ⟨.bl a, rfl, fun _ _ => .bl a⟩
    | _ => exact absurd h Bool.false_ne_true
  | .int i, u, h => by
    cases u with
    | int j t =>
      have h : decide (i = j) = true := h
      cases of_decide_eq_true h
      exact ⟨.int i, ⟨t, rfl⟩, fun _ _ => .int i⟩
    | _ => exact absurd h Bool.false_ne_true
  | .str x, u, h => by
    cases u with
    | str y t =>
      have h : decide (x = y) = true := h
      cases of_decide_eq_true h
      exact ⟨.str x, ⟨t, rfl⟩, fun _ _ => .str x⟩
    | _ => exact absurd h Bool.false_ne_true
  | .list _, u, h => by cases u <;> exact absurd h Bool.false_ne_true
  | .dict _, u, h => by cases u <;> exact absurd h Bool.false_ne_true
  | .tuple ds, u, h => by
    cases u with
    | ref a =>
      have h : (match K.lookup a with
        | some ⟨.type c, _, .seq its _, _⟩ => decide (c = "tuple") && decide (its.size ≤ lim) && datasIn K ds its.toList
        | _ => false) = true := h
      split at h
      · rename_i c od its n sl hk
        simp only [Bool.and_eq_true] at h
        cases of_decide_eq_true h.1.1
        obtain ⟨vs, h1, h2⟩ := datasIn_ok ds its.toList h.2
        have hl : its.size ≤ lim := of_decide_eq_true h.1.2
        have hv : vs.length = its.size := by rw [h1.length]; simp
        exact ⟨.ref a, rfl, fun b S => .tup (.inr ⟨_, its, n, hk, rfl, rfl, le_size hl, h1⟩) (by rw [hv]; exact hl) (h2 b S)⟩
      · cases h
    | _ => exact absurd h Bool.false_ne_true
theorem datasIn_ok {K : Frag} : ∀ (ds : List PyData) (us : List Value), datasIn K ds us = true → ∃ vs, Vals vs us ∧ ∀ (b : Bg) (S : Hp), RpAll K b S vs ds
  | [], [], _ => ⟨[], .nil, fun _ _ => .nil⟩
  | [], _ :: _, h => absurd h Bool.false_ne_true
  | _ :: _, [], h => absurd h Bool.false_ne_true
  | d :: ds, u :: us, h => by
    have h : (dataIn K d u && datasIn K ds us) = true := h
    simp only [Bool.and_eq_true] at h
    obtain ⟨v, h1, h2⟩ := dataIn_ok d u h.1
    obtain ⟨vs, h3, h4⟩ := datasIn_ok ds us h.2
    exact ⟨v :: vs, .cons h1 h3, fun b S => .cons (h2 b S) (h4 b S)⟩
end
/-- the module's name x holds the datum d -/
def gloB (K : Frag) (q : Str × PyData) : Bool := match nsIn K mainGlobals q.1 with
  | some (some u) => dataIn K q.2 u
  | _ => false
theorem gloB_ok {K : Frag} {h : Heap} {mg : Str → Option Value} (X : K.In h) (G : h.Ns mainGlobals mg) {q : Str × PyData} (c : gloB K q = true) : ∃ u v, mg q.1 = some u ∧ RelV v u ∧ ∀ (b : Bg) (S : Hp), Rp K b S v q.2 := by
  unfold gloB at c
  split at c
  · rename_i u e
    obtain ⟨v, h1, h2⟩ := dataIn_ok _ _ c
    exact ⟨u, v, mg_of X G e, h1, h2⟩
  · cases c

/-! ### the Hook -/
abbrev AlR : Type := Bool × List He.FnW
def obsR (dat : List (Str × PyData)) (fa : List He.Fa) (fn : List He.DefD) (K : Frag) : AlR := (((fa.all fun f => f.ok K) && fn.all fun d => d.ok K) && dat.all (gloB K), fn.map fun d => He.fnW K d.at_)
def SaysR (dat : List (Str × PyData)) (fa : List He.Fa) (fn : List He.DefD) (K : Frag) : Prop := obsR dat fa fn K = (true, fn.map He.DefD.val)
def obsRG (n : Nat) (dat : List (Str × PyData)) (fa : List He.Fa) (fn : List He.DefD) (g : Addr → Option Obj) : AlR := obsR dat fa fn (He.frG g (He.asD g n))
def hookR (n : Nat) (dat : List (Str × PyData)) (fa : List He.Fa) (fn : List He.DefD) : Hook where
  α := AlR
  obs := fun s => obsRG n dat fa fn s.heap.get?
  val := fun _ => (true, fn.map He.DefD.val)
  says := fun _ h => ∃ K : Frag, K.In h ∧ SaysR dat fa fn K
  of := fun _ _ e => ⟨_, He.frG_in, e⟩
  keeps := fun _ _ _ ⟨K, hK, c⟩ k => ⟨K, Frag.In.keeps hK k, c⟩
theorem obsRG_eq {n : Nat} {dat : List (Str × PyData)} {fa : List He.Fa} {fn : List He.DefD} {g : Addr → Option Obj} {s : Shared} (h : ∀ a, g a = s.heap.get? a) : obsRG n dat fa fn g = (hookR n dat fa fn).obs s := by
  have e : g = s.heap.get? := funext h
  rw [e] <;> rfl
section
variable {dat : List (Str × PyData)} {fa : List He.Fa} {fn : List He.DefD} {K : Frag}
theorem SaysR.d (c : SaysR dat fa fn K) : He.SaysD fa fn K := by
  have c1 := (He.ba (show (((fa.all fun f => f.ok K) && fn.all fun d => d.ok K) && dat.all (gloB K)) = true from congrArg (fun z : AlR => z.1) c)).1
  have e : fn.map (fun d => He.fnW K d.at_) = fn.map He.DefD.val := congrArg (fun z : AlR => z.2) c
  unfold He.SaysD He.obsD He.valD
  rw [c1, e]
theorem SaysR.data (c : SaysR dat fa fn K) {q : Str × PyData} (h : q ∈ dat) : gloB K q = true := by
  have c1 := (He.ba (show (((fa.all fun f => f.ok K) && fn.all fun d => d.ok K) && dat.all (gloB K)) = true from congrArg (fun z : AlR => z.1) c)).2
  exact List.all_eq_true.mp c1 q h
theorem SaysR.free (c : SaysR dat fa fn K) {x : Str} (h : He.Fa.free x ∈ fa) : (He.Fa.free x).ok K = true := by
  obtain ⟨i, hi⟩ := List.getElem?_of_mem h
  exact c.d.fact i hi
theorem SaysR.glo (c : SaysR dat fa fn K) {x : Str} (h : He.Fa.glo x ∈ fa) : (He.Fa.glo x).ok K = true := by
  obtain ⟨i, hi⟩ := List.getElem?_of_mem h
  exact c.d.fact i hi
end

/-! ### scopes -/
def scopeB (N ps : List Str) (sc : Scope) : Bool := (match sc.kind with | .function => true | _ => false) && !sc.isCoroutine && !sc.isGenerator && decide N.Nodup && decide (N.take ps.length = ps) && (ps.all fun x => isLoc sc x) && sc.names.all fun y => match y.2 with
  | .free => false
  | _ => true
theorem scopeB_ok {N ps : List Str} {sc : Scope} (h : scopeB N ps sc = true) : FnScope N ps sc := by
  unfold scopeB at h
  simp only [Bool.and_eq_true, Bool.not_eq_true', decide_eq_true_eq, List.all_eq_true] at h
  obtain ⟨⟨⟨⟨⟨⟨h1, h2⟩, h3⟩, h4⟩, h5⟩, h6⟩, h7⟩ := h
  refine ⟨?_, h2, h3, h4, h5, fun x hx => isLoc_ok (h6 x hx), fun y hy z => ?_⟩
  · split at h1
    · assumption
    · cases h1
  · have q := h7 y hy
    rw [z] at q
    cases q

/-! ### how arguments bind -/
def gS {α : Type} (z : α) (srcs : List Src) (us ws : List α) : List α := srcs.map fun s => match s with
  | .p j => us.getD j z
  | .k j => ws.getD j z
  | .c _ => z
def noC (srcs : List Src) : Bool := srcs.all fun s => match s with
  | .c _ => false
  | _ => true
theorem vals_getD : ∀ {vs : List V} {us : List Value} (j : Nat), Vals vs us → RelV (vs.getD j .non) (us.getD j .none)
  | [], [], _, .nil => rfl
  | _ :: _, _ :: _, 0, .cons r _ => r
  | _ :: _, _ :: _, j + 1, .cons _ t => vals_getD j t
theorem gS_rel {vs zs : List V} {us ws : List Value} (r : Vals vs us) (q : Vals zs ws) : ∀ srcs : List Src, Vals (gS .non srcs vs zs) (gS .none srcs us ws)
  | [] => .nil
  | .p j :: l => .cons (vals_getD j r) (gS_rel r q l)
  | .k j :: l => .cons (vals_getD j q) (gS_rel r q l)
  | .c _ :: l => .cons rfl (gS_rel r q l)
theorem rp_getD {K : Frag} {b : Bg} {S : Hp} : ∀ {vs : List V} {ds : List PyData} (j : Nat), RpAll K b S vs ds → Rp K b S (vs.getD j .non) (ds.getD j .none)
  | [], [], _, .nil => .non
  | _ :: _, _ :: _, 0, .cons r _ => r
  | _ :: _, _ :: _, j + 1, .cons _ t => rp_getD j t
theorem gS_arr {K : Frag} {b : Bg} {S : Hp} {vs zs : List V} {ds es : List PyData} (r : RpAll K b S vs ds) (q : RpAll K b S zs es) : ∀ srcs : List Src, noC srcs = true → RpAll K b S (gS .non srcs vs zs) (arr srcs ds es)
  | [], _ => .nil
  | .p j :: l, h => .cons (rp_getD j r) (gS_arr r q l h)
  | .k j :: l, h => .cons (rp_getD j q) (gS_arr r q l h)
  | .c _ :: _, h => by cases h
/-- a def without defaults, called by positions and keywords -/
theorem kb_plain {K : Frag} {x qual : Str} {params : Arguments} {body : List Stmt} {scope : Scope} {kws : List (Str × V)} {f : Addr} {fd : FuncData} {ps : List Str} (F : FunD K x qual params body scope [] kws f fd) (n : Nat) (ks : List Str) (srcs : List Src)
    (h : ∀ (kV doc pm : Value) (an : Option Addr) (cdv ct : Value) (us ws : List Value), us.length = n → ws.length = ks.length → bindArgs (fnOf x qual params body scope .none kV doc pm an cdv ct) ⟨us, ks.zip ws⟩ = pure (ps.zip (gS .none srcs us ws))) :
    KBn K fd ps n ks (gS .none srcs) (gS .non srcs) := by
  obtain ⟨oc, od, dV, kV, doc, pm, an, cdv, ct, osl, rfl, lk, hcd, hd, hk⟩ := F.ex
  have e : dV = .none := by
    rcases hd with ⟨_, e⟩ | ⟨e, _⟩
    · exact e
    · exact absurd rfl e
  subst e
  exact ⟨fun s us ws _ h1 h2 => .of_eq (h kV doc pm an cdv ct us ws h1 h2), fun r q => gS_rel r q srcs⟩
/-! ### defaults of keyword-only parameters -/
def pick {α : Type} : List Src → List α → List α → List α → List α
  | [], _, _, _ => []
  | .p j :: l, us, mv, ws => (us.drop j).take 1 ++ pick l us mv ws
  | .k j :: l, us, mv, ws => (ws.drop j).take 1 ++ pick l us mv ws
  | .c _ :: l, us, mv, ws => mv.take 1 ++ pick l us (mv.drop 1) ws
def consts : List Src → List PyData
  | [] => []
  | .c d :: l => d :: consts l
  | _ :: l => consts l
def bounds (n m : Nat) (srcs : List Src) : Bool := srcs.all fun s => match s with
  | .p j => decide (j < n)
  | .k j => decide (j < m)
  | .c _ => true
theorem vals_drop : ∀ {vs : List V} {us : List Value} (j : Nat), Vals vs us → Vals (vs.drop j) (us.drop j)
  | _, _, 0, h => h
  | [], [], _ + 1, .nil => .nil
  | _ :: _, _ :: _, j + 1, .cons _ t => vals_drop j t
theorem vals_take1 {vs : List V} {us : List Value} (h : Vals vs us) : Vals (vs.take 1) (us.take 1) := by
  cases h with
  | nil => exact .nil
  | cons r t => exact .cons r .nil
theorem vals_app : ∀ {vs ws : List V} {us zs : List Value}, Vals vs us → Vals ws zs → Vals (vs ++ ws) (us ++ zs)
  | [], _, [], _, .nil, q => q
  | _ :: _, _, _ :: _, _, .cons r t, q => .cons r (vals_app t q)
theorem pick_rel : ∀ (srcs : List Src) {vs mz zs : List V} {us mv ws : List Value}, Vals vs us → Vals mz mv → Vals zs ws → Vals (pick srcs vs mz zs) (pick srcs us mv ws)
  | [], _, _, _, _, _, _, _, _, _ => .nil
  | .p j :: l, _, _, _, _, _, _, a, b, c => vals_app (vals_take1 (vals_drop j a)) (pick_rel l a b c)
  | .k j :: l, _, _, _, _, _, _, a, b, c => vals_app (vals_take1 (vals_drop j c)) (pick_rel l a b c)
  | .c _ :: l, _, _, _, _, _, _, a, b, c => vals_app (vals_take1 b) (pick_rel l a (vals_drop 1 b) c)
theorem rp_at {K : Frag} {b : Bg} {S : Hp} : ∀ {vs : List V} {ds : List PyData} {j : Nat}, RpAll K b S vs ds → j < ds.length → ∃ v, (vs.drop j).take 1 = [v] ∧ Rp K b S v (ds.getD j .none)
  | [], [], _, .nil, h => by cases h
  | v :: _, _ :: _, 0, .cons r _, _ => ⟨v, rfl, r⟩
  | _ :: _, _ :: _, j + 1, .cons _ t, h => rp_at (j := j) t (by simpa using h)
theorem pick_arr {K : Frag} {b : Bg} {S : Hp} {vs zs : List V} {ds es : List PyData} (r : RpAll K b S vs ds) (q : RpAll K b S zs es) : ∀ (srcs : List Src) {mz : List V}, bounds ds.length es.length srcs = true → RpAll K b S mz (consts srcs) → RpAll K b S (pick srcs vs mz zs) (arr srcs ds es)
  | [], _, _, _ => .nil
  | .p j :: l, mz, h, c => by
    unfold bounds at h
    rw [List.all_cons, Bool.and_eq_true] at h
    obtain ⟨v, e, k⟩ := rp_at r (of_decide_eq_true h.1)
    show RpAll K b S ((vs.drop j).take 1 ++ pick l vs mz zs) _
    rw [e]
    exact .cons k (pick_arr r q l h.2 c)
  | .k j :: l, mz, h, c => by
    unfold bounds at h
    rw [List.all_cons, Bool.and_eq_true] at h
    obtain ⟨v, e, k⟩ := rp_at q (of_decide_eq_true h.1)
    show RpAll K b S ((zs.drop j).take 1 ++ pick l vs mz zs) _
    rw [e]
    exact .cons k (pick_arr r q l h.2 c)
  | .c d :: l, mz, h, c => by
    unfold bounds at h
    rw [List.all_cons, Bool.and_eq_true] at h
    cases c with
    | cons k c => exact .cons k (pick_arr r q l h.2 c)
theorem kb_kwd {K : Frag} {x qual : Str} {params : Arguments} {body : List Stmt} {scope : Scope} {kws : List (Str × V)} {f : Addr} {fd : FuncData} {ps : List Str} (F : FunD K x qual params body scope [] kws f fd) (n : Nat) (ks : List Str) (ms : List (Str × V)) (srcs : List Src) (hk : kws ≠ []) (hms : ∀ q ∈ ms, q ∈ kws)
    (h : ∀ (D : Addr) (doc pm : Value) (an : Option Addr) (cdv ct : Value) (us mv ws : List Value), us.length = n → mv.length = ms.length → ws.length = ks.length →
      KwChain D ((ms.map (·.1)).zip mv) (bindArgs (PySem.W.fnOf x qual params body scope .none (.ref D) doc pm an cdv ct) ⟨us, ks.zip ws⟩) (ps.zip (pick srcs us mv ws))) :
    ∃ mv : List Value, KBn K fd ps n ks (fun us ws => pick srcs us mv ws) (fun vs zs => pick srcs vs (ms.map (·.2)) zs) :=
  F.kbinds0 n ks ms (fun us mv ws => pick srcs us mv ws) hk hms (fun a b c => pick_rel srcs a b c) h
end Rf

set_option maxHeartbeats 1000000
/-! The draw's and the bag's own texts, for any positions. -/
namespace Rf
open PySem PySem.W L2
section
variable {X : Cx}
theorem q_bx {j : Int} {x : Str} {k : Nat} {p1 p2 p3 : Pos} (h : PE X (.Name x p1) (tVar 0)) : PE X (.Subscript (.Name x p1) (.Constant (.int j) k p2) p3) (bx X.K j) := pe_ix ix_list h pe_int (fun _ _ => rfl)
theorem q_int {e : Expr} {te : TE} {p1 p2 : Pos} (hg : Gl X "int") (hm : X.mg "int" = none) (h : PE X e te) (hn : notStar e = true) : PE X (.Call (.Name "int" p1) [e] [] p2) (tInt1 te) :=
  pe_callTy call_int1 hg hm (by decide +kernel) (pa_cons h pa_nil (starEach_of hn)) (by decide) (by decide) (starEach_of hn)
theorem q_len {e : Expr} {te : TE} {p1 p2 : Pos} (hg : Gl X "len") (hm : X.mg "len" = none) (h : PE X e te) (hn : notStar e = true) : PE X (.Call (.Name "len" p1) [e] [] p2) (tLenB X.K te) :=
  pe_callB call_len hg hm PySem.boot_len (pa_cons h pa_nil (starEach_of hn)) (by decide) (by decide) (starEach_of hn)
theorem q_store {j : Int} {x : Str} {k : Nat} {e : Expr} {te : TE} {p1 p2 p3 p4 : Pos} (h : PE X (.Name x p1) (tVar 0)) (he : PE X e te) (hn : notComp e = true) (hn2 : notTup e = true) : PS X (.Assign [.Subscript (.Name x p1) (.Constant (.int j) k p2) p3] e p4) (store j te) :=
  ps_asg he (pg_sub h pe_int set_list) (show swapsWith e (some (.Subscript (.Name x p1) (.Constant (.int j) k p2) p3)) p4.line X.env = pure false from swaps_of hn) (swapped_of hn2) rfl
end
/-- the draw's end, from its promise -/
theorem pull_end {P : Pr} {cells : List Int} {K : Frag} {n : Nat} {vs : List V} {H : Hp} {Q : VK} {E : XK} (q : spF P cells K (n + 1) 0 vs H Q E) : t_pull K { nx := fun _ H' => Q .non H', rt := Q } (L2.start [Str.ofString "_law_bag_here", Str.ofString "_law_sides", Str.ofString "_law_cell", Str.ofString "_law_got", Str.ofString "_law_seed"] vs) H := by
  obtain ⟨b, S, ds, g, d, g', hb, hl, B, r, e, k⟩ := q
  simp only [ev] at e
  unfold pullD at e
  split at e
  · rename_i m
    split at e
    · rename_i hm
      cases e
      cases r with
      | cons r1 rr =>
        cases rr with
        | cons r2 rr =>
          cases rr
          cases r2.int_inv
          cases r1 with
          | bag =>
            rw [← hb] at k
            refine pure_pull B hm.1 hm.2 (k _ S _ ⟨Exd.refl S, fun a o h => .inl h, fun a o n h => by rw [upd_ne n]; exact h, fun a h => ?_⟩ ⟨fun a o h => ?_, B.sb, upd_same, B.bag.2⟩ (.int _))
            · by_cases ha : a = b.a
              · rw [ha, upd_same] at h
                cases h
              · rw [upd_ne ha] at h
                exact h
            · have ha : a ≠ b.a := fun z => by
                rw [z, B.sb] at h
                cases h
              rw [upd_ne ha]
              exact B.sub a o h
    · cases e
  · cases e
end Rf

set_option maxHeartbeats 1000000
/-! Ordinals as plain data. -/
namespace Rf
open PySem PySem.W L2 PyProof.Rows

inductive O where
  | z
  | t (e : O) (c : Int) (r : O)
deriving DecidableEq
namespace O
def ts : O → List (O × Int)
  | z => []
  | t e c r => (e, c) :: r.ts
def mk : List (O × Int) → O
  | [] => z
  | (e, c) :: l => t e c (mk l)
theorem mk_ts : ∀ o : O, mk o.ts = o
  | z => rfl
  | t e c r => by rw [ts, mk, mk_ts r]
theorem ts_mk : ∀ l : List (O × Int), (mk l).ts = l
  | [] => rfl
  | (e, c) :: l => by rw [mk, ts, ts_mk l]
theorem ts_inj {a b : O} (h : a.ts = b.ts) : a = b := by rw [← mk_ts a, h, mk_ts]
/-- the order -/
def lt : O → O → Bool
  | z, z => false
  | z, t _ _ _ => true
  | t _ _ _, z => false
  | t e c r, t e' c' r' => if e = e' then (if c = c' then lt r r' else decide (c < c')) else lt e e'
theorem lt_irr : ∀ a : O, lt a a = false
  | z => rfl
  | t e c r => by rw [lt, if_pos rfl, if_pos rfl, lt_irr r]
theorem lt_trans : ∀ {a b c : O}, lt a b = true → lt b c = true → lt a c = true
  | z, z, _, h, _ => by cases h
  | z, t _ _ _, z, _, h => by cases h
  | z, t _ _ _, t _ _ _, _, _ => rfl
  | t _ _ _, z, _, h, _ => by cases h
  | t _ _ _, t _ _ _, z, _, h => by cases h
  | t e c r, t e1 c1 r1, t e2 c2 r2, h, k => by
    unfold lt at h k ⊢
    by_cases x : e = e1
    · subst x
      rw [if_pos rfl] at h
      by_cases y : e = e2
      · subst y
        rw [if_pos rfl] at k ⊢
        by_cases p : c = c1
        · subst p
          rw [if_pos rfl] at h
          by_cases q : c = c2
          · subst q
            rw [if_pos rfl] at k ⊢
            exact lt_trans h k
          · rw [if_neg q] at k ⊢
            exact k
        · rw [if_neg p] at h
          have h := of_decide_eq_true h
          by_cases q : c1 = c2
          · subst q
            rw [if_neg p]
            exact decide_eq_true h
          · rw [if_neg q] at k
            have k := of_decide_eq_true k
            rw [if_neg (by omega)]
            exact decide_eq_true (by omega)
      · rw [if_neg y] at k ⊢
        exact k
    · rw [if_neg x] at h
      by_cases y : e1 = e2
      · subst y
        rw [if_neg x]
        exact h
      · rw [if_neg y] at k
        have := lt_trans h k
        rw [if_neg (fun z => by subst z; rw [lt_irr] at this; cases this)]
        exact this
theorem lt_tri : ∀ a b : O, lt a b = true ∨ a = b ∨ lt b a = true
  | z, z => .inr (.inl rfl)
  | z, t _ _ _ => .inl rfl
  | t _ _ _, z => .inr (.inr rfl)
  | t e c r, t e' c' r' => by
    unfold lt
    by_cases x : e = e'
    · subst x
      rw [if_pos rfl, if_pos rfl]
      by_cases p : c = c'
      · subst p
        rw [if_pos rfl, if_pos rfl]
        rcases lt_tri r r' with h | h | h
        · exact .inl h
        · subst h
          exact .inr (.inl rfl)
        · exact .inr (.inr h)
      · rw [if_neg p, if_neg (Ne.symm p)]
        rcases Int.lt_or_gt_of_ne p with h | h
        · exact .inl (decide_eq_true h)
        · exact .inr (.inr (decide_eq_true h))
    · rw [if_neg x, if_neg (Ne.symm x)]
      rcases lt_tri e e' with h | h | h
      · exact .inl h
      · exact absurd h x
      · exact .inr (.inr h)
theorem lt_asy {a b : O} (h : lt a b = true) : lt b a = false := by
  cases q : lt b a with
  | false => rfl
  | true =>
    have := lt_trans h q
    rw [lt_irr] at this
    cases this
theorem lt_ne {a b : O} (h : lt a b = true) : a ≠ b := fun z => by
  subst z
  rw [lt_irr] at h
  cases h
/-- not less: equal or greater -/
theorem ge_of {a b : O} (h : lt a b = false) : a = b ∨ lt b a = true := by
  rcases lt_tri a b with q | q | q
  · rw [h] at q
    cases q
  · exact .inl q
  · exact .inr q
theorem le_lt {a b c : O} (h : lt b a = false) (k : lt b c = true) : lt a c = true := by
  rcases ge_of h with q | q
  · subst q
    exact k
  · exact lt_trans q k
theorem lt_le {a b c : O} (h : lt a b = true) (k : lt c b = false) : lt a c = true := by
  rcases ge_of k with q | q
  · subst q
    exact h
  · exact lt_trans h q
theorem le_le {a b c : O} (h : lt b a = false) (k : lt c b = false) : lt c a = false := by
  rcases ge_of h with q | q
  · subst q
    exact k
  · exact lt_asy (lt_le q k)
/-- heights and sizes -/
def ht : O → Nat
  | z => 0
  | t e _ r => max (ht e + 1) (ht r)
def sz : O → Nat
  | z => 0
  | t e _ r => sz e + sz r + 1
theorem len_sz : ∀ o : O, o.ts.length ≤ o.sz
  | z => Nat.le_refl _
  | t e c r => by
    have := len_sz r
    simp only [ts, List.length_cons, sz]
    omega
theorem mem_ht : ∀ {o : O} {p : O × Int}, p ∈ o.ts → p.1.ht + 1 ≤ o.ht
  | t e c r, p, h => by
    simp only [ts, List.mem_cons] at h
    simp only [ht]
    rcases h with h | h
    · subst h
      exact Nat.le_max_left _ _
    · exact Nat.le_trans (mem_ht h) (Nat.le_max_right _ _)
theorem mem_sz : ∀ {o : O} {p : O × Int}, p ∈ o.ts → p.1.sz + 1 ≤ o.sz
  | t e c r, p, h => by
    simp only [ts, List.mem_cons] at h
    simp only [sz]
    rcases h with h | h
    · subst h
      simp only
      omega
    · have := mem_sz h
      omega
theorem ht_of {l : List (O × Int)} {n : Nat} (h : ∀ p ∈ l, p.1.ht + 1 ≤ n) : (mk l).ht ≤ n := by
  induction l with
  | nil => exact Nat.zero_le _
  | cons p l ih =>
    obtain ⟨e, c⟩ := p
    simp only [mk, ht]
    have h1 := h (e, c) List.mem_cons_self
    have h2 := ih fun p hp => h p (List.mem_cons_of_mem _ hp)
    simp only at h1
    omega
/-- sizes of rows of terms -/
def szs : List (O × Int) → Nat
  | [] => 0
  | p :: l => p.1.sz + szs l + 1
theorem sz_mk : ∀ l : List (O × Int), (mk l).sz = szs l
  | [] => rfl
  | (e, c) :: l => by simp only [mk, sz, szs, sz_mk l]
theorem szs_ts (o : O) : szs o.ts = o.sz := by rw [← sz_mk, mk_ts]
theorem szs_app : ∀ a b : List (O × Int), szs (a ++ b) = szs a + szs b
  | [], b => by simp [szs]
  | p :: a, b => by
    simp only [List.cons_append, szs, szs_app a b]
    omega
theorem szs_filter (q : O × Int → Bool) : ∀ a : List (O × Int), szs (a.filter q) ≤ szs a
  | [] => Nat.le_refl _
  | p :: a => by
    have := szs_filter q a
    rw [List.filter_cons]
    split
    · simp only [szs]
      omega
    · simp only [szs]
      omega
/-- ordinals in their form -/
def nf : O → Prop
  | z => True
  | t e c r => nf e ∧ 1 ≤ c ∧ nf r ∧ (∀ p, r.ts.head? = some p → lt p.1 e = true)
/-- rows of terms in their form -/
def nfs : List (O × Int) → Prop
  | [] => True
  | p :: l => p.1.nf ∧ 1 ≤ p.2 ∧ nfs l ∧ (∀ q, l.head? = some q → lt q.1 p.1 = true)
theorem nfs_ts : ∀ o : O, nfs o.ts ↔ o.nf
  | z => Iff.rfl
  | t e c r => by simp only [ts, nfs, nf, nfs_ts r]
theorem nf_mk (l : List (O × Int)) : (mk l).nf ↔ nfs l := by rw [← nfs_ts, ts_mk]
theorem nfs_all : ∀ {l : List (O × Int)}, nfs l → ∀ p ∈ l, p.1.nf ∧ 1 ≤ p.2
  | q :: l, h, p, hp => by
    cases hp with
    | head => exact ⟨h.1, h.2.1⟩
    | tail _ hp => exact nfs_all h.2.2.1 p hp
/-- the later exponents are less -/
theorem nfs_lt : ∀ {l : List (O × Int)} {p : O × Int}, nfs (p :: l) → ∀ q ∈ l, lt q.1 p.1 = true
  | r :: l, p, h, q, hq => by
    have h1 := h.2.2.2 r rfl
    cases hq with
    | head => exact h1
    | tail _ hq => exact lt_trans (nfs_lt h.2.2.1 q hq) h1
theorem nfs_pair {l : List (O × Int)} : nfs l ↔ (∀ p ∈ l, p.1.nf ∧ 1 ≤ p.2) ∧ l.Pairwise (fun p q => lt q.1 p.1 = true) := by
  induction l with
  | nil => simp [nfs]
  | cons p l ih =>
    constructor
    · intro h
      refine ⟨fun q hq => nfs_all h q hq, List.pairwise_cons.mpr ⟨fun q hq => nfs_lt h q hq, (ih.mp h.2.2.1).2⟩⟩
    · rintro ⟨h1, h2⟩
      rw [List.pairwise_cons] at h2
      refine ⟨(h1 p List.mem_cons_self).1, (h1 p List.mem_cons_self).2, ih.mpr ⟨fun q hq => h1 q (List.mem_cons_of_mem _ hq), h2.2⟩, fun q hq => h2.1 q ?_⟩
      exact List.mem_of_mem_head? hq
theorem nfs_app {a b : List (O × Int)} : nfs (a ++ b) ↔ nfs a ∧ nfs b ∧ ∀ p ∈ a, ∀ q ∈ b, lt q.1 p.1 = true := by
  rw [nfs_pair, nfs_pair, nfs_pair, List.pairwise_append]
  constructor
  · rintro ⟨h, h1, h2, h3⟩
    exact ⟨⟨fun p hp => h p (List.mem_append_left _ hp), h1⟩, ⟨fun p hp => h p (List.mem_append_right _ hp), h2⟩, h3⟩
  · rintro ⟨⟨h1, h2⟩, ⟨h3, h4⟩, h5⟩
    refine ⟨fun p hp => ?_, h2, h4, h5⟩
    rcases List.mem_append.mp hp with hp | hp
    · exact h1 p hp
    · exact h3 p hp
theorem nfs_filter {a : List (O × Int)} (q : O × Int → Bool) (h : nfs a) : nfs (a.filter q) := by
  rw [nfs_pair] at h ⊢
  exact ⟨fun p hp => h.1 p (List.mem_filter.mp hp).1, h.2.filter _⟩

/-! ### as data -/
def encs : O → List PyData
  | z => []
  | t e c r => .tuple [.tuple (encs e), .int c] :: encs r
abbrev enc (o : O) : PyData := .tuple o.encs
abbrev encT (p : O × Int) : PyData := .tuple [p.1.enc, .int p.2]
theorem encs_ts : ∀ o : O, o.encs = o.ts.map encT
  | z => rfl
  | t e c r => by rw [encs, ts, List.map_cons, encs_ts r]
theorem enc_mk (l : List (O × Int)) : (mk l).enc = .tuple (l.map encT) := by rw [enc, encs_ts, ts_mk]
theorem encs_len (o : O) : o.encs.length = o.ts.length := by rw [encs_ts, List.length_map]
theorem eqvs : ∀ a b : O, PyData.eqvAll a.encs b.encs = decide (a = b)
  | z, z => by simp [encs, PyData.eqvAll]
  | z, t _ _ _ => by simp [encs, PyData.eqvAll]
  | t _ _ _, z => by simp [encs, PyData.eqvAll]
  | t e c r, t e' c' r' => by
    simp only [encs, PyData.eqvAll, PyData.eqv, eqvs e e', eqvs r r', t.injEq, Bool.and_true]
    by_cases x : e = e' <;> by_cases y : c = c' <;> by_cases w : r = r' <;> simp [x, y, w]
theorem eqv (a b : O) : PyData.eqv a.enc b.enc = decide (a = b) := by rw [PyData.eqv, eqvs]
theorem alikes : ∀ a b : O, alikeAll a.encs b.encs = true
  | z, z => by simp [encs, alikeAll]
  | z, t _ _ _ => by simp [encs, alikeAll]
  | t _ _ _, z => by simp [encs, alikeAll]
  | t e c r, t e' c' r' => by simp only [encs, alikeAll, alike, alikes e e', alikes r r', Bool.and_true]
theorem alk (a b : O) : alike a.enc b.enc = true := by rw [alike, alikes]
theorem lays : ∀ a : O, PyData.canLayAll0 a.encs = true
  | z => by simp [encs, PyData.canLayAll0]
  | t e c r => by simp only [encs, PyData.canLayAll0, PyData.canLay0, lays e, lays r, Bool.and_true]
theorem deps : ∀ a : O, PyData.depthAll a.encs = 2 * a.ht
  | z => by simp [encs, PyData.depthAll, ht]
  | t e c r => by
    simp only [encs, PyData.depthAll, PyData.depth, deps e, deps r, ht]
    omega
theorem shp {a : O} (h : a.ht ≤ 31) : SeqAt.shaped a.enc = true := by
  unfold SeqAt.shaped
  rw [PyData.canLay0, lays, PyData.depth, deps, Bool.true_and]
  exact decide_eq_true (by omega)
theorem nls : ∀ a : O, noLists a.encs = true
  | z => by simp [encs, noLists]
  | t e c r => by simp only [encs, noLists, noList, nls e, nls r, Bool.and_true]
theorem nl (a : O) : noList a.enc = true := by rw [noList, nls]
end O
/-! ### the order of data -/
theorem dataLt_cons {x y : PyData} {xs ys : List PyData} (h : alike x y = true) : dataLt (.tuple (x :: xs)) (.tuple (y :: ys)) = if PyData.eqv x y = true then dataLt (.tuple xs) (.tuple ys) else dataLt x y := by
  rw [dataLt_tuple, dataLt_tuple]
  split
  · rename_i e
    exact dataLt_all_yes h e
  · rename_i e
    exact dataLt_all_no h (by simpa using e)
theorem dataLt_nil : dataLt (.tuple []) (.tuple []) = false := by decide +kernel
theorem dataLt_nilc (x : PyData) (xs : List PyData) : dataLt (.tuple []) (.tuple (x :: xs)) = true := by
  rw [dataLt_tuple, toks_all_cons]
  simp only [keyToksAll]
  rw [lex_diff (O := itemOrd) (by simp)]
  simp [itemLt]
theorem dataLt_cnil (x : PyData) (xs : List PyData) : dataLt (.tuple (x :: xs)) (.tuple []) = false := by
  rw [dataLt_tuple, toks_all_cons]
  simp only [keyToksAll]
  rw [lex_diff (O := itemOrd) (by simp)]
  simp [itemLt]
theorem dataLt_int (i j : Int) : dataLt (.int i) (.int j) = decide (i < j) := by
  by_cases h : i = j
  · subst h
    unfold dataLt
    simp [lex_irrefl]
  · unfold dataLt
    simp only [keyToks]
    rw [lex_diff (O := itemOrd) (fun q => h (Sum.inl.inj q))]
    rfl
namespace O
theorem dlt : ∀ a b : O, dataLt a.enc b.enc = lt a b
  | z, z => dataLt_nil
  | z, t _ _ _ => dataLt_nilc _ _
  | t _ _ _, z => dataLt_cnil _ _
  | t e c r, t e' c' r' => by
    have h1 := dlt e e'
    have h2 := dlt r r'
    simp only [enc, encs]
    rw [dataLt_cons (by simp only [alike, alikeAll, alikes, Bool.and_true]), dataLt_cons (by simp only [alike, alikes]), h1, h2, dataLt_cons (by simp only [alike]), dataLt_int, dataLt_nil]
    simp only [PyData.eqv, PyData.eqvAll, eqvs, lt, Bool.and_true]
    by_cases x : e = e'
    · by_cases y : c = c'
      · simp [x, y]
      · simp [x, y]
    · simp [x]
theorem okl {a b : O} (h : a.ht ≤ 31) (k : b.ht ≤ 31) : okLt a.enc b.enc = true := by
  unfold okLt
  rw [shp h, shp k, alk]
  rfl
/-! comparisons -/
section
variable {a b : O} (h : a.ht ≤ 31) (k : b.ht ≤ 31)
include h k
theorem c_eq : cmpD .eq a.enc b.enc = some (decide (a = b)) := by
  simp only [cmpD, shp h, shp k, eqv, Bool.and_self, if_true]
theorem c_ne : cmpD .ne a.enc b.enc = some (!decide (a = b)) := by
  simp only [cmpD, shp h, shp k, eqv, Bool.and_self, if_true]
theorem c_lt : cmpD .lt a.enc b.enc = some (lt a b) := by
  simp only [cmpD, okl h k, dlt, if_true]
theorem c_gt : cmpD .gt a.enc b.enc = some (lt b a) := by
  simp only [cmpD, okl h k, dlt, if_true]
theorem c_le : cmpD .le a.enc b.enc = some (!lt b a) := by
  simp only [cmpD, okl h k, dlt, if_true]
theorem c_ge : cmpD .ge a.enc b.enc = some (!lt a b) := by
  simp only [cmpD, okl h k, dlt, if_true]
end
end O
end Rf

set_option maxHeartbeats 400000
/-! What the common defs compute. -/
namespace Rf
open PySem PySem.W L2 PyProof.Rows

/-- a shape and the def that it calls -/
def Has (P : Pr) (s : Nat) (srcs : List Src) (np nn : Nat) (body : Ss) : Prop := ∃ q f F, P.shs[s]? = some (q, f + 1, srcs) ∧ P.fns[f + 1]? = some F ∧ F.ps.length = np ∧ F.N.length = nn ∧ F.body = body
def HasPull (P : Pr) (s : Nat) : Prop := ∃ q, P.shs[s]? = some (q, 0, [.p 0, .p 1])
abbrev bag : PyData := .dict []
section
variable {P : Pr} {cells : List Int} {n : Nat}
theorem Has.call {s : Nat} {srcs : List Src} {np nn : Nat} {body : Ss} (h : Has P s srcs np nn body) {ds es : List PyData} {g : Bag} (hl : srcs.length = np) : Φ P cells (n + 1) s ds es g = outD (evSs (Φ P cells n) P.gl body ((arr srcs ds es).map .sh ++ List.replicate (nn - np) .un) g) := by
  obtain ⟨q, f, F, h1, h2, h3, h4, h5⟩ := h
  have hl2 : (arr srcs ds es).length = np := by rw [arr, List.length_map, hl]
  show (match P.shs[s]? with | some (_, f, srcs) => ev P cells (n + 1) f (arr srcs ds es) g | none => none) = _
  rw [h1]
  simp only [ev, h2]
  rw [h3, if_pos hl2, h5, entry, h4, hl2]
theorem HasPull.call {s : Nat} (h : HasPull P s) {m : Int} {g : Bag} (hm : 0 < m ∧ m.natAbs.log2 < 9000) : Φ P cells (n + 1) s [bag, .int m] [] g = some (.int (pull cells g m).1, (pull cells g m).2) := by
  obtain ⟨q, h⟩ := h
  unfold Φ shaped
  rw [h]
  simp only [ev, arr, List.map_cons, List.map_nil, List.getD_cons_zero, List.getD_cons_succ, pullD]
  rw [if_pos hm]
theorem log_lt {m : Int} {k : Nat} (h : m.natAbs < 2 ^ k) (hk : k ≤ 9000) (h0 : 0 < k) : m.natAbs.log2 < 9000 := by
  by_cases z : m.natAbs = 0
  · rw [z]
    decide
  · exact Nat.lt_of_lt_of_le ((Nat.log2_lt z).mpr h) hk
end
theorem comp_filter {α : Type} {f : PyData → Bag → Option (Option PyData × Bag)} {en : α → PyData} {p : α → Bool} {h : α → PyData} {g : Bag} : ∀ {l : List α} {acc : List PyData}, (∀ x ∈ l, f (en x) g = some (if p x then some (h x) else none, g)) → comp f (l.map en) acc g = some (acc ++ (l.filter p).map h, g)
  | [], acc, _ => by simp [comp]
  | x :: l, acc, hf => by
    have h1 := hf x List.mem_cons_self
    have h2 := fun acc => comp_filter (acc := acc) fun y hy => hf y (List.mem_cons_of_mem _ hy)
    rw [List.map_cons, comp, h1]
    cases q : p x with
    | true =>
      simp only [if_true]
      rw [h2, List.filter_cons, if_pos q, List.map_cons, List.append_assoc, List.singleton_append]
    | false =>
      simp only [Bool.false_eq_true, if_false]
      rw [h2, List.filter_cons, if_neg (by rw [q]; exact Bool.false_ne_true)]
theorem comp_map {α : Type} {f : PyData → Bag → Option (Option PyData × Bag)} {en : α → PyData} {h : α → PyData} {g : Bag} {l : List α} {acc : List PyData} (hf : ∀ x ∈ l, f (en x) g = some (some (h x), g)) : comp f (l.map en) acc g = some (acc ++ l.map h, g) := by
  rw [comp_filter (p := fun _ => true) (h := h) fun x hx => by rw [hf x hx]; rfl]
  rw [List.filter_eq_self.mpr (fun _ _ => rfl)]
/-! ### one step at a time -/
section
variable {Φ : Fns} {gl : Nat → Option PyData} {η : Env} {g : Bag}
theorem e_var (i : Nat) : evE Φ gl (.var i) η g = match η[i]? with | some (some d) => some (d, g) | _ => none := by rw [evE]; try rfl
theorem e_con (d : PyData) : evE Φ gl (.con d) η g = some (d, g) := by rw [evE]
theorem e_glo (k : Nat) : evE Φ gl (.glo k) η g = (gl k).map fun d => (d, g) := by rw [evE]
theorem e_tup (es : Es) : evE Φ gl (.tup es) η g = match evA Φ gl es η g with | some (ds, g) => if ds.length ≤ lim then some (.tuple ds, g) else none | none => none := by rw [evE]; try rfl
theorem e_lst (es : Es) : evE Φ gl (.lst es) η g = match evA Φ gl es η g with | some (ds, g) => if ds.length ≤ lim then some (.list ds, g) else none | none => none := by rw [evE]; try rfl
theorem e_bin (o : Bop) (a b : E) : evE Φ gl (.bin o a b) η g = match evE Φ gl a η g with | some (x, g) => (match evE Φ gl b η g with | some (y, g) => (binD o x y).map fun z => (z, g) | none => none) | none => none := by rw [evE]; try rfl
theorem e_neg (a : E) : evE Φ gl (.neg a) η g = match evE Φ gl a η g with | some (.int i, g) => some (.int (-i), g) | _ => none := by rw [evE]; try rfl
theorem e_cmp (o : Cop) (a b : E) : evE Φ gl (.cmp o a b) η g = match evE Φ gl a η g with | some (x, g) => (match evE Φ gl b η g with | some (y, g) => (cmpD o x y).map fun z => (.bool z, g) | none => none) | none => none := by rw [evE]; try rfl
theorem e_and (a b : E) : evE Φ gl (.and a b) η g = match evE Φ gl a η g with | some (.bool true, g) => evE Φ gl b η g | some (.bool false, g) => some (.bool false, g) | _ => none := by rw [evE]; try rfl
theorem e_or (a b : E) : evE Φ gl (.or a b) η g = match evE Φ gl a η g with | some (.bool true, g) => some (.bool true, g) | some (.bool false, g) => evE Φ gl b η g | _ => none := by rw [evE]; try rfl
theorem e_not (a : E) : evE Φ gl (.not a) η g = match evE Φ gl a η g with | some (.bool b, g) => some (.bool (!b), g) | _ => none := by rw [evE]; try rfl
theorem e_ite (t a b : E) : evE Φ gl (.ite t a b) η g = match evE Φ gl t η g with | some (.bool true, g) => evE Φ gl a η g | some (.bool false, g) => evE Φ gl b η g | _ => none := by rw [evE]; try rfl
theorem e_call (s : Nat) (es ks : Es) : evE Φ gl (.call s es ks) η g = match evA Φ gl es η g with | some (ds, g) => (match evA Φ gl ks η g with | some (zs, g) => Φ s ds zs g | none => none) | none => none := by rw [evE]; try rfl
theorem e_bi (b : Bi) (a : E) : evE Φ gl (.bi b a) η g = match evE Φ gl a η g with | some (x, g) => (biD b x).map fun z => (z, g) | none => none := by rw [evE]; try rfl
theorem e_isi (a : E) (ts : List Ty) : evE Φ gl (.isi a ts) η g = match evE Φ gl a η g with | some (x, g) => if tyOk x then some (.bool (ts.any fun t => tyIs t x), g) else none | none => none := by rw [evE]; try rfl
theorem e_ix (a i : E) : evE Φ gl (.ix a i) η g = match evE Φ gl a η g with | some (x, g) => (match evE Φ gl i η g with | some (y, g) => (ixD x y).map fun z => (z, g) | none => none) | none => none := by rw [evE]; try rfl
theorem e_sl (a : E) (lo hi : Eo) : evE Φ gl (.sl a lo hi) η g = match evE Φ gl a η g with | some (x, g) => (match evO Φ gl lo η g with | some (l, g) => (match evO Φ gl hi η g with | some (h, g) => (slD x l h).map fun z => (z, g) | none => none) | none => none) | none => none := by rw [evE]; try rfl
theorem e_lc {t : Tg} {own : List Nat} {it : It} {c : Eo} {e : E} {ds : List PyData} {rs : List PyData} {g1 g2 : Bag} (h1 : evI Φ gl it η g = some (ds, g1)) (h2 : ds.length ≤ lim) (h3 : comp (lcF t own (evC Φ gl c) (evE Φ gl e) η) ds [] g1 = some (rs, g2)) : evE Φ gl (.lc t own it c e) η g = some (.list rs, g2) := by
  rw [evE, h1]
  simp only [h2, if_true, h3, Option.map_some]
variable {ρ ρ' : List Sl} {g' : Bag} {r : R}
theorem st_nx {s : S} {ss : Ss} (h : evS Φ gl s ρ g = some (.nx, ρ', g')) (k : evSs Φ gl ss ρ' g' = r) : evSs Φ gl (.cons s ss) ρ g = r := by
  rw [evSs, h]
  exact k
theorem st_for {t : Tg} {it : It} {b : Ss} {ds : List PyData} {g1 : Bag} (h : evI Φ gl it (seeF it.vars 0 ρ) g = some (ds, g1)) (k : turns t (evSs Φ gl b) ds (frzF it.vars 0 ρ) g1 = r) : evS Φ gl (.for_ t it b) ρ g = r := by
  rw [evS, h]
  exact k
end
/-! ### sums -/
def plusK : E := .lc (.n 6) [6] (.seq (.var 0)) (.so (.cmp .gt (.ix (.var 6) (.con (.int 0))) (.var 4))) (.var 6)
def plusS : E := .lc (.n 6) [6] (.seq (.var 0)) (.so (.cmp .eq (.ix (.var 6) (.con (.int 0))) (.var 4))) (.ix (.var 6) (.con (.int 1)))
theorem v_plusK : plusK.vars = [0, 6, 4, 6] := rfl
theorem v_plusS : plusS.vars = [0, 6, 4, 6] := rfl
def plusB (zg : Nat) : Ss := (.cons (.ifs (.cmp .eq (.var 1) (.glo zg)) (.cons (.ret (.var 0)) .nil) .nil) (.cons (.tset (.t (.cons (.n 4) (.cons (.n 5) .nil))) (.ix (.var 1) (.con (.int 0)))) (.cons (.set 2 plusK) (.cons (.set 3 plusS) (.cons (.ret (.tup (.star (.var 2) (.cons (.tup (.cons (.var 4) (.cons (.bin .add (.var 5) (.bi .sum (.var 3))) .nil))) (.star (.sl (.var 1) (.so (.con (.int 1))) .no) .nil))))) .nil)))))
def O.add (a : O) : O → O
  | z => a
  | t e c r => mk (a.ts.filter (fun p => lt e p.1) ++ (e, c + ((a.ts.filter (fun p => decide (p.1 = e))).map (·.2)).sum) :: r.ts)
theorem ats0 {α : Type} (x : α) (l : List α) : L2.atI (x :: l) 0 = some x := by simp [L2.atI, L2.ixN]
theorem ats1 {α : Type} (x y : α) (l : List α) : L2.atI (x :: y :: l) 1 = some y := by
  unfold L2.atI L2.ixN
  rw [if_pos (by decide), if_pos (by simp only [List.length_cons]; omega)]
  rfl
theorem cut1 {α : Type} (x : α) (l : List α) : cut (x :: l) (some 1) none = l := by
  simp [cut, HT.sIx]
theorem intsOf_map : ∀ l : List Int, intsOf (l.map .int) = some l
  | [] => rfl
  | i :: l => by rw [List.map_cons, intsOf, intsOf_map l]; rfl
section
variable {P : Pr} {cells : List Int} {n : Nat}
theorem plus_ok {s zg : Nat} {srcs : List Src} (h : Has P s srcs 2 7 (plusB zg)) (hz : P.gl zg = some (.tuple [])) {ds es : List PyData} {a b : O} {g : Bag} (hs : srcs.length = 2) (ha : arr srcs ds es = [a.enc, b.enc]) (h1 : a.ht ≤ 30) (h2 : b.ht ≤ 30) (k1 : a.sz ≤ 1000000) (k2 : b.sz ≤ 1000000) : Φ P cells (n + 1) s ds es g = some ((O.add a b).enc, g) := by
  rw [h.call hs, ha]
  cases b with
  | z =>
    have : cmpD .eq O.z.enc (.tuple []) = some true := O.c_eq (a := .z) (b := .z) (by decide) (by decide)
    simp [evSs, evS, evX, evT, e_var, e_con, e_glo, e_tup, e_lst, e_bin, e_neg, e_cmp, e_and, e_or, e_not, e_ite, e_call, e_bi, e_isi, e_ix, e_sl, evA, evO, evC, evI, seeF, Rf.settle, frzF, putS, putE, wipeE, flat, flats, E.vars, Es.vars, Eo.vars, It.vars, outD, binD, ixD, slD, biD, itemsOf, arr, noList, noLists, lcF, lim, plusB, hz, O.encs, this, O.add]
  | t e c r =>
    have he : e.ht ≤ 30 := by simp only [O.ht] at h2; omega
    have hlen : a.encs.length ≤ lim := by have := O.len_sz a; rw [O.encs_len]; simp only [lim]; omega
    have this : cmpD .eq (O.t e c r).enc (.tuple []) = some false := (O.c_eq (a := .t e c r) (b := .z) (by omega) (by decide)).trans (by simp)
    have l1 : ∀ o2 o3, evE (Φ P cells n) P.gl plusK [some a.enc, some (O.t e c r).enc, o2, o3, some e.enc, some (.int c), none] g = some (.list ((a.ts.filter (fun p => O.lt e p.1)).map O.encT), g) := by
      intro o2 o3
      refine e_lc (ds := a.encs) (g1 := g) (by simp [evSs, evS, evX, evT, e_var, e_con, e_glo, e_tup, e_lst, e_bin, e_neg, e_cmp, e_and, e_or, e_not, e_ite, e_call, e_bi, e_isi, e_ix, e_sl, evA, evO, evC, evI, seeF, Rf.settle, frzF, putS, putE, wipeE, flat, flats, E.vars, Es.vars, Eo.vars, It.vars, outD, binD, ixD, slD, biD, itemsOf, arr, noList, noLists, lcF, lim]) hlen ?_
      rw [O.encs_ts]
      refine comp_filter fun p hp => ?_
      have hp := O.mem_ht hp
      simp [evSs, evS, evX, evT, e_var, e_con, e_glo, e_tup, e_lst, e_bin, e_neg, e_cmp, e_and, e_or, e_not, e_ite, e_call, e_bi, e_isi, e_ix, e_sl, evA, evO, evC, evI, seeF, Rf.settle, frzF, putS, putE, wipeE, flat, flats, E.vars, Es.vars, Eo.vars, It.vars, outD, binD, ixD, slD, biD, itemsOf, arr, noList, noLists, lcF, lim, ats0]
      rw [O.c_gt (by omega) (by omega)]
      cases O.lt e p.1 <;> simp
    have l2 : ∀ o2 o3, evE (Φ P cells n) P.gl plusS [some a.enc, some (O.t e c r).enc, o2, o3, some e.enc, some (.int c), none] g = some (.list ((a.ts.filter (fun p => decide (p.1 = e))).map fun p => .int p.2), g) := by
      intro o2 o3
      refine e_lc (ds := a.encs) (g1 := g) (by simp [evSs, evS, evX, evT, e_var, e_con, e_glo, e_tup, e_lst, e_bin, e_neg, e_cmp, e_and, e_or, e_not, e_ite, e_call, e_bi, e_isi, e_ix, e_sl, evA, evO, evC, evI, seeF, Rf.settle, frzF, putS, putE, wipeE, flat, flats, E.vars, Es.vars, Eo.vars, It.vars, outD, binD, ixD, slD, biD, itemsOf, arr, noList, noLists, lcF, lim]) hlen ?_
      rw [O.encs_ts]
      refine comp_filter fun p hp => ?_
      have hp := O.mem_ht hp
      simp [evSs, evS, evX, evT, e_var, e_con, e_glo, e_tup, e_lst, e_bin, e_neg, e_cmp, e_and, e_or, e_not, e_ite, e_call, e_bi, e_isi, e_ix, e_sl, evA, evO, evC, evI, seeF, Rf.settle, frzF, putS, putE, wipeE, flat, flats, E.vars, Es.vars, Eo.vars, It.vars, outD, binD, ixD, slD, biD, itemsOf, arr, noList, noLists, lcF, lim, ats0, ats1]
      rw [O.c_eq (by omega) (by omega)]
      by_cases q : p.1 = e <;> simp [q]
    have l3 : intsOf ((a.ts.filter (fun p => decide (p.1 = e))).map fun p => PyData.int p.2) = some ((a.ts.filter (fun p => decide (p.1 = e))).map (·.2)) := by
      rw [← intsOf_map, List.map_map]
      rfl
    have l4 : (a.ts.filter (fun p => O.lt e p.1)).length + (r.ts.length + 1) ≤ 16777216 := by
      have i1 := O.len_sz a
      have i2 := O.len_sz r
      have i3 := List.length_filter_le (fun p => O.lt e p.1) a.ts
      have i4 : r.sz ≤ 1000000 := by simp only [O.sz] at k2; omega
      omega
    simp [evSs, evS, evX, evT, e_var, e_con, e_glo, e_tup, e_lst, e_bin, e_neg, e_cmp, e_and, e_or, e_not, e_ite, e_call, e_bi, e_isi, e_ix, e_sl, evA, evO, evC, evI, seeF, Rf.settle, frzF, putS, putE, wipeE, flat, flats, E.vars, Es.vars, Eo.vars, It.vars, outD, binD, ixD, slD, biD, itemsOf, arr, noList, noLists, lcF, lim, plusB, hz, O.encs, this, O.add, ats0, v_plusK, v_plusS, l1, l2, cut1, l3, l4, O.enc_mk, O.encs_ts r]
theorem O.add_ts (a : O) {e : O} {c : Int} {r : O} : (O.add a (.t e c r)).ts = a.ts.filter (fun p => lt e p.1) ++ (e, c + ((a.ts.filter (fun p => decide (p.1 = e))).map (·.2)).sum) :: r.ts := by rw [O.add, O.ts_mk]
theorem O.add_ht {k : Nat} {a b : O} (h1 : a.ht ≤ k) (h2 : b.ht ≤ k) : (O.add a b).ht ≤ k := by
  cases b with
  | z => exact h1
  | t e c r =>
    refine O.ht_of fun p hp => ?_
    rcases List.mem_append.mp hp with hp | hp
    · exact Nat.le_trans (O.mem_ht (List.mem_filter.mp hp).1) h1
    · rcases List.mem_cons.mp hp with hp | hp
      · subst hp
        simp only [O.ht] at h2
        show e.ht + 1 ≤ k
        omega
      · exact Nat.le_trans (O.mem_ht hp) (by simp only [O.ht] at h2; omega)
theorem O.add_sz {a b : O} : (O.add a b).sz ≤ a.sz + b.sz := by
  cases b with
  | z => simp [O.add, O.sz]
  | t e c r =>
    rw [O.add, O.sz_mk, O.szs_app]
    have := O.szs_filter (fun p => lt e p.1) a.ts
    simp only [O.szs, O.szs_ts, O.sz] at *
    omega
/-! ### the law's own sum -/
def sumL : E := .lc (.n 3) [3] (.seq (.var 0)) (.so (.cmp .ge (.ix (.var 3) (.con (.int 0))) (.ix (.ix (.var 1) (.con (.int 0))) (.con (.int 0))))) (.var 3)
theorem v_sumL : sumL.vars = [0, 3, 1, 3] := rfl
def sumB : Ss := (.cons (.ifs (.cmp .eq (.var 1) (.tup .nil)) (.cons (.ret (.var 0)) .nil) .nil) (.cons (.set 2 sumL) (.cons (.ifs (.and (.cmp .ne (.var 2) (.lst .nil)) (.cmp .eq (.ix (.ix (.var 2) (.neg (.con (.int 1)))) (.con (.int 0))) (.ix (.ix (.var 1) (.con (.int 0))) (.con (.int 0))))) (.cons (.ret (.bin .add (.bin .add (.bi .tuple (.sl (.var 2) .no (.so (.neg (.con (.int 1)))))) (.tup (.cons (.tup (.cons (.ix (.ix (.var 1) (.con (.int 0))) (.con (.int 0))) (.cons (.bin .add (.ix (.ix (.var 2) (.neg (.con (.int 1)))) (.con (.int 1))) (.ix (.ix (.var 1) (.con (.int 0))) (.con (.int 1)))) .nil))) .nil))) (.sl (.var 1) (.so (.con (.int 1))) .no))) .nil) .nil) (.cons (.ret (.bin .add (.bi .tuple (.var 2)) (.var 1))) .nil))))
/-- among the terms of a form: those that are at least e, by whether e is one of them -/
theorem O.split {e : O} : ∀ {l : List (O × Int)}, O.nfs l →
    (∃ ks c, l.filter (fun p => !lt p.1 e) = ks ++ [(e, c)] ∧ l.filter (fun p => lt e p.1) = ks ∧ l.filter (fun p => decide (p.1 = e)) = [(e, c)]) ∨
    (l.filter (fun p => !lt p.1 e) = l.filter (fun p => lt e p.1) ∧ l.filter (fun p => decide (p.1 = e)) = [])
  | [], _ => .inr ⟨rfl, rfl⟩
  | p :: l, h => by
    have hl := O.nfs_lt h
    rcases O.lt_tri p.1 e with q | q | q
    · have e1 : lt e p.1 = false := O.lt_asy q
      have e2 : p.1 ≠ e := O.lt_ne q
      have n1 : l.filter (fun p => !lt p.1 e) = [] := List.filter_eq_nil_iff.mpr fun x hx => by
        rw [O.lt_trans (hl x hx) q]; simp
      have n2 : l.filter (fun p => lt e p.1) = [] := List.filter_eq_nil_iff.mpr fun x hx => by
        rw [O.lt_asy (O.lt_trans (hl x hx) q)]; simp
      have n3 : l.filter (fun p => decide (p.1 = e)) = [] := List.filter_eq_nil_iff.mpr fun x hx => by
        have := O.lt_ne (O.lt_trans (hl x hx) q); simp [this]
      right
      simp [List.filter_cons, q, e1, e2, n1, n2, n3]
    · have n1 : l.filter (fun p => !lt p.1 e) = [] := List.filter_eq_nil_iff.mpr fun x hx => by
        have := hl x hx; rw [q] at this; rw [this]; simp
      have n2 : l.filter (fun p => lt e p.1) = [] := List.filter_eq_nil_iff.mpr fun x hx => by
        have := hl x hx; rw [q] at this; rw [O.lt_asy this]; simp
      have n3 : l.filter (fun p => decide (p.1 = e)) = [] := List.filter_eq_nil_iff.mpr fun x hx => by
        have := hl x hx; rw [q] at this; have := O.lt_ne this; simp [this]
      obtain ⟨pe, pc⟩ := p
      simp only at q
      subst q
      left
      exact ⟨[], pc, by simp [List.filter_cons, O.lt_irr, n1], by simp [List.filter_cons, O.lt_irr, n2], by simp [List.filter_cons, n3]⟩
    · have e1 : lt p.1 e = false := O.lt_asy q
      have e2 : p.1 ≠ e := (O.lt_ne q).symm
      rcases O.split h.2.2.1 (e := e) with ⟨ks, c, a1, a2, a3⟩ | ⟨a1, a2⟩
      · left
        exact ⟨p :: ks, c, by simp [List.filter_cons, e1, a1], by simp [List.filter_cons, q, a2], by simp [List.filter_cons, e2, a3]⟩
      · right
        exact ⟨by simp [List.filter_cons, e1, q, a1], by simp [List.filter_cons, e2, a2]⟩
theorem atsL {α : Type} (l : List α) (x : α) : L2.atI (l ++ [x]) (-1) = some x := by
  unfold L2.atI L2.ixN
  rw [if_neg (by decide), if_pos (by simp only [List.length_append, List.length_singleton]; omega)]
  have : ((-1 : Int) + ((l ++ [x]).length : Nat)).toNat = l.length := by simp only [List.length_append, List.length_singleton]; omega
  show (l ++ [x])[((-1 : Int) + ((l ++ [x]).length : Nat)).toNat]? = _
  rw [this]
  simp
theorem cutL {α : Type} (l : List α) (x : α) : cut (l ++ [x]) none (some (-1)) = l := by
  have : ((-1 : Int) + ((l ++ [x]).length : Nat)).toNat = l.length := by simp only [List.length_append, List.length_singleton]; omega
  unfold cut HT.sIx
  simp only [show ((-1 : Int) < 0) from by decide, if_true, this]
  simp
end
end Rf

set_option maxHeartbeats 400000
/-! What the common defs compute: the law's own. -/
namespace Rf
open PySem PySem.W L2 PyProof.Rows
theorem O.shpL {l : List (O × Int)} (h : (O.mk l).ht ≤ 31) : SeqAt.shaped (.list (l.map O.encT)) = true := by
  have := O.shp h
  rw [O.enc_mk] at this
  exact this
theorem O.cl_ne {l : List (O × Int)} (h : (O.mk l).ht ≤ 31) : cmpD .ne (.list (l.map O.encT)) (.list []) = some (!l.isEmpty) := by
  have q : SeqAt.shaped (.list []) = true := by decide +kernel
  simp only [cmpD, O.shpL h, q, Bool.and_self, if_true, PyData.eqv]
  cases l <;> simp [PyData.eqvAll]
theorem O.cl_eq {l : List (O × Int)} (h : (O.mk l).ht ≤ 31) : cmpD .eq (.list (l.map O.encT)) (.list []) = some (l.isEmpty) := by
  have q : SeqAt.shaped (.list []) = true := by decide +kernel
  simp only [cmpD, O.shpL h, q, Bool.and_self, if_true, PyData.eqv]
  cases l <;> simp [PyData.eqvAll]
section
variable {P : Pr} {cells : List Int} {n : Nat}
theorem sum_ok {s : Nat} {srcs : List Src} (h : Has P s srcs 2 4 sumB) {ds es : List PyData} {a b : O} {g : Bag} (hs : srcs.length = 2) (ha : arr srcs ds es = [a.enc, b.enc]) (hn : a.nf) (h1 : a.ht ≤ 30) (h2 : b.ht ≤ 30) (k1 : a.sz ≤ 1000000) (k2 : b.sz ≤ 1000000) : Φ P cells (n + 1) s ds es g = some ((O.add a b).enc, g) := by
  rw [h.call hs, ha]
  cases b with
  | z =>
    have : cmpD .eq O.z.enc (.tuple []) = some true := O.c_eq (a := .z) (b := .z) (by decide) (by decide)
    simp [evSs, evS, evX, evT, e_var, e_con, e_glo, e_tup, e_lst, e_bin, e_neg, e_cmp, e_and, e_or, e_not, e_ite, e_call, e_bi, e_isi, e_ix, e_sl, evA, evO, evC, evI, seeF, Rf.settle, frzF, putS, putE, wipeE, flat, flats, E.vars, Es.vars, Eo.vars, It.vars, outD, binD, ixD, slD, biD, itemsOf, arr, noList, noLists, lcF, lim, sumB, O.encs, this, O.add]
  | t e c r =>
    have he : e.ht ≤ 30 := by simp only [O.ht] at h2; omega
    have hr : r.sz ≤ 1000000 := by simp only [O.sz] at k2; omega
    have hlen : a.encs.length ≤ lim := by have := O.len_sz a; rw [O.encs_len]; simp only [lim]; omega
    have this : cmpD .eq (O.t e c r).enc (.tuple []) = some false := (O.c_eq (a := .t e c r) (b := .z) (by omega) (by decide)).trans (by simp)
    have l1 : ∀ o2, evE (Φ P cells n) P.gl sumL [some a.enc, some (O.t e c r).enc, o2, none] g = some (.list ((a.ts.filter (fun p => !O.lt p.1 e)).map O.encT), g) := by
      intro o2
      refine e_lc (ds := a.encs) (g1 := g) (by simp [evSs, evS, evX, evT, e_var, e_con, e_glo, e_tup, e_lst, e_bin, e_neg, e_cmp, e_and, e_or, e_not, e_ite, e_call, e_bi, e_isi, e_ix, e_sl, evA, evO, evC, evI, seeF, Rf.settle, frzF, putS, putE, wipeE, flat, flats, E.vars, Es.vars, Eo.vars, It.vars, outD, binD, ixD, slD, biD, itemsOf, arr, noList, noLists, lcF, lim]) hlen ?_
      rw [O.encs_ts]
      refine comp_filter fun p hp => ?_
      have hp := O.mem_ht hp
      simp [evSs, evS, evX, evT, e_var, e_con, e_glo, e_tup, e_lst, e_bin, e_neg, e_cmp, e_and, e_or, e_not, e_ite, e_call, e_bi, e_isi, e_ix, e_sl, evA, evO, evC, evI, seeF, Rf.settle, frzF, putS, putE, wipeE, flat, flats, E.vars, Es.vars, Eo.vars, It.vars, outD, binD, ixD, slD, biD, itemsOf, arr, noList, noLists, lcF, lim, ats0, O.encs]
      rw [O.c_ge (by omega) (by omega)]
      cases O.lt p.1 e <;> simp
    have hh : ∀ q : O × Int → Bool, (O.mk (a.ts.filter q)).ht ≤ 31 := fun q => O.ht_of fun p hp => Nat.le_trans (O.mem_ht (List.mem_filter.mp hp).1) (by omega)
    have l2 := O.cl_ne (hh (fun p => !O.lt p.1 e))
    have ln : ∀ q : O × Int → Bool, (a.ts.filter q).length ≤ 1000000 := fun q => by
      have i1 := O.len_sz a
      have i3 := List.length_filter_le q a.ts
      omega
    have lr : r.ts.length ≤ 1000000 := by
      have i1 := O.len_sz r
      omega
    rcases O.split ((O.nfs_ts a).mpr hn) (e := e) with ⟨ks, c0, q1, q2, q3⟩ | ⟨q1, q2⟩
    · have m1 := ln (fun p => O.lt e p.1)
      rw [q2] at m1
      have l3 : cmpD .eq e.enc e.enc = some true := (O.c_eq (by omega) (by omega)).trans (by simp)
      rw [q1] at l1 l2
      have l2' : cmpD .ne (.list ((ks ++ [(e, c0)]).map O.encT)) (.list []) = some true := l2.trans (by simp)
      simp only [List.map_append, List.map_cons, List.map_nil] at l1 l2'
      have m2 : ks.length + 1 ≤ 16777216 := by omega
      have m3 : ks.length + 1 + r.ts.length ≤ 16777216 := by omega
      simp [evSs, evS, evX, evT, e_var, e_con, e_glo, e_tup, e_lst, e_bin, e_neg, e_cmp, e_and, e_or, e_not, e_ite, e_call, e_bi, e_isi, e_ix, e_sl, evA, evO, evC, evI, seeF, Rf.settle, frzF, putS, putE, wipeE, flat, flats, E.vars, Es.vars, Eo.vars, It.vars, outD, binD, ixD, slD, biD, itemsOf, arr, noList, noLists, lcF, lim, sumB, O.encs, this, v_sumL, l1, l2', ats0, ats1, atsL, l3, cut1, cutL, O.add, q2, q3, O.enc_mk, O.encs_ts r, m2, m3, Int.add_comm]
    · rw [q1] at l1 l2
      have m1 := ln (fun p => O.lt e p.1)
      have m3 : (a.ts.filter (fun p => O.lt e p.1)).length + (r.ts.length + 1) ≤ 16777216 := by omega
      rcases List.eq_nil_or_concat (a.ts.filter (fun p => O.lt e p.1)) with z | ⟨l', p, z⟩
      · rw [z] at l1 l2 m3
        simp only [List.map_nil] at l1 l2
        have l2' : cmpD .ne (.list []) (.list []) = some false := l2.trans (by simp)
        have m3 : r.ts.length + 1 ≤ 16777216 := by simpa using m3
        simp [evSs, evS, evX, evT, e_var, e_con, e_glo, e_tup, e_lst, e_bin, e_neg, e_cmp, e_and, e_or, e_not, e_ite, e_call, e_bi, e_isi, e_ix, e_sl, evA, evO, evC, evI, seeF, Rf.settle, frzF, putS, putE, wipeE, flat, flats, E.vars, Es.vars, Eo.vars, It.vars, outD, binD, ixD, slD, biD, itemsOf, arr, noList, noLists, lcF, lim, sumB, O.encs, this, v_sumL, l1, l2', O.add, z, q2, O.enc_mk, O.encs_ts r, m3]
      · have hp : p ∈ a.ts.filter (fun p => O.lt e p.1) := by rw [z]; simp
        have hp1 := O.mem_ht (List.mem_filter.mp hp).1
        have hp2 : p.1 ≠ e := (O.lt_ne (by simpa using (List.mem_filter.mp hp).2)).symm
        have l3 : cmpD .eq p.1.enc e.enc = some false := (O.c_eq (by omega) (by omega)).trans (by simp [hp2])
        rw [z] at l1 l2 m3
        have l2' : cmpD .ne (.list ((l'.concat p).map O.encT)) (.list []) = some true := l2.trans (by simp)
        simp only [List.concat_eq_append, List.map_append, List.map_cons, List.map_nil] at l1 l2'
        have m3 : l'.length + 1 + (r.ts.length + 1) ≤ 16777216 := by simpa using m3
        simp [evSs, evS, evX, evT, e_var, e_con, e_glo, e_tup, e_lst, e_bin, e_neg, e_cmp, e_and, e_or, e_not, e_ite, e_call, e_bi, e_isi, e_ix, e_sl, evA, evO, evC, evI, seeF, Rf.settle, frzF, putS, putE, wipeE, flat, flats, E.vars, Es.vars, Eo.vars, It.vars, outD, binD, ixD, slD, biD, itemsOf, arr, noList, noLists, lcF, lim, sumB, O.encs, this, v_sumL, l1, l2', ats0, ats1, atsL, l3, O.add, z, q2, O.enc_mk, O.encs_ts r, m3]
/-! ### ends -/
def endB : Ss := (.cons (.ret (.ite (.cmp .ne (.var 0) (.tup .nil)) (.ix (.ix (.var 0) (.neg (.con (.int 1)))) (.con (.int 0))) (.tup .nil))) .nil)
def endG (zg : Nat) : Ss := (.cons (.ret (.ite (.cmp .ne (.var 0) (.glo zg)) (.ix (.ix (.var 0) (.neg (.con (.int 1)))) (.con (.int 0))) (.glo zg))) .nil)
def O.last (o : O) : O := match o.ts.getLast? with
  | some p => p.1
  | none => .z
theorem O.cz_ne {a : O} (h : a.ht ≤ 31) : cmpD .ne a.enc (.tuple []) = some (!decide (a = .z)) := O.c_ne (a := a) (b := .z) h (by decide)
theorem O.cz_eq {a : O} (h : a.ht ≤ 31) : cmpD .eq a.enc (.tuple []) = some (decide (a = .z)) := O.c_eq (a := a) (b := .z) h (by decide)
theorem O.cases_last (a : O) : a = .z ∨ ∃ l e c, a.ts = l ++ [(e, c)] ∧ a.encs = l.map O.encT ++ [O.encT (e, c)] ∧ a.last = e ∧ a ≠ .z := by
  rcases List.eq_nil_or_concat a.ts with z | ⟨l', p, z⟩
  · left
    exact O.ts_inj z
  · right
    obtain ⟨e, c⟩ := p
    rw [List.concat_eq_append] at z
    refine ⟨l', e, c, z, ?_, ?_, fun q => ?_⟩
    · rw [O.encs_ts, z]
      simp
    · unfold O.last
      rw [z]
      simp
    · subst q
      simp [O.ts] at z
theorem end_ok {s : Nat} (h : Has P s [.p 0] 1 1 endB) {a : O} {g : Bag} (h1 : a.ht ≤ 30) : Φ P cells (n + 1) s [a.enc] [] g = some (a.last.enc, g) := by
  rw [h.call rfl]
  have h2 := O.cz_ne (a := a) (by omega)
  rcases O.cases_last a with z | ⟨l, e, c, q1, q2, q3, q4⟩
  · subst z
    have h2 : cmpD .ne O.z.enc (.tuple []) = some false := h2
    simp [evSs, evS, evX, evT, e_var, e_con, e_glo, e_tup, e_lst, e_bin, e_neg, e_cmp, e_and, e_or, e_not, e_ite, e_call, e_bi, e_isi, e_ix, e_sl, evA, evO, evC, evI, seeF, Rf.settle, frzF, putS, putE, wipeE, flat, flats, E.vars, Es.vars, Eo.vars, It.vars, outD, binD, ixD, slD, biD, itemsOf, arr, noList, noLists, lcF, lim, endB, h2]
    rfl
  · have h2 : cmpD .ne a.enc (.tuple []) = some true := h2.trans (by simp [q4])
    simp [evSs, evS, evX, evT, e_var, e_con, e_glo, e_tup, e_lst, e_bin, e_neg, e_cmp, e_and, e_or, e_not, e_ite, e_call, e_bi, e_isi, e_ix, e_sl, evA, evO, evC, evI, seeF, Rf.settle, frzF, putS, putE, wipeE, flat, flats, E.vars, Es.vars, Eo.vars, It.vars, outD, binD, ixD, slD, biD, itemsOf, arr, noList, noLists, lcF, lim, endB, h2, q2, atsL, ats0, q3]
theorem endG_ok {s zg : Nat} (h : Has P s [.p 0] 1 1 (endG zg)) (hz : P.gl zg = some (.tuple [])) {a : O} {g : Bag} (h1 : a.ht ≤ 30) : Φ P cells (n + 1) s [a.enc] [] g = some (a.last.enc, g) := by
  rw [h.call rfl]
  have h2 := O.cz_ne (a := a) (by omega)
  rcases O.cases_last a with z | ⟨l, e, c, q1, q2, q3, q4⟩
  · subst z
    have h2 : cmpD .ne O.z.enc (.tuple []) = some false := h2
    simp [evSs, evS, evX, evT, e_var, e_con, e_glo, e_tup, e_lst, e_bin, e_neg, e_cmp, e_and, e_or, e_not, e_ite, e_call, e_bi, e_isi, e_ix, e_sl, evA, evO, evC, evI, seeF, Rf.settle, frzF, putS, putE, wipeE, flat, flats, E.vars, Es.vars, Eo.vars, It.vars, outD, binD, ixD, slD, biD, itemsOf, arr, noList, noLists, lcF, lim, endG, hz, h2]
    rfl
  · have h2 : cmpD .ne a.enc (.tuple []) = some true := h2.trans (by simp [q4])
    simp [evSs, evS, evX, evT, e_var, e_con, e_glo, e_tup, e_lst, e_bin, e_neg, e_cmp, e_and, e_or, e_not, e_ite, e_call, e_bi, e_isi, e_ix, e_sl, evA, evO, evC, evI, seeF, Rf.settle, frzF, putS, putE, wipeE, flat, flats, E.vars, Es.vars, Eo.vars, It.vars, outD, binD, ixD, slD, biD, itemsOf, arr, noList, noLists, lcF, lim, endG, hz, h2, q2, atsL, ats0, q3]
/-! ### numbers and nexts -/
def numB : Ss := (.cons (.ret (.ite (.cmp .gt (.var 0) (.con (.int 0))) (.tup (.cons (.tup (.cons (.tup .nil) (.cons (.var 0) .nil))) .nil)) (.tup .nil))) .nil)
def O.num (i : Int) : O := if 0 < i then .t .z i .z else .z
theorem ci_lt (i j : Int) : cmpD .lt (.int i) (.int j) = some (decide (i < j)) := by
  simp [cmpD, okLt, SeqAt.shaped, PyData.canLay0, PyData.depth, alike, isNone, dataLt_int]
theorem ci_gt (i j : Int) : cmpD .gt (.int i) (.int j) = some (decide (j < i)) := by
  simp [cmpD, okLt, SeqAt.shaped, PyData.canLay0, PyData.depth, alike, isNone, dataLt_int]
theorem ci_le (i j : Int) : cmpD .le (.int i) (.int j) = some (decide (i ≤ j)) := by
  simp [cmpD, okLt, SeqAt.shaped, PyData.canLay0, PyData.depth, alike, isNone, dataLt_int]
  by_cases h : i ≤ j
  · simp [h] <;> omega
  · simp [h] <;> omega
theorem ci_ge (i j : Int) : cmpD .ge (.int i) (.int j) = some (decide (j ≤ i)) := by
  simp [cmpD, okLt, SeqAt.shaped, PyData.canLay0, PyData.depth, alike, isNone, dataLt_int]
  by_cases h : j ≤ i
  · simp [h] <;> omega
  · simp [h] <;> omega
theorem ci_eq (i j : Int) : cmpD .eq (.int i) (.int j) = some (decide (i = j)) := by
  simp [cmpD, SeqAt.shaped, PyData.canLay0, PyData.depth, PyData.eqv]
  rfl
theorem ci_ne (i j : Int) : cmpD .ne (.int i) (.int j) = some (!decide (i = j)) := by
  simp [cmpD, SeqAt.shaped, PyData.canLay0, PyData.depth, PyData.eqv]
  rfl
theorem num_ok {s : Nat} (h : Has P s [.p 0] 1 1 numB) {i : Int} {g : Bag} : Φ P cells (n + 1) s [.int i] [] g = some ((O.num i).enc, g) := by
  rw [h.call rfl]
  by_cases q : 0 < i
  · simp [evSs, evS, evX, evT, e_var, e_con, e_glo, e_tup, e_lst, e_bin, e_neg, e_cmp, e_and, e_or, e_not, e_ite, e_call, e_bi, e_isi, e_ix, e_sl, evA, evO, evC, evI, seeF, Rf.settle, frzF, putS, putE, wipeE, flat, flats, E.vars, Es.vars, Eo.vars, It.vars, outD, binD, ixD, slD, biD, itemsOf, arr, noList, noLists, lcF, lim, numB, ci_gt, q, O.num, O.encs]
  · simp [evSs, evS, evX, evT, e_var, e_con, e_glo, e_tup, e_lst, e_bin, e_neg, e_cmp, e_and, e_or, e_not, e_ite, e_call, e_bi, e_isi, e_ix, e_sl, evA, evO, evC, evI, seeF, Rf.settle, frzF, putS, putE, wipeE, flat, flats, E.vars, Es.vars, Eo.vars, It.vars, outD, binD, ixD, slD, biD, itemsOf, arr, noList, noLists, lcF, lim, numB, ci_gt, q, O.num, O.encs]
theorem O.num_nf (i : Int) : (O.num i).nf := by
  unfold O.num
  split
  · refine ⟨trivial, by omega, trivial, fun p hp => by cases hp⟩
  · trivial
theorem O.num_ht (i : Int) : (O.num i).ht ≤ 1 := by
  unfold O.num
  split <;> simp [O.ht]
theorem O.num_sz (i : Int) : (O.num i).sz ≤ 1 := by
  unfold O.num
  split <;> simp [O.sz]
def succB (p og : Nat) : Ss := (.cons (.ret (.call p (.cons (.var 0) (.cons (.glo og) .nil)) .nil)) .nil)
/-! ### a drawn one of some -/
def ofB (p : Nat) : Ss := (.cons (.ret (.ix (.var 1) (.call p (.cons (.var 0) (.cons (.bi .len (.var 1)) .nil)) .nil))) .nil)
theorem ats_nat {α : Type} {l : List α} {i : Int} (h0 : 0 ≤ i) (h : i < l.length) : ∃ x, x ∈ l ∧ L2.atI l i = some x := by
  unfold L2.atI L2.ixN
  rw [if_pos h0, if_pos h]
  have hi : i.toNat < l.length := by omega
  refine ⟨l[i.toNat], List.getElem_mem hi, ?_⟩
  show l[i.toNat]? = _
  rw [List.getElem?_eq_getElem hi]
theorem of_ok {s p : Nat} (h : Has P s [.p 0, .p 1] 2 2 (ofB p)) (hp : HasPull P p) {ds : List PyData} {d : PyData} (hd : d = .tuple ds ∨ d = .list ds) {g : Bag} (h0 : ds ≠ []) (h1 : ds.length ≤ lim) : ∃ x g', x ∈ ds ∧ Φ P cells (n + 2) s [bag, d] [] g = some (x, g') := by
  have hl : 0 < ds.length := List.length_pos_iff.mpr h0
  have hm : (0 : Int) < (ds.length : Int) ∧ ((ds.length : Int)).natAbs.log2 < 9000 := ⟨by omega, log_lt (k := 25) (by simp only [lim] at h1; simp; omega) (by decide) (by decide)⟩
  have hq := hp.call (cells := cells) (n := n) (g := g) hm
  have hb := pull_lt cells g hm.1
  obtain ⟨x, hx, hx2⟩ := ats_nat hb.1 hb.2
  refine ⟨x, (pull cells g ds.length).2, hx, ?_⟩
  rw [h.call rfl]
  rcases hd with rfl | rfl
  · simp [evSs, evS, evX, evT, e_var, e_con, e_glo, e_tup, e_lst, e_bin, e_neg, e_cmp, e_and, e_or, e_not, e_ite, e_call, e_bi, e_isi, e_ix, e_sl, evA, evO, evC, evI, seeF, Rf.settle, frzF, putS, putE, wipeE, flat, flats, E.vars, Es.vars, Eo.vars, It.vars, outD, binD, ixD, slD, biD, itemsOf, arr, noList, noLists, lcF, lim, ofB, hq, hx2]
  · simp [evSs, evS, evX, evT, e_var, e_con, e_glo, e_tup, e_lst, e_bin, e_neg, e_cmp, e_and, e_or, e_not, e_ite, e_call, e_bi, e_isi, e_ix, e_sl, evA, evO, evC, evI, seeF, Rf.settle, frzF, putS, putE, wipeE, flat, flats, E.vars, Es.vars, Eo.vars, It.vars, outD, binD, ixD, slD, biD, itemsOf, arr, noList, noLists, lcF, lim, ofB, hq, hx2]
end
end Rf

set_option maxHeartbeats 400000
/-! Sameness; drawn ordinals. -/
namespace Rf
open PySem PySem.W L2 PyProof.Rows
mutual
def smD : PyData → Bool
  | .none => true
  | .bool _ => true
  | .int _ => true
  | .str s => PyData.canLay0 (.str s)
  | .list ds => decide (ds.length ≤ 16777216) && smDs ds
  | .tuple ds => decide (ds.length ≤ 16777216) && smDs ds
  | .dict _ => false
def smDs : List PyData → Bool
  | [] => true
  | d :: ds => smD d && smDs ds
end
theorem smDs_mem : ∀ {ds : List PyData} {d : PyData}, smDs ds = true → d ∈ ds → smD d = true
  | e :: ds, d, h, m => by
    rw [smDs, Bool.and_eq_true] at h
    cases m with
    | head => exact h.1
    | tail _ m => exact smDs_mem h.2 m
theorem depth_mem : ∀ {ds : List PyData} {d : PyData}, d ∈ ds → d.depth ≤ PyData.depthAll ds
  | e :: ds, d, m => by
    rw [PyData.depthAll]
    cases m with
    | head => exact Nat.le_max_left _ _
    | tail _ m => exact Nat.le_trans (depth_mem m) (Nat.le_max_right _ _)
theorem cb_ne (i j : Bool) : cmpD .ne (.bool i) (.bool j) = some (i != j) := by
  simp [cmpD, SeqAt.shaped, PyData.canLay0, PyData.depth, PyData.eqv]
  cases i <;> cases j <;> rfl
theorem cb_eq (i j : Bool) : cmpD .eq (.bool i) (.bool j) = some (i == j) := by
  simp [cmpD, SeqAt.shaped, PyData.canLay0, PyData.depth, PyData.eqv]
theorem ci_none : cmpD .is .none .none = some true := by simp [cmpD]
theorem ci_bool (b : Bool) : cmpD .is (.bool b) .none = some false := by simp [cmpD]
theorem ci_int (b : Int) : cmpD .is (.int b) .none = some false := by simp [cmpD]
theorem ci_str (b : Str) : cmpD .is (.str b) .none = some false := by simp [cmpD]
theorem ci_tup (b : List PyData) : cmpD .is (.tuple b) .none = some false := by simp [cmpD]
theorem cs_self {b : Str} (h : PyData.canLay0 (.str b) = true) : cmpD .eq (.str b) (.str b) = some true := by simp [cmpD, SeqAt.shaped, h, PyData.depth, PyData.eqv]
theorem boolsOf_map : ∀ l : List Bool, boolsOf (l.map .bool) = some l
  | [] => rfl
  | i :: l => by rw [List.map_cons, boolsOf, boolsOf_map l]; rfl
def sameL (s : Nat) : E := .lc (.n 2) [2] (.rng (.bi .len (.var 1))) .no (.call s (.cons (.ix (.var 0) (.var 2)) (.cons (.ix (.var 1) (.var 2)) .nil)) .nil)
theorem v_sameL (s : Nat) : (sameL s).vars = [1, 0, 2, 1, 2] := rfl
def sameB (s : Nat) : Ss := (.cons (.ifs (.isi (.var 1) [.list, .tuple]) (.cons (.ifs (.or (.cmp .ne (.isi (.var 0) [.list]) (.isi (.var 1) [.list])) (.cmp .ne (.isi (.var 0) [.tuple]) (.isi (.var 1) [.tuple]))) (.cons (.ret (.con (.bool false))) .nil) .nil) (.cons (.ret (.and (.cmp .eq (.bi .len (.var 0)) (.bi .len (.var 1))) (.bi .all (sameL s)))) .nil)) .nil) (.cons (.ifs (.or (.cmp .is (.var 1) (.con .none)) (.cmp .is (.var 0) (.con .none))) (.cons (.ret (.and (.cmp .is (.var 0) (.con .none)) (.cmp .is (.var 1) (.con .none)))) .nil) .nil) (.cons (.ifs (.or (.cmp .ne (.isi (.var 1) [.bool]) (.isi (.var 0) [.bool])) (.cmp .ne (.isi (.var 1) [.int]) (.isi (.var 0) [.int]))) (.cons (.ret (.con (.bool false))) .nil) .nil) (.cons (.ret (.and (.cmp .eq (.isi (.var 1) [.str]) (.isi (.var 0) [.str])) (.cmp .eq (.var 0) (.var 1)))) .nil))))
section
variable {P : Pr} {cells : List Int}
theorem ats_get {α : Type} {l : List α} {i : Nat} (h : i < l.length) : L2.atI l (i : Int) = some l[i] := by
  unfold L2.atI L2.ixN
  rw [if_pos (by omega), if_pos (by omega)]
  show l[((i : Nat) : Int).toNat]? = _
  rw [Int.toNat_natCast, List.getElem?_eq_getElem h]
theorem same_list {s n : Nat} (ds : List PyData) {d : PyData} (hd : d = .tuple ds ∨ d = .list ds) {g : Bag} (hl : ds.length ≤ 16777216) (ih : ∀ x ∈ ds, Φ P cells n s [x, x] [] g = some (.bool true, g)) :
    evE (Φ P cells n) P.gl (sameL s) [some d, some d, none] g = some (.list ((List.range ds.length).map fun _ => .bool true), g) := by
  refine e_lc (ds := rangeD 0 ds.length) (g1 := g) ?_ (by simpa [rangeD] using hl) ?_
  · have : -(16777216 : Int) ≤ (ds.length : Int) ∧ (ds.length : Int) ≤ 16777216 := ⟨by omega, by omega⟩
    rcases hd with rfl | rfl <;> simp [evSs, evS, evX, evT, e_var, e_con, e_glo, e_tup, e_lst, e_bin, e_neg, e_cmp, e_and, e_or, e_not, e_ite, e_call, e_bi, e_isi, e_ix, e_sl, evA, evO, evC, evI, seeF, Rf.settle, frzF, putS, putE, wipeE, flat, flats, E.vars, Es.vars, Eo.vars, It.vars, outD, binD, ixD, slD, biD, itemsOf, arr, noList, noLists, lcF, lim, this]
  · unfold rangeD
    refine comp_map fun i hi => ?_
    have hi : i < ds.length := List.mem_range.mp hi
    have h2 : L2.atI ds (0 + (i : Int)) = some ds[i] := by
      rw [Int.zero_add]
      exact ats_get hi
    have h3 := ih ds[i] (List.getElem_mem hi)
    rcases hd with rfl | rfl <;> simp [evSs, evS, evX, evT, e_var, e_con, e_glo, e_tup, e_lst, e_bin, e_neg, e_cmp, e_and, e_or, e_not, e_ite, e_call, e_bi, e_isi, e_ix, e_sl, evA, evO, evC, evI, seeF, Rf.settle, frzF, putS, putE, wipeE, flat, flats, E.vars, Es.vars, Eo.vars, It.vars, outD, binD, ixD, slD, biD, itemsOf, arr, noList, noLists, lcF, lim, h2, h3, -Int.zero_add]
theorem same_ok {s : Nat} (h : Has P s [.p 0, .p 1] 2 3 (sameB s)) : ∀ (k n : Nat) (d : PyData) (g : Bag), smD d = true → d.depth ≤ k → k ≤ 64 → Φ P cells (n + k + 1) s [d, d] [] g = some (.bool true, g) := by
  intro k
  induction k with
  | zero =>
    intro n d g hs hd _
    rw [h.call rfl]
    cases d with
    | none => simp [evSs, evS, evX, evT, e_var, e_con, e_glo, e_tup, e_lst, e_bin, e_neg, e_cmp, e_and, e_or, e_not, e_ite, e_call, e_bi, e_isi, e_ix, e_sl, evA, evO, evC, evI, seeF, Rf.settle, frzF, putS, putE, wipeE, flat, flats, E.vars, Es.vars, Eo.vars, It.vars, outD, binD, ixD, slD, biD, itemsOf, arr, noList, noLists, lcF, lim, sameB, tyOk, tyIs, cb_ne, cb_eq, ci_none]
    | bool b => simp [evSs, evS, evX, evT, e_var, e_con, e_glo, e_tup, e_lst, e_bin, e_neg, e_cmp, e_and, e_or, e_not, e_ite, e_call, e_bi, e_isi, e_ix, e_sl, evA, evO, evC, evI, seeF, Rf.settle, frzF, putS, putE, wipeE, flat, flats, E.vars, Es.vars, Eo.vars, It.vars, outD, binD, ixD, slD, biD, itemsOf, arr, noList, noLists, lcF, lim, sameB, tyOk, tyIs, cb_ne, cb_eq, ci_bool]
    | int b => simp [evSs, evS, evX, evT, e_var, e_con, e_glo, e_tup, e_lst, e_bin, e_neg, e_cmp, e_and, e_or, e_not, e_ite, e_call, e_bi, e_isi, e_ix, e_sl, evA, evO, evC, evI, seeF, Rf.settle, frzF, putS, putE, wipeE, flat, flats, E.vars, Es.vars, Eo.vars, It.vars, outD, binD, ixD, slD, biD, itemsOf, arr, noList, noLists, lcF, lim, sameB, tyOk, tyIs, cb_ne, cb_eq, ci_int, ci_eq]
    | str b =>
      rw [smD] at hs
      simp [evSs, evS, evX, evT, e_var, e_con, e_glo, e_tup, e_lst, e_bin, e_neg, e_cmp, e_and, e_or, e_not, e_ite, e_call, e_bi, e_isi, e_ix, e_sl, evA, evO, evC, evI, seeF, Rf.settle, frzF, putS, putE, wipeE, flat, flats, E.vars, Es.vars, Eo.vars, It.vars, outD, binD, ixD, slD, biD, itemsOf, arr, noList, noLists, lcF, lim, sameB, tyOk, tyIs, cb_ne, cb_eq, ci_str, cs_self hs]
    | list ds => simp [PyData.depth] at hd
    | tuple ds => simp [PyData.depth] at hd
    | dict ds => cases hs
  | succ k ih =>
    intro n d g hs hd hk
    rw [h.call rfl]
    cases d with
    | none => simp [evSs, evS, evX, evT, e_var, e_con, e_glo, e_tup, e_lst, e_bin, e_neg, e_cmp, e_and, e_or, e_not, e_ite, e_call, e_bi, e_isi, e_ix, e_sl, evA, evO, evC, evI, seeF, Rf.settle, frzF, putS, putE, wipeE, flat, flats, E.vars, Es.vars, Eo.vars, It.vars, outD, binD, ixD, slD, biD, itemsOf, arr, noList, noLists, lcF, lim, sameB, tyOk, tyIs, cb_ne, cb_eq, ci_none]
    | bool b => simp [evSs, evS, evX, evT, e_var, e_con, e_glo, e_tup, e_lst, e_bin, e_neg, e_cmp, e_and, e_or, e_not, e_ite, e_call, e_bi, e_isi, e_ix, e_sl, evA, evO, evC, evI, seeF, Rf.settle, frzF, putS, putE, wipeE, flat, flats, E.vars, Es.vars, Eo.vars, It.vars, outD, binD, ixD, slD, biD, itemsOf, arr, noList, noLists, lcF, lim, sameB, tyOk, tyIs, cb_ne, cb_eq, ci_bool]
    | int b => simp [evSs, evS, evX, evT, e_var, e_con, e_glo, e_tup, e_lst, e_bin, e_neg, e_cmp, e_and, e_or, e_not, e_ite, e_call, e_bi, e_isi, e_ix, e_sl, evA, evO, evC, evI, seeF, Rf.settle, frzF, putS, putE, wipeE, flat, flats, E.vars, Es.vars, Eo.vars, It.vars, outD, binD, ixD, slD, biD, itemsOf, arr, noList, noLists, lcF, lim, sameB, tyOk, tyIs, cb_ne, cb_eq, ci_int, ci_eq]
    | str b =>
      rw [smD] at hs
      simp [evSs, evS, evX, evT, e_var, e_con, e_glo, e_tup, e_lst, e_bin, e_neg, e_cmp, e_and, e_or, e_not, e_ite, e_call, e_bi, e_isi, e_ix, e_sl, evA, evO, evC, evI, seeF, Rf.settle, frzF, putS, putE, wipeE, flat, flats, E.vars, Es.vars, Eo.vars, It.vars, outD, binD, ixD, slD, biD, itemsOf, arr, noList, noLists, lcF, lim, sameB, tyOk, tyIs, cb_ne, cb_eq, ci_str, cs_self hs]
    | list ds =>
      rw [smD, Bool.and_eq_true] at hs
      rw [PyData.depth] at hd
      have l1 := same_list (P := P) (cells := cells) (s := s) (n := n + (k + 1)) ds (.inr rfl) (g := g) (of_decide_eq_true hs.1) fun x hx => ih n x g (smDs_mem hs.2 hx) (by have := depth_mem hx; omega) (by omega)
      have l2 : boolsOf ((List.range ds.length).map fun _ => PyData.bool true) = some ((List.range ds.length).map fun _ => true) := by
        rw [← boolsOf_map, List.map_map]
        rfl
      simp [evSs, evS, evX, evT, e_var, e_con, e_glo, e_tup, e_lst, e_bin, e_neg, e_cmp, e_and, e_or, e_not, e_ite, e_call, e_bi, e_isi, e_ix, e_sl, evA, evO, evC, evI, seeF, Rf.settle, frzF, putS, putE, wipeE, flat, flats, E.vars, Es.vars, Eo.vars, It.vars, outD, binD, ixD, slD, biD, itemsOf, arr, noList, noLists, lcF, lim, sameB, v_sameL, tyOk, tyIs, cb_ne, cb_eq, l1, ci_eq, l2, -List.map_const_fun, -List.map_const]
    | tuple ds =>
      rw [smD, Bool.and_eq_true] at hs
      rw [PyData.depth] at hd
      have l1 := same_list (P := P) (cells := cells) (s := s) (n := n + (k + 1)) ds (.inl rfl) (g := g) (of_decide_eq_true hs.1) fun x hx => ih n x g (smDs_mem hs.2 hx) (by have := depth_mem hx; omega) (by omega)
      have l2 : boolsOf ((List.range ds.length).map fun _ => PyData.bool true) = some ((List.range ds.length).map fun _ => true) := by
        rw [← boolsOf_map, List.map_map]
        rfl
      simp [evSs, evS, evX, evT, e_var, e_con, e_glo, e_tup, e_lst, e_bin, e_neg, e_cmp, e_and, e_or, e_not, e_ite, e_call, e_bi, e_isi, e_ix, e_sl, evA, evO, evC, evI, seeF, Rf.settle, frzF, putS, putE, wipeE, flat, flats, E.vars, Es.vars, Eo.vars, It.vars, outD, binD, ixD, slD, biD, itemsOf, arr, noList, noLists, lcF, lim, sameB, v_sameL, tyOk, tyIs, cb_ne, cb_eq, l1, ci_eq, l2, -List.map_const_fun, -List.map_const]
    | dict ds => cases hs
theorem O.sms : ∀ a : O, a.sz ≤ 16000000 → smDs a.encs = true
  | z, _ => rfl
  | t e c r, h => by
    simp only [O.sz] at h
    have h1 := O.len_sz e
    simp only [O.encs, smDs, smD, O.sms e (by omega), O.sms r (by omega), O.encs_len, Bool.and_true, Bool.and_eq_true]
    exact ⟨decide_eq_true (by simp only [List.length_cons, List.length_nil]; omega), decide_eq_true (by omega)⟩
theorem O.sm {a : O} (h : a.sz ≤ 16000000) : smD a.enc = true := by
  have h1 := O.len_sz a
  rw [smD, O.sms a h, O.encs_len, Bool.and_true]
  exact decide_eq_true (by omega)
theorem O.dep (a : O) : a.enc.depth = 2 * a.ht + 1 := by rw [PyData.depth, O.deps]
end
end Rf

set_option maxHeartbeats 400000
/-! Drawn ordinals. -/
namespace Rf
open PySem PySem.W L2 PyProof.Rows
theorem comp_all {α : Type} {f : PyData → Bag → Option (Option PyData × Bag)} {en : α → PyData} {Q : α → Prop} : ∀ {ds : List PyData} {acc : List PyData} {g : Bag}, (∀ d ∈ ds, ∀ g, ∃ x g', f d g = some (some (en x), g') ∧ Q x) → ∃ (xs : List α) (g' : Bag), comp f ds acc g = some (acc ++ xs.map en, g') ∧ xs.length = ds.length ∧ ∀ x ∈ xs, Q x
  | [], acc, g, _ => ⟨[], g, by simp [comp], rfl, fun x hx => by cases hx⟩
  | d :: ds, acc, g, hf => by
    obtain ⟨x, g1, h1, h2⟩ := hf d List.mem_cons_self g
    obtain ⟨xs, g2, h3, h4, h5⟩ := comp_all (acc := acc ++ [en x]) (g := g1) fun y hy => hf y (List.mem_cons_of_mem _ hy)
    refine ⟨x :: xs, g2, ?_, by rw [List.length_cons, h4, List.length_cons], fun y hy => ?_⟩
    · rw [comp, h1]
      show comp f ds (acc ++ [en x]) g1 = _
      rw [h3, List.map_cons, List.append_assoc, List.singleton_append]
    · cases hy with
      | head => exact h2
      | tail _ hy => exact h5 y hy
def ordL (p o : Nat) : E := .lc (.n 5) [5] (.rng (.call p (.cons (.var 0) (.cons (.con (.int 4)) .nil)) .nil)) .no (.call o (.cons (.var 0) (.cons (.bin .sub (.var 1) (.con (.int 1))) .nil)) .nil)
theorem v_ordL (p o : Nat) : (ordL p o).vars = [0, 0, 1] := rfl
def ordF (p : Nat) : Ss := (.cons (.ifs (.or (.cmp .eq (.var 3) (.lst .nil)) (.cmp .lt (.var 4) (.ix (.ix (.var 3) (.neg (.con (.int 1)))) (.con (.int 0))))) (.cons (.app 3 (.tup (.cons (.var 4) (.cons (.bin .add (.con (.int 1)) (.call p (.cons (.var 0) (.cons (.ix (.lst (.cons (.con (.int 1)) (.cons (.con (.int 2)) (.cons (.con (.int 2)) (.cons (.con (.int 9)) (.cons (.bin .pow (.con (.int 10)) (.con (.int 12))) .nil)))))) (.call p (.cons (.var 0) (.cons (.con (.int 5)) .nil)) .nil)) .nil)) .nil)) .nil)))) .nil) .nil) .nil)
def ordB (p o m : Nat) : Ss := (.cons (.ifs (.cmp .eq (.var 1) (.con (.int 0))) (.cons (.ret (.call m (.cons (.ix (.lst (.cons (.con (.int 0)) (.cons (.con (.int 1)) (.cons (.con (.int 2)) (.cons (.con (.int 3)) (.cons (.bin .add (.con (.int 1)) (.call p (.cons (.var 0) (.cons (.bin .pow (.con (.int 10)) (.con (.int 9))) .nil)) .nil)) .nil)))))) (.call p (.cons (.var 0) (.cons (.con (.int 5)) .nil)) .nil)) .nil) .nil)) .nil) .nil) (.cons (.set 2 (ordL p o)) (.cons (.own 3 .nil) (.cons (.for_ (.n 4) (.seq (.bi .rev (.var 2))) (ordF p)) (.cons (.ret (.bi .tuple (.var 3))) .nil)))))
/-- a bounded ordinal -/
structure Gd (h s : Nat) (o : O) : Prop where
  nf : o.nf
  ht : o.ht ≤ h
  sz : o.sz ≤ s
theorem Gd.mono {h s h' s' : Nat} {o : O} (q : Gd h s o) (a : h ≤ h') (b : s ≤ s') : Gd h' s' o := ⟨q.nf, Nat.le_trans q.ht a, Nat.le_trans q.sz b⟩
section
variable {P : Pr} {cells : List Int}
theorem app_step {p n : Nat} (hp : HasPull P p) {k ss : PyData} {l : List (O × Int)} {y : O} {g : Bag} (hl : l.length < 16777216) :
    ∃ c g', 1 ≤ c ∧ evS (Φ P cells (n + 1)) P.gl (.app 3 (.tup (.cons (.var 4) (.cons (.bin .add (.con (.int 1)) (.call p (.cons (.var 0) (.cons (.ix (.lst (.cons (.con (.int 1)) (.cons (.con (.int 2)) (.cons (.con (.int 2)) (.cons (.con (.int 9)) (.cons (.bin .pow (.con (.int 10)) (.con (.int 12))) .nil)))))) (.call p (.cons (.var 0) (.cons (.con (.int 5)) .nil)) .nil)) .nil)) .nil)) .nil)))) [.sh bag, .sh k, .sh ss, .ow (l.map O.encT), .sh y.enc, .un] g = some (.nx, [.sh bag, .sh k, .sh ss, .ow ((l ++ [(y, c)]).map O.encT), .sh y.enc, .un], g') := by
  have q1 := hp.call (cells := cells) (n := n) (m := 5) (g := g) ⟨by decide, by decide +kernel⟩
  have b1 := pull_lt cells g (n := 5) (by decide)
  obtain ⟨x, hx, hx2⟩ := ats_nat (l := [PyData.int 1, .int 2, .int 2, .int 9, .int 1000000000000]) b1.1 (by simpa using b1.2)
  obtain ⟨m, rfl, hm⟩ : ∃ m : Int, x = .int m ∧ 0 < m ∧ m.natAbs.log2 < 9000 := by
    simp only [List.mem_cons, List.not_mem_nil, or_false] at hx
    rcases hx with rfl | rfl | rfl | rfl | rfl
    · exact ⟨_, rfl, by decide, by decide +kernel⟩
    · exact ⟨_, rfl, by decide, by decide +kernel⟩
    · exact ⟨_, rfl, by decide, by decide +kernel⟩
    · exact ⟨_, rfl, by decide, by decide +kernel⟩
    · exact ⟨_, rfl, by decide, by decide +kernel⟩
  have q2 := hp.call (cells := cells) (n := n) (m := m) (g := (pull cells g 5).2) hm
  have b2 := pull_lt cells (pull cells g 5).2 hm.1
  refine ⟨1 + (pull cells (pull cells g 5).2 m).1, (pull cells (pull cells g 5).2 m).2, by omega, ?_⟩
  have e1 : (10 : Int) ^ (12 : Int).toNat = 1000000000000 := by decide
  simp [evSs, evS, evX, evT, e_var, e_con, e_glo, e_tup, e_lst, e_bin, e_neg, e_cmp, e_and, e_or, e_not, e_ite, e_call, e_bi, e_isi, e_ix, e_sl, evA, evO, evC, evI, seeF, Rf.settle, frzF, putS, putE, wipeE, flat, flats, E.vars, Es.vars, Eo.vars, It.vars, outD, binD, ixD, slD, biD, itemsOf, arr, noList, noLists, lcF, lim, q1, hx2, q2, O.nls, hl]
theorem ord_loop {p n : Nat} (hp : HasPull P p) {k ss : PyData} {h s : Nat} (hh : h ≤ 29) : ∀ (ys : List O), (∀ y ∈ ys, Gd h s y) → ∀ (l : List (O × Int)) (s4 : Sl) (g : Bag), O.nfs l → (∀ q ∈ l, q.1.ht ≤ h) → l.length + ys.length < 16777216 → (s4 = .un ∨ ∃ y : O, s4 = .sh y.enc) →
    ∃ l' s4' g', turns (.n 4) (evSs (Φ P cells (n + 1)) P.gl (ordF p)) (ys.map O.enc) [.sh bag, .sh k, .sh ss, .ow (l.map O.encT), s4, .un] g = some (.nx, [.sh bag, .sh k, .sh ss, .ow (l'.map O.encT), s4', .un], g') ∧ O.nfs l' ∧ (∀ q ∈ l', q.1.ht ≤ h) ∧ O.szs l' ≤ O.szs l + ys.length * (s + 1) ∧ (s4' = .un ∨ ∃ y : O, s4' = .sh y.enc)
  | [], _, l, s4, g, h1, h2, _, h4 => ⟨l, s4, g, by simp [turns], h1, h2, by simp, h4⟩
  | y :: ys, hy, l, s4, g, h1, h2, h3, h4 => by
    have gy := hy y List.mem_cons_self
    have hlt : l.length + 1 + ys.length < 16777216 := by simp only [List.length_cons] at h3; omega
    have hml : (O.mk l).ht ≤ 31 := O.ht_of fun q hq => by have := h2 q hq; omega
    have c1 := O.cl_eq hml
    -- the test
    have go : ∀ b : Bool, (b = true → ∀ q ∈ l, O.lt y q.1 = true) → (evT (Φ P cells (n + 1)) P.gl (.or (.cmp .eq (.var 3) (.lst .nil)) (.cmp .lt (.var 4) (.ix (.ix (.var 3) (.neg (.con (.int 1)))) (.con (.int 0))))) [.sh bag, .sh k, .sh ss, .ow (l.map O.encT), .sh y.enc, .un] g = some (b, g)) →
        ∃ l' s4' g', turns (.n 4) (evSs (Φ P cells (n + 1)) P.gl (ordF p)) ((y :: ys).map O.enc) [.sh bag, .sh k, .sh ss, .ow (l.map O.encT), s4, .un] g = some (.nx, [.sh bag, .sh k, .sh ss, .ow (l'.map O.encT), s4', .un], g') ∧ O.nfs l' ∧ (∀ q ∈ l', q.1.ht ≤ h) ∧ O.szs l' ≤ O.szs l + (y :: ys).length * (s + 1) ∧ (s4' = .un ∨ ∃ y : O, s4' = .sh y.enc) := by
      intro b hb ht
      cases b with
      | false =>
        obtain ⟨l', s4', g', e1, e2, e3, e4, e5⟩ := ord_loop hp hh ys (fun z hz => hy z (List.mem_cons_of_mem _ hz)) l (.sh y.enc) g h1 h2 (by omega) (.inr ⟨y, rfl⟩)
        refine ⟨l', s4', g', ?_, e2, e3, ?_, e5⟩
        · rw [List.map_cons, turns]
          simp only [flat, putS, List.foldl_cons, List.foldl_nil, List.set_cons_succ, List.set_cons_zero]
          rw [ordF, evSs, evS, ht]
          simp only [evSs]
          exact e1
        · have : (y :: ys).length * (s + 1) = ys.length * (s + 1) + (s + 1) := by rw [List.length_cons, Nat.succ_mul]
          omega
      | true =>
        obtain ⟨c, g1, hc, ea⟩ := app_step (P := P) (cells := cells) (n := n) hp (k := k) (ss := ss) (l := l) (y := y) (g := g) (by omega)
        have h1' : O.nfs (l ++ [(y, c)]) := O.nfs_app.mpr ⟨h1, ⟨gy.nf, hc, trivial, fun q hq => by cases hq⟩, fun q hq z hz => by
          rw [List.mem_singleton] at hz
          subst hz
          exact hb rfl q hq⟩
        obtain ⟨l', s4', g', e1, e2, e3, e4, e5⟩ := ord_loop hp hh ys (fun z hz => hy z (List.mem_cons_of_mem _ hz)) (l ++ [(y, c)]) (.sh y.enc) g1 h1' (fun q hq => by
          rcases List.mem_append.mp hq with hq | hq
          · exact h2 q hq
          · rw [List.mem_singleton] at hq
            subst hq
            exact gy.ht) (by simp only [List.length_append, List.length_singleton]; omega) (.inr ⟨y, rfl⟩)
        refine ⟨l', s4', g', ?_, e2, e3, ?_, e5⟩
        · rw [List.map_cons, turns]
          simp only [flat, putS, List.foldl_cons, List.foldl_nil, List.set_cons_succ, List.set_cons_zero]
          rw [ordF, evSs, evS, ht]
          simp only [evSs, ea]
          exact e1
        · have : (y :: ys).length * (s + 1) = ys.length * (s + 1) + (s + 1) := by rw [List.length_cons, Nat.succ_mul]
          have gs := gy.sz
          rw [O.szs_app] at e4
          simp only [O.szs] at e4
          omega
    rcases List.eq_nil_or_concat l with z | ⟨l1, q, z⟩
    · refine go true (fun _ q hq => by rw [z] at hq; cases hq) ?_
      subst z
      have c1 : cmpD .eq (.list []) (.list []) = some true := c1
      simp [evSs, evS, evX, evT, e_var, e_con, e_glo, e_tup, e_lst, e_bin, e_neg, e_cmp, e_and, e_or, e_not, e_ite, e_call, e_bi, e_isi, e_ix, e_sl, evA, evO, evC, evI, seeF, Rf.settle, frzF, putS, putE, wipeE, flat, flats, E.vars, Es.vars, Eo.vars, It.vars, outD, binD, ixD, slD, biD, itemsOf, arr, noList, noLists, lcF, lim, c1]
    · rw [List.concat_eq_append] at z
      have hq := h2 q (by rw [z]; simp)
      have c2 : cmpD .lt y.enc q.1.enc = some (O.lt y q.1) := O.c_lt (by have := gy.ht; omega) (by omega)
      refine go (O.lt y q.1) (fun hb r hr => ?_) ?_
      · rw [z] at hr h1
        rcases List.mem_append.mp hr with hr | hr
        · exact O.lt_trans hb ((O.nfs_app.mp h1).2.2 r hr q (by simp))
        · rw [List.mem_singleton] at hr
          subst hr
          exact hb
      · subst z
        have c1 : cmpD .eq (.list (l1.map O.encT ++ [O.encT q])) (.list []) = some false := by
          have := c1.trans (show _ = some false by simp)
          simpa using this
        simp [evSs, evS, evX, evT, e_var, e_con, e_glo, e_tup, e_lst, e_bin, e_neg, e_cmp, e_and, e_or, e_not, e_ite, e_call, e_bi, e_isi, e_ix, e_sl, evA, evO, evC, evI, seeF, Rf.settle, frzF, putS, putE, wipeE, flat, flats, E.vars, Es.vars, Eo.vars, It.vars, outD, binD, ixD, slD, biD, itemsOf, arr, noList, noLists, lcF, lim, c1, atsL, ats0, c2]
/-- the bound of a drawn one's size -/
def szB : Nat → Nat
  | 0 => 1
  | k + 1 => 3 * (szB k + 1)
theorem rev_enc {xs : List O} (h : ∀ x ∈ xs, x.ht ≤ 31) : ∃ ys : List O, ys.Perm xs ∧ biD .rev (.list (xs.map O.enc)) = some (.list (ys.map O.enc)) := by
  refine ⟨xs.mergeSort fun a b => !dataLt a.enc b.enc, List.mergeSort_perm _ _, ?_⟩
  have ha : allAlike (xs.map O.enc) = true := by
    unfold allAlike
    simp only [Bool.and_eq_true, List.all_eq_true, List.mem_map]
    refine ⟨?_, ?_⟩
    · rintro d ⟨x, hx, rfl⟩
      exact ⟨rfl, O.shp (h x hx)⟩
    · rintro d ⟨x, hx, rfl⟩ e ⟨y, hy, rfl⟩
      exact O.alk x y
  simp only [biD, ha, if_true, dataSortR]
  rw [List.map_mergeSort (r := fun a b : O => !dataLt a.enc b.enc) (s := fun a b => !dataLt a b) (f := O.enc) (l := xs) (fun a _ b _ => rfl)]
theorem ord_ok {p o m : Nat} (hp : HasPull P p) (hm : Has P m [.p 0] 1 1 numB) (h : Has P o [.p 0, .p 1] 2 6 (ordB p o m)) : ∀ (k n : Nat) (g : Bag), k ≤ 20 → ∃ x g', Φ P cells (n + k + 2) o [bag, .int k] [] g = some (O.enc x, g') ∧ Gd (k + 1) (szB k) x := by
  intro k
  induction k with
  | zero =>
    intro n g _
    have q1 := hp.call (cells := cells) (n := n) (m := 1000000000) (g := g) ⟨by decide, by decide +kernel⟩
    have q2 := hp.call (cells := cells) (n := n) (m := 5) (g := (pull cells g 1000000000).2) ⟨by decide, by decide +kernel⟩
    have b2 := pull_lt cells (pull cells g 1000000000).2 (n := 5) (by decide)
    obtain ⟨x, hx, hx2⟩ := ats_nat (l := [PyData.int 0, .int 1, .int 2, .int 3, .int (1 + (pull cells g 1000000000).1)]) b2.1 (by simpa using b2.2)
    obtain ⟨m', rfl⟩ : ∃ m : Int, x = .int m := by
      simp only [List.mem_cons, List.not_mem_nil, or_false] at hx
      rcases hx with rfl | rfl | rfl | rfl | rfl <;> exact ⟨_, rfl⟩
    refine ⟨O.num m', (pull cells (pull cells g 1000000000).2 5).2, ?_, O.num_nf _, O.num_ht _, O.num_sz _⟩
    rw [show n + 0 + 2 = (n + 1) + 1 from rfl, h.call rfl]
    have q3 := num_ok (cells := cells) (n := n) hm (i := m') (g := (pull cells (pull cells g 1000000000).2 5).2)
    simp [evSs, evS, evX, evT, e_var, e_con, e_glo, e_tup, e_lst, e_bin, e_neg, e_cmp, e_and, e_or, e_not, e_ite, e_call, e_bi, e_isi, e_ix, e_sl, evA, evO, evC, evI, seeF, Rf.settle, frzF, putS, putE, wipeE, flat, flats, E.vars, Es.vars, Eo.vars, It.vars, outD, binD, ixD, slD, biD, itemsOf, arr, noList, noLists, lcF, lim, ordB, ci_eq, q1, q2, hx2, q3]
  | succ k ih =>
    intro n g hk
    have q1 := hp.call (cells := cells) (n := n + k + 1) (m := 4) (g := g) ⟨by decide, by decide +kernel⟩
    have b1 := pull_lt cells g (n := 4) (by decide)
    obtain ⟨xs, g1, l1, l2, l3⟩ : ∃ (xs : List O) (g1 : Bag), (∀ o2 o3 o4, evE (Φ P cells (n + k + 2)) P.gl (ordL p o) [some bag, some (.int ((k : Int) + 1)), o2, o3, o4, none] g = some (.list (xs.map O.enc), g1)) ∧ xs.length ≤ 3 ∧ ∀ x ∈ xs, Gd (k + 1) (szB k) x := by
      obtain ⟨xs, g1, e1, e2, e3⟩ := comp_all (α := O) (en := O.enc) (Q := Gd (k + 1) (szB k)) (f := lcF (.n 5) [5] (evC (Φ P cells (n + k + 2)) P.gl .no) (evE (Φ P cells (n + k + 2)) P.gl (.call o (.cons (.var 0) (.cons (.bin .sub (.var 1) (.con (.int 1))) .nil)) .nil)) [some bag, some (.int ((k : Int) + 1)), none, none, none, none]) (ds := rangeD 0 (pull cells g 4).1.toNat) (acc := []) (g := (pull cells g 4).2) (fun d hd g => by
        obtain ⟨x, g', e1, e2⟩ := ih n g (by omega)
        refine ⟨x, g', ?_, e2⟩
        simp [evSs, evS, evX, evT, e_var, e_con, e_glo, e_tup, e_lst, e_bin, e_neg, e_cmp, e_and, e_or, e_not, e_ite, e_call, e_bi, e_isi, e_ix, e_sl, evA, evO, evC, evI, seeF, Rf.settle, frzF, putS, putE, wipeE, flat, flats, E.vars, Es.vars, Eo.vars, It.vars, outD, binD, ixD, slD, biD, itemsOf, arr, noList, noLists, lcF, lim, e1])
      refine ⟨xs, g1, fun o2 o3 o4 => ?_, by rw [e2]; simp [rangeD]; omega, e3⟩
      have hr : -(16777216 : Int) ≤ (pull cells g 4).1 ∧ (pull cells g 4).1 ≤ 16777216 := ⟨by omega, by omega⟩
      refine e_lc (ds := rangeD 0 (pull cells g 4).1.toNat) (g1 := (pull cells g 4).2) (by simp [evSs, evS, evX, evT, e_var, e_con, e_glo, e_tup, e_lst, e_bin, e_neg, e_cmp, e_and, e_or, e_not, e_ite, e_call, e_bi, e_isi, e_ix, e_sl, evA, evO, evC, evI, seeF, Rf.settle, frzF, putS, putE, wipeE, flat, flats, E.vars, Es.vars, Eo.vars, It.vars, outD, binD, ixD, slD, biD, itemsOf, arr, noList, noLists, lcF, lim, q1, hr]) (by simp [rangeD, lim]; omega) ?_
      have := e1
      simp only [List.nil_append] at this
      rw [← this]
      congr 1
    obtain ⟨ys, hperm, hrev⟩ := rev_enc (xs := xs) fun x hx => by have := (l3 x hx).ht; omega
    obtain ⟨l', s4', g', e1, e2, e3, e4, e5⟩ := ord_loop (P := P) (cells := cells) (n := n + k + 1) (p := p) hp (k := .int ((k : Int) + 1)) (ss := .list (xs.map O.enc)) (h := k + 1) (s := szB k) (by omega) ys (fun y hy => l3 y (hperm.mem_iff.mp hy)) [] .un g1 trivial (fun q hq => by cases hq) (by rw [hperm.length_eq]; simp; omega) (.inl rfl)
    refine ⟨O.mk l', g', ?_, (O.nf_mk _).mpr e2, O.ht_of fun q hq => by have := e3 q hq; omega, ?_⟩
    · rw [show n + (k + 1) + 2 = (n + k + 2) + 1 from by omega, h.call rfl]
      have hk0 : ¬ ((k : Int) + 1 = 0) := by omega
      have hfor : evS (Φ P cells (n + k + 2)) P.gl (.for_ (.n 4) (.seq (.bi .rev (.var 2))) (ordF p)) [.sh bag, .sh (.int ((k : Int) + 1)), .sh (.list (xs.map O.enc)), .ow [], .un, .un] g1 = some (.nx, [.sh bag, .sh (.int ((k : Int) + 1)), .sh (.list (xs.map O.enc)), .ow (l'.map O.encT), s4', .un], g') := by
        refine st_for (ds := ys.map O.enc) (g1 := g1) ?_ e1
        simp only [evI, It.vars, E.vars, e_bi, seeF, e_var]
        simp [hrev, itemsOf]
      have hr1 : evS (Φ P cells (n + k + 2)) P.gl (.ret (.bi .tuple (.var 3))) [.sh bag, .sh (.int ((k : Int) + 1)), .sh (.list (xs.map O.enc)), .ow (l'.map O.encT), s4', .un] g' = some (.rt (.tuple (l'.map O.encT)), [.sh bag, .sh (.int ((k : Int) + 1)), .sh (.list (xs.map O.enc)), .ow (l'.map O.encT), s4', .un], g') := by
        have hn : noLists (l'.map O.encT) = true := by rw [← O.ts_mk l', ← O.encs_ts]; exact O.nls _
        rcases e5 with rfl | ⟨y, rfl⟩ <;> simp [evSs, evS, evX, evT, e_var, e_con, e_glo, e_tup, e_lst, e_bin, e_neg, e_cmp, e_and, e_or, e_not, e_ite, e_call, e_bi, e_isi, e_ix, e_sl, evA, evO, evC, evI, seeF, Rf.settle, frzF, putS, putE, wipeE, flat, flats, E.vars, Es.vars, Eo.vars, It.vars, outD, binD, ixD, slD, biD, itemsOf, arr, noList, noLists, lcF, lim, hn]
      rw [ordB, evSs]
      have hif : evS (Φ P cells (n + k + 2)) P.gl (.ifs (.cmp .eq (.var 1) (.con (.int 0))) (.cons (.ret (.call m (.cons (.ix (.lst (.cons (.con (.int 0)) (.cons (.con (.int 1)) (.cons (.con (.int 2)) (.cons (.con (.int 3)) (.cons (.bin .add (.con (.int 1)) (.call p (.cons (.var 0) (.cons (.bin .pow (.con (.int 10)) (.con (.int 9))) .nil)) .nil)) .nil)))))) (.call p (.cons (.var 0) (.cons (.con (.int 5)) .nil)) .nil)) .nil) .nil)) .nil) .nil) [.sh bag, .sh (.int ((k : Int) + 1)), .un, .un, .un, .un] g = some (.nx, [.sh bag, .sh (.int ((k : Int) + 1)), .un, .un, .un, .un], g) := by
        simp [evSs, evS, evX, evT, e_var, e_con, e_glo, e_tup, e_lst, e_bin, e_neg, e_cmp, e_and, e_or, e_not, e_ite, e_call, e_bi, e_isi, e_ix, e_sl, evA, evO, evC, evI, seeF, Rf.settle, frzF, putS, putE, wipeE, flat, flats, E.vars, Es.vars, Eo.vars, It.vars, outD, binD, ixD, slD, biD, itemsOf, arr, noList, noLists, lcF, lim, ci_eq, hk0]
      have hset : evS (Φ P cells (n + k + 2)) P.gl (.set 2 (ordL p o)) [.sh bag, .sh (.int ((k : Int) + 1)), .un, .un, .un, .un] g = some (.nx, [.sh bag, .sh (.int ((k : Int) + 1)), .sh (.list (xs.map O.enc)), .un, .un, .un], g1) := by
        simp [evSs, evS, evX, evT, e_var, e_con, e_glo, e_tup, e_lst, e_bin, e_neg, e_cmp, e_and, e_or, e_not, e_ite, e_call, e_bi, e_isi, e_ix, e_sl, evA, evO, evC, evI, seeF, Rf.settle, frzF, putS, putE, wipeE, flat, flats, E.vars, Es.vars, Eo.vars, It.vars, outD, binD, ixD, slD, biD, itemsOf, arr, noList, noLists, lcF, lim, v_ordL, l1]
      have hown : evS (Φ P cells (n + k + 2)) P.gl (.own 3 .nil) [.sh bag, .sh (.int ((k : Int) + 1)), .sh (.list (xs.map O.enc)), .un, .un, .un] g1 = some (.nx, [.sh bag, .sh (.int ((k : Int) + 1)), .sh (.list (xs.map O.enc)), .ow [], .un, .un], g1) := by
        simp [evSs, evS, evX, evT, e_var, e_con, e_glo, e_tup, e_lst, e_bin, e_neg, e_cmp, e_and, e_or, e_not, e_ite, e_call, e_bi, e_isi, e_ix, e_sl, evA, evO, evC, evI, seeF, Rf.settle, frzF, putS, putE, wipeE, flat, flats, E.vars, Es.vars, Eo.vars, It.vars, outD, binD, ixD, slD, biD, itemsOf, arr, noList, noLists, lcF, lim]
      simp only [arr, List.map_cons, List.map_nil, List.getD_cons_zero, List.getD_cons_succ, Nat.reduceSub, List.replicate, List.cons_append, List.nil_append, Int.natCast_add, Int.natCast_one, hif]
      rw [st_nx hset (st_nx hown (st_nx hfor rfl)), evSs, hr1]
      simp only [outD, O.enc_mk]
    · rw [O.sz_mk]
      simp only [O.szs, Nat.zero_add] at e4
      refine Nat.le_trans e4 ?_
      rw [hperm.length_eq]
      exact Nat.mul_le_mul_right _ l2
end
end Rf

set_option maxHeartbeats 400000
/-! Laws: turns, checks. -/
namespace Rf
open PySem PySem.W L2 PyProof.Rows
/-- a slot that is no list of the def's own -/
def slot : Option PyData → Sl
  | none => .un
  | some d => .sh d
theorem slot_some (d : PyData) : slot (some d) = .sh d := rfl
theorem slot_none : slot none = .un := rfl
theorem see_slot (F : List Nat) (i : Nat) (o : Option PyData) (ρ : List Sl) : seeF F i (slot o :: ρ) = o :: seeF F (i + 1) ρ := by cases o <;> rfl
theorem frz_slot (F : List Nat) (i : Nat) (o : Option PyData) (ρ : List Sl) : frzF F i (slot o :: ρ) = slot o :: frzF F (i + 1) ρ := by cases o <;> rfl
theorem turns_inv {t : Tg} {body : List Sl → Bag → R} {Inv : List Sl → Prop} : ∀ {ds : List PyData} {ρ : List Sl} {g : Bag}, Inv ρ → (∀ d ∈ ds, ∀ ρ g, Inv ρ → ∃ ps ρ' g', flat t d = some ps ∧ body (putS ρ ps) g = some (.nx, ρ', g') ∧ Inv ρ') → ∃ ρ' g', turns t body ds ρ g = some (.nx, ρ', g') ∧ Inv ρ'
  | [], ρ, g, h, _ => ⟨ρ, g, rfl, h⟩
  | d :: ds, ρ, g, h, k => by
    obtain ⟨ps, ρ1, g1, h1, h2, h3⟩ := k d List.mem_cons_self ρ g h
    obtain ⟨ρ2, g2, h4, h5⟩ := turns_inv (g := g1) h3 fun d hd => k d (List.mem_cons_of_mem _ hd)
    refine ⟨ρ2, g2, ?_, h5⟩
    rw [turns, h1]
    simp only [h2]
    exact h4
section
variable {Φ : Fns} {gl : Nat → Option PyData} {ρ : List Sl} {g g' : Bag}
theorem st_chk {e : E} (h : evE Φ gl e (seeF e.vars 0 ρ) g = some (.bool true, g')) : evS Φ gl (.ifs (.not e) (.cons (.ret (.con (.bool false))) .nil) .nil) ρ g = some (.nx, ρ, g') := by
  rw [evS, evT]
  simp only [E.vars, e_not, h, evSs, Bool.not_true]
theorem st_skip {c : E} {a : Ss} (h : evE Φ gl c (seeF c.vars 0 ρ) g = some (.bool false, g')) : evS Φ gl (.ifs c a .nil) ρ g = some (.nx, ρ, g') := by
  rw [evS, evT]
  simp only [h, evSs]
end
theorem szB_mono : ∀ {a b : Nat}, a ≤ b → szB a ≤ szB b
  | 0, 0, _ => Nat.le_refl _
  | 0, b + 1, _ => by rw [szB, szB]; omega
  | a + 1, b + 1, h => by
    have := szB_mono (Nat.le_of_succ_le_succ h)
    rw [szB, szB]
    omega
section
variable {P : Pr} {cells : List Int}
/-- an ordinal of a drawn depth -/
theorem ordE {p o m : Nat} (hp : HasPull P p) (hm : Has P m [.p 0] 1 1 numB) (h : Has P o [.p 0, .p 1] 2 6 (ordB p o m)) {vb : Nat} {η : Env} (hη : η[vb]? = some (some bag)) {d n : Nat} {i : Int} (hi : i = d) (h1 : 1 ≤ d) (h2 : d ≤ 20) (hn : d + 2 ≤ n) (g : Bag) :
    ∃ x g', evE (Φ P cells n) P.gl (.call o (.cons (.var vb) (.cons (.call p (.cons (.var vb) (.cons (.con (.int i)) .nil)) .nil) .nil)) .nil) η g = some (O.enc x, g') ∧ Gd d (szB (d - 1)) x := by
  subst hi
  obtain ⟨n, rfl⟩ : ∃ n', n = n' + d + 2 := ⟨n - d - 2, by omega⟩
  have q1 := hp.call (cells := cells) (n := n + d + 1) (m := (d : Int)) (g := g) ⟨by omega, log_lt (k := 10) (by simp; omega) (by decide) (by decide)⟩
  have b1 := pull_lt cells g (n := (d : Int)) (by omega)
  obtain ⟨k, hk⟩ : ∃ k : Nat, (pull cells g (d : Int)).1 = k := ⟨(pull cells g d).1.toNat, by omega⟩
  rw [hk] at b1
  obtain ⟨x, g', e1, e2⟩ := ord_ok (cells := cells) hp hm h k (n + d - k) (pull cells g d).2 (by omega)
  refine ⟨x, g', ?_, e2.mono (by omega) (szB_mono (by omega))⟩
  rw [show n + d - k + k + 2 = n + d + 2 by omega] at e1
  simp only [e_call, evA, e_var, hη, e_con, Option.map_some, q1, hk, e1]
theorem succ_ok {s p og : Nat} {zg : Nat} (h : Has P s [.p 0] 1 1 (succB p og)) (hq : Has P p [.p 0, .p 1] 2 7 (plusB zg)) (hz : P.gl zg = some (.tuple [])) (ho : P.gl og = some (O.num 1).enc) {a : O} {n : Nat} {g : Bag} (h1 : a.ht ≤ 30) (k1 : a.sz ≤ 1000000) : Φ P cells (n + 2) s [a.enc] [] g = some ((O.add a (O.num 1)).enc, g) := by
  rw [h.call rfl]
  have := plus_ok (cells := cells) (n := n) hq hz (ds := [a.enc, (O.num 1).enc]) (es := []) (a := a) (b := O.num 1) (g := g) rfl rfl h1 (by decide) k1 (by decide)
  simp [evSs, evS, evX, evT, e_var, e_con, e_glo, e_tup, e_lst, e_bin, e_neg, e_cmp, e_and, e_or, e_not, e_ite, e_call, e_bi, e_isi, e_ix, e_sl, evA, evO, evC, evI, seeF, Rf.settle, frzF, putS, putE, wipeE, flat, flats, E.vars, Es.vars, Eo.vars, It.vars, outD, binD, ixD, slD, biD, itemsOf, arr, noList, noLists, lcF, lim, succB, ho, this]
end
end Rf

set_option maxHeartbeats 400000
/-! Laws of sums. -/
namespace Rf
open PySem PySem.W L2 PyProof.Rows
namespace O
theorem lt_z (a : O) : lt a z = false := by cases a <;> rfl
theorem nf_r {e : O} {c : Int} {r : O} (h : (t e c r).nf) : r.nf := h.2.2.1
theorem nf_rlt {e : O} {c : Int} {r : O} (h : (t e c r).nf) : ∀ p ∈ r.ts, lt p.1 e = true := nfs_lt (p := (e, c)) ((nfs_ts _).mpr h)
theorem add_zl (a : O) : add z a = a := by
  cases a with
  | z => rfl
  | t e c r => simp [add, ts, mk, mk_ts]
/-- the sum, term by term -/
theorem add_rec {e1 : O} {c1 : Int} {r1 e : O} {c : Int} {r : O} (h : (t e1 c1 r1).nf) : add (t e1 c1 r1) (t e c r) = if lt e e1 = true then t e1 c1 (add r1 (t e c r)) else if e1 = e then t e (c + c1) r else t e c r := by
  have hr := nf_rlt h
  by_cases x : lt e e1 = true
  · rw [if_pos x]
    have x2 : e1 ≠ e := (lt_ne x).symm
    simp [add, ts, List.filter_cons, x, x2, mk]
  · rw [if_neg x]
    have n1 : r1.ts.filter (fun p => lt e p.1) = [] := List.filter_eq_nil_iff.mpr fun p hp => by
      intro q
      have := lt_trans q (hr p hp)
      exact x this
    have n2 : r1.ts.filter (fun p => decide (p.1 = e)) = [] := List.filter_eq_nil_iff.mpr fun p hp => by
      intro q
      have q : p.1 = e := by simpa using q
      have := hr p hp
      rw [q] at this
      exact x this
    by_cases y : e1 = e
    · rw [if_pos y]
      subst y
      simp [add, ts, List.filter_cons, x, n1, n2, mk, mk_ts]
    · rw [if_neg y]
      simp [add, ts, List.filter_cons, x, y, n1, n2, mk, mk_ts]
theorem add_nf {a b : O} (ha : a.nf) (hb : b.nf) : (add a b).nf := by
  cases b with
  | z => exact ha
  | t e c r =>
    rw [add, nf_mk, nfs_app]
    have ha := (nfs_ts a).mpr ha
    have hr := nf_rlt hb
    have hs : 0 ≤ ((a.ts.filter (fun p => decide (p.1 = e))).map (·.2)).sum := by
      have : ∀ l : List (O × Int), (∀ p ∈ l, 1 ≤ p.2) → 0 ≤ (l.map (·.2)).sum := by
        intro l
        induction l with
        | nil => intro _; simp
        | cons p l ih =>
          intro h
          have h1 := h p List.mem_cons_self
          have h2 := ih fun q hq => h q (List.mem_cons_of_mem _ hq)
          simp only [List.map_cons, List.sum_cons]
          omega
      exact this _ fun p hp => (nfs_all ha p (List.mem_filter.mp hp).1).2
    refine ⟨nfs_filter _ ha, ⟨hb.1, ?_, (nfs_ts r).mpr hb.2.2.1, hb.2.2.2⟩, fun p hp q hq => ?_⟩
    · have := hb.2.1
      show 1 ≤ c + _
      omega
    · have hp : lt e p.1 = true := by simpa using (List.mem_filter.mp hp).2
      rcases List.mem_cons.mp hq with hq | hq
      · subst hq
        exact hp
      · exact lt_trans (hr q hq) hp
/-- the leading exponent of a sum -/
theorem add_head {a : O} {e : O} {c : Int} {r : O} : ∃ e' c' r', add a (t e c r) = t e' c' r' ∧ (e' = e ∨ lt e e' = true) ∧ ∀ f, lt e f = true → (∀ p ∈ a.ts, lt p.1 f = true) → lt e' f = true := by
  rw [add]
  cases q : a.ts.filter (fun p => lt e p.1) with
  | nil => exact ⟨e, _, _, rfl, .inl rfl, fun f h _ => h⟩
  | cons p l =>
    have hp : p ∈ a.ts.filter (fun p => lt e p.1) := by rw [q]; exact List.mem_cons_self
    refine ⟨p.1, p.2, _, rfl, .inr (by simpa using (List.mem_filter.mp hp).2), fun f _ h => h p (List.mem_filter.mp hp).1⟩
theorem add_assoc : ∀ (a : O) {b d : O}, a.nf → b.nf → add (add a b) d = add a (add b d)
  | z, b, d, _, _ => by rw [add_zl, add_zl]
  | t e1 c1 r1, z, d, _, _ => by rw [add_zl]; rfl
  | t e1 c1 r1, t e c r, z, _, _ => rfl
  | t e1 c1 r1, t e c r, t f m s, ha, hb => by
    have hab := add_nf ha hb
    have ih := add_assoc r1 (b := t e c r) (d := t f m s) (nf_r ha) hb
    rw [add_rec ha] at hab ⊢
    rw [add_rec hb]
    by_cases x : lt e e1 = true
    · simp only [x, if_true] at hab ⊢
      rw [add_rec hab]
      by_cases y : lt f e1 = true
      · simp only [y, if_true, ih]
        by_cases w : lt f e = true
        · simp only [w, if_true]
          rw [add_rec hb] at ih
          simp only [w, if_true] at ih
          rw [add_rec ha, if_pos x, add_rec hb, if_pos w]
        · simp only [w]
          by_cases v : e = f
          · subst v
            simp only [if_true, Bool.false_eq_true, if_false]
            rw [add_rec ha, if_pos x, add_rec hb, if_neg w, if_pos rfl]
          · simp only [v, if_false, Bool.false_eq_true]
            rw [add_rec ha, if_pos y, add_rec hb, if_neg w, if_neg v]
      · have y' : lt f e1 = false := by simpa using y
        have w : lt e f = true := lt_le x y'
        have w1 : lt f e = false := lt_asy w
        have w2 : e ≠ f := lt_ne w
        simp only [y', w1, w2, if_false, Bool.false_eq_true]
        rw [add_rec ha]
        simp only [y', if_false, Bool.false_eq_true]
    · have x' : lt e e1 = false := by simpa using x
      simp only [x', if_false, Bool.false_eq_true] at hab ⊢
      by_cases v : e1 = e
      · subst v
        simp only [if_true] at hab ⊢
        rw [add_rec hab]
        by_cases w : lt f e1 = true
        · simp only [w, if_true]
          rw [add_rec ha]
          simp only [lt_irr, if_true, if_false, Bool.false_eq_true]
        · have w' : lt f e1 = false := by simpa using w
          simp only [w', if_false, Bool.false_eq_true]
          by_cases u : e1 = f
          · subst u
            simp only [if_true]
            rw [add_rec ha]
            simp only [lt_irr, if_true, if_false, Bool.false_eq_true]
            rw [Int.add_assoc]
          · simp only [u, if_false]
            rw [add_rec ha]
            simp only [w', u, if_false, Bool.false_eq_true]
      · simp only [v, if_false]
        rw [add_rec hb]
        have x2 : lt e1 e = true := by
          rcases ge_of x' with q | q
          · exact absurd q.symm v
          · exact q
        by_cases w : lt f e = true
        · simp only [w, if_true]
          rw [add_rec ha]
          simp only [x', v, if_false, Bool.false_eq_true]
        · have w' : lt f e = false := by simpa using w
          simp only [w', if_false, Bool.false_eq_true]
          by_cases u : e = f
          · subst u
            simp only [if_true]
            rw [add_rec ha]
            simp only [x', v, if_false, Bool.false_eq_true]
          · simp only [u, if_false]
            have u2 : lt e1 f = true := lt_le x2 w'
            rw [add_rec ha]
            simp only [lt_asy u2, lt_ne u2, if_false, Bool.false_eq_true]
theorem lt_same {e : O} {c : Int} {r s : O} : lt (t e c r) (t e c s) = lt r s := by rw [lt, if_pos rfl, if_pos rfl]
theorem lt_cnt {e : O} {c d : Int} {r s : O} (h : c < d) : lt (t e c r) (t e d s) = true := by rw [lt, if_pos rfl, if_neg (by omega)]; exact decide_eq_true h
theorem lt_exp {e f : O} {c d : Int} {r s : O} (h : lt e f = true) : lt (t e c r) (t f d s) = true := by rw [lt, if_neg (lt_ne h)]; exact h
theorem lt_inv {e f : O} {c d : Int} {r s : O} (h : lt (t e c r) (t f d s) = true) : lt e f = true ∨ (e = f ∧ c < d) ∨ (e = f ∧ c = d ∧ lt r s = true) := by
  rw [lt] at h
  by_cases x : e = f
  · rw [if_pos x] at h
    by_cases y : c = d
    · rw [if_pos y] at h
      exact .inr (.inr ⟨x, y, h⟩)
    · rw [if_neg y] at h
      exact .inr (.inl ⟨x, of_decide_eq_true h⟩)
  · rw [if_neg x] at h
    exact .inl h
theorem lt_add : ∀ (a : O) {f : O} {d : Int} {s : O}, a.nf → 1 ≤ d → lt a (add a (t f d s)) = true
  | z, f, d, s, _, _ => by rw [add_zl]; rfl
  | t e1 c1 r1, f, d, s, ha, hd => by
    rw [add_rec ha]
    by_cases x : lt f e1 = true
    · rw [if_pos x, lt_same]
      exact lt_add r1 (nf_r ha) hd
    · rw [if_neg x]
      by_cases y : e1 = f
      · subst y
        rw [if_pos rfl]
        exact lt_cnt (by omega)
      · rw [if_neg y]
        refine lt_exp ?_
        rcases ge_of (by simpa using x) with q | q
        · exact absurd q.symm y
        · exact q
theorem add_mono : ∀ (a : O) {b d : O}, a.nf → b.nf → d.nf → lt b d = true → lt (add a b) (add a d) = true
  | a, z, z, _, _, _, h => by cases h
  | a, z, t f m s, ha, _, hd, _ => lt_add a ha hd.2.1
  | a, t _ _ _, z, _, _, _, h => by cases h
  | z, t e c r, t f m s, _, _, _, h => by rw [add_zl, add_zl]; exact h
  | t e1 c1 r1, t e c r, t f m s, ha, hb, hd, h => by
    have hm := hd.2.1
    rw [add_rec ha, add_rec ha]
    by_cases x : lt e e1 = true
    · rw [if_pos x]
      by_cases y : lt f e1 = true
      · rw [if_pos y, lt_same]
        exact add_mono r1 (nf_r ha) hb hd h
      · rw [if_neg y]
        by_cases v : e1 = f
        · subst v
          rw [if_pos rfl]
          exact lt_cnt (by omega)
        · rw [if_neg v]
          refine lt_exp ?_
          rcases ge_of (by simpa using y) with q | q
          · exact absurd q.symm v
          · exact q
    · rw [if_neg x]
      have x' : lt e e1 = false := by simpa using x
      have hef : lt f e = false := by
        rcases lt_inv h with q | ⟨q, _⟩ | ⟨q, _⟩
        · exact lt_asy q
        · subst q; exact lt_irr _
        · subst q; exact lt_irr _
      by_cases v : e1 = e
      · subst v
        rw [if_pos rfl, if_neg (by rw [hef]; exact Bool.false_ne_true)]
        rcases lt_inv h with q | ⟨q, q2⟩ | ⟨q, q2, q3⟩
        · rw [if_neg (lt_ne q)]
          exact lt_exp q
        · subst q
          rw [if_pos rfl]
          exact lt_cnt (by omega)
        · subst q
          subst q2
          rw [if_pos rfl, lt_same]
          exact q3
      · rw [if_neg v]
        have x2 : lt e1 e = true := by
          rcases ge_of x' with q | q
          · exact absurd q.symm v
          · exact q
        have x3 : lt e1 f = true := lt_le x2 hef
        rw [if_neg (by rw [lt_asy x3]; exact Bool.false_ne_true), if_neg (lt_ne x3)]
        exact h
theorem add_iff {a b d : O} (ha : a.nf) (hb : b.nf) (hd : d.nf) : lt (add a b) (add a d) = lt b d := by
  rcases lt_tri b d with h | h | h
  · rw [h, add_mono a ha hb hd h]
  · subst h
    rw [lt_irr, lt_irr]
  · rw [lt_asy h, lt_asy (add_mono a ha hd hb h)]
theorem add_ge_l {a b : O} (ha : a.nf) (hb : b.nf) : lt (add a b) a = false := by
  cases b with
  | z => exact lt_irr a
  | t e c r => exact lt_asy (lt_add a ha hb.2.1)
theorem add_ge_r {a b : O} (ha : a.nf) (hb : b.nf) : lt (add a b) b = false := by
  cases b with
  | z => exact lt_z _
  | t e c r =>
    cases a with
    | z => rw [add_zl]; exact lt_irr _
    | t e1 c1 r1 =>
      rw [add_rec ha]
      by_cases x : lt e e1 = true
      · rw [if_pos x]
        exact lt_asy (lt_exp x)
      · rw [if_neg x]
        by_cases v : e1 = e
        · rw [if_pos v]
          have := ha.2.1
          exact lt_asy (lt_cnt (by omega))
        · rw [if_neg v]
          exact lt_irr _
theorem nf_z {c : Int} {r : O} (h : (t z c r).nf) : r = z := by
  cases r with
  | z => rfl
  | t e d s =>
    have := nf_rlt h (e, d) (by simp [ts])
    rw [lt_z] at this
    cases this
theorem num1 : num 1 = t z 1 z := rfl
/-- nothing lies between one and the next -/
theorem no_mid : ∀ (a : O) {b : O}, a.nf → b.nf → lt a b = true → lt b (add a (num 1)) = false
  | z, b, _, hb, h => by
    rw [add_zl, num1]
    cases b with
    | z => cases h
    | t e c r =>
      have := hb.2.1
      cases q : lt (t e c r) (t z 1 z) with
      | false => rfl
      | true =>
        rcases lt_inv q with q | ⟨_, q⟩ | ⟨_, _, q⟩
        · rw [lt_z] at q; cases q
        · omega
        · rw [lt_z] at q; cases q
  | t e1 c1 r1, z, _, _, h => by cases h
  | t e1 c1 r1, t e c r, ha, hb, h => by
    rw [num1, add_rec ha]
    by_cases x : lt z e1 = true
    · rw [if_pos x]
      cases q : lt (t e c r) (t e1 c1 (add r1 (t z 1 z))) with
      | false => rfl
      | true =>
        rcases lt_inv h with h | ⟨h, h2⟩ | ⟨h, h2, h3⟩ <;> rcases lt_inv q with q | ⟨q, q2⟩ | ⟨q, q2, q3⟩
        · rw [lt_asy h] at q; cases q
        · subst q; rw [lt_irr] at h; cases h
        · subst q; rw [lt_irr] at h; cases h
        · subst h; rw [lt_irr] at q; cases q
        · omega
        · omega
        · subst h; rw [lt_irr] at q; cases q
        · omega
        · have := no_mid r1 (nf_r ha) (nf_r hb) h3
          rw [num1, q3] at this
          exact this
    · have e0 : e1 = z := by
        rcases lt_tri z e1 with q | q | q
        · exact absurd q x
        · exact q.symm
        · rw [lt_z] at q; cases q
      subst e0
      rw [if_neg x, if_pos rfl]
      have r0 := nf_z ha
      subst r0
      cases q : lt (t e c r) (t z (1 + c1) z) with
      | false => rfl
      | true =>
        rcases lt_inv q with q | ⟨q, q2⟩ | ⟨q, q2, q3⟩
        · rw [lt_z] at q; cases q
        · subst q
          have r0 := nf_z hb
          subst r0
          rcases lt_inv h with h | ⟨h, h2⟩ | ⟨h, h2, h3⟩
          · rw [lt_irr] at h; cases h
          · omega
          · cases h3
        · rw [lt_z] at q3; cases q3
end O
end Rf

set_option maxHeartbeats 400000
/-! The program's own recognizing of ordinals; statements that end a def. -/
namespace Rf
open PySem PySem.W L2 PyProof.Rows
def isoF (s : Nat) : Ss := (.cons (.ifs (.or (.not (.isi (.var 2) [.tuple])) (.or (.cmp .ne (.bi .len (.var 2)) (.con (.int 2))) (.not (.call s (.cons (.ix (.var 2) (.con (.int 0))) .nil) .nil)))) (.cons (.ret (.con (.bool false))) .nil) .nil) (.cons (.set 3 (.ix (.var 2) (.con (.int 1)))) (.cons (.ifs (.or (.not (.isi (.var 3) [.int])) (.or (.isi (.var 3) [.bool]) (.cmp .lt (.var 3) (.con (.int 1))))) (.cons (.ret (.con (.bool false))) .nil) .nil) (.cons (.ifs (.and (.cmp .nis (.var 1) (.con .none)) (.cmp .ge (.ix (.var 2) (.con (.int 0))) (.var 1))) (.cons (.ret (.con (.bool false))) .nil) .nil) (.cons (.set 1 (.ix (.var 2) (.con (.int 0)))) .nil)))))
def isoB (s : Nat) : Ss := (.cons (.ifs (.not (.isi (.var 0) [.tuple])) (.cons (.ret (.con (.bool false))) .nil) .nil) (.cons (.set 1 (.con .none)) (.cons (.for_ (.n 2) (.seq (.var 0)) (isoF s)) (.cons (.ret (.con (.bool true))) .nil))))
def lastD : Option O → PyData
  | some e => e.enc
  | none => .none
theorem cn_none : cmpD .nis .none .none = some false := by simp [cmpD]
theorem cn_tup (b : List PyData) : cmpD .nis (.tuple b) .none = some true := by simp [cmpD]
section
variable {P : Pr} {cells : List Int}
theorem iso_loop {s n : Nat} {v : PyData} {g : Bag} : ∀ (l : List (O × Int)) (q : Option O) (o2 o3 : Option PyData), O.nfs l → (∀ p ∈ l, p.1.ht ≤ 30 ∧ Φ P cells n s [p.1.enc] [] g = some (.bool true, g)) → (∀ e, q = some e → e.ht ≤ 30 ∧ ∀ p ∈ l, O.lt p.1 e = true) →
    ∃ ρ', turns (.n 2) (evSs (Φ P cells n) P.gl (isoF s)) (l.map O.encT) [.sh v, .sh (lastD q), slot o2, slot o3] g = some (.nx, ρ', g)
  | [], q, o2, o3, _, _, _ => ⟨_, rfl⟩
  | p :: l, q, o2, o3, h1, h2, h3 => by
    obtain ⟨hp, hc⟩ := h2 p List.mem_cons_self
    have c1 : ¬ p.2 < 1 := by have := h1.2.1; omega
    obtain ⟨ρ', ih⟩ := iso_loop (s := s) (n := n) (v := v) (g := g) l (some p.1) (some (O.encT p)) (some (.int p.2)) h1.2.2.1 (fun q hq => h2 q (List.mem_cons_of_mem _ hq)) (fun e he => by
      cases he
      exact ⟨hp, O.nfs_lt h1⟩)
    refine ⟨ρ', ?_⟩
    rw [List.map_cons, turns]
    simp only [flat]
    have hb : evSs (Φ P cells n) P.gl (isoF s) (putS [.sh v, .sh (lastD q), slot o2, slot o3] [(2, O.encT p)]) g = some (.nx, [.sh v, .sh p.1.enc, .sh (O.encT p), .sh (.int p.2)], g) := by
      cases q with
      | none => simp [evSs, evS, evX, evT, e_var, e_con, e_glo, e_tup, e_lst, e_bin, e_neg, e_cmp, e_and, e_or, e_not, e_ite, e_call, e_bi, e_isi, e_ix, e_sl, evA, evO, evC, evI, seeF, Rf.settle, frzF, putS, putE, wipeE, flat, flats, E.vars, Es.vars, Eo.vars, It.vars, outD, binD, ixD, slD, biD, itemsOf, arr, noList, noLists, lcF, lim, see_slot, frz_slot, slot_some, slot_none, isoF, tyOk, tyIs, ci_ne, ats0, ats1, hc, ci_lt, c1, cn_none, O.nls, lastD]
      | some e =>
        obtain ⟨he, hl⟩ := h3 e rfl
        have hl := hl p List.mem_cons_self
        have c2 : cmpD .ge p.1.enc e.enc = some false := (O.c_ge (by omega) (by omega)).trans (by rw [hl]; rfl)
        simp [evSs, evS, evX, evT, e_var, e_con, e_glo, e_tup, e_lst, e_bin, e_neg, e_cmp, e_and, e_or, e_not, e_ite, e_call, e_bi, e_isi, e_ix, e_sl, evA, evO, evC, evI, seeF, Rf.settle, frzF, putS, putE, wipeE, flat, flats, E.vars, Es.vars, Eo.vars, It.vars, outD, binD, ixD, slD, biD, itemsOf, arr, noList, noLists, lcF, lim, see_slot, frz_slot, slot_some, slot_none, isoF, tyOk, tyIs, ci_ne, ats0, ats1, hc, ci_lt, c1, cn_tup, c2, O.nls, lastD]
    rw [hb]
    exact ih
theorem iso_ok {s : Nat} (h : Has P s [.p 0] 1 4 (isoB s)) : ∀ (k n : Nat) (a : O) (g : Bag), a.nf → a.ht ≤ k → k ≤ 30 → Φ P cells (n + k + 1) s [a.enc] [] g = some (.bool true, g) := by
  intro k
  induction k with
  | zero =>
    intro n a g hn hh _
    rw [h.call rfl]
    obtain ⟨ρ', e⟩ := iso_loop (P := P) (cells := cells) (s := s) (n := n + 0) (v := a.enc) (g := g) a.ts none none none ((O.nfs_ts a).mpr hn) (fun p hp => by have := O.mem_ht hp; omega) (fun e he => by cases he)
    have hf : evS (Φ P cells (n + 0)) P.gl (.for_ (.n 2) (.seq (.var 0)) (isoF s)) [.sh a.enc, .sh .none, .un, .un] g = some (.nx, ρ', g) := by
      refine st_for (ds := a.ts.map O.encT) (g1 := g) ?_ e
      rw [← O.encs_ts]
      simp [evSs, evS, evX, evT, e_var, e_con, e_glo, e_tup, e_lst, e_bin, e_neg, e_cmp, e_and, e_or, e_not, e_ite, e_call, e_bi, e_isi, e_ix, e_sl, evA, evO, evC, evI, seeF, Rf.settle, frzF, putS, putE, wipeE, flat, flats, E.vars, Es.vars, Eo.vars, It.vars, outD, binD, ixD, slD, biD, itemsOf, arr, noList, noLists, lcF, lim, see_slot, frz_slot, slot_some, slot_none]
    have h0 : evS (Φ P cells (n + 0)) P.gl (.ifs (.not (.isi (.var 0) [.tuple])) (.cons (.ret (.con (.bool false))) .nil) .nil) [.sh a.enc, .un, .un, .un] g = some (.nx, [.sh a.enc, .un, .un, .un], g) := st_chk (by simp [evSs, evS, evX, evT, e_var, e_con, e_glo, e_tup, e_lst, e_bin, e_neg, e_cmp, e_and, e_or, e_not, e_ite, e_call, e_bi, e_isi, e_ix, e_sl, evA, evO, evC, evI, seeF, Rf.settle, frzF, putS, putE, wipeE, flat, flats, E.vars, Es.vars, Eo.vars, It.vars, outD, binD, ixD, slD, biD, itemsOf, arr, noList, noLists, lcF, lim, see_slot, frz_slot, slot_some, slot_none, tyOk, tyIs])
    have h1 : evS (Φ P cells (n + 0)) P.gl (.set 1 (.con .none)) [.sh a.enc, .un, .un, .un] g = some (.nx, [.sh a.enc, .sh .none, .un, .un], g) := by simp [evSs, evS, evX, evT, e_var, e_con, e_glo, e_tup, e_lst, e_bin, e_neg, e_cmp, e_and, e_or, e_not, e_ite, e_call, e_bi, e_isi, e_ix, e_sl, evA, evO, evC, evI, seeF, Rf.settle, frzF, putS, putE, wipeE, flat, flats, E.vars, Es.vars, Eo.vars, It.vars, outD, binD, ixD, slD, biD, itemsOf, arr, noList, noLists, lcF, lim, see_slot, frz_slot, slot_some, slot_none]
    have : evSs (Φ P cells (n + 0)) P.gl (isoB s) [.sh a.enc, .un, .un, .un] g = some (.rt (.bool true), ρ', g) := st_nx h0 (st_nx h1 (st_nx hf (by simp [evSs, evS, evX, evT, e_var, e_con, e_glo, e_tup, e_lst, e_bin, e_neg, e_cmp, e_and, e_or, e_not, e_ite, e_call, e_bi, e_isi, e_ix, e_sl, evA, evO, evC, evI, seeF, Rf.settle, frzF, putS, putE, wipeE, flat, flats, E.vars, Es.vars, Eo.vars, It.vars, outD, binD, ixD, slD, biD, itemsOf, arr, noList, noLists, lcF, lim, see_slot, frz_slot, slot_some, slot_none])))
    show outD (evSs (Φ P cells (n + 0)) P.gl (isoB s) [.sh a.enc, .un, .un, .un] g) = _
    rw [this]
    rfl
  | succ k ih =>
    intro n a g hn hh hk
    rw [h.call rfl]
    obtain ⟨ρ', e⟩ := iso_loop (P := P) (cells := cells) (s := s) (n := n + (k + 1)) (v := a.enc) (g := g) a.ts none none none ((O.nfs_ts a).mpr hn) (fun p hp => by
      have h1 := O.mem_ht hp
      exact ⟨by omega, ih n p.1 g (O.nfs_all ((O.nfs_ts a).mpr hn) p hp).1 (by omega) (by omega)⟩) (fun e he => by cases he)
    have hf : evS (Φ P cells (n + (k + 1))) P.gl (.for_ (.n 2) (.seq (.var 0)) (isoF s)) [.sh a.enc, .sh .none, .un, .un] g = some (.nx, ρ', g) := by
      refine st_for (ds := a.ts.map O.encT) (g1 := g) ?_ e
      rw [← O.encs_ts]
      simp [evSs, evS, evX, evT, e_var, e_con, e_glo, e_tup, e_lst, e_bin, e_neg, e_cmp, e_and, e_or, e_not, e_ite, e_call, e_bi, e_isi, e_ix, e_sl, evA, evO, evC, evI, seeF, Rf.settle, frzF, putS, putE, wipeE, flat, flats, E.vars, Es.vars, Eo.vars, It.vars, outD, binD, ixD, slD, biD, itemsOf, arr, noList, noLists, lcF, lim, see_slot, frz_slot, slot_some, slot_none]
    have h0 : evS (Φ P cells (n + (k + 1))) P.gl (.ifs (.not (.isi (.var 0) [.tuple])) (.cons (.ret (.con (.bool false))) .nil) .nil) [.sh a.enc, .un, .un, .un] g = some (.nx, [.sh a.enc, .un, .un, .un], g) := st_chk (by simp [evSs, evS, evX, evT, e_var, e_con, e_glo, e_tup, e_lst, e_bin, e_neg, e_cmp, e_and, e_or, e_not, e_ite, e_call, e_bi, e_isi, e_ix, e_sl, evA, evO, evC, evI, seeF, Rf.settle, frzF, putS, putE, wipeE, flat, flats, E.vars, Es.vars, Eo.vars, It.vars, outD, binD, ixD, slD, biD, itemsOf, arr, noList, noLists, lcF, lim, see_slot, frz_slot, slot_some, slot_none, tyOk, tyIs])
    have h1 : evS (Φ P cells (n + (k + 1))) P.gl (.set 1 (.con .none)) [.sh a.enc, .un, .un, .un] g = some (.nx, [.sh a.enc, .sh .none, .un, .un], g) := by simp [evSs, evS, evX, evT, e_var, e_con, e_glo, e_tup, e_lst, e_bin, e_neg, e_cmp, e_and, e_or, e_not, e_ite, e_call, e_bi, e_isi, e_ix, e_sl, evA, evO, evC, evI, seeF, Rf.settle, frzF, putS, putE, wipeE, flat, flats, E.vars, Es.vars, Eo.vars, It.vars, outD, binD, ixD, slD, biD, itemsOf, arr, noList, noLists, lcF, lim, see_slot, frz_slot, slot_some, slot_none]
    have : evSs (Φ P cells (n + (k + 1))) P.gl (isoB s) [.sh a.enc, .un, .un, .un] g = some (.rt (.bool true), ρ', g) := st_nx h0 (st_nx h1 (st_nx hf (by simp [evSs, evS, evX, evT, e_var, e_con, e_glo, e_tup, e_lst, e_bin, e_neg, e_cmp, e_and, e_or, e_not, e_ite, e_call, e_bi, e_isi, e_ix, e_sl, evA, evO, evC, evI, seeF, Rf.settle, frzF, putS, putE, wipeE, flat, flats, E.vars, Es.vars, Eo.vars, It.vars, outD, binD, ixD, slD, biD, itemsOf, arr, noList, noLists, lcF, lim, see_slot, frz_slot, slot_some, slot_none])))
    show outD (evSs (Φ P cells (n + (k + 1))) P.gl (isoB s) [.sh a.enc, .un, .un, .un] g) = _
    rw [this]
    rfl
end
end Rf

set_option maxHeartbeats 400000
/-! Raised ordinals. -/
namespace Rf
open PySem PySem.W L2 PyProof.Rows
namespace O
def flo (a e : O) : O := mk (a.ts.filter fun p => !lt p.1 e)
def rsd (a e : O) : O := if e = z then a else if flo a e = a ∧ a ≠ z then a else add (flo a e) (t e 1 z)
theorem flo_ht {a e : O} {k : Nat} (h : a.ht ≤ k) : (flo a e).ht ≤ k := ht_of fun p hp => Nat.le_trans (mem_ht (List.mem_filter.mp hp).1) h
theorem flo_sz (a e : O) : (flo a e).sz ≤ a.sz := by
  rw [flo, sz_mk, ← szs_ts a]
  exact szs_filter _ _
theorem flo_nf {a : O} (e : O) (h : a.nf) : (flo a e).nf := (nf_mk _).mpr (nfs_filter _ ((nfs_ts a).mpr h))
theorem one_nf {e : O} (h : e.nf) : (t e 1 z).nf := ⟨h, by decide, trivial, fun p hp => by cases hp⟩
theorem rsd_nf {a e : O} (h : a.nf) (k : e.nf) : (rsd a e).nf := by
  unfold rsd
  split
  · exact h
  · split
    · exact h
    · exact add_nf (flo_nf e h) (one_nf k)
theorem rsd_ht {a e : O} {k : Nat} (h : a.ht ≤ k) (q : e.ht + 1 ≤ k) : (rsd a e).ht ≤ k := by
  unfold rsd
  split
  · exact h
  · split
    · exact h
    · exact add_ht (flo_ht h) (by simp only [ht]; omega)
theorem rsd_sz (a e : O) : (rsd a e).sz ≤ a.sz + e.sz + 1 := by
  have h1 := flo_sz a e
  have h2 := add_sz (a := flo a e) (b := t e 1 z)
  simp only [sz] at h2
  unfold rsd
  split
  · omega
  · split
    · omega
    · omega
/-- an ordinal is its terms from e on, and the rest -/
theorem flo_split {a : O} (e : O) (h : a.nf) : ∃ r : O, r.nf ∧ lt r (t e 1 z) = true ∧ a = add (flo a e) r ∧ (r = z → flo a e = a) := by
  have hn := (nfs_ts a).mpr h
  have key : ∀ l : List (O × Int), nfs l → ∃ r, nfs r ∧ l = l.filter (fun p => !lt p.1 e) ++ r ∧ ∀ p ∈ r, lt p.1 e = true := by
    intro l
    induction l with
    | nil => exact fun _ => ⟨[], trivial, rfl, fun p hp => by cases hp⟩
    | cons p l ih =>
      intro hl
      cases q : lt p.1 e with
      | true =>
        have : (p :: l).filter (fun p => !lt p.1 e) = [] := List.filter_eq_nil_iff.mpr fun x hx => by
          rcases List.mem_cons.mp hx with hx | hx
          · subst hx
            simp [q]
          · simp [lt_trans (nfs_lt hl x hx) q]
        rw [this]
        refine ⟨p :: l, hl, rfl, fun x hx => ?_⟩
        rcases List.mem_cons.mp hx with hx | hx
        · subst hx
          exact q
        · exact lt_trans (nfs_lt hl x hx) q
      | false =>
        obtain ⟨r, h1, h2, h3⟩ := ih hl.2.2.1
        refine ⟨r, h1, ?_, h3⟩
        rw [List.filter_cons]
        simp only [q, Bool.not_false, if_true, List.cons_append]
        rw [← h2]
  obtain ⟨r, h1, h2, h3⟩ := key a.ts hn
  refine ⟨mk r, (nf_mk r).mpr h1, ?_, ?_, fun hz => ?_⟩
  · cases r with
    | nil => rfl
    | cons p r => exact lt_exp (h3 p List.mem_cons_self)
  · cases r with
    | nil =>
      show a = mk _
      rw [List.append_nil] at h2
      rw [← h2, mk_ts]
    | cons p r =>
      have hp := h3 p List.mem_cons_self
      apply ts_inj
      show a.ts = (add (flo a e) (t p.1 p.2 (mk r))).ts
      rw [add_ts, flo, ts_mk, ts_mk]
      have f1 : (a.ts.filter (fun p => !lt p.1 e)).filter (fun q => lt p.1 q.1) = a.ts.filter (fun p => !lt p.1 e) := List.filter_eq_self.mpr fun x hx => by
        have := (List.mem_filter.mp hx).2
        exact lt_le hp (by simpa using this)
      have f2 : (a.ts.filter (fun p => !lt p.1 e)).filter (fun q => decide (q.1 = p.1)) = [] := List.filter_eq_nil_iff.mpr fun x hx => by
        have := (List.mem_filter.mp hx).2
        have := lt_le hp (b := e) (c := x.1) (by simpa using this)
        simp [(lt_ne this).symm]
      rw [f1, f2]
      simpa using h2
  · have : r = [] := by
      cases r with
      | nil => rfl
      | cons p r => cases hz
    rw [this, List.append_nil] at h2
    rw [flo, ← h2, mk_ts]
theorem rsd_ge {a e : O} (h : a.nf) (k : e.nf) : lt (rsd a e) a = false := by
  unfold rsd
  split
  · exact lt_irr _
  · split
    · exact lt_irr _
    · obtain ⟨r, h1, h2, h3, h4⟩ := flo_split e h
      have := add_mono (flo a e) (flo_nf e h) h1 (one_nf k) h2
      rw [← h3] at this
      exact lt_asy this
theorem last_of {a : O} {l : List (O × Int)} {p : O × Int} (h : a.ts = l ++ [p]) : a.last = p.1 := by
  unfold O.last
  rw [h]
  simp
theorem rsd_end {a e : O} (h : a.nf) (k : e.nf) : lt (rsd a e).last e = false := by
  unfold rsd
  split
  · rename_i q
    rw [q]
    exact lt_z _
  · split
    · rename_i q
      rcases cases_last a with x | ⟨l, f, c, q1, q2, q3, q4⟩
      · exact absurd x q.2
      · rw [q3]
        have hm : (f, c) ∈ a.ts := by rw [q1]; simp
        have : a.ts = a.ts.filter fun p => !lt p.1 e := by
          have := congrArg ts q.1
          rw [flo, ts_mk] at this
          exact this.symm
        rw [this] at hm
        simpa using (List.mem_filter.mp hm).2
    · rw [last_of (add_ts _)]
      exact lt_irr _
/-- whose terms are all at least e -/
def all (a e : O) : Prop := ∀ p ∈ a.ts, lt p.1 e = false
theorem all_z {e : O} {r : O} (h : all r e) (k : ∀ p ∈ r.ts, lt p.1 e = true) : r = z := by
  cases r with
  | z => rfl
  | t f c s =>
    have h1 := h (f, c) (by simp [ts])
    have h2 := k (f, c) (by simp [ts])
    rw [h1] at h2
    cases h2
theorem blw : ∀ (x : O) {b e : O}, x.nf → all x e → b.nf → all b e → lt b (add x (t e 1 z)) = true → lt x b = false
  | z, z, e, _, _, _, _, _ => rfl
  | z, t f c r, e, _, _, hb, h2, h => by
    rw [add_zl] at h
    have := h2 (f, c) (by simp [ts])
    have hc := hb.2.1
    rcases lt_inv h with q | ⟨q, q2⟩ | ⟨q, q2, q3⟩
    · rw [this] at q; cases q
    · omega
    · rw [lt_z] at q3; cases q3
  | t e1 c1 r1, z, e, _, _, _, _, _ => rfl
  | t e1 c1 r1, t f c r, e, hx, h1, hb, h2, h => by
    have g1 := h1 (e1, c1) (by simp [ts])
    have g2 := h2 (f, c) (by simp [ts])
    have a1 : all r1 e := fun p hp => h1 p (by simp [ts, hp])
    have a2 : all r e := fun p hp => h2 p (by simp [ts, hp])
    rw [add_rec hx] at h
    by_cases y : lt e e1 = true
    · rw [if_pos y] at h
      rcases lt_inv h with q | ⟨q, q2⟩ | ⟨q, q2, q3⟩
      · exact lt_asy (lt_exp q)
      · subst q
        exact lt_asy (lt_cnt q2)
      · subst q
        subst q2
        rw [lt_same]
        exact blw r1 (nf_r hx) a1 (nf_r hb) a2 q3
    · rw [if_neg y] at h
      have e0 : e1 = e := by
        rcases ge_of g1 with q | q
        · exact q
        · exact absurd q y
      subst e0
      rw [if_pos rfl] at h
      have r0 := all_z a1 (nf_rlt hx)
      subst r0
      rcases lt_inv h with q | ⟨q, q2⟩ | ⟨q, q2, q3⟩
      · simp only at g2
        rw [g2] at q; cases q
      · subst q
        have r0 := all_z a2 (nf_rlt hb)
        subst r0
        by_cases w : c = c1
        · subst w
          exact lt_irr _
        · exact lt_asy (lt_cnt (by omega))
      · rw [lt_z] at q3; cases q3
theorem all_last {b e : O} (h : b.nf) (k : lt b.last e = false) : b = z ∨ all b e := by
  rcases cases_last b with x | ⟨l, f, c, q1, q2, q3, q4⟩
  · exact .inl x
  · right
    rw [q3] at k
    have hn := (nfs_ts b).mpr h
    rw [q1] at hn
    intro p hp
    rw [q1] at hp
    rcases List.mem_append.mp hp with hp | hp
    · have := (nfs_app.mp hn).2.2 p hp (f, c) (by simp)
      exact le_le k (lt_asy this)
    · rw [List.mem_singleton] at hp
      subst hp
      exact k
/-- no lesser one will do -/
theorem rsd_min {a b e : O} (ha : a.nf) (he : e.nf) (hb : b.nf) (h1 : lt b a = false) (h2 : lt b (rsd a e) = true) : lt b.last e = true := by
  cases k : lt b.last e with
  | true => rfl
  | false =>
    exfalso
    unfold rsd at h2
    split at h2
    · rw [h1] at h2; cases h2
    · rename_i hz
      split at h2
      · rw [h1] at h2; cases h2
      · rename_i hq
        obtain ⟨r, r1, r2, r3, r4⟩ := flo_split e ha
        rcases all_last hb k with z0 | al
        · subst z0
          have : lt z e = true := by
            rcases lt_tri z e with q | q | q
            · exact q
            · exact absurd q.symm hz
            · rw [lt_z] at q; cases q
          rw [show O.last z = z from rfl, this] at k
          cases k
        · have af : all (flo a e) e := fun p hp => by
            rw [flo, ts_mk] at hp
            simpa using (List.mem_filter.mp hp).2
          have h3 := blw (flo a e) (flo_nf e ha) af hb al h2
          -- a ≤ b ≤ flo a e
          have h4 := le_le h1 h3
          cases r with
          | z =>
            have h5 := r4 rfl
            by_cases y : a = z
            · subst y
              have hf : flo z e = z := rfl
              rw [hf] at h3
              cases b with
              | z =>
                have : lt z e = true := by
                  rcases lt_tri z e with q | q | q
                  · exact q
                  · exact absurd q.symm hz
                  · rw [lt_z] at q; cases q
                rw [show O.last z = z from rfl, this] at k
                cases k
              | t _ _ _ => cases h3
            · exact hq ⟨h5, y⟩
          | t f c s =>
            have := lt_add (flo a e) (f := f) (d := c) (s := s) (flo_nf e ha) r1.2.1
            rw [← r3, h4] at this
            cases this
end O
/-! ### what the defs compute -/
def rsdL : E := .lc (.n 3) [3] (.seq (.var 0)) (.so (.cmp .ge (.ix (.var 3) (.con (.int 0))) (.var 1))) (.var 3)
theorem v_rsdL : rsdL.vars = [0, 3, 1, 3] := rfl
def omB (zg : Nat) : Ss := (.cons (.ret (.ite (.cmp .gt (.var 1) (.con (.int 0))) (.tup (.cons (.tup (.cons (.var 0) (.cons (.var 1) .nil))) .nil)) (.glo zg))) .nil)
def rsdB (zg p om : Nat) : Ss := (.cons (.ifs (.cmp .eq (.var 1) (.glo zg)) (.cons (.ret (.var 0)) .nil) .nil) (.cons (.set 2 (.bi .tuple rsdL)) (.cons (.ifs (.and (.cmp .eq (.var 2) (.var 0)) (.cmp .ne (.var 0) (.glo zg))) (.cons (.ret (.var 0)) .nil) .nil) (.cons (.ret (.call p (.cons (.var 2) (.cons (.call om (.cons (.var 1) .nil) .nil) .nil)) .nil)) .nil))))
def raiB (sm : Nat) : Ss := (.cons (.set 2 (.bi .tuple rsdL)) (.cons (.ifs (.or (.cmp .eq (.var 1) (.tup .nil)) (.and (.cmp .eq (.var 2) (.var 0)) (.cmp .ne (.var 0) (.tup .nil)))) (.cons (.ret (.var 0)) .nil) .nil) (.cons (.ret (.call sm (.cons (.var 2) (.cons (.tup (.cons (.tup (.cons (.var 1) (.cons (.con (.int 1)) .nil))) .nil)) .nil)) .nil)) .nil)))
def nextB (sm nm : Nat) : Ss := (.cons (.ret (.call sm (.cons (.var 0) (.cons (.call nm (.cons (.con (.int 1)) .nil) .nil) .nil)) .nil)) .nil)
section
variable {P : Pr} {cells : List Int} {n : Nat}
theorem rsdL_ok {Ψ : Fns} {gl : Nat → Option PyData} {a e : O} {g : Bag} (h1 : a.ht ≤ 30) (h2 : e.ht ≤ 30) (k1 : a.sz ≤ 1000000) (o2 : Option PyData) : evE Ψ gl rsdL [some a.enc, some e.enc, o2, none] g = some (.list ((O.flo a e).encs), g) := by
  have hlen : a.encs.length ≤ lim := by have := O.len_sz a; rw [O.encs_len]; simp only [lim]; omega
  refine e_lc (ds := a.encs) (g1 := g) (by simp [evSs, evS, evX, evT, e_var, e_con, e_glo, e_tup, e_lst, e_bin, e_neg, e_cmp, e_and, e_or, e_not, e_ite, e_call, e_bi, e_isi, e_ix, e_sl, evA, evO, evC, evI, seeF, Rf.settle, frzF, putS, putE, wipeE, flat, flats, E.vars, Es.vars, Eo.vars, It.vars, outD, binD, ixD, slD, biD, itemsOf, arr, noList, noLists, lcF, lim]) hlen ?_
  rw [O.encs_ts, O.encs_ts, O.flo, O.ts_mk]
  refine comp_filter fun p hp => ?_
  have hp := O.mem_ht hp
  simp [evSs, evS, evX, evT, e_var, e_con, e_glo, e_tup, e_lst, e_bin, e_neg, e_cmp, e_and, e_or, e_not, e_ite, e_call, e_bi, e_isi, e_ix, e_sl, evA, evO, evC, evI, seeF, Rf.settle, frzF, putS, putE, wipeE, flat, flats, E.vars, Es.vars, Eo.vars, It.vars, outD, binD, ixD, slD, biD, itemsOf, arr, noList, noLists, lcF, lim, ats0]
  rw [O.c_ge (by omega) (by omega)]
  cases O.lt p.1 e <;> simp
theorem om_ok {s zg : Nat} (h : Has P s [.p 0, .c (.int 1)] 2 2 (omB zg)) {e : O} {g : Bag} : Φ P cells (n + 1) s [e.enc] [] g = some ((O.t e 1 .z).enc, g) := by
  rw [h.call rfl]
  simp [evSs, evS, evX, evT, e_var, e_con, e_glo, e_tup, e_lst, e_bin, e_neg, e_cmp, e_and, e_or, e_not, e_ite, e_call, e_bi, e_isi, e_ix, e_sl, evA, evO, evC, evI, seeF, Rf.settle, frzF, putS, putE, wipeE, flat, flats, E.vars, Es.vars, Eo.vars, It.vars, outD, binD, ixD, slD, biD, itemsOf, arr, noList, noLists, lcF, lim, omB, ci_gt, O.encs]
theorem rsd_ok {s zg p om : Nat} {srcs : List Src} (h : Has P s srcs 2 4 (rsdB zg p om)) (hz : P.gl zg = some (.tuple [])) (hp : Has P p [.p 0, .p 1] 2 7 (plusB zg)) (ho : Has P om [.p 0, .c (.int 1)] 2 2 (omB zg)) {ds es : List PyData} {a e : O} {g : Bag} (hs : srcs.length = 2) (ha : arr srcs ds es = [a.enc, e.enc]) (h1 : a.ht ≤ 29) (h2 : e.ht ≤ 29) (k1 : a.sz ≤ 100000) (k2 : e.sz ≤ 100000) : Φ P cells (n + 2) s ds es g = some ((O.rsd a e).enc, g) := by
  rw [h.call hs, ha]
  have l1 := rsdL_ok (Ψ := Φ P cells (n + 1)) (gl := P.gl) (a := a) (e := e) (g := g) (by omega) (by omega) (by omega)
  have hf : (O.flo a e).ht ≤ 30 := O.flo_ht (by omega)
  have hs := O.flo_sz a e
  have c1 := O.cz_eq (a := e) (by omega)
  have c2 := O.c_eq (a := O.flo a e) (b := a) (by omega) (by omega)
  have c3 := O.cz_ne (a := a) (by omega)
  have ef := plus_ok (cells := cells) (n := n) hp hz (ds := [(O.flo a e).enc, (O.t e 1 .z).enc]) (es := []) (a := O.flo a e) (b := .t e 1 .z) (g := g) rfl rfl hf (by simp only [O.ht]; omega) (by omega) (by simp only [O.sz]; omega)
  have eo := om_ok (cells := cells) (n := n) ho (e := e) (g := g)
  unfold O.rsd
  by_cases q : e = .z
  · have c1 : cmpD .eq e.enc (.tuple []) = some true := c1.trans (by simp [q])
    rw [if_pos q]
    simp [evSs, evS, evX, evT, e_var, e_con, e_glo, e_tup, e_lst, e_bin, e_neg, e_cmp, e_and, e_or, e_not, e_ite, e_call, e_bi, e_isi, e_ix, e_sl, evA, evO, evC, evI, seeF, Rf.settle, frzF, putS, putE, wipeE, flat, flats, E.vars, Es.vars, Eo.vars, It.vars, outD, binD, ixD, slD, biD, itemsOf, arr, noList, noLists, lcF, lim, rsdB, hz, c1]
  · have c1 : cmpD .eq e.enc (.tuple []) = some false := c1.trans (by simp [q])
    rw [if_neg q]
    by_cases y : O.flo a e = a
    · have c2 : cmpD .eq (O.flo a e).enc a.enc = some true := c2.trans (by simp [y])
      by_cases x : a = .z
      · have c3 : cmpD .ne a.enc (.tuple []) = some false := c3.trans (by simp [x])
        rw [if_neg (fun w => w.2 x)]
        simp [evSs, evS, evX, evT, e_var, e_con, e_glo, e_tup, e_lst, e_bin, e_neg, e_cmp, e_and, e_or, e_not, e_ite, e_call, e_bi, e_isi, e_ix, e_sl, evA, evO, evC, evI, seeF, Rf.settle, frzF, putS, putE, wipeE, flat, flats, E.vars, Es.vars, Eo.vars, It.vars, outD, binD, ixD, slD, biD, itemsOf, arr, noList, noLists, lcF, lim, rsdB, hz, c1, v_rsdL, l1, c2, c3, eo, ef, O.nls]
      · have c3 : cmpD .ne a.enc (.tuple []) = some true := c3.trans (by simp [x])
        rw [if_pos ⟨y, x⟩]
        simp [evSs, evS, evX, evT, e_var, e_con, e_glo, e_tup, e_lst, e_bin, e_neg, e_cmp, e_and, e_or, e_not, e_ite, e_call, e_bi, e_isi, e_ix, e_sl, evA, evO, evC, evI, seeF, Rf.settle, frzF, putS, putE, wipeE, flat, flats, E.vars, Es.vars, Eo.vars, It.vars, outD, binD, ixD, slD, biD, itemsOf, arr, noList, noLists, lcF, lim, rsdB, hz, c1, v_rsdL, l1, c2, c3, O.nls]
    · have c2 : cmpD .eq (O.flo a e).enc a.enc = some false := c2.trans (by simp [y])
      rw [if_neg (fun w => y w.1)]
      simp [evSs, evS, evX, evT, e_var, e_con, e_glo, e_tup, e_lst, e_bin, e_neg, e_cmp, e_and, e_or, e_not, e_ite, e_call, e_bi, e_isi, e_ix, e_sl, evA, evO, evC, evI, seeF, Rf.settle, frzF, putS, putE, wipeE, flat, flats, E.vars, Es.vars, Eo.vars, It.vars, outD, binD, ixD, slD, biD, itemsOf, arr, noList, noLists, lcF, lim, rsdB, hz, c1, v_rsdL, l1, c2, eo, ef, O.nls]
theorem rai_ok {s sm : Nat} {srcs : List Src} (h : Has P s srcs 2 4 (raiB sm)) (hm : Has P sm [.p 0, .p 1] 2 4 sumB) {ds es : List PyData} {a e : O} {g : Bag} (hs : srcs.length = 2) (ha : arr srcs ds es = [a.enc, e.enc]) (hn : a.nf) (h1 : a.ht ≤ 29) (h2 : e.ht ≤ 29) (k1 : a.sz ≤ 100000) (k2 : e.sz ≤ 100000) : Φ P cells (n + 2) s ds es g = some ((O.rsd a e).enc, g) := by
  rw [h.call hs, ha]
  have l1 := rsdL_ok (Ψ := Φ P cells (n + 1)) (gl := P.gl) (a := a) (e := e) (g := g) (by omega) (by omega) (by omega)
  have hf : (O.flo a e).ht ≤ 30 := O.flo_ht (by omega)
  have hs := O.flo_sz a e
  have c1 := O.cz_eq (a := e) (by omega)
  have c2 := O.c_eq (a := O.flo a e) (b := a) (by omega) (by omega)
  have c3 := O.cz_ne (a := a) (by omega)
  have ef : Φ P cells (n + 1) sm [(O.flo a e).enc, .tuple [.tuple [e.enc, .int 1]]] [] g = some ((O.add (O.flo a e) (.t e 1 .z)).enc, g) := sum_ok (cells := cells) (n := n) hm (ds := [(O.flo a e).enc, (O.t e 1 .z).enc]) (es := []) (a := O.flo a e) (b := .t e 1 .z) (g := g) rfl rfl (O.flo_nf e hn) hf (by simp only [O.ht]; omega) (by omega) (by simp only [O.sz]; omega)
  unfold O.rsd
  by_cases q : e = .z
  · have c1 : cmpD .eq e.enc (.tuple []) = some true := c1.trans (by simp [q])
    rw [if_pos q]
    simp [evSs, evS, evX, evT, e_var, e_con, e_glo, e_tup, e_lst, e_bin, e_neg, e_cmp, e_and, e_or, e_not, e_ite, e_call, e_bi, e_isi, e_ix, e_sl, evA, evO, evC, evI, seeF, Rf.settle, frzF, putS, putE, wipeE, flat, flats, E.vars, Es.vars, Eo.vars, It.vars, outD, binD, ixD, slD, biD, itemsOf, arr, noList, noLists, lcF, lim, raiB, c1, v_rsdL, l1, O.nls]
  · have c1 : cmpD .eq e.enc (.tuple []) = some false := c1.trans (by simp [q])
    rw [if_neg q]
    by_cases y : O.flo a e = a
    · have c2 : cmpD .eq (O.flo a e).enc a.enc = some true := c2.trans (by simp [y])
      by_cases x : a = .z
      · have c3 : cmpD .ne a.enc (.tuple []) = some false := c3.trans (by simp [x])
        rw [if_neg (fun w => w.2 x)]
        simp [evSs, evS, evX, evT, e_var, e_con, e_glo, e_tup, e_lst, e_bin, e_neg, e_cmp, e_and, e_or, e_not, e_ite, e_call, e_bi, e_isi, e_ix, e_sl, evA, evO, evC, evI, seeF, Rf.settle, frzF, putS, putE, wipeE, flat, flats, E.vars, Es.vars, Eo.vars, It.vars, outD, binD, ixD, slD, biD, itemsOf, arr, noList, noLists, lcF, lim, raiB, c1, v_rsdL, l1, c2, c3, ef, O.nls]
      · have c3 : cmpD .ne a.enc (.tuple []) = some true := c3.trans (by simp [x])
        rw [if_pos ⟨y, x⟩]
        simp [evSs, evS, evX, evT, e_var, e_con, e_glo, e_tup, e_lst, e_bin, e_neg, e_cmp, e_and, e_or, e_not, e_ite, e_call, e_bi, e_isi, e_ix, e_sl, evA, evO, evC, evI, seeF, Rf.settle, frzF, putS, putE, wipeE, flat, flats, E.vars, Es.vars, Eo.vars, It.vars, outD, binD, ixD, slD, biD, itemsOf, arr, noList, noLists, lcF, lim, raiB, c1, v_rsdL, l1, c2, c3, O.nls]
    · have c2 : cmpD .eq (O.flo a e).enc a.enc = some false := c2.trans (by simp [y])
      rw [if_neg (fun w => y w.1)]
      simp [evSs, evS, evX, evT, e_var, e_con, e_glo, e_tup, e_lst, e_bin, e_neg, e_cmp, e_and, e_or, e_not, e_ite, e_call, e_bi, e_isi, e_ix, e_sl, evA, evO, evC, evI, seeF, Rf.settle, frzF, putS, putE, wipeE, flat, flats, E.vars, Es.vars, Eo.vars, It.vars, outD, binD, ixD, slD, biD, itemsOf, arr, noList, noLists, lcF, lim, raiB, c1, v_rsdL, l1, c2, ef, O.nls]
theorem next_ok {s sm nm : Nat} (h : Has P s [.p 0] 1 1 (nextB sm nm)) (hm : Has P sm [.p 0, .p 1] 2 4 sumB) (hn : Has P nm [.p 0] 1 1 numB) {a : O} {g : Bag} (ha : a.nf) (h1 : a.ht ≤ 29) (k1 : a.sz ≤ 100000) : Φ P cells (n + 2) s [a.enc] [] g = some ((O.add a (O.num 1)).enc, g) := by
  rw [h.call rfl]
  have e1 := num_ok (cells := cells) (n := n) hn (i := 1) (g := g)
  have e2 := sum_ok (cells := cells) (n := n) hm (ds := [a.enc, (O.num 1).enc]) (es := []) (a := a) (b := O.num 1) (g := g) rfl rfl ha (by omega) (by decide) (by omega) (by decide)
  simp [evSs, evS, evX, evT, e_var, e_con, e_glo, e_tup, e_lst, e_bin, e_neg, e_cmp, e_and, e_or, e_not, e_ite, e_call, e_bi, e_isi, e_ix, e_sl, evA, evO, evC, evI, seeF, Rf.settle, frzF, putS, putE, wipeE, flat, flats, E.vars, Es.vars, Eo.vars, It.vars, outD, binD, ixD, slD, biD, itemsOf, arr, noList, noLists, lcF, lim, nextB, e1, e2]
end
end Rf

set_option maxHeartbeats 400000
/-! Rows. -/
namespace Rf
open PySem PySem.W L2 PyProof.Rows
theorem turns_invg {t : Tg} {body : List Sl → Bag → R} {Inv : List Sl → Prop} {g : Bag} : ∀ {ds : List PyData} {ρ : List Sl}, Inv ρ → (∀ d ∈ ds, ∀ ρ, Inv ρ → ∃ ps ρ', flat t d = some ps ∧ body (putS ρ ps) g = some (.nx, ρ', g) ∧ Inv ρ') → ∃ ρ', turns t body ds ρ g = some (.nx, ρ', g) ∧ Inv ρ'
  | [], ρ, h, _ => ⟨ρ, rfl, h⟩
  | d :: ds, ρ, h, k => by
    obtain ⟨ps, ρ1, h1, h2, h3⟩ := k d List.mem_cons_self ρ h
    obtain ⟨ρ2, h4, h5⟩ := turns_invg h3 fun d hd => k d (List.mem_cons_of_mem _ hd)
    refine ⟨ρ2, ?_, h5⟩
    rw [turns, h1]
    simp only [h2]
    exact h4
theorem turns_or {t : Tg} {body : List Sl → Bag → R} {Inv : List Sl → Prop} {g : Bag} {v : PyData} : ∀ {ds : List PyData} {ρ : List Sl}, Inv ρ → (∀ d ∈ ds, ∀ ρ, Inv ρ → ∃ ps ρ' fl, flat t d = some ps ∧ body (putS ρ ps) g = some (fl, ρ', g) ∧ (fl = .nx ∧ Inv ρ' ∨ fl = .rt v)) → ∃ ρ' fl, turns t body ds ρ g = some (fl, ρ', g) ∧ (fl = .nx ∧ Inv ρ' ∨ fl = .rt v)
  | [], ρ, h, _ => ⟨ρ, .nx, rfl, .inl ⟨rfl, h⟩⟩
  | d :: ds, ρ, h, k => by
    obtain ⟨ps, ρ1, fl, h1, h2, h3⟩ := k d List.mem_cons_self ρ h
    rcases h3 with ⟨rfl, h3⟩ | rfl
    · obtain ⟨ρ2, fl, h4, h5⟩ := turns_or h3 fun d hd => k d (List.mem_cons_of_mem _ hd)
      refine ⟨ρ2, fl, ?_, h5⟩
      rw [turns, h1]
      simp only [h2]
      exact h4
    · refine ⟨ρ1, .rt v, ?_, .inr rfl⟩
      rw [turns, h1]
      simp only [h2]
theorem mem_rangeD {n : Nat} {d : PyData} (h : d ∈ rangeD 0 n) : ∃ i : Nat, i < n ∧ d = .int (i : Int) := by
  unfold rangeD at h
  obtain ⟨i, hi, rfl⟩ := List.mem_map.mp h
  exact ⟨i, List.mem_range.mp hi, by rw [Int.zero_add]⟩
/-! ### rows as data -/
abbrev encR (r : List O) : PyData := .tuple (r.map O.enc)
theorem rows_eqv : ∀ r s : List O, PyData.eqvAll (r.map O.enc) (s.map O.enc) = decide (r = s)
  | [], [] => by simp [PyData.eqvAll]
  | [], _ :: _ => by simp [PyData.eqvAll]
  | _ :: _, [] => by simp [PyData.eqvAll]
  | a :: r, b :: s => by
    simp only [List.map_cons, PyData.eqvAll, rows_eqv r s, O.eqv, List.cons.injEq]
    by_cases x : a = b <;> by_cases y : r = s <;> simp [x, y]
theorem rows_lay : ∀ r : List O, PyData.canLayAll0 (r.map O.enc) = true
  | [] => by simp [PyData.canLayAll0]
  | a :: r => by simp only [List.map_cons, PyData.canLayAll0, rows_lay r, PyData.canLay0, O.lays, Bool.and_self]
theorem rows_dep {k : Nat} : ∀ {r : List O}, (∀ o ∈ r, o.ht ≤ k) → PyData.depthAll (r.map O.enc) ≤ 2 * k + 1
  | [], _ => by simp [PyData.depthAll]
  | a :: r, h => by
    have h1 := rows_dep fun o ho => h o (List.mem_cons_of_mem _ ho)
    have h2 := h a List.mem_cons_self
    simp only [List.map_cons, PyData.depthAll, O.dep]
    omega
theorem rows_shp {r : List O} (h : ∀ o ∈ r, o.ht ≤ 30) : SeqAt.shaped (encR r) = true := by
  have := rows_dep h
  unfold SeqAt.shaped
  rw [PyData.canLay0, rows_lay, PyData.depth, Bool.true_and]
  exact decide_eq_true (by omega)
theorem rows_nl : ∀ r : List O, noLists (r.map O.enc) = true
  | [] => by simp [noLists]
  | a :: r => by simp only [List.map_cons, noLists, O.nl, rows_nl r, Bool.and_self]
theorem cr_eq {r s : List O} (h : ∀ o ∈ r, o.ht ≤ 30) (k : ∀ o ∈ s, o.ht ≤ 30) : cmpD .eq (encR r) (encR s) = some (decide (r = s)) := by
  simp only [cmpD, rows_shp h, rows_shp k, PyData.eqv, rows_eqv, Bool.and_self, if_true]
theorem cut_take {α : Type} (l : List α) {k : Int} (h : 0 ≤ k) : cut l none (some k) = l.take k.toNat := by
  unfold cut HT.sIx
  simp only [show ¬ k < 0 by omega, if_false, List.drop_zero, Nat.sub_zero]
  by_cases q : k.toNat ≤ l.length
  · rw [Nat.min_eq_left q]
  · rw [Nat.min_eq_right (by omega), List.take_length, List.take_of_length_le (by omega)]
/-! ### below -/
def bel (k : Nat) (r s : List O) : Bool := decide (r.take k = s.take k) && O.lt (s.getD k .z) (r.getD k .z)
theorem bel_trans {k : Nat} {a b c : List O} (h1 : bel k a b = true) (h2 : bel k b c = true) : bel k a c = true := by
  unfold bel at *
  simp only [Bool.and_eq_true, decide_eq_true_eq] at *
  exact ⟨h1.1.trans h2.1, O.lt_trans h2.2 h1.2⟩
theorem bel_low {k j : Nat} {a b c : List O} (h : bel k a b = true) (hj : j < k) : bel j a c = bel j b c := by
  unfold bel at *
  simp only [Bool.and_eq_true, decide_eq_true_eq] at h
  have e1 : a.take j = b.take j := by
    have := congrArg (List.take j) h.1
    rw [List.take_take, List.take_take, Nat.min_eq_left (Nat.le_of_lt hj)] at this
    exact this
  have e2 : a.getD j .z = b.getD j .z := by
    have := congrArg (fun l : List O => l[j]?) h.1
    simp only [List.getElem?_take, hj, if_true] at this
    rw [List.getD_eq_getElem?_getD, List.getD_eq_getElem?_getD, this]
  rw [e1, e2]
def belB : Ss := (.cons (.ret (.and (.cmp .eq (.sl (.var 1) .no (.so (.var 0))) (.sl (.var 2) .no (.so (.var 0)))) (.cmp .lt (.ix (.var 2) (.var 0)) (.ix (.var 1) (.var 0))))) .nil)
theorem ats_row {r : List O} {k : Nat} (h : k < r.length) : L2.atI (r.map O.enc) (k : Int) = some (r.getD k .z).enc := by
  have h' : k < (r.map O.enc).length := by rw [List.length_map]; exact h
  rw [ats_get h', List.getElem_map, List.getD_eq_getElem?_getD, List.getElem?_eq_getElem h]
  rfl
theorem getD_mem {r : List O} {k : Nat} (h : k < r.length) : r.getD k .z ∈ r := by
  rw [List.getD_eq_getElem?_getD, List.getElem?_eq_getElem h]
  exact List.getElem_mem h
theorem bel_e {Ψ : Fns} {gl : Nat → Option PyData} {η : Env} {g : Bag} {i j l : Nat} {k : Nat} {r s : List O} (h1 : η[i]? = some (some (.int (k : Int)))) (h2 : η[j]? = some (some (encR r))) (h3 : η[l]? = some (some (encR s))) (hr : ∀ o ∈ r, o.ht ≤ 30) (hs : ∀ o ∈ s, o.ht ≤ 30) (kr : k < r.length) (ks : k < s.length) :
    evE Ψ gl (.and (.cmp .eq (.sl (.var j) .no (.so (.var i))) (.sl (.var l) .no (.so (.var i)))) (.cmp .lt (.ix (.var l) (.var i)) (.ix (.var j) (.var i)))) η g = some (.bool (bel k r s), g) := by
  have c1 : cmpD .eq (encR (r.take k)) (encR (s.take k)) = some (decide (r.take k = s.take k)) := cr_eq (fun o ho => hr o (List.mem_of_mem_take ho)) (fun o ho => hs o (List.mem_of_mem_take ho))
  have c2 : cmpD .lt (s.getD k .z).enc (r.getD k .z).enc = some (O.lt (s.getD k .z) (r.getD k .z)) := O.c_lt (by have := hs _ (getD_mem ks); omega) (by have := hr _ (getD_mem kr); omega)
  have k1 : cut (r.map O.enc) none (some (k : Int)) = (r.take k).map O.enc := by rw [cut_take _ (by omega), Int.toNat_natCast, List.map_take]
  have k2 : cut (s.map O.enc) none (some (k : Int)) = (s.take k).map O.enc := by rw [cut_take _ (by omega), Int.toNat_natCast, List.map_take]
  have a1 := ats_row kr
  have a2 := ats_row ks
  simp only [e_and, e_cmp, e_sl, e_ix, e_var, h1, h2, h3, evO, slD, k1, k2, Option.map_some, c1, ixD, a1, a2, c2]
  unfold bel
  by_cases q : r.take k = s.take k
  · simp [q]
  · simp [q]
section
variable {P : Pr} {cells : List Int} {n : Nat}
theorem bel_ok {s : Nat} {srcs : List Src} (h : Has P s srcs 3 3 belB) {ds es : List PyData} {g : Bag} {k : Nat} {a b : List O} (hs : srcs.length = 3) (ha : arr srcs ds es = [.int (k : Int), encR a, encR b]) (hr : ∀ o ∈ a, o.ht ≤ 30) (hb : ∀ o ∈ b, o.ht ≤ 30) (kr : k < a.length) (ks : k < b.length) : Φ P cells (n + 1) s ds es g = some (.bool (bel k a b), g) := by
  rw [h.call hs, ha]
  have := bel_e (Ψ := Φ P cells n) (gl := P.gl) (g := g) (η := [some (.int (k : Int)), some (encR a), some (encR b)]) (i := 0) (j := 1) (l := 2) rfl rfl rfl hr hb kr ks
  simp only [belB, List.map_cons, List.map_nil, Nat.sub_self, List.replicate, List.append_nil, evSs, evS, evX, seeF, this, Rf.settle, noList, if_true, outD]
/-! ### drawn rows -/
def rowF (p o ra : Nat) : Ss := (.cons (.set 4 (.call o (.cons (.var 0) (.cons (.call p (.cons (.var 0) (.cons (.con (.int 3)) .nil)) .nil) .nil)) .nil)) (.cons (.ins0 2 (.ite (.cmp .eq (.var 2) (.lst .nil)) (.var 4) (.call ra (.cons (.var 4) (.cons (.ix (.var 2) (.con (.int 0))) .nil)) .nil))) .nil))
def rowB (p o ra : Nat) : Ss := (.cons (.own 2 .nil) (.cons (.for_ (.n 3) (.rng (.var 1)) (rowF p o ra)) (.cons (.ret (.bi .tuple (.var 2))) .nil)))
theorem cl_eqR {l : List O} (h : ∀ o ∈ l, o.ht ≤ 30) : cmpD .eq (.list (l.map O.enc)) (.list []) = some (l.isEmpty) := by
  have q : SeqAt.shaped (.list []) = true := by decide +kernel
  have q2 : SeqAt.shaped (.list (l.map O.enc)) = true := rows_shp h
  simp only [cmpD, q2, q, Bool.and_self, if_true, PyData.eqv]
  cases l <;> simp [PyData.eqvAll]
theorem row_loop {p o m ra sm : Nat} (hp : HasPull P p) (hm : Has P m [.p 0] 1 1 numB) (ho : Has P o [.p 0, .p 1] 2 6 (ordB p o m)) (hra : Has P ra [.p 0, .p 1] 2 4 (raiB sm)) (hsm : Has P sm [.p 0, .p 1] 2 4 sumB) {v : PyData} (hn : 5 ≤ n) :
    ∀ (ds : List PyData) (l : List O) (o3 o4 : Option PyData) (g : Bag), (∀ x ∈ l, Gd (2 + l.length) (22 * l.length) x) → l.length + ds.length ≤ 20 →
    ∃ (l' : List O) (p3 p4 : Option PyData) (g' : Bag), turns (.n 3) (evSs (Φ P cells n) P.gl (rowF p o ra)) ds [.sh bag, .sh v, .ow (l.map O.enc), slot o3, slot o4] g = some (.nx, [.sh bag, .sh v, .ow (l'.map O.enc), slot p3, slot p4], g') ∧ (∀ x ∈ l', Gd (2 + l'.length) (22 * l'.length) x) ∧ l'.length = l.length + ds.length
  | [], l, o3, o4, g, h, _ => ⟨l, o3, o4, g, rfl, h, rfl⟩
  | d :: ds, l, o3, o4, g, h, hl => by
    simp only [List.length_cons] at hl
    obtain ⟨x, g1, e1, k1⟩ := ordE (cells := cells) (n := n) hp hm ho (vb := 0) (η := [some bag, some v, none, some d, o4]) rfl (d := 3) (i := 3) rfl (by decide) (by decide) (by omega) g
    have s1 : evS (Φ P cells n) P.gl (.set 4 (.call o (.cons (.var 0) (.cons (.call p (.cons (.var 0) (.cons (.con (.int 3)) .nil)) .nil) .nil)) .nil)) [.sh bag, .sh v, .ow (l.map O.enc), .sh d, slot o4] g = some (.nx, [.sh bag, .sh v, .ow (l.map O.enc), .sh d, .sh x.enc], g1) := by
      rw [evS, evX]
      have hv : (E.call o (.cons (.var 0) (.cons (.call p (.cons (.var 0) (.cons (.con (.int 3)) .nil)) .nil) .nil)) .nil).vars = [0, 0] := rfl
      rw [hv]
      have hs : seeF [0, 0] 0 [.sh bag, .sh v, .ow (l.map O.enc), .sh d, slot o4] = [some bag, some v, none, some d, o4] := by simp [seeF, see_slot]
      rw [hs, e1]
      simp [evSs, evS, evX, evT, e_var, e_con, e_glo, e_tup, e_lst, e_bin, e_neg, e_cmp, e_and, e_or, e_not, e_ite, e_call, e_bi, e_isi, e_ix, e_sl, evA, evO, evC, evI, seeF, Rf.settle, frzF, putS, putE, wipeE, flat, flats, E.vars, Es.vars, Eo.vars, It.vars, outD, binD, ixD, slD, biD, itemsOf, arr, noList, noLists, lcF, lim, see_slot, frz_slot, slot_some, slot_none, O.nls]
    -- the new one
    obtain ⟨y, e2, k2⟩ : ∃ y : O, evE (Φ P cells n) P.gl (.ite (.cmp .eq (.var 2) (.lst .nil)) (.var 4) (.call ra (.cons (.var 4) (.cons (.ix (.var 2) (.con (.int 0))) .nil)) .nil)) [some bag, some v, some (.list (l.map O.enc)), some d, some x.enc] g1 = some (y.enc, g1) ∧ Gd (2 + (l.length + 1)) (22 * (l.length + 1)) y := by
      have c1 := cl_eqR (l := l) fun o ho => by have := (h o ho).ht; omega
      have kz : x.sz ≤ 21 := k1.sz
      have kh := k1.ht
      cases l with
      | nil =>
        have c1 : cmpD .eq (.list []) (.list []) = some true := c1
        exact ⟨x, by simp [evSs, evS, evX, evT, e_var, e_con, e_glo, e_tup, e_lst, e_bin, e_neg, e_cmp, e_and, e_or, e_not, e_ite, e_call, e_bi, e_isi, e_ix, e_sl, evA, evO, evC, evI, seeF, Rf.settle, frzF, putS, putE, wipeE, flat, flats, E.vars, Es.vars, Eo.vars, It.vars, outD, binD, ixD, slD, biD, itemsOf, arr, noList, noLists, lcF, lim, see_slot, frz_slot, slot_some, slot_none, c1], k1.nf, by simp; omega, by simp; omega⟩
      | cons z l =>
        have hz := h z List.mem_cons_self
        have zh := hz.ht
        have zs := hz.sz
        have c1 : cmpD .eq (.list (z.enc :: l.map O.enc)) (.list []) = some false := c1
        simp only [List.length_cons] at zh zs hl
        obtain ⟨n', rfl⟩ : ∃ n', n = n' + 2 := ⟨n - 2, by omega⟩
        have er := rai_ok (cells := cells) (n := n') hra hsm (ds := [x.enc, z.enc]) (es := []) (a := x) (e := z) (g := g1) rfl rfl k1.nf (by omega) (by omega) (by omega) (by omega)
        have rs := O.rsd_sz x z
        refine ⟨O.rsd x z, by simp [evSs, evS, evX, evT, e_var, e_con, e_glo, e_tup, e_lst, e_bin, e_neg, e_cmp, e_and, e_or, e_not, e_ite, e_call, e_bi, e_isi, e_ix, e_sl, evA, evO, evC, evI, seeF, Rf.settle, frzF, putS, putE, wipeE, flat, flats, E.vars, Es.vars, Eo.vars, It.vars, outD, binD, ixD, slD, biD, itemsOf, arr, noList, noLists, lcF, lim, see_slot, frz_slot, slot_some, slot_none, c1, ats0, er], O.rsd_nf k1.nf hz.nf, O.rsd_ht (by simp only [List.length_cons]; omega) (by simp only [List.length_cons]; omega), by simp only [List.length_cons]; omega⟩
    have s2 : evS (Φ P cells n) P.gl (.ins0 2 (.ite (.cmp .eq (.var 2) (.lst .nil)) (.var 4) (.call ra (.cons (.var 4) (.cons (.ix (.var 2) (.con (.int 0))) .nil)) .nil))) [.sh bag, .sh v, .ow (l.map O.enc), .sh d, .sh x.enc] g1 = some (.nx, [.sh bag, .sh v, .ow ((y :: l).map O.enc), .sh d, .sh x.enc], g1) := by
      have hv : (E.ite (.cmp .eq (.var 2) (.lst .nil)) (.var 4) (.call ra (.cons (.var 4) (.cons (.ix (.var 2) (.con (.int 0))) .nil)) .nil)).vars = [2, 4, 4, 2] := rfl
      have hs : seeF [2, 4, 4, 2] 0 [.sh bag, .sh v, .ow (l.map O.enc), .sh d, .sh x.enc] = [some bag, some v, some (.list (l.map O.enc)), some d, some x.enc] := by simp [seeF]
      rw [evS, evX, hv, hs, e2]
      have hlt : l.length < 16777216 := by omega
      simp [Rf.settle, O.nl, noList, O.nls, lim, hlt]
    obtain ⟨l', p3, p4, g', t1, t2, t3⟩ := row_loop hp hm ho hra hsm hn (v := v) ds (y :: l) (some d) (some x.enc) g1 (fun z hz => by
      rcases List.mem_cons.mp hz with hz | hz
      · subst hz
        rw [List.length_cons]
        exact k2
      · rw [List.length_cons]
        exact (h z hz).mono (by omega) (by omega)) (by rw [List.length_cons]; omega)
    refine ⟨l', p3, p4, g', ?_, t2, by rw [t3, List.length_cons, List.length_cons]; omega⟩
    rw [turns]
    simp only [flat, putS, List.foldl_cons, List.foldl_nil, List.set_cons_succ, List.set_cons_zero]
    have : evSs (Φ P cells n) P.gl (rowF p o ra) [.sh bag, .sh v, .ow (l.map O.enc), .sh d, slot o4] g = some (.nx, [.sh bag, .sh v, .ow ((y :: l).map O.enc), .sh d, .sh x.enc], g1) := st_nx s1 (st_nx s2 rfl)
    rw [this]
    exact t1
theorem row_ok {s p o m ra sm : Nat} (h : Has P s [.p 0, .p 1] 2 5 (rowB p o ra)) (hp : HasPull P p) (hm : Has P m [.p 0] 1 1 numB) (ho : Has P o [.p 0, .p 1] 2 6 (ordB p o m)) (hra : Has P ra [.p 0, .p 1] 2 4 (raiB sm)) (hsm : Has P sm [.p 0, .p 1] 2 4 sumB) (hn : 5 ≤ n) {k : Nat} (hk : k ≤ 3) (g : Bag) :
    ∃ (r : List O) (g' : Bag), Φ P cells (n + 1) s [bag, .int (k : Int)] [] g = some (encR r, g') ∧ r.length = k ∧ ∀ x ∈ r, Gd 5 66 x := by
  obtain ⟨l', p3, p4, g', t1, t2, t3⟩ := row_loop (cells := cells) (v := .int (k : Int)) hp hm ho hra hsm hn (rangeD 0 k) [] none none g (fun x hx => by cases hx) (by simp [rangeD]; omega)
  have t3 : l'.length = k := by simpa [rangeD] using t3
  refine ⟨l', g', ?_, t3, fun x hx => (t2 x hx).mono (by omega) (by omega)⟩
  rw [h.call rfl]
  have hr : -(16777216 : Int) ≤ (k : Int) ∧ (k : Int) ≤ 16777216 := ⟨by omega, by omega⟩
  have s1 : evS (Φ P cells n) P.gl (.own 2 .nil) [.sh bag, .sh (.int (k : Int)), .un, .un, .un] g = some (.nx, [.sh bag, .sh (.int (k : Int)), .ow [], .un, .un], g) := by simp [evSs, evS, evX, evT, e_var, e_con, e_glo, e_tup, e_lst, e_bin, e_neg, e_cmp, e_and, e_or, e_not, e_ite, e_call, e_bi, e_isi, e_ix, e_sl, evA, evO, evC, evI, seeF, Rf.settle, frzF, putS, putE, wipeE, flat, flats, E.vars, Es.vars, Eo.vars, It.vars, outD, binD, ixD, slD, biD, itemsOf, arr, noList, noLists, lcF, lim, see_slot, frz_slot, slot_some, slot_none]
  have s2 : evS (Φ P cells n) P.gl (.for_ (.n 3) (.rng (.var 1)) (rowF p o ra)) [.sh bag, .sh (.int (k : Int)), .ow [], .un, .un] g = some (.nx, [.sh bag, .sh (.int (k : Int)), .ow (l'.map O.enc), slot p3, slot p4], g') := st_for (ds := rangeD 0 k) (g1 := g) (by simp [evSs, evS, evX, evT, e_var, e_con, e_glo, e_tup, e_lst, e_bin, e_neg, e_cmp, e_and, e_or, e_not, e_ite, e_call, e_bi, e_isi, e_ix, e_sl, evA, evO, evC, evI, seeF, Rf.settle, frzF, putS, putE, wipeE, flat, flats, E.vars, Es.vars, Eo.vars, It.vars, outD, binD, ixD, slD, biD, itemsOf, arr, noList, noLists, lcF, lim, see_slot, frz_slot, slot_some, slot_none, hr]) t1
  have s3 : evS (Φ P cells n) P.gl (.ret (.bi .tuple (.var 2))) [.sh bag, .sh (.int (k : Int)), .ow (l'.map O.enc), slot p3, slot p4] g' = some (.rt (encR l'), [.sh bag, .sh (.int (k : Int)), .ow (l'.map O.enc), slot p3, slot p4], g') := by simp [evSs, evS, evX, evT, e_var, e_con, e_glo, e_tup, e_lst, e_bin, e_neg, e_cmp, e_and, e_or, e_not, e_ite, e_call, e_bi, e_isi, e_ix, e_sl, evA, evO, evC, evI, seeF, Rf.settle, frzF, putS, putE, wipeE, flat, flats, E.vars, Es.vars, Eo.vars, It.vars, outD, binD, ixD, slD, biD, itemsOf, arr, noList, noLists, lcF, lim, see_slot, frz_slot, slot_some, slot_none, rows_nl]
  have : evSs (Φ P cells n) P.gl (rowB p o ra) [.sh bag, .sh (.int (k : Int)), .un, .un, .un] g = some (.rt (encR l'), [.sh bag, .sh (.int (k : Int)), .ow (l'.map O.enc), slot p3, slot p4], g') := st_nx s1 (st_nx s2 (by rw [evSs, s3]))
  show outD (evSs (Φ P cells n) P.gl (rowB p o ra) [.sh bag, .sh (.int (k : Int)), .un, .un, .un] g) = _
  rw [this]
  rfl
end
end Rf

set_option maxHeartbeats 400000
/-! The law's own recognizing. -/
namespace Rf
open PySem PySem.W L2 PyProof.Rows
def lisoF (s : Nat) : Ss := (.cons (.ifs (.or (.not (.isi (.ix (.var 0) (.var 1)) [.tuple])) (.or (.cmp .ne (.bi .len (.ix (.var 0) (.var 1))) (.con (.int 2))) (.not (.call s (.cons (.ix (.ix (.var 0) (.var 1)) (.con (.int 0))) .nil) .nil)))) (.cons (.ret (.con (.bool false))) .nil) .nil) (.cons (.ifs (.or (.not (.isi (.ix (.ix (.var 0) (.var 1)) (.con (.int 1))) [.int])) (.or (.isi (.ix (.ix (.var 0) (.var 1)) (.con (.int 1))) [.bool]) (.cmp .lt (.ix (.ix (.var 0) (.var 1)) (.con (.int 1))) (.con (.int 1))))) (.cons (.ret (.con (.bool false))) .nil) .nil) (.cons (.ifs (.and (.cmp .gt (.var 1) (.con (.int 0))) (.not (.cmp .lt (.ix (.ix (.var 0) (.var 1)) (.con (.int 0))) (.ix (.ix (.var 0) (.bin .sub (.var 1) (.con (.int 1)))) (.con (.int 0)))))) (.cons (.ret (.con (.bool false))) .nil) .nil) .nil)))
def lisoB (s : Nat) : Ss := (.cons (.ifs (.not (.isi (.var 0) [.tuple])) (.cons (.ret (.con (.bool false))) .nil) .nil) (.cons (.for_ (.n 1) (.rng (.bi .len (.var 0))) (lisoF s)) (.cons (.ret (.con (.bool true))) .nil)))
section
variable {P : Pr} {cells : List Int}
theorem ats_ts {a : O} {i : Nat} (h : i < a.ts.length) : L2.atI a.encs (i : Int) = some (O.encT a.ts[i]) := by
  have h' : i < (a.ts.map O.encT).length := by rw [List.length_map]; exact h
  rw [O.encs_ts, ats_get h', List.getElem_map]
theorem liso_turn {s n : Nat} {a : O} {g : Bag} (hn : a.nf) (hh : a.ht ≤ 30) {i : Nat} (hi : i < a.ts.length) (hc : Φ P cells n s [a.ts[i].1.enc] [] g = some (.bool true, g)) : evSs (Φ P cells n) P.gl (lisoF s) [.sh a.enc, .sh (.int (i : Int))] g = some (.nx, [.sh a.enc, .sh (.int (i : Int))], g) := by
  have hm := List.getElem_mem hi
  have a1 := ats_ts hi
  have c1 : ¬ a.ts[i].2 < 1 := by have := (O.nfs_all ((O.nfs_ts a).mpr hn) _ hm).2; omega
  have h1 := O.mem_ht hm
  by_cases z : i = 0
  · have z' : cmpD .gt (.int (i : Int)) (.int 0) = some false := (ci_gt _ _).trans (by rw [decide_eq_false (by omega)])
    simp [evSs, evS, evX, evT, e_var, e_con, e_glo, e_tup, e_lst, e_bin, e_neg, e_cmp, e_and, e_or, e_not, e_ite, e_call, e_bi, e_isi, e_ix, e_sl, evA, evO, evC, evI, seeF, Rf.settle, frzF, putS, putE, wipeE, flat, flats, E.vars, Es.vars, Eo.vars, It.vars, outD, binD, ixD, slD, biD, itemsOf, arr, noList, noLists, lcF, lim, see_slot, frz_slot, slot_some, slot_none, lisoF, a1, tyOk, tyIs, ci_ne, ats0, ats1, hc, ci_lt, c1, z']
  · have z' : cmpD .gt (.int (i : Int)) (.int 0) = some true := (ci_gt _ _).trans (by rw [decide_eq_true (by omega)])
    have hj : i - 1 < a.ts.length := by omega
    have a2 : L2.atI a.encs ((i : Int) - 1) = some (O.encT a.ts[i - 1]) := by
      rw [show (i : Int) - 1 = ((i - 1 : Nat) : Int) by omega]
      exact ats_ts hj
    have h2 := O.mem_ht (List.getElem_mem hj)
    have hlt : O.lt a.ts[i].1 a.ts[i - 1].1 = true := by
      have := (O.nfs_pair.mp ((O.nfs_ts a).mpr hn)).2
      rw [List.pairwise_iff_getElem] at this
      exact this (i - 1) i hj hi (by omega)
    have c2 : cmpD .lt a.ts[i].1.enc a.ts[i - 1].1.enc = some true := (O.c_lt (by omega) (by omega)).trans (by rw [hlt])
    simp [evSs, evS, evX, evT, e_var, e_con, e_glo, e_tup, e_lst, e_bin, e_neg, e_cmp, e_and, e_or, e_not, e_ite, e_call, e_bi, e_isi, e_ix, e_sl, evA, evO, evC, evI, seeF, Rf.settle, frzF, putS, putE, wipeE, flat, flats, E.vars, Es.vars, Eo.vars, It.vars, outD, binD, ixD, slD, biD, itemsOf, arr, noList, noLists, lcF, lim, see_slot, frz_slot, slot_some, slot_none, lisoF, a1, a2, tyOk, tyIs, ci_ne, ats0, ats1, hc, ci_lt, c1, z', c2]
theorem liso_ok {s : Nat} (h : Has P s [.p 0] 1 2 (lisoB s)) : ∀ (k n : Nat) (a : O) (g : Bag), a.nf → a.ht ≤ k → k ≤ 30 → a.sz ≤ 1000000 → Φ P cells (n + k + 1) s [a.enc] [] g = some (.bool true, g) := by
  intro k
  induction k with
  | zero =>
    intro n a g hn hh _ hz
    have a0 : a = .z := by
      cases a with
      | z => rfl
      | t e c r => simp only [O.ht] at hh; omega
    subst a0
    rw [h.call rfl]
    have s0 : evS (Φ P cells (n + 0)) P.gl (.for_ (.n 1) (.rng (.bi .len (.var 0))) (lisoF s)) [.sh O.z.enc, .un] g = some (.nx, [.sh O.z.enc, .un], g) := by
      refine st_for (ds := []) (g1 := g) ?_ rfl
      simp [evSs, evS, evX, evT, e_var, e_con, e_glo, e_tup, e_lst, e_bin, e_neg, e_cmp, e_and, e_or, e_not, e_ite, e_call, e_bi, e_isi, e_ix, e_sl, evA, evO, evC, evI, seeF, Rf.settle, frzF, putS, putE, wipeE, flat, flats, E.vars, Es.vars, Eo.vars, It.vars, outD, binD, ixD, slD, biD, itemsOf, arr, noList, noLists, lcF, lim, see_slot, frz_slot, slot_some, slot_none, O.encs, rangeD]
    have s1 : evS (Φ P cells (n + 0)) P.gl (.ifs (.not (.isi (.var 0) [.tuple])) (.cons (.ret (.con (.bool false))) .nil) .nil) [.sh O.z.enc, .un] g = some (.nx, [.sh O.z.enc, .un], g) := st_chk (by simp [evSs, evS, evX, evT, e_var, e_con, e_glo, e_tup, e_lst, e_bin, e_neg, e_cmp, e_and, e_or, e_not, e_ite, e_call, e_bi, e_isi, e_ix, e_sl, evA, evO, evC, evI, seeF, Rf.settle, frzF, putS, putE, wipeE, flat, flats, E.vars, Es.vars, Eo.vars, It.vars, outD, binD, ixD, slD, biD, itemsOf, arr, noList, noLists, lcF, lim, see_slot, frz_slot, slot_some, slot_none, tyOk, tyIs])
    have : evSs (Φ P cells (n + 0)) P.gl (lisoB s) [.sh O.z.enc, .un] g = some (.rt (.bool true), [.sh O.z.enc, .un], g) := st_nx s1 (st_nx s0 (by simp [evSs, evS, evX, evT, e_var, e_con, e_glo, e_tup, e_lst, e_bin, e_neg, e_cmp, e_and, e_or, e_not, e_ite, e_call, e_bi, e_isi, e_ix, e_sl, evA, evO, evC, evI, seeF, Rf.settle, frzF, putS, putE, wipeE, flat, flats, E.vars, Es.vars, Eo.vars, It.vars, outD, binD, ixD, slD, biD, itemsOf, arr, noList, noLists, lcF, lim, see_slot, frz_slot, slot_some, slot_none]))
    show outD (evSs (Φ P cells (n + 0)) P.gl (lisoB s) [.sh O.z.enc, .un] g) = _
    rw [this]
    rfl
  | succ k ih =>
    intro n a g hn hh hk hz
    rw [h.call rfl]
    have hl := O.len_sz a
    obtain ⟨ρ', t1, t2⟩ := turns_invg (t := .n 1) (body := evSs (Φ P cells (n + (k + 1))) P.gl (lisoF s)) (Inv := fun ρ => ∃ o, ρ = [.sh a.enc, slot o]) (g := g) (ds := rangeD 0 a.ts.length) (ρ := [.sh a.enc, .un]) ⟨none, rfl⟩ (by
      rintro d hd ρ ⟨o, rfl⟩
      obtain ⟨i, hi, rfl⟩ := mem_rangeD hd
      have hm := List.getElem_mem hi
      have h1 := O.mem_ht hm
      have h2 := O.mem_sz hm
      have hc := ih n a.ts[i].1 g (O.nfs_all ((O.nfs_ts a).mpr hn) _ hm).1 (by omega) (by omega) (by omega)
      exact ⟨_, _, rfl, liso_turn hn (by omega) hi hc, some (.int (i : Int)), rfl⟩)
    have hr : -(16777216 : Int) ≤ (a.ts.length : Int) ∧ (a.ts.length : Int) ≤ 16777216 := ⟨by omega, by omega⟩
    have s0 : evS (Φ P cells (n + (k + 1))) P.gl (.for_ (.n 1) (.rng (.bi .len (.var 0))) (lisoF s)) [.sh a.enc, .un] g = some (.nx, ρ', g) := by
      refine st_for (ds := rangeD 0 a.ts.length) (g1 := g) ?_ t1
      simp [evSs, evS, evX, evT, e_var, e_con, e_glo, e_tup, e_lst, e_bin, e_neg, e_cmp, e_and, e_or, e_not, e_ite, e_call, e_bi, e_isi, e_ix, e_sl, evA, evO, evC, evI, seeF, Rf.settle, frzF, putS, putE, wipeE, flat, flats, E.vars, Es.vars, Eo.vars, It.vars, outD, binD, ixD, slD, biD, itemsOf, arr, noList, noLists, lcF, lim, see_slot, frz_slot, slot_some, slot_none, O.encs_len, hr]
    have s1 : evS (Φ P cells (n + (k + 1))) P.gl (.ifs (.not (.isi (.var 0) [.tuple])) (.cons (.ret (.con (.bool false))) .nil) .nil) [.sh a.enc, .un] g = some (.nx, [.sh a.enc, .un], g) := st_chk (by simp [evSs, evS, evX, evT, e_var, e_con, e_glo, e_tup, e_lst, e_bin, e_neg, e_cmp, e_and, e_or, e_not, e_ite, e_call, e_bi, e_isi, e_ix, e_sl, evA, evO, evC, evI, seeF, Rf.settle, frzF, putS, putE, wipeE, flat, flats, E.vars, Es.vars, Eo.vars, It.vars, outD, binD, ixD, slD, biD, itemsOf, arr, noList, noLists, lcF, lim, see_slot, frz_slot, slot_some, slot_none, tyOk, tyIs])
    have : evSs (Φ P cells (n + (k + 1))) P.gl (lisoB s) [.sh a.enc, .un] g = some (.rt (.bool true), ρ', g) := st_nx s1 (st_nx s0 (by simp [evSs, evS, evX, evT, e_var, e_con, e_glo, e_tup, e_lst, e_bin, e_neg, e_cmp, e_and, e_or, e_not, e_ite, e_call, e_bi, e_isi, e_ix, e_sl, evA, evO, evC, evI, seeF, Rf.settle, frzF, putS, putE, wipeE, flat, flats, E.vars, Es.vars, Eo.vars, It.vars, outD, binD, ixD, slD, biD, itemsOf, arr, noList, noLists, lcF, lim, see_slot, frz_slot, slot_some, slot_none]))
    show outD (evSs (Φ P cells (n + (k + 1))) P.gl (lisoB s) [.sh a.enc, .un] g) = _
    rw [this]
    rfl
/-! ### rows recognized -/
def lirF (s e : Nat) : Ss := (.cons (.ifs (.or (.not (.call s (.cons (.ix (.var 1) (.var 2)) .nil) .nil)) (.and (.cmp .gt (.var 2) (.con (.int 0))) (.not (.cmp .le (.ix (.var 1) (.var 2)) (.call e (.cons (.ix (.var 1) (.bin .sub (.var 2) (.con (.int 1)))) .nil) .nil))))) (.cons (.ret (.con (.bool false))) .nil) .nil) .nil)
def lirB (s e : Nat) : Ss := (.cons (.ifs (.or (.not (.isi (.var 1) [.tuple])) (.cmp .ne (.bi .len (.var 1)) (.var 0))) (.cons (.ret (.con (.bool false))) .nil) .nil) (.cons (.for_ (.n 2) (.rng (.var 0)) (lirF s e)) (.cons (.ret (.con (.bool true))) .nil)))
theorem last_ht {a : O} {k : Nat} (h : a.ht ≤ k) : a.last.ht ≤ k := by
  rcases O.cases_last a with z | ⟨l, f, c, q1, q2, q3, q4⟩
  · rw [z]
    exact Nat.zero_le _
  · have h1 := O.mem_ht (o := a) (p := (f, c)) (by rw [q1]; simp)
    rw [q3]
    simp only at h1
    omega
theorem lir_ok {s e r : Nat} (h : Has P r [.p 0, .p 1] 2 3 (lirB s e)) (hs : Has P s [.p 0] 1 2 (lisoB s)) (he : Has P e [.p 0] 1 1 endB) {n k : Nat} (hn : 12 ≤ n) {row : List O} (hr : row.length = k) (hk : k ≤ 100) (hg : ∀ x ∈ row, Gd 10 1000 x) (g : Bag) : ∃ b : Bool, Φ P cells (n + 1) r [.int (k : Int), encR row] [] g = some (.bool b, g) := by
  obtain ⟨m, rfl⟩ : ∃ m, n = m + 1 := ⟨n - 1, by omega⟩
  rw [h.call rfl]
  obtain ⟨ρ', fl, t1, t2⟩ := turns_or (t := .n 2) (body := evSs (Φ P cells (m + 1)) P.gl (lirF s e)) (Inv := fun ρ => ∃ o, ρ = [.sh (.int (k : Int)), .sh (encR row), slot o]) (g := g) (v := .bool false) (ds := rangeD 0 k) (ρ := [.sh (.int (k : Int)), .sh (encR row), .un]) ⟨none, rfl⟩ (by
    rintro d hd ρ ⟨o, rfl⟩
    obtain ⟨i, hi, rfl⟩ := mem_rangeD hd
    have hi' : i < row.length := by omega
    have a1 := ats_row hi'
    have gx := hg _ (getD_mem hi')
    have gh := gx.ht
    have gs := gx.sz
    have i1 : Φ P cells (m + 1) s [(row.getD i .z).enc] [] g = some (.bool true, g) := by
      have := liso_ok (cells := cells) hs 10 (m - 10) (row.getD i .z) g gx.nf gh (by omega) (by omega)
      rw [show m - 10 + 10 + 1 = m + 1 by omega] at this
      exact this
    generalize row.getD i .z = x at a1 gx gh gs i1
    by_cases z : i = 0
    · have z' : cmpD .gt (.int (i : Int)) (.int 0) = some false := (ci_gt _ _).trans (by rw [decide_eq_false (by omega)])
      exact ⟨_, _, .nx, rfl, by simp [evSs, evS, evX, evT, e_var, e_con, e_glo, e_tup, e_lst, e_bin, e_neg, e_cmp, e_and, e_or, e_not, e_ite, e_call, e_bi, e_isi, e_ix, e_sl, evA, evO, evC, evI, seeF, Rf.settle, frzF, putS, putE, wipeE, flat, flats, E.vars, Es.vars, Eo.vars, It.vars, outD, binD, ixD, slD, biD, itemsOf, arr, noList, noLists, lcF, lim, see_slot, frz_slot, slot_some, slot_none, lirF, a1, i1, z'], .inl ⟨rfl, some (.int (i : Int)), rfl⟩⟩
    · have z' : cmpD .gt (.int (i : Int)) (.int 0) = some true := (ci_gt _ _).trans (by rw [decide_eq_true (by omega)])
      have hj : i - 1 < row.length := by omega
      have a2 : L2.atI (row.map O.enc) ((i : Int) - 1) = some (row.getD (i - 1) .z).enc := by
        rw [show (i : Int) - 1 = ((i - 1 : Nat) : Int) by omega]
        exact ats_row hj
      have gy := hg _ (getD_mem hj)
      have gyh := gy.ht
      generalize row.getD (i - 1) .z = y at a2 gy gyh
      have gl := last_ht gyh
      have i2 : Φ P cells (m + 1) e [y.enc] [] g = _ := end_ok (cells := cells) (n := m) he (by omega)
      have c1 : cmpD .le x.enc y.last.enc = some (!O.lt y.last x) := O.c_le (by omega) (by omega)
      cases q : O.lt y.last x with
      | false =>
        rw [q] at c1
        exact ⟨_, _, .nx, rfl, by simp [evSs, evS, evX, evT, e_var, e_con, e_glo, e_tup, e_lst, e_bin, e_neg, e_cmp, e_and, e_or, e_not, e_ite, e_call, e_bi, e_isi, e_ix, e_sl, evA, evO, evC, evI, seeF, Rf.settle, frzF, putS, putE, wipeE, flat, flats, E.vars, Es.vars, Eo.vars, It.vars, outD, binD, ixD, slD, biD, itemsOf, arr, noList, noLists, lcF, lim, see_slot, frz_slot, slot_some, slot_none, lirF, a1, a2, i1, i2, z', c1], .inl ⟨rfl, some (.int (i : Int)), rfl⟩⟩
      | true =>
        rw [q] at c1
        exact ⟨_, [.sh (.int (k : Int)), .sh (encR row), .sh (.int (i : Int))], .rt (.bool false), rfl, by simp [evSs, evS, evX, evT, e_var, e_con, e_glo, e_tup, e_lst, e_bin, e_neg, e_cmp, e_and, e_or, e_not, e_ite, e_call, e_bi, e_isi, e_ix, e_sl, evA, evO, evC, evI, seeF, Rf.settle, frzF, putS, putE, wipeE, flat, flats, E.vars, Es.vars, Eo.vars, It.vars, outD, binD, ixD, slD, biD, itemsOf, arr, noList, noLists, lcF, lim, see_slot, frz_slot, slot_some, slot_none, lirF, a1, a2, i1, i2, z', c1], .inr rfl⟩)
  have hr' : -(16777216 : Int) ≤ (k : Int) ∧ (k : Int) ≤ 16777216 := ⟨by omega, by omega⟩
  have s1 : evS (Φ P cells (m + 1)) P.gl (.ifs (.or (.not (.isi (.var 1) [.tuple])) (.cmp .ne (.bi .len (.var 1)) (.var 0))) (.cons (.ret (.con (.bool false))) .nil) .nil) [.sh (.int (k : Int)), .sh (encR row), .un] g = some (.nx, [.sh (.int (k : Int)), .sh (encR row), .un], g) := st_skip (by simp [evSs, evS, evX, evT, e_var, e_con, e_glo, e_tup, e_lst, e_bin, e_neg, e_cmp, e_and, e_or, e_not, e_ite, e_call, e_bi, e_isi, e_ix, e_sl, evA, evO, evC, evI, seeF, Rf.settle, frzF, putS, putE, wipeE, flat, flats, E.vars, Es.vars, Eo.vars, It.vars, outD, binD, ixD, slD, biD, itemsOf, arr, noList, noLists, lcF, lim, see_slot, frz_slot, slot_some, slot_none, tyOk, tyIs, ci_ne, hr])
  have s2 : evS (Φ P cells (m + 1)) P.gl (.for_ (.n 2) (.rng (.var 0)) (lirF s e)) [.sh (.int (k : Int)), .sh (encR row), .un] g = some (fl, ρ', g) := st_for (ds := rangeD 0 k) (g1 := g) (by simp [evSs, evS, evX, evT, e_var, e_con, e_glo, e_tup, e_lst, e_bin, e_neg, e_cmp, e_and, e_or, e_not, e_ite, e_call, e_bi, e_isi, e_ix, e_sl, evA, evO, evC, evI, seeF, Rf.settle, frzF, putS, putE, wipeE, flat, flats, E.vars, Es.vars, Eo.vars, It.vars, outD, binD, ixD, slD, biD, itemsOf, arr, noList, noLists, lcF, lim, see_slot, frz_slot, slot_some, slot_none, hr']) t1
  rcases t2 with ⟨rfl, _⟩ | rfl
  · have : evSs (Φ P cells (m + 1)) P.gl (lirB s e) [.sh (.int (k : Int)), .sh (encR row), .un] g = some (.rt (.bool true), ρ', g) := st_nx s1 (st_nx s2 (by simp [evSs, evS, evX, evT, e_var, e_con, e_glo, e_tup, e_lst, e_bin, e_neg, e_cmp, e_and, e_or, e_not, e_ite, e_call, e_bi, e_isi, e_ix, e_sl, evA, evO, evC, evI, seeF, Rf.settle, frzF, putS, putE, wipeE, flat, flats, E.vars, Es.vars, Eo.vars, It.vars, outD, binD, ixD, slD, biD, itemsOf, arr, noList, noLists, lcF, lim, see_slot, frz_slot, slot_some, slot_none]))
    refine ⟨true, ?_⟩
    show outD (evSs (Φ P cells (m + 1)) P.gl (lirB s e) [.sh (.int (k : Int)), .sh (encR row), .un] g) = _
    rw [this]
    rfl
  · have : evSs (Φ P cells (m + 1)) P.gl (lirB s e) [.sh (.int (k : Int)), .sh (encR row), .un] g = some (.rt (.bool false), ρ', g) := st_nx s1 (by rw [evSs, s2])
    refine ⟨false, ?_⟩
    show outD (evSs (Φ P cells (m + 1)) P.gl (lirB s e) [.sh (.int (k : Int)), .sh (encR row), .un] g) = _
    rw [this]
    rfl
end
end Rf

set_option maxHeartbeats 400000
/-! Stairs. -/
namespace Rf
open PySem PySem.W L2 PyProof.Rows
/-- a stair of k levels -/
@[reducible] def Stair : Nat → Type
  | 0 => Bool
  | k + 1 => List (O × Stair k)
def encS : (k : Nat) → Stair k → PyData
  | 0, b => .bool b
  | k + 1, l => .tuple (List.map (fun p : O × Stair k => .tuple [p.1.enc, encS k p.2]) l)
abbrev encP (k : Nat) (p : O × Stair k) : PyData := .tuple [p.1.enc, encS k p.2]
theorem encS_succ (k : Nat) (l : List (O × Stair k)) : encS (k + 1) l = .tuple (l.map (encP k)) := rfl
theorem encS_zero (b : Bool) : encS 0 b = .bool b := rfl
/-- stairs in their form: steps, few of them -/
def GS : (k : Nat) → Stair k → Prop
  | 0, _ => True
  | k + 1, l => List.length (α := O × Stair k) l ≤ 4 ∧ (∃ (s : Stair k) (r : List (O × Stair k)), l = (O.z, s) :: r) ∧ ∀ p : O × Stair k, p ∈ (l : List (O × Stair k)) → Gd 4 66 p.1 ∧ GS k p.2
def pick' {k : Nat} (o : O) : Stair k → List (O × Stair k) → Stair k
  | s, [] => s
  | s, p :: l => pick' o (if O.lt o p.1 then s else p.2) l
def pickS {k : Nat} (l : List (O × Stair k)) (o : O) (d : Stair k) : Stair k := match l with
  | [] => d
  | p :: l => pick' o p.2 (p :: l)
def defS : (k : Nat) → Stair k
  | 0 => false
  | k + 1 => ([] : List (O × Stair k))
/-- the place that a row leads to -/
def valS : (k : Nat) → Stair k → List O → Bool
  | 0, b, _ => b
  | k + 1, _, [] => false
  | k + 1, l, o :: r => valS k (pickS l o (defS k)) r
def oppS : (k : Nat) → Stair k → Stair k
  | 0, b => Bool.not b
  | k + 1, l => List.map (fun p : O × Stair k => (p.1, oppS k p.2)) l
theorem pick_opp {k : Nat} (o : O) : ∀ (l : List (O × Stair k)) (s : Stair k), pick' o (oppS k s) (l.map fun p => (p.1, oppS k p.2)) = oppS k (pick' o s l)
  | [], s => rfl
  | p :: l, s => by
    simp only [List.map_cons, pick']
    cases O.lt o p.1
    · exact pick_opp o l p.2
    · exact pick_opp o l s
theorem val_opp : ∀ (k : Nat) (s : Stair k) (r : List O), GS k s → r.length = k → valS k (oppS k s) r = !valS k s r
  | 0, s, r, _, _ => rfl
  | k + 1, l, [], _, h => by cases h
  | k + 1, l, o :: r, g, h => by
    obtain ⟨g1, ⟨s, q, rfl⟩, g3⟩ := g
    show valS k (pick' o (oppS k s) ((O.z, oppS k s) :: q.map fun p => (p.1, oppS k p.2))) r = !valS k (pick' o s ((O.z, s) :: q)) r
    have := pick_opp o ((O.z, s) :: q) s
    rw [List.map_cons] at this
    rw [this]
    refine val_opp k _ r ?_ (by simpa using h)
    -- the picked one is in its form
    have : ∀ (l : List (O × Stair k)) (s : Stair k), GS k s → (∀ p ∈ l, GS k p.2) → GS k (pick' o s l) := by
      intro l
      induction l with
      | nil => exact fun s hs _ => hs
      | cons p l ih =>
        intro s hs hl
        rw [pick']
        refine ih _ ?_ fun q hq => hl q (List.mem_cons_of_mem _ hq)
        split
        · exact hs
        · exact hl p List.mem_cons_self
    exact this _ s (g3 _ List.mem_cons_self).2 fun p hp => (g3 p hp).2
theorem pick_gs {k : Nat} {o : O} : ∀ (l : List (O × Stair k)) (s : Stair k), GS k s → (∀ p ∈ l, GS k p.2) → GS k (pick' o s l)
  | [], s, hs, _ => hs
  | p :: l, s, hs, hl => by
    rw [pick']
    refine pick_gs l _ ?_ fun q hq => hl q (List.mem_cons_of_mem _ hq)
    split
    · exact hs
    · exact hl p List.mem_cons_self
/-! ### the walk down -/
def pkF : Ss := (.cons (.ifs (.cmp .le (.var 3) (.var 1)) (.cons (.set 2 (.var 4)) .nil) .nil) .nil)
def pkB : Ss := (.cons (.set 2 (.ix (.ix (.var 0) (.con (.int 0))) (.con (.int 1)))) (.cons (.for_ (.t (.cons (.n 3) (.cons (.n 4) .nil))) (.seq (.var 0)) pkF) (.cons (.ret (.var 2)) .nil)))
def vaB (p : Nat) : Ss := (.cons (.set 2 (.var 0)) (.cons (.for_ (.n 3) (.seq (.var 1)) (.cons (.set 2 (.call p (.cons (.var 2) (.cons (.var 3) .nil)) .nil)) .nil)) (.cons (.ret (.var 2)) .nil)))
theorem nl_S : ∀ (k : Nat) (s : Stair k), noList (encS k s) = true
  | 0, b => by simp [encS, noList]
  | k + 1, l => by
    rw [encS_succ, noList]
    have : ∀ l : List (O × Stair k), noLists (l.map (encP k)) = true := by
      intro l
      induction l with
      | nil => simp [noLists]
      | cons p l ih => simp only [List.map_cons, noLists, noList, O.nls, nl_S k p.2, ih, Bool.and_self]
    exact this l
section
variable {P : Pr} {cells : List Int} {n : Nat}
theorem pk_loop {k : Nat} {Ψ : Fns} {gl : Nat → Option PyData} {o : O} (ho : o.ht ≤ 30) {v : PyData} {g : Bag} : ∀ (l : List (O × Stair k)) (s : Stair k) (o3 o4 : Option PyData), (∀ p ∈ l, p.1.ht ≤ 30) →
    ∃ p3 p4, turns (.t (.cons (.n 3) (.cons (.n 4) .nil))) (evSs Ψ gl pkF) (l.map (encP k)) [.sh v, .sh o.enc, .sh (encS k s), slot o3, slot o4] g = some (.nx, [.sh v, .sh o.enc, .sh (encS k (pick' o s l)), slot p3, slot p4], g)
  | [], s, o3, o4, _ => ⟨o3, o4, rfl⟩
  | p :: l, s, o3, o4, h => by
    have hp := h p List.mem_cons_self
    have c1 : cmpD .le p.1.enc o.enc = some (!O.lt o p.1) := O.c_le (by omega) (by omega)
    obtain ⟨p3, p4, ih⟩ := pk_loop ho (v := v) (g := g) l (if O.lt o p.1 then s else p.2) (some p.1.enc) (some (encS k p.2)) fun q hq => h q (List.mem_cons_of_mem _ hq)
    refine ⟨p3, p4, ?_⟩
    rw [List.map_cons, turns]
    have hf : flat (.t (.cons (.n 3) (.cons (.n 4) .nil))) (encP k p) = some [(3, p.1.enc), (4, encS k p.2)] := rfl
    rw [hf]
    simp only
    have hb : evSs Ψ gl pkF (putS [.sh v, .sh o.enc, .sh (encS k s), slot o3, slot o4] [(3, p.1.enc), (4, encS k p.2)]) g = some (.nx, [.sh v, .sh o.enc, .sh (encS k (if O.lt o p.1 then s else p.2)), .sh p.1.enc, .sh (encS k p.2)], g) := by
      cases q : O.lt o p.1 with
      | true =>
        rw [q] at c1
        simp [evSs, evS, evX, evT, e_var, e_con, e_glo, e_tup, e_lst, e_bin, e_neg, e_cmp, e_and, e_or, e_not, e_ite, e_call, e_bi, e_isi, e_ix, e_sl, evA, evO, evC, evI, seeF, Rf.settle, frzF, putS, putE, wipeE, flat, flats, E.vars, Es.vars, Eo.vars, It.vars, outD, binD, ixD, slD, biD, itemsOf, arr, noList, noLists, lcF, lim, see_slot, frz_slot, slot_some, slot_none, pkF, c1]
      | false =>
        rw [q] at c1
        simp [evSs, evS, evX, evT, e_var, e_con, e_glo, e_tup, e_lst, e_bin, e_neg, e_cmp, e_and, e_or, e_not, e_ite, e_call, e_bi, e_isi, e_ix, e_sl, evA, evO, evC, evI, seeF, Rf.settle, frzF, putS, putE, wipeE, flat, flats, E.vars, Es.vars, Eo.vars, It.vars, outD, binD, ixD, slD, biD, itemsOf, arr, noList, noLists, lcF, lim, see_slot, frz_slot, slot_some, slot_none, pkF, c1, nl_S]
    rw [hb]
    exact ih
theorem pk_ok {s : Nat} (h : Has P s [.p 0, .p 1] 2 5 pkB) {k : Nat} {l : Stair (k + 1)} {o : O} {g : Bag} (hl : GS (k + 1) l) (ho : o.ht ≤ 30) : Φ P cells (n + 1) s [encS (k + 1) l, o.enc] [] g = some (encS k (pickS l o (defS k)), g) := by
  obtain ⟨g1, ⟨a, q, rfl⟩, g3⟩ := hl
  rw [h.call rfl]
  obtain ⟨p3, p4, t1⟩ := pk_loop (Ψ := Φ P cells n) (gl := P.gl) ho (v := encS (k + 1) ((O.z, a) :: q : List (O × Stair k))) (g := g) ((O.z, a) :: q) a none none fun p hp => by have := (g3 p hp).1.ht; omega
  have s1 : evS (Φ P cells n) P.gl (.set 2 (.ix (.ix (.var 0) (.con (.int 0))) (.con (.int 1)))) [.sh (encS (k + 1) ((O.z, a) :: q : List (O × Stair k))), .sh o.enc, .un, .un, .un] g = some (.nx, [.sh (encS (k + 1) ((O.z, a) :: q : List (O × Stair k))), .sh o.enc, .sh (encS k a), .un, .un], g) := by
    rw [encS_succ]
    simp [evSs, evS, evX, evT, e_var, e_con, e_glo, e_tup, e_lst, e_bin, e_neg, e_cmp, e_and, e_or, e_not, e_ite, e_call, e_bi, e_isi, e_ix, e_sl, evA, evO, evC, evI, seeF, Rf.settle, frzF, putS, putE, wipeE, flat, flats, E.vars, Es.vars, Eo.vars, It.vars, outD, binD, ixD, slD, biD, itemsOf, arr, noList, noLists, lcF, lim, see_slot, frz_slot, slot_some, slot_none, ats0, ats1, nl_S]
  have s2 : evS (Φ P cells n) P.gl (.for_ (.t (.cons (.n 3) (.cons (.n 4) .nil))) (.seq (.var 0)) pkF) [.sh (encS (k + 1) ((O.z, a) :: q : List (O × Stair k))), .sh o.enc, .sh (encS k a), .un, .un] g = some (.nx, [.sh (encS (k + 1) ((O.z, a) :: q : List (O × Stair k))), .sh o.enc, .sh (encS k (pick' o a ((O.z, a) :: q))), slot p3, slot p4], g) := by
    refine st_for (ds := ((O.z, a) :: q).map (encP k)) (g1 := g) ?_ t1
    rw [encS_succ]
    simp [evSs, evS, evX, evT, e_var, e_con, e_glo, e_tup, e_lst, e_bin, e_neg, e_cmp, e_and, e_or, e_not, e_ite, e_call, e_bi, e_isi, e_ix, e_sl, evA, evO, evC, evI, seeF, Rf.settle, frzF, putS, putE, wipeE, flat, flats, E.vars, Es.vars, Eo.vars, It.vars, outD, binD, ixD, slD, biD, itemsOf, arr, noList, noLists, lcF, lim, see_slot, frz_slot, slot_some, slot_none]
  have s3 : evS (Φ P cells n) P.gl (.ret (.var 2)) [.sh (encS (k + 1) ((O.z, a) :: q : List (O × Stair k))), .sh o.enc, .sh (encS k (pick' o a ((O.z, a) :: q))), slot p3, slot p4] g = some (.rt (encS k (pick' o a ((O.z, a) :: q))), [.sh (encS (k + 1) ((O.z, a) :: q : List (O × Stair k))), .sh o.enc, .sh (encS k (pick' o a ((O.z, a) :: q))), slot p3, slot p4], g) := by
    simp [evSs, evS, evX, evT, e_var, e_con, e_glo, e_tup, e_lst, e_bin, e_neg, e_cmp, e_and, e_or, e_not, e_ite, e_call, e_bi, e_isi, e_ix, e_sl, evA, evO, evC, evI, seeF, Rf.settle, frzF, putS, putE, wipeE, flat, flats, E.vars, Es.vars, Eo.vars, It.vars, outD, binD, ixD, slD, biD, itemsOf, arr, noList, noLists, lcF, lim, see_slot, frz_slot, slot_some, slot_none, nl_S]
  have : evSs (Φ P cells n) P.gl pkB [.sh (encS (k + 1) ((O.z, a) :: q : List (O × Stair k))), .sh o.enc, .un, .un, .un] g = some (.rt (encS k (pick' o a ((O.z, a) :: q))), [.sh (encS (k + 1) ((O.z, a) :: q : List (O × Stair k))), .sh o.enc, .sh (encS k (pick' o a ((O.z, a) :: q))), slot p3, slot p4], g) := st_nx s1 (st_nx s2 (by rw [evSs, s3]))
  show outD (evSs (Φ P cells n) P.gl pkB [.sh (encS (k + 1) ((O.z, a) :: q : List (O × Stair k))), .sh o.enc, .un, .un, .un] g) = _
  rw [this]
  rfl
theorem va_loop {p : Nat} (hp : Has P p [.p 0, .p 1] 2 5 pkB) {v w : PyData} {g : Bag} : ∀ (r : List O) (k : Nat) (s : Stair k) (o3 : Option PyData), GS k s → r.length = k → (∀ o ∈ r, o.ht ≤ 30) →
    ∃ p3, turns (.n 3) (evSs (Φ P cells (n + 1)) P.gl (.cons (.set 2 (.call p (.cons (.var 2) (.cons (.var 3) .nil)) .nil)) .nil)) (r.map O.enc) [.sh v, .sh w, .sh (encS k s), slot o3] g = some (.nx, [.sh v, .sh w, .sh (.bool (valS k s r)), slot p3], g)
  | [], 0, s, o3, _, _, _ => ⟨o3, rfl⟩
  | [], k + 1, s, o3, _, h, _ => by cases h
  | o :: r, 0, s, o3, _, h, _ => by cases h
  | o :: r, k + 1, s, o3, gs, h, ho => by
    have e1 := pk_ok (cells := cells) (n := n) hp (l := s) (o := o) (g := g) gs (ho o List.mem_cons_self)
    obtain ⟨p3, ih⟩ := va_loop hp (v := v) (w := w) (g := g) r k (pickS s o (defS k)) (some o.enc) (by
      obtain ⟨g1, ⟨a, q, rfl⟩, g3⟩ := gs
      exact pick_gs _ a (g3 _ List.mem_cons_self).2 fun p hp => (g3 p hp).2) (by simpa using h) fun x hx => ho x (List.mem_cons_of_mem _ hx)
    refine ⟨p3, ?_⟩
    rw [List.map_cons, turns]
    simp only [flat]
    have hb : evSs (Φ P cells (n + 1)) P.gl (.cons (.set 2 (.call p (.cons (.var 2) (.cons (.var 3) .nil)) .nil)) .nil) (putS [.sh v, .sh w, .sh (encS (k + 1) s), slot o3] [(3, o.enc)]) g = some (.nx, [.sh v, .sh w, .sh (encS k (pickS s o (defS k))), .sh o.enc], g) := by
      simp [evSs, evS, evX, evT, e_var, e_con, e_glo, e_tup, e_lst, e_bin, e_neg, e_cmp, e_and, e_or, e_not, e_ite, e_call, e_bi, e_isi, e_ix, e_sl, evA, evO, evC, evI, seeF, Rf.settle, frzF, putS, putE, wipeE, flat, flats, E.vars, Es.vars, Eo.vars, It.vars, outD, binD, ixD, slD, biD, itemsOf, arr, noList, noLists, lcF, lim, see_slot, frz_slot, slot_some, slot_none, e1, nl_S]
    rw [hb]
    exact ih
theorem va_ok {s p : Nat} {srcs : List Src} (h : Has P s srcs 2 4 (vaB p)) (hp : Has P p [.p 0, .p 1] 2 5 pkB) {k : Nat} {a : Stair k} {r : List O} {ds es : List PyData} {g : Bag} (hs : srcs.length = 2) (ha : arr srcs ds es = [encS k a, encR r]) (ga : GS k a) (hr : r.length = k) (ho : ∀ o ∈ r, o.ht ≤ 30) : Φ P cells (n + 2) s ds es g = some (.bool (valS k a r), g) := by
  rw [h.call hs, ha]
  obtain ⟨p3, t1⟩ := va_loop (cells := cells) (n := n) hp (v := encS k a) (w := encR r) (g := g) r k a none ga hr ho
  have s1 : evS (Φ P cells (n + 1)) P.gl (.set 2 (.var 0)) [.sh (encS k a), .sh (encR r), .un, .un] g = some (.nx, [.sh (encS k a), .sh (encR r), .sh (encS k a), .un], g) := by simp [evSs, evS, evX, evT, e_var, e_con, e_glo, e_tup, e_lst, e_bin, e_neg, e_cmp, e_and, e_or, e_not, e_ite, e_call, e_bi, e_isi, e_ix, e_sl, evA, evO, evC, evI, seeF, Rf.settle, frzF, putS, putE, wipeE, flat, flats, E.vars, Es.vars, Eo.vars, It.vars, outD, binD, ixD, slD, biD, itemsOf, arr, noList, noLists, lcF, lim, see_slot, frz_slot, slot_some, slot_none, nl_S]
  have s2 : evS (Φ P cells (n + 1)) P.gl (.for_ (.n 3) (.seq (.var 1)) (.cons (.set 2 (.call p (.cons (.var 2) (.cons (.var 3) .nil)) .nil)) .nil)) [.sh (encS k a), .sh (encR r), .sh (encS k a), .un] g = some (.nx, [.sh (encS k a), .sh (encR r), .sh (.bool (valS k a r)), slot p3], g) := st_for (ds := r.map O.enc) (g1 := g) (by simp [evSs, evS, evX, evT, e_var, e_con, e_glo, e_tup, e_lst, e_bin, e_neg, e_cmp, e_and, e_or, e_not, e_ite, e_call, e_bi, e_isi, e_ix, e_sl, evA, evO, evC, evI, seeF, Rf.settle, frzF, putS, putE, wipeE, flat, flats, E.vars, Es.vars, Eo.vars, It.vars, outD, binD, ixD, slD, biD, itemsOf, arr, noList, noLists, lcF, lim, see_slot, frz_slot, slot_some, slot_none]) t1
  have : evSs (Φ P cells (n + 1)) P.gl (vaB p) [.sh (encS k a), .sh (encR r), .un, .un] g = some (.rt (.bool (valS k a r)), [.sh (encS k a), .sh (encR r), .sh (.bool (valS k a r)), slot p3], g) := st_nx s1 (st_nx s2 (by simp [evSs, evS, evX, evT, e_var, e_con, e_glo, e_tup, e_lst, e_bin, e_neg, e_cmp, e_and, e_or, e_not, e_ite, e_call, e_bi, e_isi, e_ix, e_sl, evA, evO, evC, evI, seeF, Rf.settle, frzF, putS, putE, wipeE, flat, flats, E.vars, Es.vars, Eo.vars, It.vars, outD, binD, ixD, slD, biD, itemsOf, arr, noList, noLists, lcF, lim, see_slot, frz_slot, slot_some, slot_none]))
  show outD (evSs (Φ P cells (n + 1)) P.gl (vaB p) [.sh (encS k a), .sh (encR r), .un, .un] g) = _
  rw [this]
  rfl
/-! ### opposites -/
def opL (s : Nat) : E := .lc (.t (.cons (.n 1) (.cons (.n 2) .nil))) [1, 2] (.seq (.var 0)) .no (.tup (.cons (.var 1) (.cons (.call s (.cons (.var 2) .nil) .nil) .nil)))
theorem v_opL (s : Nat) : (opL s).vars = [0, 1, 2] := rfl
def opB (s : Nat) : Ss := (.cons (.ifs (.isi (.var 0) [.bool]) (.cons (.ret (.not (.var 0))) .nil) .nil) (.cons (.ret (.bi .tuple (opL s))) .nil))
theorem op_ok {s : Nat} (h : Has P s [.p 0] 1 3 (opB s)) : ∀ (k n : Nat) (a : Stair k) (g : Bag), GS k a → Φ P cells (n + k + 1) s [encS k a] [] g = some (encS k (oppS k a), g)
  | 0, n, b, g, _ => by
    rw [h.call rfl]
    have e : encS 0 b = .bool b := rfl
    rw [e]
    simp [evSs, evS, evX, evT, e_var, e_con, e_glo, e_tup, e_lst, e_bin, e_neg, e_cmp, e_and, e_or, e_not, e_ite, e_call, e_bi, e_isi, e_ix, e_sl, evA, evO, evC, evI, seeF, Rf.settle, frzF, putS, putE, wipeE, flat, flats, E.vars, Es.vars, Eo.vars, It.vars, outD, binD, ixD, slD, biD, itemsOf, arr, noList, noLists, lcF, lim, see_slot, frz_slot, slot_some, slot_none, opB, tyOk, tyIs]
    rfl
  | k + 1, n, l, g, ga => by
    rw [h.call rfl]
    have l1 : ∀ o1 o2, evE (Φ P cells (n + (k + 1))) P.gl (opL s) [some (encS (k + 1) l), o1, o2] g = some (.list (List.map (fun p : O × Stair k => encP k (p.1, oppS k p.2)) l), g) := by
      intro o1 o2
      rw [encS_succ]
      refine e_lc (ds := List.map (encP k) l) (g1 := g) (by simp [evSs, evS, evX, evT, e_var, e_con, e_glo, e_tup, e_lst, e_bin, e_neg, e_cmp, e_and, e_or, e_not, e_ite, e_call, e_bi, e_isi, e_ix, e_sl, evA, evO, evC, evI, seeF, Rf.settle, frzF, putS, putE, wipeE, flat, flats, E.vars, Es.vars, Eo.vars, It.vars, outD, binD, ixD, slD, biD, itemsOf, arr, noList, noLists, lcF, lim]) (by rw [List.length_map]; have := ga.1; simp only [lim]; omega) ?_
      refine comp_map fun p hp => ?_
      have ih := op_ok h k n p.2 g (ga.2.2 p hp).2
      have hf : flat (.t (.cons (.n 1) (.cons (.n 2) .nil))) (encP k p) = some [(1, p.1.enc), (2, encS k p.2)] := rfl
      rw [show n + k + 1 = n + (k + 1) from rfl] at ih
      unfold lcF
      rw [hf]
      simp [evSs, evS, evX, evT, e_var, e_con, e_glo, e_tup, e_lst, e_bin, e_neg, e_cmp, e_and, e_or, e_not, e_ite, e_call, e_bi, e_isi, e_ix, e_sl, evA, evO, evC, evI, seeF, Rf.settle, frzF, putS, putE, wipeE, flat, flats, E.vars, Es.vars, Eo.vars, It.vars, outD, binD, ixD, slD, biD, itemsOf, arr, noList, noLists, lcF, lim, ih]
    have e1 : tyIs .bool (encS (k + 1) l) = false := rfl
    have e2 : tyOk (encS (k + 1) l) = true := rfl
    have e3 : evS (Φ P cells (n + (k + 1))) P.gl (.ifs (.isi (.var 0) [.bool]) (.cons (.ret (.not (.var 0))) .nil) .nil) [.sh (encS (k + 1) l), .un, .un] g = some (.nx, [.sh (encS (k + 1) l), .un, .un], g) := st_skip (by simp [evSs, evS, evX, evT, e_var, e_con, e_glo, e_tup, e_lst, e_bin, e_neg, e_cmp, e_and, e_or, e_not, e_ite, e_call, e_bi, e_isi, e_ix, e_sl, evA, evO, evC, evI, seeF, Rf.settle, frzF, putS, putE, wipeE, flat, flats, E.vars, Es.vars, Eo.vars, It.vars, outD, binD, ixD, slD, biD, itemsOf, arr, noList, noLists, lcF, lim, see_slot, frz_slot, slot_some, slot_none, e1, e2])
    have nl := nl_S (k + 1) (oppS (k + 1) l)
    have e4 : encS (k + 1) (oppS (k + 1) l) = .tuple (List.map (fun p : O × Stair k => encP k (p.1, oppS k p.2)) l) := by
      show PyData.tuple (List.map (encP k) (List.map (fun p : O × Stair k => (p.1, oppS k p.2)) l)) = _
      rw [List.map_map]
      rfl
    rw [e4] at nl ⊢
    have e5 : evS (Φ P cells (n + (k + 1))) P.gl (.ret (.bi .tuple (opL s))) [.sh (encS (k + 1) l), .un, .un] g = some (.rt (.tuple (List.map (fun p : O × Stair k => encP k (p.1, oppS k p.2)) l)), [.sh (encS (k + 1) l), .un, .un], g) := by
      rw [evS, evX, show (E.bi .tuple (opL s)).vars = [0, 1, 2] from rfl]
      simp only [seeF, e_bi, l1, biD, Option.map_some, Rf.settle, nl, if_true]
    have : evSs (Φ P cells (n + (k + 1))) P.gl (opB s) [.sh (encS (k + 1) l), .un, .un] g = some (.rt (.tuple (List.map (fun p : O × Stair k => encP k (p.1, oppS k p.2)) l)), [.sh (encS (k + 1) l), .un, .un], g) := st_nx e3 (by rw [evSs, e5])
    show outD (evSs (Φ P cells (n + (k + 1))) P.gl (opB s) [.sh (encS (k + 1) l), .un, .un] g) = _
    rw [this]
    rfl
end
end Rf

set_option maxHeartbeats 400000
/-! The limit of the ends between two ordinals. -/
namespace Rf
open PySem PySem.W L2 PyProof.Rows
namespace O
def tl : O → O
  | z => z
  | t _ _ r => r
def suc (a : O) : O := add a (num 1)
/-- the limit of the ends from low on, below the second -/
def el : O → O → O
  | _, z => z
  | low, t e c z => if 1 < c ∧ lt (t e (c - 1) z) low = false then suc e else if e = z then num 1 else e
  | low, t e c (t e2 c2 r2) => if lt (t e c z) low = false then suc e else el low.tl (t e2 c2 r2)
theorem last_t {e : O} {c : Int} {r : O} (h : r ≠ z) : (t e c r).last = r.last := by
  unfold last
  cases r with
  | z => exact absurd rfl h
  | t a b s =>
    simp only [ts]
    rw [List.getLast?_cons_cons]
theorem last_z : z.last = z := rfl
theorem last_1 (e : O) (c : Int) : (t e c z).last = e := rfl
theorem lt_z' {a : O} (h : a ≠ z) : lt z a = true := by
  cases a with
  | z => exact absurd rfl h
  | t _ _ _ => rfl
theorem lt_suc {a : O} (h : a.nf) : lt a (suc a) = true := lt_add a h (by decide)
theorem le_of_suc {a b : O} (ha : a.nf) (hb : b.nf) (h : lt b (suc a) = true) : lt a b = false := by
  cases q : lt a b with
  | false => rfl
  | true =>
    have := no_mid a ha hb q
    unfold suc at h
    rw [h] at this
    cases this
theorem suc_nf {a : O} (h : a.nf) : (suc a).nf := add_nf h (num_nf 1)
theorem suc_nz {a : O} (h : a.nf) : suc a ≠ z := fun q => by
  have := lt_suc h
  rw [q, lt_z] at this
  cases this
/-- the last exponent is at most the first -/
theorem last_le : ∀ {e : O} {c : Int} {r : O}, (t e c r).nf → lt e (t e c r).last = false
  | e, c, z, _ => by rw [last_1, lt_irr]
  | e, c, t e2 c2 r2, h => by
    have h1 := last_le h.2.2.1
    have h2 : lt e2 e = true := h.2.2.2 (e2, c2) rfl
    rw [last_t (by intro q; cases q)]
    exact le_le h1 (lt_asy h2)
theorem last_nf : ∀ {a : O}, a.nf → a.last.nf
  | z, _ => trivial
  | t e c z, h => h.1
  | t e c (t e2 c2 r2), h => by
    rw [last_t (by intro q; cases q)]
    exact last_nf h.2.2.1
/-- below an ordinal the ends are at most its first exponent -/
theorem last_below {o e : O} {c : Int} {r : O} (ho : o.nf) (he : (t e c r).nf) (h : lt o (t e c r) = true) : lt e o.last = false := by
  cases o with
  | z => rw [last_z, lt_z]
  | t a d s =>
    have h1 := last_le ho
    rcases lt_inv h with q | ⟨q, _⟩ | ⟨q, _⟩
    · exact le_le h1 (lt_asy q)
    · subst q; exact h1
    · subst q; exact h1
theorem t_nf {e : O} {c : Int} {r o : O} (h : (t e c r).nf) (ho : o.nf) (hl : lt o r = true) : (t e c o).nf := by
  refine ⟨h.1, h.2.1, ho, fun p hp => ?_⟩
  cases o with
  | z => cases hp
  | t a d s =>
    cases hp
    cases r with
    | z => rw [lt_z] at hl; cases hl
    | t e2 c2 r2 =>
      have h2 : lt e2 e = true := h.2.2.2 (e2, c2) rfl
      rcases lt_inv hl with q | ⟨q, _⟩ | ⟨q, _⟩
      · exact lt_trans q h2
      · subst q; exact h2
      · subst q; exact h2
/-- between two ordinals that begin alike -/
theorem mid {e : O} {c : Int} {r o : O} (h1 : lt o (t e c z) = false) (hn : o ≠ t e c z) (h2 : lt o (t e c r) = true) : ∃ s, o = t e c s ∧ s ≠ z ∧ lt s r = true := by
  cases o with
  | z => cases h1
  | t a d s =>
    rcases lt_inv h2 with q | ⟨q, q2⟩ | ⟨q, q2, q3⟩
    · rw [lt_exp q] at h1; cases h1
    · subst q; rw [lt_cnt q2] at h1; cases h1
    · subst q; subst q2
      exact ⟨s, rfl, fun z => hn (by rw [z]), q3⟩
theorem low_shape {e : O} {c : Int} {r low : O} (h1 : lt (t e c z) low = true) (h2 : lt low (t e c r) = true) : ∃ s, low = t e c s ∧ s ≠ z ∧ lt s r = true :=
  mid (lt_asy h1) (fun q => by rw [q, lt_irr] at h1; cases h1) h2
/-- no end between is as great -/
theorem el_above : ∀ {high low o : O}, high.nf → low.nf → o.nf → lt o low = false → lt o high = true → lt o.last (el low high) = true
  | z, low, o, _, _, _, _, h => by rw [lt_z] at h; cases h
  | t e c z, low, o, hh, hl, ho, h1, h2 => by
    rw [el]
    have hb := last_below ho hh h2
    split
    · exact le_lt hb (lt_suc hh.1)
    · rename_i q
      have key : e ≠ z → lt o.last e = true := fun he => by
        cases o with
        | z => rw [last_z]; exact lt_z' he
        | t a d s =>
          rcases lt_inv h2 with p | ⟨p, p2⟩ | ⟨p, p2, p3⟩
          · exact le_lt (last_le ho) p
          · subst p
            by_cases hc : 1 < c
            · have hlow : lt (t a (c - 1) z) low = true := by
                cases w : lt (t a (c - 1) z) low with
                | true => rfl
                | false => exact absurd ⟨hc, w⟩ q
              have : lt (t a (c - 1) z) (t a d s) = true := lt_le hlow h1
              rcases lt_inv this with u | ⟨_, u⟩ | ⟨_, u, u3⟩
              · rw [lt_irr] at u; cases u
              · omega
              · have hs : s ≠ z := fun w => by rw [w, lt_irr] at u3; cases u3
                rw [last_t hs]
                cases s with
                | z => exact absurd rfl hs
                | t e2 c2 r2 => exact le_lt (last_le ho.2.2.1) (ho.2.2.2 (e2, c2) rfl)
            · have := ho.2.1
              omega
          · rw [lt_z] at p3; cases p3
      split
      · rename_i he
        subst he
        have : o = z := by
          cases o with
          | z => rfl
          | t a d s =>
            exfalso
            rcases lt_inv h2 with p | ⟨p, p2⟩ | ⟨p, p2, p3⟩
            · rw [lt_z] at p; cases p
            · subst p
              have hs := nf_z ho
              subst hs
              have hd := ho.2.1
              have hlow : lt (t z (c - 1) z) low = true := by
                cases w : lt (t z (c - 1) z) low with
                | true => rfl
                | false => exact absurd ⟨by omega, w⟩ q
              have : lt (t z (c - 1) z) (t z d z) = true := lt_le hlow h1
              rcases lt_inv this with u | ⟨_, u⟩ | ⟨_, u, u3⟩
              · rw [lt_irr] at u; cases u
              · omega
              · rw [lt_irr] at u3; cases u3
            · rw [lt_z] at p3; cases p3
        subst this
        rfl
      · rename_i he
        exact key he
  | t e c (t e2 c2 r2), low, o, hh, hl, ho, h1, h2 => by
    rw [el]
    split
    · exact le_lt (last_below ho hh h2) (lt_suc hh.1)
    · rename_i q
      have q : lt (t e c z) low = true := by cases w : lt (t e c z) low <;> simp_all
      have hlh := le_lt h1 h2
      obtain ⟨s, rfl, hs, hsr⟩ := low_shape q hlh
      have h3 : lt (t e c z) o = true := lt_le q h1
      obtain ⟨u, rfl, hu, hur⟩ := low_shape h3 h2
      rw [last_t hu]
      rw [lt_same] at h1
      exact el_above hh.2.2.1 hl.2.2.1 ho.2.2.1 h1 hur
theorem add_one_last (a f : O) : (add a (t f 1 z)).last = f := by
  refine last_of (l := a.ts.filter (fun p => lt f p.1)) (p := (f, 1 + ((a.ts.filter (fun p => decide (p.1 = f))).map (·.2)).sum)) ?_
  rw [add_ts]
  rfl
theorem add_small {a e f : O} {c : Int} (ha : a.nf) (h : lt a (t e c z) = true) (hf : lt f e = true) : lt (add a (t f 1 z)) (t e c z) = true := by
  cases a with
  | z => rw [add_zl]; exact lt_exp hf
  | t a d s =>
    rw [add_rec ha]
    rcases lt_inv h with q | ⟨q, q2⟩ | ⟨_, _, q⟩
    · split
      · exact lt_exp q
      · split
        · exact lt_exp hf
        · exact lt_exp hf
    · subst q
      rw [if_pos hf]
      exact lt_cnt q2
    · rw [lt_z] at q; cases q
/-- for every lesser one there is an end as great -/
theorem el_below : ∀ {high low f : O}, high.nf → low.nf → f.nf → lt low high = true → lt f (el low high) = true → ∃ o : O, o.nf ∧ lt o low = false ∧ lt o high = true ∧ lt o.last f = false
  | z, low, f, _, _, _, h, _ => by rw [lt_z] at h; cases h
  | t e c z, low, f, hh, hl, hf, h1, h2 => by
    rw [el] at h2
    split at h2
    · rename_i q
      exact ⟨t e (c - 1) z, ⟨hh.1, by omega, trivial, fun p hp => by cases hp⟩, q.2, lt_cnt (by omega), le_of_suc hh.1 hf h2⟩
    · split at h2
      · rename_i he
        have : f = z := by
          have := le_of_suc (a := z) trivial hf (by unfold suc; rw [add_zl]; exact h2)
          cases f with
          | z => rfl
          | t _ _ _ => cases this
        subst this
        exact ⟨low, hl, lt_irr low, h1, lt_z _⟩
      · exact ⟨add low (t f 1 z), add_nf hl (one_nf hf), add_ge_l hl (one_nf hf), add_small hl h1 h2, by rw [add_one_last, lt_irr]⟩
  | t e c (t e2 c2 r2), low, f, hh, hl, hf, h1, h2 => by
    rw [el] at h2
    split at h2
    · rename_i q
      exact ⟨t e c z, ⟨hh.1, hh.2.1, trivial, fun p hp => by cases hp⟩, q, by rw [lt_same]; rfl, le_of_suc hh.1 hf h2⟩
    · rename_i q
      have q : lt (t e c z) low = true := by cases w : lt (t e c z) low <;> simp_all
      obtain ⟨s, rfl, hs, hsr⟩ := low_shape q h1
      obtain ⟨o, g1, g2, g3, g4⟩ := el_below hh.2.2.1 hl.2.2.1 hf hsr h2
      refine ⟨t e c o, t_nf hh g1 g3, by rw [lt_same]; exact g2, by rw [lt_same]; exact g3, ?_⟩
      by_cases hz : o = z
      · subst hz
        have hs' : s = z := by
          cases s with
          | z => rfl
          | t _ _ _ => cases g2
        exact absurd hs' hs
      · rw [last_t hz]
        exact g4
theorem el_nf : ∀ {high low : O}, high.nf → (el low high).nf
  | z, _, _ => trivial
  | t e c z, low, h => by
    rw [el]
    split
    · exact suc_nf h.1
    · split
      · exact num_nf 1
      · exact h.1
  | t e c (t e2 c2 r2), low, h => by
    rw [el]
    split
    · exact suc_nf h.1
    · exact el_nf h.2.2.1
theorem el_nz : ∀ {high low : O}, high.nf → high ≠ z → el low high ≠ z
  | z, _, _, h => absurd rfl h
  | t e c z, low, h, _ => by
    rw [el]
    split
    · exact suc_nz h.1
    · split
      · intro q; cases q
      · assumption
  | t e c (t e2 c2 r2), low, h, _ => by
    rw [el]
    split
    · exact suc_nz h.1
    · exact el_nz h.2.2.1 (by intro q; cases q)
/-- where it comes from -/
theorem el_mem : ∀ {high low : O}, high ≠ z → el low high = num 1 ∨ (∃ p ∈ high.ts, el low high = p.1) ∨ ∃ p ∈ high.ts, el low high = suc p.1
  | z, _, h => absurd rfl h
  | t e c z, low, _ => by
    rw [el]
    split
    · exact .inr (.inr ⟨(e, c), List.mem_cons_self, rfl⟩)
    · split
      · exact .inl rfl
      · exact .inr (.inl ⟨(e, c), List.mem_cons_self, rfl⟩)
  | t e c (t e2 c2 r2), low, _ => by
    rw [el]
    split
    · exact .inr (.inr ⟨(e, c), List.mem_cons_self, rfl⟩)
    · rcases el_mem (high := t e2 c2 r2) (low := low.tl) (by intro q; cases q) with q | ⟨p, hp, q⟩ | ⟨p, hp, q⟩
      · exact .inl q
      · exact .inr (.inl ⟨p, List.mem_cons_of_mem _ hp, q⟩)
      · exact .inr (.inr ⟨p, List.mem_cons_of_mem _ hp, q⟩)
/-- by raised ordinals -/
theorem el_rsd {high low : O} (hh : high.nf) (hl : low.nf) (h : lt low high = true) : lt (rsd low (el low high)) high = false := by
  cases q : lt (rsd low (el low high)) high with
  | false => rfl
  | true =>
    have h1 := el_above hh hl (rsd_nf hl (el_nf hh)) (rsd_ge hl (el_nf hh)) q
    rw [rsd_end hl (el_nf hh)] at h1
    cases h1
theorem el_min {high low f : O} (hh : high.nf) (hl : low.nf) (hf : f.nf) (h : lt low high = true) (k : lt f (el low high) = true) : lt (rsd low f) high = true := by
  obtain ⟨o, g1, g2, g3, g4⟩ := el_below hh hl hf h k
  cases q : lt o (rsd low f) with
  | false => exact le_lt q g3
  | true =>
    have := rsd_min hl hf g1 g2 q
    rw [g4] at this
    cases this
end O
end Rf

set_option maxHeartbeats 1000000
/-! What must hold so that a run ends as wished. -/
namespace Rf
open PySem PySem.W L2

def wM {α : Type} (o : Option (α × Bag)) (Q : α → Bag → Prop) : Prop := match o with
  | some (a, g) => Q a g
  | none => False
theorem wM_iff {α : Type} {o : Option (α × Bag)} {Q : α → Bag → Prop} : wM o Q ↔ ∃ a g, o = some (a, g) ∧ Q a g := by
  cases o with
  | none => simp [wM]
  | some p =>
    obtain ⟨a, g⟩ := p
    constructor
    · exact fun h => ⟨a, g, rfl, h⟩
    · rintro ⟨_, _, e, h⟩
      cases e
      exact h
theorem wM_mono {α : Type} {o : Option (α × Bag)} {Q R : α → Bag → Prop} (h : wM o Q) (k : ∀ a g, Q a g → R a g) : wM o R := by
  cases o with
  | none => exact h
  | some p => exact k _ _ h
def wO {α : Type} (o : Option α) (Q : α → Prop) : Prop := match o with
  | some a => Q a
  | none => False
theorem wO_some {α : Type} (a : α) (Q : α → Prop) : wO (some a) Q = Q a := rfl
theorem wO_iff {α : Type} {o : Option α} {Q : α → Prop} : wO o Q ↔ ∃ a, o = some a ∧ Q a := by
  cases o <;> simp [wO]
/-- a datum that is a truth value -/
def wB (d : PyData) (Q : Bool → Prop) : Prop := match d with
  | .bool b => Q b
  | _ => False
theorem wB_bool (b : Bool) (Q : Bool → Prop) : wB (.bool b) Q = Q b := rfl
def wN (d : PyData) (Q : Int → Prop) : Prop := match d with
  | .int b => Q b
  | _ => False
theorem wN_int (b : Int) (Q : Int → Prop) : wN (.int b) Q = Q b := rfl
def wQ (d : PyData) (Q : List PyData → Prop) : Prop := match d with
  | .list b => Q b
  | .tuple b => Q b
  | _ => False
theorem wQ_list (b : List PyData) (Q : List PyData → Prop) : wQ (.list b) Q = Q b := rfl
theorem wQ_tuple (b : List PyData) (Q : List PyData → Prop) : wQ (.tuple b) Q = Q b := rfl
def wD (d : PyData) (Q : List PyData → Prop) : Prop := match d with
  | .list b => Q b
  | _ => False
theorem wD_list (b : List PyData) (Q : List PyData → Prop) : wD (.list b) Q = Q b := rfl
/-- by a truth value -/
def wIf (b : Bool) (p q : Prop) : Prop := match b with
  | true => p
  | false => q
theorem wIf_t (p q : Prop) : wIf true p q = p := rfl
theorem wIf_f (p q : Prop) : wIf false p q = q := rfl
theorem wIf_c {b : Bool} {p q : Prop} (h1 : b = true → p) (h2 : b = false → q) : wIf b p q := by
  cases b
  · exact h2 rfl
  · exact h1 rfl

section
variable (Ψ : Fns) (gl : Nat → Option PyData)
def wE (e : E) (η : Env) (g : Bag) (Q : PyData → Bag → Prop) : Prop := wM (evE Ψ gl e η g) Q
def wA (e : Es) (η : Env) (g : Bag) (Q : List PyData → Bag → Prop) : Prop := wM (evA Ψ gl e η g) Q
def wP (e : Eo) (η : Env) (g : Bag) (Q : Option Int → Bag → Prop) : Prop := wM (evO Ψ gl e η g) Q
def wCd (e : Eo) (η : Env) (g : Bag) (Q : Bool → Bag → Prop) : Prop := wM (evC Ψ gl e η g) Q
def wI (e : It) (η : Env) (g : Bag) (Q : List PyData → Bag → Prop) : Prop := wM (evI Ψ gl e η g) Q
def wC (s : Nat) (ds zs : List PyData) (g : Bag) (Q : PyData → Bag → Prop) : Prop := wM (Ψ s ds zs g) Q
/-- a comprehension's turns -/
def wL (t : Tg) (own : List Nat) (c : Eo) (e : E) (η : Env) (ds acc : List PyData) (g : Bag) (Q : List PyData → Bag → Prop) : Prop := wM (comp (lcF t own (evC Ψ gl c) (evE Ψ gl e) η) ds acc g) Q
end

section
variable {Ψ : Fns} {gl : Nat → Option PyData} {η : Env} {g : Bag} {Q : PyData → Bag → Prop}
theorem wE_var (i : Nat) : wE Ψ gl (.var i) η g Q = match η[i]? with | some (some d) => Q d g | _ => False := by
  unfold wE
  rw [evE]
  generalize η[i]? = o
  rcases o with _ | _ | d <;> rfl
theorem wE_con (d : PyData) : wE Ψ gl (.con d) η g Q = Q d g := by unfold wE; rw [evE]; rfl
theorem wE_glo (k : Nat) : wE Ψ gl (.glo k) η g Q = wO (gl k) fun d => Q d g := by
  unfold wE
  rw [evE]
  cases gl k <;> rfl
theorem wE_tup (es : Es) : wE Ψ gl (.tup es) η g Q = wA Ψ gl es η g fun ds g => ds.length ≤ lim ∧ Q (.tuple ds) g := by
  unfold wE wA
  rw [evE]
  rcases evA Ψ gl es η g with _ | ⟨ds, g1⟩
  · rfl
  · by_cases h : ds.length ≤ lim
    · simp only [h, if_true, wM, true_and]
    · simp only [h, if_false, wM, false_and]
theorem wE_lst (es : Es) : wE Ψ gl (.lst es) η g Q = wA Ψ gl es η g fun ds g => ds.length ≤ lim ∧ Q (.list ds) g := by
  unfold wE wA
  rw [evE]
  rcases evA Ψ gl es η g with _ | ⟨ds, g1⟩
  · rfl
  · by_cases h : ds.length ≤ lim
    · simp only [h, if_true, wM, true_and]
    · simp only [h, if_false, wM, false_and]
theorem wE_bin (o : Bop) (a b : E) : wE Ψ gl (.bin o a b) η g Q = wE Ψ gl a η g fun x g => wE Ψ gl b η g fun y g => wO (binD o x y) fun z => Q z g := by
  unfold wE
  rw [evE]
  rcases evE Ψ gl a η g with _ | ⟨x, g1⟩
  · rfl
  · simp only [wM]
    rcases evE Ψ gl b η g1 with _ | ⟨y, g2⟩
    · rfl
    · simp only
      cases binD o x y <;> rfl
theorem wE_cmp (o : Cop) (a b : E) : wE Ψ gl (.cmp o a b) η g Q = wE Ψ gl a η g fun x g => wE Ψ gl b η g fun y g => wO (cmpD o x y) fun z => Q (.bool z) g := by
  unfold wE
  rw [evE]
  rcases evE Ψ gl a η g with _ | ⟨x, g1⟩
  · rfl
  · simp only [wM]
    rcases evE Ψ gl b η g1 with _ | ⟨y, g2⟩
    · rfl
    · simp only
      cases cmpD o x y <;> rfl
theorem wE_chn (o p : Cop) (a b c : E) : wE Ψ gl (.chn o p a b c) η g Q = wE Ψ gl a η g fun x g => wE Ψ gl b η g fun y g => wO (cmpD o x y) fun z => wIf z (wE Ψ gl c η g fun w g => wO (cmpD p y w) fun r => Q (.bool r) g) (Q (.bool false) g) := by
  unfold wE
  rw [evE]
  rcases evE Ψ gl a η g with _ | ⟨x, g1⟩
  · rfl
  · simp only [wM]
    rcases evE Ψ gl b η g1 with _ | ⟨y, g2⟩
    · rfl
    · simp only
      rcases cmpD o x y with _ | _ | _
      · rfl
      · rfl
      · simp only [wO, wIf]
        rcases evE Ψ gl c η g2 with _ | ⟨w, g3⟩
        · rfl
        · simp only
          cases cmpD p y w <;> rfl
theorem wE_neg (a : E) : wE Ψ gl (.neg a) η g Q = wE Ψ gl a η g fun x g => wN x fun i => Q (.int (-i)) g := by
  unfold wE
  rw [evE]
  rcases evE Ψ gl a η g with _ | ⟨x, g1⟩
  · rfl
  · cases x <;> rfl
theorem wE_and (a b : E) : wE Ψ gl (.and a b) η g Q = wE Ψ gl a η g fun x g => wB x fun c => wIf c (wE Ψ gl b η g Q) (Q (.bool false) g) := by
  unfold wE
  rw [evE]
  rcases evE Ψ gl a η g with _ | ⟨x, g1⟩
  · rfl
  · cases x with
    | bool c => cases c <;> rfl
    | _ => rfl
theorem wE_or (a b : E) : wE Ψ gl (.or a b) η g Q = wE Ψ gl a η g fun x g => wB x fun c => wIf c (Q (.bool true) g) (wE Ψ gl b η g Q) := by
  unfold wE
  rw [evE]
  rcases evE Ψ gl a η g with _ | ⟨x, g1⟩
  · rfl
  · cases x with
    | bool c => cases c <;> rfl
    | _ => rfl
theorem wE_not (a : E) : wE Ψ gl (.not a) η g Q = wE Ψ gl a η g fun x g => wB x fun c => Q (.bool (!c)) g := by
  unfold wE
  rw [evE]
  rcases evE Ψ gl a η g with _ | ⟨x, g1⟩
  · rfl
  · cases x <;> rfl
theorem wE_ite (t a b : E) : wE Ψ gl (.ite t a b) η g Q = wE Ψ gl t η g fun x g => wB x fun c => wIf c (wE Ψ gl a η g Q) (wE Ψ gl b η g Q) := by
  unfold wE
  rw [evE]
  rcases evE Ψ gl t η g with _ | ⟨x, g1⟩
  · rfl
  · cases x with
    | bool c => cases c <;> rfl
    | _ => rfl
theorem wE_call (s : Nat) (es ks : Es) : wE Ψ gl (.call s es ks) η g Q = wA Ψ gl es η g fun ds g => wA Ψ gl ks η g fun zs g => wC Ψ s ds zs g Q := by
  unfold wE wA wC
  rw [evE]
  rcases evA Ψ gl es η g with _ | ⟨ds, g1⟩
  · rfl
  · simp only [wM]
    rcases evA Ψ gl ks η g1 with _ | ⟨y, g2⟩ <;> rfl
theorem wE_bi (b : Bi) (a : E) : wE Ψ gl (.bi b a) η g Q = wE Ψ gl a η g fun x g => wO (biD b x) fun z => Q z g := by
  unfold wE
  rw [evE]
  rcases evE Ψ gl a η g with _ | ⟨x, g1⟩
  · rfl
  · simp only [wM]
    cases biD b x <;> rfl
theorem wE_isi (a : E) (ts : List Ty) : wE Ψ gl (.isi a ts) η g Q = wE Ψ gl a η g fun x g => tyOk x = true ∧ Q (.bool (ts.any fun t => tyIs t x)) g := by
  unfold wE
  rw [evE]
  rcases evE Ψ gl a η g with _ | ⟨x, g1⟩
  · rfl
  · simp only [wM]
    cases tyOk x
    · simp
    · simp
theorem wE_ix (a i : E) : wE Ψ gl (.ix a i) η g Q = wE Ψ gl a η g fun x g => wE Ψ gl i η g fun y g => wO (ixD x y) fun z => Q z g := by
  unfold wE
  rw [evE]
  rcases evE Ψ gl a η g with _ | ⟨x, g1⟩
  · rfl
  · simp only [wM]
    rcases evE Ψ gl i η g1 with _ | ⟨y, g2⟩
    · rfl
    · simp only
      cases ixD x y <;> rfl
theorem wE_sl (a : E) (lo hi : Eo) : wE Ψ gl (.sl a lo hi) η g Q = wE Ψ gl a η g fun x g => wP Ψ gl lo η g fun l g => wP Ψ gl hi η g fun h g => wO (slD x l h) fun z => Q z g := by
  unfold wE wP
  rw [evE]
  rcases evE Ψ gl a η g with _ | ⟨x, g1⟩
  · rfl
  · simp only [wM]
    rcases evO Ψ gl lo η g1 with _ | ⟨y, g2⟩
    · rfl
    · simp only
      rcases evO Ψ gl hi η g2 with _ | ⟨y, g3⟩
      · rfl
      · simp only
        cases slD x _ _ <;> rfl
theorem wE_lc (t : Tg) (own : List Nat) (it : It) (c : Eo) (e : E) : wE Ψ gl (.lc t own it c e) η g Q = wI Ψ gl it η g fun ds g => ds.length ≤ lim ∧ wL Ψ gl t own c e η ds [] g fun rs g => Q (.list rs) g := by
  unfold wE wI wL
  rw [evE]
  rcases evI Ψ gl it η g with _ | ⟨ds, g1⟩
  · rfl
  · simp only [wM]
    by_cases h : ds.length ≤ lim
    · simp only [h, if_true, true_and]
      rcases comp _ ds [] g1 with _ | ⟨r, g2⟩ <;> rfl
    · simp only [h, if_false, false_and]
theorem wE_rv (a : E) : wE Ψ gl (.rv a) η g Q = wE Ψ gl a η g fun x g => wO (rvD x) fun z => Q z g := by
  unfold wE
  rw [evE]
  rcases evE Ψ gl a η g with _ | ⟨x, g1⟩
  · rfl
  · simp only [wM]
    cases rvD x <;> rfl
theorem wE_jn (a b : E) : wE Ψ gl (.jn a b) η g Q = wE Ψ gl a η g fun x g => wE Ψ gl b η g fun y g => wO (jnD x y) fun z => Q z g := by
  unfold wE
  rw [evE]
  rcases evE Ψ gl a η g with _ | ⟨x, g1⟩
  · rfl
  · simp only [wM]
    rcases evE Ψ gl b η g1 with _ | ⟨y, g2⟩
    · rfl
    · simp only
      cases jnD x y <;> rfl
variable {QA : List PyData → Bag → Prop}
theorem wA_nil : wA Ψ gl .nil η g QA = QA [] g := by unfold wA; rw [evA]; rfl
theorem wA_cons (e : E) (es : Es) : wA Ψ gl (.cons e es) η g QA = wE Ψ gl e η g fun x g => wA Ψ gl es η g fun xs g => QA (x :: xs) g := by
  unfold wA wE
  rw [evA]
  rcases evE Ψ gl e η g with _ | ⟨x, g1⟩
  · rfl
  · simp only [wM]
    rcases evA Ψ gl es η g1 with _ | ⟨y, g2⟩ <;> rfl
theorem wA_star (e : E) (es : Es) : wA Ψ gl (.star e es) η g QA = wE Ψ gl e η g fun x g => wQ x fun ys => wA Ψ gl es η g fun xs g => QA (ys ++ xs) g := by
  unfold wA wE
  rw [evA]
  rcases evE Ψ gl e η g with _ | ⟨x, g1⟩
  · rfl
  · cases x with
    | list ys =>
      simp only [wM, wQ]
      rcases evA Ψ gl es η g1 with _ | ⟨y, g2⟩ <;> rfl
    | tuple ys =>
      simp only [wM, wQ]
      rcases evA Ψ gl es η g1 with _ | ⟨y, g2⟩ <;> rfl
    | _ => rfl
theorem wP_no {QO : Option Int → Bag → Prop} : wP Ψ gl .no η g QO = QO none g := by unfold wP; rw [evO]; rfl
theorem wP_so {QO : Option Int → Bag → Prop} (e : E) : wP Ψ gl (.so e) η g QO = wE Ψ gl e η g fun x g => wN x fun i => QO (some i) g := by
  unfold wP wE
  rw [evO]
  rcases evE Ψ gl e η g with _ | ⟨x, g1⟩
  · rfl
  · cases x <;> rfl
theorem wCd_no {QB : Bool → Bag → Prop} : wCd Ψ gl .no η g QB = QB true g := by unfold wCd; rw [evC]; rfl
theorem wCd_so {QB : Bool → Bag → Prop} (e : E) : wCd Ψ gl (.so e) η g QB = wE Ψ gl e η g fun x g => wB x fun i => QB i g := by
  unfold wCd wE
  rw [evC]
  rcases evE Ψ gl e η g with _ | ⟨x, g1⟩
  · rfl
  · cases x <;> rfl
theorem wI_seq (e : E) : wI Ψ gl (.seq e) η g QA = wE Ψ gl e η g fun x g => wO (itemsOf x) fun ds => QA ds g := by
  unfold wI wE
  rw [evI]
  rcases evE Ψ gl e η g with _ | ⟨x, g1⟩
  · rfl
  · simp only [wM]
    cases itemsOf x <;> rfl
theorem wI_rng (e : E) : wI Ψ gl (.rng e) η g QA = wE Ψ gl e η g fun x g => wN x fun j => (-lim ≤ j ∧ j ≤ lim) ∧ QA (rangeD 0 j.toNat) g := by
  unfold wI wE
  rw [evI]
  rcases evE Ψ gl e η g with _ | ⟨x, g1⟩
  · rfl
  · cases x with
    | int j =>
      simp only [wM, wN]
      by_cases h : -(lim : Int) ≤ j ∧ j ≤ lim
      · rw [if_pos h]
        simp only [h, true_and, and_self]
      · rw [if_neg h]
        simp only [h, false_and]
    | _ => rfl
theorem wI_rng2 (a b : E) : wI Ψ gl (.rng2 a b) η g QA = wE Ψ gl a η g fun x g => wN x fun i => wE Ψ gl b η g fun y g => wN y fun j => (-lim ≤ i ∧ i ≤ lim ∧ -lim ≤ j ∧ j ≤ lim ∧ j - i ≤ lim) ∧ QA (rangeD i (j - i).toNat) g := by
  unfold wI wE
  rw [evI]
  rcases evE Ψ gl a η g with _ | ⟨x, g1⟩
  · rfl
  · cases x with
    | int i =>
      simp only [wM, wN]
      rcases evE Ψ gl b η g1 with _ | ⟨y, g2⟩
      · rfl
      · cases y with
        | int j =>
          simp only
          by_cases h : -(lim : Int) ≤ i ∧ i ≤ lim ∧ -(lim : Int) ≤ j ∧ j ≤ lim ∧ j - i ≤ lim
          · rw [if_pos h]
            simp only [h, true_and, and_self]
          · rw [if_neg h]
            simp only [h, false_and]
        | _ => rfl
    | _ => rfl
theorem wI_enm (e : E) : wI Ψ gl (.enm e) η g QA = wE Ψ gl e η g fun x g => wO (seqOf x) fun ds => QA (enmD 0 ds) g := by
  unfold wI wE
  rw [evI]
  rcases evE Ψ gl e η g with _ | ⟨x, g1⟩
  · rfl
  · simp only [wM]
    cases seqOf x <;> rfl
/-! ### comprehensions -/
variable {t : Tg} {own : List Nat} {c : Eo} {e : E} {acc : List PyData}
theorem wL_nil : wL Ψ gl t own c e η [] acc g QA = QA acc g := rfl
theorem wL_cons (d : PyData) (ds : List PyData) : wL Ψ gl t own c e η (d :: ds) acc g QA = wO (flat t d) fun ps => wCd Ψ gl c (putE (wipeE η own) ps) g fun b g => wIf b (wE Ψ gl e (putE (wipeE η own) ps) g fun v g => wL Ψ gl t own c e η ds (acc ++ [v]) g QA) (wL Ψ gl t own c e η ds acc g QA) := by
  unfold wL wCd wE
  rw [comp]
  simp only [lcF]
  rcases flat t d with _ | ps
  · rfl
  · simp only [wO]
    rcases evC Ψ gl c (putE (wipeE η own) ps) g with _ | ⟨b, g1⟩
    · rfl
    · cases b
      · rfl
      · simp only [wM, wIf]
        rcases evE Ψ gl e (putE (wipeE η own) ps) g1 with _ | ⟨v, g2⟩ <;> rfl
end
end Rf

set_option maxHeartbeats 1000000
/-! The same of statements. -/
namespace Rf
open PySem PySem.W L2

def Ss.app : Ss → Ss → Ss
  | .nil, b => b
  | .cons s a, b => .cons s (a.app b)
abbrev SK := Fl → List Sl → Bag → Prop
def wR (r : R) (Q : SK) : Prop := match r with
  | some (fl, ρ, g) => Q fl ρ g
  | none => False
theorem wR_iff {r : R} {Q : SK} : wR r Q ↔ ∃ fl ρ g, r = some (fl, ρ, g) ∧ Q fl ρ g := by
  rcases r with _ | ⟨fl, ρ, g⟩
  · simp [wR]
  · constructor
    · exact fun h => ⟨fl, ρ, g, rfl, h⟩
    · rintro ⟨_, _, _, e, h⟩
      cases e
      exact h
theorem wR_mono {r : R} {Q T : SK} (h : wR r Q) (k : ∀ fl ρ g, Q fl ρ g → T fl ρ g) : wR r T := by
  rcases r with _ | ⟨fl, ρ, g⟩
  · exact h
  · exact k _ _ _ h
section
variable (Ψ : Fns) (gl : Nat → Option PyData)
def wSs (ss : Ss) (ρ : List Sl) (g : Bag) (Q : SK) : Prop := wR (evSs Ψ gl ss ρ g) Q
/-- the rest, not looked into -/
def wZ (ss : Ss) (ρ : List Sl) (g : Bag) (Q : SK) : Prop := wR (evSs Ψ gl ss ρ g) Q
def wT (t : Tg) (b : Ss) (ds : List PyData) (ρ : List Sl) (g : Bag) (Q : SK) : Prop := wR (turns t (evSs Ψ gl b) ds ρ g) Q
def wW (n : Nat) (c : E) (b : Ss) (ρ : List Sl) (g : Bag) (Q : SK) : Prop := wR (whilst (evT Ψ gl c) (evSs Ψ gl b) n ρ g) Q
end
/-- what follows a part -/
def thenQ (f : List Sl → Bag → Prop) (Q : SK) : SK := fun fl ρ g => match fl with
  | .nx => f ρ g
  | _ => Q fl ρ g
section
variable {Ψ : Fns} {gl : Nat → Option PyData} {ρ : List Sl} {g : Bag} {Q : SK}
theorem wZ_go {ss : Ss} (h : wSs Ψ gl ss ρ g Q) : wZ Ψ gl ss ρ g Q := h
theorem wZ_nil : wZ Ψ gl .nil ρ g Q = Q .nx ρ g := by unfold wZ; rw [evSs]; rfl
theorem wSs_nil : wSs Ψ gl .nil ρ g Q = Q .nx ρ g := by unfold wSs; rw [evSs]; rfl
theorem evSs_app : ∀ (a b : Ss) {ρ : List Sl} {g : Bag}, evSs Ψ gl (a.app b) ρ g = match evSs Ψ gl a ρ g with
    | some (.nx, ρ, g) => evSs Ψ gl b ρ g
    | r => r
  | .nil, b, ρ, g => by simp only [Ss.app, evSs]
  | .cons s a, b, ρ, g => by
    rw [Ss.app, evSs, evSs]
    generalize evS Ψ gl s ρ g = r
    rcases r with _ | ⟨fl, ρ1, g1⟩
    · rfl
    · cases fl with
      | nx => exact evSs_app a b
      | _ => rfl
theorem wSs_app {a b : Ss} (h : wSs Ψ gl a ρ g (thenQ (fun ρ g => wSs Ψ gl b ρ g Q) Q)) : wSs Ψ gl (a.app b) ρ g Q := by
  unfold wSs at *
  rw [evSs_app]
  generalize evSs Ψ gl a ρ g = r at h ⊢
  rcases r with _ | ⟨fl, ρ1, g1⟩
  · exact h
  · cases fl with
    | nx => exact h
    | _ => exact h
theorem ss_cons {s : S} {ss : Ss} (h : wR (evS Ψ gl s ρ g) (thenQ (fun ρ g => wSs Ψ gl ss ρ g Q) Q)) : wSs Ψ gl (.cons s ss) ρ g Q := by
  unfold wSs at *
  rw [evSs]
  generalize evS Ψ gl s ρ g = r at h ⊢
  rcases r with _ | ⟨fl, ρ1, g1⟩
  · exact h
  · cases fl with
    | nx => exact h
    | _ => exact h
theorem wX {e : E} {T : PyData → List Sl → Bag → Prop} (h : wE Ψ gl e (seeF e.vars 0 ρ) g fun d g => T d (settle e.vars d ρ) g) : ∃ d ρ' g', evX Ψ gl e ρ g = some (d, ρ', g') ∧ T d ρ' g' := by
  unfold wE at h
  obtain ⟨d, g', h1, h2⟩ := wM_iff.mp h
  refine ⟨d, _, g', ?_, h2⟩
  rw [evX, h1]
theorem ss_set {i : Nat} {e : E} {ss : Ss} (h : wE Ψ gl e (seeF e.vars 0 ρ) g fun d g => i < ρ.length ∧ wZ Ψ gl ss ((settle e.vars d ρ).set i (.sh d)) g Q) : wSs Ψ gl (.cons (.set i e) ss) ρ g Q := by
  refine ss_cons ?_
  obtain ⟨d, ρ', g', h1, h2⟩ := wX (T := fun d ρ' g => i < ρ.length ∧ wZ Ψ gl ss (ρ'.set i (.sh d)) g Q) h
  rw [evS, h1]
  simp only [h2.1, if_true]
  exact h2.2
theorem ss_own {i : Nat} {es : Es} {ss : Ss} (h : wA Ψ gl es (seeF es.vars 0 ρ) g fun ds g => ds.length ≤ lim ∧ i < ρ.length ∧ noLists ds = true ∧ wZ Ψ gl ss (ρ.set i (.ow ds)) g Q) : wSs Ψ gl (.cons (.own i es) ss) ρ g Q := by
  refine ss_cons ?_
  unfold wA at h
  obtain ⟨ds, g', h1, h2, h3, h4, h5⟩ := wM_iff.mp h
  rw [evS, evX, evE]
  simp only [E.vars, h1, h2, h3, h4, if_true]
  exact h5
theorem ss_ownl {i : Nat} {e : E} {ss : Ss} (h : wE Ψ gl e (seeF e.vars 0 ρ) g fun d g => wD d fun ds => i < ρ.length ∧ noLists ds = true ∧ wZ Ψ gl ss (ρ.set i (.ow ds)) g Q) : wSs Ψ gl (.cons (.ownl i e) ss) ρ g Q := by
  refine ss_cons ?_
  obtain ⟨d, ρ', g', h1, h2⟩ := wX (T := fun d _ g => wD d fun ds => i < ρ.length ∧ noLists ds = true ∧ wZ Ψ gl ss (ρ.set i (.ow ds)) g Q) h
  cases d with
  | list ds =>
    obtain ⟨h3, h4, h5⟩ := h2
    rw [evS, h1]
    simp only [h3, h4, if_true]
    exact h5
  | _ => exact h2.elim
theorem ss_tset {t : Tg} {e : E} {ss : Ss} (h : wE Ψ gl e (seeF e.vars 0 ρ) g fun d g => wO (flat t d) fun ps => wZ Ψ gl ss (putS (settle e.vars d ρ) ps) g Q) : wSs Ψ gl (.cons (.tset t e) ss) ρ g Q := by
  refine ss_cons ?_
  obtain ⟨d, ρ', g', h1, h2⟩ := wX (T := fun d ρ' g => wO (flat t d) fun ps => wZ Ψ gl ss (putS ρ' ps) g Q) h
  rw [evS, h1]
  simp only
  obtain ⟨ps, h3, h4⟩ := wO_iff.mp h2
  rw [h3]
  exact h4
theorem ss_par {i j : Nat} {a b : E} {ss : Ss} (h : wE Ψ gl a (seeF a.vars 0 ρ) g fun x g => wE Ψ gl b (seeF b.vars 0 (settle a.vars x ρ)) g fun y g => i < ρ.length ∧ j < ρ.length ∧ wZ Ψ gl ss (((settle b.vars y (settle a.vars x ρ)).set i (.sh x)).set j (.sh y)) g Q) : wSs Ψ gl (.cons (.par i j a b) ss) ρ g Q := by
  refine ss_cons ?_
  obtain ⟨x, ρ1, g1, h1, h2⟩ := wX (T := fun x ρ1 g => wE Ψ gl b (seeF b.vars 0 ρ1) g fun y g => i < ρ.length ∧ j < ρ.length ∧ wZ Ψ gl ss (((settle b.vars y ρ1).set i (.sh x)).set j (.sh y)) g Q) h
  obtain ⟨y, ρ2, g2, h3, h4⟩ := wX (T := fun y ρ2 g => i < ρ.length ∧ j < ρ.length ∧ wZ Ψ gl ss ((ρ2.set i (.sh x)).set j (.sh y)) g Q) h2
  rw [evS, h1]
  simp only [h3, h4.1, h4.2.1, and_self, if_true]
  exact h4.2.2
theorem ss_par3 {i j l : Nat} {a b c : E} {ss : Ss} (h : wE Ψ gl a (seeF a.vars 0 ρ) g fun x g => wE Ψ gl b (seeF b.vars 0 (settle a.vars x ρ)) g fun y g => wE Ψ gl c (seeF c.vars 0 (settle b.vars y (settle a.vars x ρ))) g fun z g => i < ρ.length ∧ j < ρ.length ∧ l < ρ.length ∧ wZ Ψ gl ss ((((settle c.vars z (settle b.vars y (settle a.vars x ρ))).set i (.sh x)).set j (.sh y)).set l (.sh z)) g Q) : wSs Ψ gl (.cons (.par3 i j l a b c) ss) ρ g Q := by
  refine ss_cons ?_
  obtain ⟨x, ρ1, g1, h1, h2⟩ := wX (T := fun x ρ1 g => wE Ψ gl b (seeF b.vars 0 ρ1) g fun y g => wE Ψ gl c (seeF c.vars 0 (settle b.vars y ρ1)) g fun z g => i < ρ.length ∧ j < ρ.length ∧ l < ρ.length ∧ wZ Ψ gl ss ((((settle c.vars z (settle b.vars y ρ1)).set i (.sh x)).set j (.sh y)).set l (.sh z)) g Q) h
  obtain ⟨y, ρ2, g2, h3, h4⟩ := wX (T := fun y ρ2 g => wE Ψ gl c (seeF c.vars 0 ρ2) g fun z g => i < ρ.length ∧ j < ρ.length ∧ l < ρ.length ∧ wZ Ψ gl ss ((((settle c.vars z ρ2).set i (.sh x)).set j (.sh y)).set l (.sh z)) g Q) h2
  obtain ⟨z, ρ3, g3, h5, h6, h7, h8, h9⟩ := wX (T := fun z ρ3 g => i < ρ.length ∧ j < ρ.length ∧ l < ρ.length ∧ wZ Ψ gl ss (((ρ3.set i (.sh x)).set j (.sh y)).set l (.sh z)) g Q) h4
  rw [evS, h1]
  simp only [h3, h5, h6, h7, h8, and_self, if_true]
  exact h9
def wSh (s : Option Sl) (Q : Int → Prop) : Prop := match s with
  | some (.sh (.int m)) => Q m
  | _ => False
theorem wSh_some (m : Int) (Q : Int → Prop) : wSh (some (.sh (.int m))) Q = Q m := rfl
theorem ss_aug {i : Nat} {e : E} {ss : Ss} (h : wSh ρ[i]? fun m => wE Ψ gl e (seeF e.vars 0 ρ) g fun d g => wN d fun k => wZ Ψ gl ss ((settle e.vars d ρ).set i (.sh (.int (m + k)))) g Q) : wSs Ψ gl (.cons (.aug i e) ss) ρ g Q := by
  refine ss_cons ?_
  rw [evS]
  generalize ρ[i]? = s at h ⊢
  rcases s with _ | _ | d | _
  · exact h.elim
  · exact h.elim
  · cases d with
    | int m =>
      obtain ⟨d, ρ', g', h1, h2⟩ := wX (T := fun d ρ' g => wN d fun k => wZ Ψ gl ss (ρ'.set i (.sh (.int (m + k)))) g Q) h
      cases d with
      | int k =>
        simp only [h1]
        exact h2
      | _ => exact h2.elim
    | _ => exact h.elim
  · exact h.elim
def wOw (s : Option Sl) (Q : List PyData → Prop) : Prop := match s with
  | some (.ow ds) => Q ds
  | _ => False
theorem wOw_some (ds : List PyData) (Q : List PyData → Prop) : wOw (some (.ow ds)) Q = Q ds := rfl
theorem wOw_iff {s : Option Sl} {Q : List PyData → Prop} : wOw s Q ↔ ∃ ds, s = some (.ow ds) ∧ Q ds := by
  rcases s with _ | _ | _ | ds
  · simp [wOw]
  · simp [wOw]
  · simp [wOw]
  · constructor
    · exact fun h => ⟨ds, rfl, h⟩
    · rintro ⟨_, e, h⟩
      cases e
      exact h
theorem ss_app {i : Nat} {e : E} {ss : Ss} (h : wE Ψ gl e (seeF e.vars 0 ρ) g fun d g => wOw ((settle e.vars d ρ)[i]?) fun ds => ds.length < lim ∧ wZ Ψ gl ss ((settle e.vars d ρ).set i (.ow (ds ++ [d]))) g Q) : wSs Ψ gl (.cons (.app i e) ss) ρ g Q := by
  refine ss_cons ?_
  obtain ⟨d, ρ', g', h1, h2⟩ := wX (T := fun d ρ' g => wOw (ρ'[i]?) fun ds => ds.length < lim ∧ wZ Ψ gl ss (ρ'.set i (.ow (ds ++ [d]))) g Q) h
  obtain ⟨ds, h3, h4, h5⟩ := wOw_iff.mp h2
  rw [evS, h1]
  simp only [h3, h4, if_true]
  exact h5
theorem ss_ins0 {i : Nat} {e : E} {ss : Ss} (h : wE Ψ gl e (seeF e.vars 0 ρ) g fun d g => wOw ((settle e.vars d ρ)[i]?) fun ds => ds.length < lim ∧ wZ Ψ gl ss ((settle e.vars d ρ).set i (.ow (d :: ds))) g Q) : wSs Ψ gl (.cons (.ins0 i e) ss) ρ g Q := by
  refine ss_cons ?_
  obtain ⟨d, ρ', g', h1, h2⟩ := wX (T := fun d ρ' g => wOw (ρ'[i]?) fun ds => ds.length < lim ∧ wZ Ψ gl ss (ρ'.set i (.ow (d :: ds))) g Q) h
  obtain ⟨ds, h3, h4, h5⟩ := wOw_iff.mp h2
  rw [evS, h1]
  simp only [h3, h4, if_true]
  exact h5
theorem ss_ret {e : E} {ss : Ss} (h : wE Ψ gl e (seeF e.vars 0 ρ) g fun d g => Q (.rt d) (settle e.vars d ρ) g) : wSs Ψ gl (.cons (.ret e) ss) ρ g Q := by
  refine ss_cons ?_
  obtain ⟨d, ρ', g', h1, h2⟩ := wX (T := fun d ρ' g => Q (.rt d) ρ' g) h
  rw [evS, h1]
  exact h2
theorem wTst {e : E} {T : Bool → Bag → Prop} (h : wE Ψ gl e (seeF e.vars 0 ρ) g fun d g => wB d fun b => T b g) : ∃ b g', evT Ψ gl e ρ g = some (b, g') ∧ T b g' := by
  unfold wE at h
  obtain ⟨d, g', h1, h2⟩ := wM_iff.mp h
  cases d with
  | bool b =>
    refine ⟨b, g', ?_, h2⟩
    rw [evT, h1]
  | _ => exact h2.elim
theorem ss_if {c : E} {a b ss : Ss} (h : wE Ψ gl c (seeF c.vars 0 ρ) g fun d g => wB d fun t => wIf t (wZ Ψ gl (a.app ss) ρ g Q) (wZ Ψ gl (b.app ss) ρ g Q)) : wSs Ψ gl (.cons (.ifs c a b) ss) ρ g Q := by
  obtain ⟨t, g', h1, h2⟩ := wTst (T := fun t g => wIf t (wZ Ψ gl (a.app ss) ρ g Q) (wZ Ψ gl (b.app ss) ρ g Q)) h
  unfold wSs
  rw [evSs, evS, h1]
  unfold wZ at h2
  simp only [evSs_app] at h2
  cases t with
  | true =>
    simp only [wIf] at h2 ⊢
    generalize evSs Ψ gl a ρ g' = r at h2 ⊢
    rcases r with _ | ⟨fl, ρ1, g1⟩
    · exact h2
    · cases fl with
      | nx => exact h2
      | _ => exact h2
  | false =>
    simp only [wIf] at h2 ⊢
    generalize evSs Ψ gl b ρ g' = r at h2 ⊢
    rcases r with _ | ⟨fl, ρ1, g1⟩
    · exact h2
    · cases fl with
      | nx => exact h2
      | _ => exact h2
/-- both ways meet -/
theorem ss_cut {c : E} {a b ss : Ss} (R : List Sl → Bag → Prop) (h : wE Ψ gl c (seeF c.vars 0 ρ) g fun d g => wB d fun t => wIf t (wZ Ψ gl a ρ g (thenQ R Q)) (wZ Ψ gl b ρ g (thenQ R Q))) (k : ∀ ρ g, R ρ g → wSs Ψ gl ss ρ g Q) : wSs Ψ gl (.cons (.ifs c a b) ss) ρ g Q := by
  obtain ⟨t, g', h1, h2⟩ := wTst (T := fun t g => wIf t (wZ Ψ gl a ρ g (thenQ R Q)) (wZ Ψ gl b ρ g (thenQ R Q))) h
  refine ss_cons ?_
  rw [evS, h1]
  cases t with
  | true =>
    refine wR_mono (h2 : wR _ _) fun fl ρ g q => ?_
    cases fl with
    | nx => exact k ρ g q
    | _ => exact q
  | false =>
    refine wR_mono (h2 : wR _ _) fun fl ρ g q => ?_
    cases fl with
    | nx => exact k ρ g q
    | _ => exact q
theorem ss_for {t : Tg} {it : It} {b ss : Ss} (h : wI Ψ gl it (seeF it.vars 0 ρ) g fun ds g => wT Ψ gl t b ds (frzF it.vars 0 ρ) g (thenQ (fun ρ g => wZ Ψ gl ss ρ g Q) Q)) : wSs Ψ gl (.cons (.for_ t it b) ss) ρ g Q := by
  refine ss_cons ?_
  unfold wI at h
  obtain ⟨ds, g', h1, h2⟩ := wM_iff.mp h
  rw [evS, h1]
  exact h2
theorem ss_whl {n : Nat} {c : E} {b ss : Ss} (h : wW Ψ gl n c b ρ g (thenQ (fun ρ g => wZ Ψ gl ss ρ g Q) Q)) : wSs Ψ gl (.cons (.whl n c b) ss) ρ g Q := by
  refine ss_cons ?_
  rw [evS]
  exact h
theorem ss_brk {ss : Ss} (h : Q .br ρ g) : wSs Ψ gl (.cons .brk ss) ρ g Q := by
  refine ss_cons ?_
  rw [evS]
  exact h
theorem ss_cnt {ss : Ss} (h : Q .ct ρ g) : wSs Ψ gl (.cons .cnt ss) ρ g Q := by
  refine ss_cons ?_
  rw [evS]
  exact h
theorem ss_pas {ss : Ss} (h : wZ Ψ gl ss ρ g Q) : wSs Ψ gl (.cons .pas ss) ρ g Q := by
  refine ss_cons ?_
  rw [evS]
  exact h
/-! ### turns -/
theorem wT_nil {t : Tg} {b : Ss} : wT Ψ gl t b [] ρ g Q = Q .nx ρ g := rfl
/-- behind one turn -/
def turnQ (Ψ : Fns) (gl : Nat → Option PyData) (t : Tg) (b : Ss) (ds : List PyData) (Q : SK) : SK := fun fl ρ g => match fl with
  | .nx => wT Ψ gl t b ds ρ g Q
  | .ct => wT Ψ gl t b ds ρ g Q
  | .br => Q .nx ρ g
  | .rt d => Q (.rt d) ρ g
theorem wT_cons {t : Tg} {b : Ss} {d : PyData} {ds : List PyData} (h : wO (flat t d) fun ps => wSs Ψ gl b (putS ρ ps) g (turnQ Ψ gl t b ds Q)) : wT Ψ gl t b (d :: ds) ρ g Q := by
  obtain ⟨ps, h1, h2⟩ := wO_iff.mp h
  unfold wT
  rw [turns, h1]
  unfold wSs at h2
  simp only
  generalize evSs Ψ gl b (putS ρ ps) g = r at h2 ⊢
  rcases r with _ | ⟨fl, ρ1, g1⟩
  · exact h2
  · cases fl with
    | nx => exact h2
    | ct => exact h2
    | br => exact h2
    | rt d => exact h2
/-- by an invariant over what is done -/
theorem wT_inv0 {α : Type} {t : Tg} {b : Ss} {en : α → PyData} (I : List α → List Sl → Bag → Prop) (w : List α)
    (st : ∀ done x rest ρ g, w = done ++ x :: rest → I done ρ g → wO (flat t (en x)) fun ps => wSs Ψ gl b (putS ρ ps) g fun fl ρ g => match fl with | .nx => I (done ++ [x]) ρ g | .ct => I (done ++ [x]) ρ g | .br => Q .nx ρ g | .rt d => Q (.rt d) ρ g)
    (k : ∀ ρ g, I w ρ g → Q .nx ρ g) : ∀ (l done : List α) {ρ : List Sl} {g : Bag}, w = done ++ l → I done ρ g → wT Ψ gl t b (l.map en) ρ g Q
  | [], done, ρ, g, e, h => k ρ g (by rw [e, List.append_nil]; exact h)
  | x :: l, done, ρ, g, e, h => by
    refine wT_cons ?_
    obtain ⟨ps, h1, h2⟩ := wO_iff.mp (st done x l ρ g e h)
    rw [h1]
    refine wR_mono h2 fun fl ρ g q => ?_
    have ih : I (done ++ [x]) ρ g → wT Ψ gl t b (l.map en) ρ g Q := fun q => wT_inv0 I w st k l (done ++ [x]) (by rw [e, List.append_assoc]; rfl) q
    cases fl with
    | nx => exact ih q
    | ct => exact ih q
    | br => exact q
    | rt d => exact q
theorem wT_inv {α : Type} {t : Tg} {b : Ss} {en : α → PyData} (I : List α → List Sl → Bag → Prop) {w : List α} {ρ : List Sl} {g : Bag} (h : I [] ρ g)
    (st : ∀ done x rest ρ g, w = done ++ x :: rest → I done ρ g → wO (flat t (en x)) fun ps => wSs Ψ gl b (putS ρ ps) g fun fl ρ g => match fl with | .nx => I (done ++ [x]) ρ g | .ct => I (done ++ [x]) ρ g | .br => Q .nx ρ g | .rt d => Q (.rt d) ρ g)
    (k : ∀ ρ g, I w ρ g → Q .nx ρ g) : wT Ψ gl t b (w.map en) ρ g Q := wT_inv0 I w st k w [] rfl h
theorem wT_invD {t : Tg} {b : Ss} (I : List PyData → List Sl → Bag → Prop) {w : List PyData} {ρ : List Sl} {g : Bag} (h : I [] ρ g)
    (st : ∀ done x rest ρ g, w = done ++ x :: rest → I done ρ g → wO (flat t x) fun ps => wSs Ψ gl b (putS ρ ps) g fun fl ρ g => match fl with | .nx => I (done ++ [x]) ρ g | .ct => I (done ++ [x]) ρ g | .br => Q .nx ρ g | .rt d => Q (.rt d) ρ g)
    (k : ∀ ρ g, I w ρ g → Q .nx ρ g) : wT Ψ gl t b w ρ g Q := by
  have := wT_inv (Ψ := Ψ) (gl := gl) (Q := Q) (t := t) (b := b) (en := id) I (w := w) (ρ := ρ) (g := g) h st k
  rwa [List.map_id] at this
/-- by an invariant that does not tell what is done -/
theorem wT_for {t : Tg} {b : Ss} (I : List Sl → Bag → Prop) : ∀ {ds : List PyData} {ρ : List Sl} {g : Bag}, I ρ g →
    (∀ d ∈ ds, ∀ ρ g, I ρ g → wO (flat t d) fun ps => wSs Ψ gl b (putS ρ ps) g fun fl ρ g => match fl with | .nx => I ρ g | .ct => I ρ g | .br => Q .nx ρ g | .rt d => Q (.rt d) ρ g) →
    (∀ ρ g, I ρ g → Q .nx ρ g) → wT Ψ gl t b ds ρ g Q
  | [], ρ, g, h, _, k => k ρ g h
  | d :: ds, ρ, g, h, st, k => by
    refine wT_cons ?_
    obtain ⟨ps, h1, h2⟩ := wO_iff.mp (st d List.mem_cons_self ρ g h)
    rw [h1]
    refine wR_mono h2 fun fl ρ g q => ?_
    have ih : I ρ g → wT Ψ gl t b ds ρ g Q := fun q => wT_for I q (fun d hd => st d (List.mem_cons_of_mem _ hd)) k
    cases fl with
    | nx => exact ih q
    | ct => exact ih q
    | br => exact q
    | rt d => exact q
end
end Rf

set_option maxHeartbeats 1000000
/-! Programs by their names; calls; comprehensions. -/
namespace Rf
open PySem PySem.W L2

/-- a program with its names' places -/
structure Pc extends Pr where
  c : Nat → Nat
  gc : Nat → Nat
abbrev Pc.F (P : Pc) (cells : List Int) (n : Nat) : Fns := Φ P.toPr cells n
abbrev Pc.gl (P : Pc) : Nat → Option PyData := P.toPr.gl
/-- a law's end -/
def Won : SK := fun fl _ _ => fl = .rt (.bool true)
/-- behind a def's body -/
def retQ (Q : PyData → Bag → Prop) : SK := fun fl _ g => match fl with
  | .rt d => Q d g
  | .nx => Q .none g
  | _ => False
theorem outD_iff {r : R} {Q : PyData → Bag → Prop} (h : wR r (retQ Q)) : wM (outD r) Q := by
  rcases r with _ | ⟨fl, ρ, g⟩
  · exact h
  · cases fl with
    | nx => exact h
    | rt d => exact h
    | br => exact h.elim
    | ct => exact h.elim
section
variable {P : Pc} {cells : List Int} {n : Nat} {g : Bag} {Q : PyData → Bag → Prop}
theorem Has.w {s : Nat} {srcs : List Src} {np nn : Nat} {body : Ss} (h : Has P.toPr s srcs np nn body) {ds es : List PyData} (hn : 1 ≤ n) (hl : srcs.length = np)
    (k : ∀ m, n = m + 1 → wSs (P.F cells m) P.gl body ((arr srcs ds es).map .sh ++ List.replicate (nn - np) .un) g (retQ Q)) : wC (P.F cells n) s ds es g Q := by
  obtain ⟨m, rfl⟩ : ∃ m, n = m + 1 := ⟨n - 1, by omega⟩
  unfold wC
  show wM (Φ P.toPr cells (m + 1) s ds es g) Q
  rw [h.call hl]
  exact outD_iff (k m rfl)
/-- a call whose outcome is known -/
theorem wC_of {Ψ : Fns} {s : Nat} {ds es : List PyData} {d : PyData} {g' : Bag} (h : Ψ s ds es g = some (d, g')) (q : Q d g') : wC Ψ s ds es g Q := by
  unfold wC
  rw [h]
  exact q
theorem wC_mono {Ψ : Fns} {s : Nat} {ds es : List PyData} {T : PyData → Bag → Prop} (h : wC Ψ s ds es g T) (k : ∀ d g, T d g → Q d g) : wC Ψ s ds es g Q := wM_mono h k
theorem wE_mono {Ψ : Fns} {gl : Nat → Option PyData} {e : E} {η : Env} {T : PyData → Bag → Prop} (h : wE Ψ gl e η g T) (k : ∀ d g, T d g → Q d g) : wE Ψ gl e η g Q := wM_mono h k
theorem wSs_mono {Ψ : Fns} {gl : Nat → Option PyData} {ss : Ss} {ρ : List Sl} {T U : SK} (h : wSs Ψ gl ss ρ g T) (k : ∀ fl ρ g, T fl ρ g → U fl ρ g) : wSs Ψ gl ss ρ g U := wR_mono h k
end
theorem wO_ite {α : Type} {c : Prop} [Decidable c] (a : α) (Q : α → Prop) : wO (if c then some a else none) Q = (c ∧ Q a) := by
  by_cases h : c
  · rw [if_pos h]; simp [h, wO]
  · rw [if_neg h]; simp [h, wO]
theorem bn_ai (a b : Int) : binD .add (.int a) (.int b) = some (.int (a + b)) := rfl
theorem bn_as (a b : Str) : binD .add (.str a) (.str b) = if a.length + b.length ≤ lim then some (.str (a ++ b)) else none := rfl
theorem bn_at (a b : List PyData) : binD .add (.tuple a) (.tuple b) = if a.length + b.length ≤ lim then some (.tuple (a ++ b)) else none := rfl
theorem bn_al (a b : List PyData) : binD .add (.list a) (.list b) = if a.length + b.length ≤ lim then some (.list (a ++ b)) else none := rfl
theorem bn_si (a b : Int) : binD .sub (.int a) (.int b) = some (.int (a - b)) := rfl
theorem bn_mi (a b : Int) : binD .mul (.int a) (.int b) = if (-(2 ^ 64) < a ∧ a < 2 ^ 64) ∨ (-(2 ^ 64) < b ∧ b < 2 ^ 64) then some (.int (a * b)) else none := rfl
theorem bn_mt (a : List PyData) (k : Int) : binD .mul (.tuple a) (.int k) = if a ≠ [] ∧ 1 ≤ k ∧ k ≤ 1000 ∧ a.length ≤ 1000 then some (.tuple (List.replicate k.toNat a).flatten) else none := rfl
theorem bn_oi (a b : Int) : binD .mod (.int a) (.int b) = if 0 < b then some (.int (a % b)) else none := rfl
theorem bn_di (a b : Int) : binD .fdiv (.int a) (.int b) = if 0 < b ∧ b.natAbs.log2 < 9000 then some (.int (a / b)) else none := rfl
theorem bn_pi (a b : Int) : binD .pow (.int a) (.int b) = if 0 ≤ b ∧ b ≤ 1000000 ∧ a.natAbs < 2 ^ 64 then some (.int (a ^ b.toNat)) else none := rfl
theorem ix_l (ds : List PyData) (i : Int) : ixD (.list ds) (.int i) = L2.atI ds i := rfl
theorem ix_t (ds : List PyData) (i : Int) : ixD (.tuple ds) (.int i) = L2.atI ds i := rfl
theorem sl_l (ds : List PyData) (lo hi : Option Int) : slD (.list ds) lo hi = some (.list (cut ds lo hi)) := rfl
theorem sl_t (ds : List PyData) (lo hi : Option Int) : slD (.tuple ds) lo hi = some (.tuple (cut ds lo hi)) := rfl
theorem sl_s (s : Str) (lo hi : Option Int) : slD (.str s) lo hi = if s.length ≤ lim then some (.str (L2.cutS s lo hi)) else none := rfl
theorem it_l (ds : List PyData) : itemsOf (.list ds) = some ds := rfl
theorem it_t (ds : List PyData) : itemsOf (.tuple ds) = some ds := rfl
theorem it_s (s : Str) : itemsOf (.str s) = some (s.cps.toList.map fun c => .str ⟨#[c]⟩) := rfl
def Ty.ofT : Ty → Bool
  | .tuple => true
  | _ => false
def Ty.ofL : Ty → Bool
  | .list => true
  | _ => false
def Ty.ofI : Ty → Bool
  | .int => true
  | _ => false
def Ty.ofB : Ty → Bool
  | .int => true
  | .bool => true
  | _ => false
def Ty.ofS : Ty → Bool
  | .str => true
  | _ => false
theorem ty_t (t : Ty) (ds : List PyData) : tyIs t (.tuple ds) = t.ofT := by cases t <;> rfl
theorem ty_l (t : Ty) (ds : List PyData) : tyIs t (.list ds) = t.ofL := by cases t <;> rfl
theorem ty_i (t : Ty) (i : Int) : tyIs t (.int i) = t.ofI := by cases t <;> rfl
theorem ty_b (t : Ty) (b : Bool) : tyIs t (.bool b) = t.ofB := by cases t <;> rfl
theorem ty_s (t : Ty) (b : Str) : tyIs t (.str b) = t.ofS := by cases t <;> rfl
theorem ty_n (t : Ty) : tyIs t .none = false := by cases t <;> rfl
theorem tk_t (ds : List PyData) : tyOk (.tuple ds) = true := rfl
theorem tk_l (ds : List PyData) : tyOk (.list ds) = true := rfl
theorem tk_i (i : Int) : tyOk (.int i) = true := rfl
theorem tk_b (b : Bool) : tyOk (.bool b) = true := rfl
theorem tk_s (b : Str) : tyOk (.str b) = true := rfl
theorem tk_n : tyOk .none = true := rfl
theorem bi_ll (ds : List PyData) : biD .len (.list ds) = some (.int ds.length) := rfl
theorem bi_lt (ds : List PyData) : biD .len (.tuple ds) = some (.int ds.length) := rfl
theorem bi_tl (ds : List PyData) : biD .tuple (.list ds) = some (.tuple ds) := rfl
theorem bi_tt (ds : List PyData) : biD .tuple (.tuple ds) = some (.tuple ds) := rfl
theorem bi_l1 (ds : List PyData) : biD .list (.list ds) = some (.list ds) := rfl
theorem bi_l2 (ds : List PyData) : biD .list (.tuple ds) = some (.list ds) := rfl
theorem bi_ii (i : Int) : biD .int (.int i) = some (.int i) := rfl
theorem ats_last {α : Type} (l : List α) : L2.atI l (-1) = l.getLast? := by
  rcases List.eq_nil_or_concat l with rfl | ⟨l', x, rfl⟩
  · rfl
  · rw [List.concat_eq_append, atsL]
    simp
theorem getLast_map {α β : Type} (f : α → β) (l : List α) (a : α) : (List.map f (l ++ [a])).getLast? = some (f a) := by simp
theorem wO_ats {ds : List PyData} {i : Nat} {Q : PyData → Prop} (h : i < ds.length) (q : ∀ x ∈ ds, Q x) : wO (L2.atI ds (i : Int)) Q := by
  obtain ⟨x, h1, h2⟩ := ats_nat (l := ds) (i := (i : Int)) (by omega) (by omega)
  rw [h2]
  exact q x h1
theorem range_split {k : Nat} {done : List Nat} {x : Nat} {rest : List Nat} (h : List.range k = done ++ x :: rest) : x = done.length ∧ x < k := by
  have h1 : (List.range k)[done.length]? = some x := by rw [h]; simp
  rw [List.getElem?_eq_some_iff] at h1
  obtain ⟨h2, h3⟩ := h1
  rw [List.length_range] at h2
  rw [List.getElem_range] at h3
  omega
theorem rangeD_map (k : Nat) : rangeD 0 k = (List.range k).map fun i : Nat => PyData.int (i : Int) := by
  unfold rangeD
  refine List.map_congr_left fun i _ => ?_
  rw [Int.zero_add]
theorem rangeD_len (lo : Int) (n : Nat) : (rangeD lo n).length = n := by simp [rangeD]
/-! ### comprehensions -/
inductive All2 {α β : Type} (T : α → β → Prop) : List α → List β → Prop
  | nil : All2 T [] []
  | cons {a : α} {b : β} {l : List α} {k : List β} : T a b → All2 T l k → All2 T (a :: l) (b :: k)
theorem All2.length {α β : Type} {T : α → β → Prop} : ∀ {l : List α} {k : List β}, All2 T l k → l.length = k.length
  | _, _, .nil => rfl
  | _, _, .cons _ t => by rw [List.length_cons, List.length_cons, t.length]
theorem All2.mem {α β : Type} {T : α → β → Prop} : ∀ {l : List α} {k : List β}, All2 T l k → ∀ b ∈ k, ∃ a ∈ l, T a b
  | _, _, .nil, b, h => by cases h
  | _, _, .cons h t, b, q => by
    cases q with
    | head => exact ⟨_, List.mem_cons_self, h⟩
    | tail _ q =>
      obtain ⟨a, h1, h2⟩ := t.mem b q
      exact ⟨a, List.mem_cons_of_mem _ h1, h2⟩
section
variable {Ψ : Fns} {gl : Nat → Option PyData} {η : Env} {t : Tg} {own : List Nat} {c : Eo} {e : E} {QA : List PyData → Bag → Prop}
theorem wL_draw {α : Type} {en : α → PyData} {T : α → Prop} : ∀ {ds acc : List PyData} {g : Bag}, (∀ d ∈ ds, ∀ g, wO (flat t d) fun ps => wE Ψ gl e (putE (wipeE η own) ps) g fun v _ => ∃ x, v = en x ∧ T x) →
    (∀ (xs : List α) (g : Bag), xs.length = ds.length → (∀ x ∈ xs, T x) → QA (acc ++ xs.map en) g) → wL Ψ gl t own .no e η ds acc g QA
  | [], acc, g, _, k => by
    rw [wL_nil]
    have := k [] g rfl (fun x hx => by cases hx)
    simpa using this
  | d :: ds, acc, g, h, k => by
    rw [wL_cons]
    obtain ⟨ps, h1, h2⟩ := wO_iff.mp (h d List.mem_cons_self g)
    rw [h1, wO_some, wCd_no, wIf_t]
    refine wE_mono h2 ?_
    rintro v g' ⟨x, rfl, hx⟩
    refine wL_draw (fun d hd => h d (List.mem_cons_of_mem _ hd)) fun xs g'' hl hxs => ?_
    have := k (x :: xs) g'' (by rw [List.length_cons, hl, List.length_cons]) (fun y hy => by
      cases hy with
      | head => exact hx
      | tail _ hy => exact hxs y hy)
    rw [List.append_assoc]
    exact this
/-- each element by its own item -/
theorem wL_rel {α β : Type} {en : α → PyData} {en2 : β → PyData} {T : α → β → Prop} : ∀ {l : List α} {acc : List PyData} {g : Bag}, (∀ x ∈ l, ∀ g, wO (flat t (en x)) fun ps => wE Ψ gl e (putE (wipeE η own) ps) g fun v _ => ∃ y, v = en2 y ∧ T x y) →
    (∀ (ys : List β) (g : Bag), All2 T l ys → QA (acc ++ ys.map en2) g) → wL Ψ gl t own .no e η (l.map en) acc g QA
  | [], acc, g, _, k => by
    rw [List.map_nil, wL_nil]
    have := k [] g .nil
    simpa using this
  | d :: ds, acc, g, h, k => by
    rw [List.map_cons, wL_cons]
    obtain ⟨ps, h1, h2⟩ := wO_iff.mp (h d List.mem_cons_self g)
    rw [h1, wO_some, wCd_no, wIf_t]
    refine wE_mono h2 ?_
    rintro v g' ⟨x, rfl, hx⟩
    refine wL_rel (fun d hd => h d (List.mem_cons_of_mem _ hd)) fun xs g'' hxs => ?_
    have := k (x :: xs) g'' (.cons hx hxs)
    rw [List.append_assoc]
    exact this
/-- the same where nothing is drawn -/
theorem wL_relp {α β : Type} {en : α → PyData} {en2 : β → PyData} {T : α → β → Prop} : ∀ {l : List α} {acc : List PyData} {g : Bag}, (∀ x ∈ l, wO (flat t (en x)) fun ps => wE Ψ gl e (putE (wipeE η own) ps) g fun v g' => g' = g ∧ ∃ y, v = en2 y ∧ T x y) →
    (∀ (ys : List β), All2 T l ys → QA (acc ++ ys.map en2) g) → wL Ψ gl t own .no e η (l.map en) acc g QA
  | [], acc, g, _, k => by
    rw [List.map_nil, wL_nil]
    have := k [] .nil
    simpa using this
  | d :: ds, acc, g, h, k => by
    rw [List.map_cons, wL_cons]
    obtain ⟨ps, h1, h2⟩ := wO_iff.mp (h d List.mem_cons_self)
    rw [h1, wO_some, wCd_no, wIf_t]
    refine wE_mono h2 ?_
    rintro v g' ⟨rfl, x, rfl, hx⟩
    refine wL_relp (fun d hd => h d (List.mem_cons_of_mem _ hd)) fun xs hxs => ?_
    have := k (x :: xs) (.cons hx hxs)
    rw [List.append_assoc]
    exact this
theorem wL_pure {α : Type} {en : α → PyData} {p : α → Bool} {f : α → PyData} : ∀ {l : List α} {acc : List PyData} {g : Bag}, (∀ x ∈ l, ∀ g, wO (flat t (en x)) fun ps => wCd Ψ gl c (putE (wipeE η own) ps) g fun b g' => b = p x ∧ g' = g ∧ (p x = true → wE Ψ gl e (putE (wipeE η own) ps) g fun v g' => v = f x ∧ g' = g)) →
    QA (acc ++ (l.filter p).map f) g → wL Ψ gl t own c e η (l.map en) acc g QA
  | [], acc, g, _, k => by
    rw [List.map_nil, wL_nil]
    simpa using k
  | d :: ds, acc, g, h, k => by
    rw [List.map_cons, wL_cons]
    obtain ⟨ps, h1, h2⟩ := wO_iff.mp (h d List.mem_cons_self g)
    rw [h1, wO_some]
    refine wM_mono h2 ?_
    rintro b g' ⟨rfl, rfl, h3⟩
    cases q : p d with
    | true =>
      rw [wIf_t]
      refine wE_mono (h3 q) ?_
      rintro v g' ⟨rfl, rfl⟩
      refine wL_pure (p := p) (f := f) (fun d hd => h d (List.mem_cons_of_mem _ hd)) ?_
      rw [List.filter_cons, if_pos q, List.map_cons] at k
      rw [List.append_assoc]
      exact k
    | false =>
      rw [wIf_f]
      refine wL_pure (p := p) (f := f) (fun d hd => h d (List.mem_cons_of_mem _ hd)) ?_
      rw [List.filter_cons, if_neg (by rw [q]; exact Bool.false_ne_true)] at k
      exact k
theorem wL_map {α : Type} {en : α → PyData} {f : α → PyData} {l : List α} {acc : List PyData} {g : Bag} (h : ∀ x ∈ l, ∀ g, wO (flat t (en x)) fun ps => wE Ψ gl e (putE (wipeE η own) ps) g fun v g' => v = f x ∧ g' = g) (k : QA (acc ++ l.map f) g) : wL Ψ gl t own .no e η (l.map en) acc g QA := by
  refine wL_pure (p := fun _ => true) (f := f) (fun x hx g => ?_) (by rw [List.filter_eq_self.mpr (fun _ _ => rfl)]; exact k)
  obtain ⟨ps, h1, h2⟩ := wO_iff.mp (h x hx g)
  rw [h1, wO_some, wCd_no]
  exact ⟨rfl, rfl, fun _ => h2⟩
end
end Rf

set_option maxHeartbeats 400000
/-! Draws, ordinals, by name. -/
namespace Rf
open PySem PySem.W L2 PyProof.Rows
local macro_rules | `(tactic| k_ne) => `(tactic| simp only [wZ_nil, wE_var, wE_con, wE_glo, wE_tup, wE_lst, wE_bin, wE_cmp, wE_chn, wE_neg, wE_and, wE_or, wE_not, wE_ite, wE_call, wE_bi, wE_isi, wE_ix, wE_sl, wE_lc, wA_nil, wA_cons, wA_star, wP_no, wP_so, wCd_no, wCd_so, wI_seq, wI_rng, wI_rng2, wI_enm, wE_rv, wE_jn, wSh_some, wD_list, wO_some, wB_bool, wN_int, wQ_list, wQ_tuple, wOw_some, wIf_t, wIf_f, seeF, see_slot, frz_slot, slot_some, slot_none, Rf.settle, frzF, putS, putE, wipeE, flat, flats, E.vars, Es.vars, Eo.vars, It.vars, wO_ite, bn_ai, bn_as, bn_at, bn_al, bn_si, bn_mi, bn_mt, bn_oi, bn_di, bn_pi, ix_l, ix_t, sl_l, sl_t, sl_s, it_l, it_t, it_s, ty_t, ty_l, ty_i, ty_b, ty_s, ty_n, tk_t, tk_l, tk_i, tk_b, tk_s, tk_n, Ty.ofT, Ty.ofL, Ty.ofI, Ty.ofB, Ty.ofS, bi_ll, bi_lt, bi_tl, bi_tt, bi_l1, bi_l2, bi_ii, rangeD_len, Int.toNat_natCast, noList, noLists, Ss.app, thenQ, retQ, turnQ, ats0, ats1, ci_eq, ci_ne, ci_lt, ci_le, ci_gt, ci_ge, List.map_cons, List.map_nil, List.cons_append, List.nil_append, List.append_nil, List.length_cons, List.length_nil, List.foldl_cons, List.foldl_nil, List.set_cons_succ, List.set_cons_zero, List.getElem?_cons_succ, List.getElem?_cons_zero, List.any_cons, List.any_nil, List.mem_cons, List.not_mem_nil, Option.map_some, Option.map_none, Bool.or_false, Bool.or_true, Bool.false_or, Bool.true_or, Bool.and_self, Bool.and_true, Bool.true_and, Bool.and_false, Bool.false_and, Bool.not_true, Bool.not_false, Bool.false_eq_true, Nat.reduceEqDiff, Nat.reduceAdd, Nat.reduceLT, Nat.reduceLeDiff, Nat.reduceSub, Nat.zero_add, List.replicate, or_false, or_true, false_or, true_or, if_true, if_false, ite_self, true_and, and_true, decide_true, decide_false, List.length_replicate, lim, Int.cast_ofNat_Int, arr, List.getD_cons_zero, List.getD_cons_succ, O.nls, rows_nl, List.isEmpty_nil, List.isEmpty_cons, List.length_map, Int.reduceNeg, Int.reduceLE, Int.reduceLT, Int.reduceToNat, Int.reduceAdd, Int.reduceSub, Int.reducePow, Int.reduceMul, and_self, Int.reduceEq, Int.natCast_zero, Int.natCast_one])
local macro_rules | `(tactic| wp_walk using $ts,*) => `(tactic| simp only [wZ_nil, wE_var, wE_con, wE_glo, wE_tup, wE_lst, wE_bin, wE_cmp, wE_chn, wE_neg, wE_and, wE_or, wE_not, wE_ite, wE_call, wE_bi, wE_isi, wE_ix, wE_sl, wE_lc, wA_nil, wA_cons, wA_star, wP_no, wP_so, wCd_no, wCd_so, wI_seq, wI_rng, wI_rng2, wI_enm, wE_rv, wE_jn, wSh_some, wD_list, wO_some, wB_bool, wN_int, wQ_list, wQ_tuple, wOw_some, wIf_t, wIf_f, seeF, see_slot, frz_slot, slot_some, slot_none, Rf.settle, frzF, putS, putE, wipeE, flat, flats, E.vars, Es.vars, Eo.vars, It.vars, wO_ite, bn_ai, bn_as, bn_at, bn_al, bn_si, bn_mi, bn_mt, bn_oi, bn_di, bn_pi, ix_l, ix_t, sl_l, sl_t, sl_s, it_l, it_t, it_s, ty_t, ty_l, ty_i, ty_b, ty_s, ty_n, tk_t, tk_l, tk_i, tk_b, tk_s, tk_n, Ty.ofT, Ty.ofL, Ty.ofI, Ty.ofB, Ty.ofS, bi_ll, bi_lt, bi_tl, bi_tt, bi_l1, bi_l2, bi_ii, rangeD_len, Int.toNat_natCast, noList, noLists, Ss.app, thenQ, retQ, turnQ, ats0, ats1, ci_eq, ci_ne, ci_lt, ci_le, ci_gt, ci_ge, List.map_cons, List.map_nil, List.cons_append, List.nil_append, List.append_nil, List.length_cons, List.length_nil, List.foldl_cons, List.foldl_nil, List.set_cons_succ, List.set_cons_zero, List.getElem?_cons_succ, List.getElem?_cons_zero, List.any_cons, List.any_nil, List.mem_cons, List.not_mem_nil, Option.map_some, Option.map_none, Bool.or_false, Bool.or_true, Bool.false_or, Bool.true_or, Bool.and_self, Bool.and_true, Bool.true_and, Bool.and_false, Bool.false_and, Bool.not_true, Bool.not_false, Bool.false_eq_true, Nat.reduceEqDiff, Nat.reduceAdd, Nat.reduceLT, Nat.reduceLeDiff, Nat.reduceSub, Nat.zero_add, List.replicate, or_false, or_true, false_or, true_or, if_true, if_false, ite_self, true_and, and_true, decide_true, decide_false, List.length_replicate, lim, Int.cast_ofNat_Int, arr, List.getD_cons_zero, List.getD_cons_succ, O.nls, rows_nl, List.isEmpty_nil, List.isEmpty_cons, List.length_map, Int.reduceNeg, Int.reduceLE, Int.reduceLT, Int.reduceToNat, Int.reduceAdd, Int.reduceSub, Int.reducePow, Int.reduceMul, and_self, Int.reduceEq, Int.natCast_zero, Int.natCast_one, $[$ts:term],*])
local macro_rules | `(tactic| mul_fits) => `(tactic| with_reducible (first | refine ss_set ?_ | refine ss_own ?_ | refine ss_if ?_ | refine ss_ret ?_ | refine ss_tset ?_ | refine ss_for ?_ | refine ss_app ?_ | refine ss_ins0 ?_ | refine ss_par ?_ | refine ss_brk ?_ | refine ss_cnt ?_ | refine ss_pas ?_ | refine ss_whl ?_ | refine ss_par3 ?_ | refine ss_aug ?_ | refine ss_ownl ?_))
abbrev k_law_pull : Nat := 0
class F_law_pull (P : Pc) : Prop where
  has : HasPull P.toPr (P.c k_law_pull)
def B_law_same (c gc : Nat → Nat) : Ss := (.cons (.ifs (.isi (.var 1) [.list, .tuple]) (.cons (.ifs (.or (.cmp .ne (.isi (.var 0) [.list]) (.isi (.var 1) [.list])) (.cmp .ne (.isi (.var 0) [.tuple]) (.isi (.var 1) [.tuple]))) (.cons (.ret (.con (.bool false))) .nil) .nil) (.cons (.ret (.and (.cmp .eq (.bi .len (.var 0)) (.bi .len (.var 1))) (.bi .all (.lc (.n 2) [2] (.rng (.bi .len (.var 1))) .no (.call (c 19) (.cons (.ix (.var 0) (.var 2)) (.cons (.ix (.var 1) (.var 2)) .nil)) .nil))))) .nil)) .nil) (.cons (.ifs (.or (.cmp .is (.var 1) (.con .none)) (.cmp .is (.var 0) (.con .none))) (.cons (.ret (.and (.cmp .is (.var 0) (.con .none)) (.cmp .is (.var 1) (.con .none)))) .nil) .nil) (.cons (.ifs (.or (.cmp .ne (.isi (.var 1) [.bool]) (.isi (.var 0) [.bool])) (.cmp .ne (.isi (.var 1) [.int]) (.isi (.var 0) [.int]))) (.cons (.ret (.con (.bool false))) .nil) .nil) (.cons (.ret (.and (.cmp .eq (.isi (.var 1) [.str]) (.isi (.var 0) [.str])) (.cmp .eq (.var 0) (.var 1)))) .nil))))
abbrev k_law_same : Nat := 19
class F_law_same (P : Pc) : Prop where
  has : Has P.toPr (P.c k_law_same) [.p 0, .p 1] 2 3 (B_law_same P.c P.gc)

def B_law_of (c gc : Nat → Nat) : Ss := (.cons (.ret (.ix (.var 1) (.call (c 0) (.cons (.var 0) (.cons (.bi .len (.var 1)) .nil)) .nil))) .nil)
abbrev k_law_of : Nat := 1
class F_law_of (P : Pc) : Prop where
  has : Has P.toPr (P.c k_law_of) [.p 0, .p 1] 2 2 (B_law_of P.c P.gc)

def B_law_num (c gc : Nat → Nat) : Ss := (.cons (.ret (.ite (.cmp .gt (.var 0) (.con (.int 0))) (.tup (.cons (.tup (.cons (.tup .nil) (.cons (.var 0) .nil))) .nil)) (.tup .nil))) .nil)
abbrev k_law_num : Nat := 2
class F_law_num (P : Pc) : Prop where
  has : Has P.toPr (P.c k_law_num) [.p 0] 1 1 (B_law_num P.c P.gc)

def B_law_ordinal (c gc : Nat → Nat) : Ss := (.cons (.ifs (.cmp .eq (.var 1) (.con (.int 0))) (.cons (.ret (.call (c 2) (.cons (.ix (.lst (.cons (.con (.int 0)) (.cons (.con (.int 1)) (.cons (.con (.int 2)) (.cons (.con (.int 3)) (.cons (.bin .add (.con (.int 1)) (.call (c 0) (.cons (.var 0) (.cons (.bin .pow (.con (.int 10)) (.con (.int 9))) .nil)) .nil)) .nil)))))) (.call (c 0) (.cons (.var 0) (.cons (.con (.int 5)) .nil)) .nil)) .nil) .nil)) .nil) .nil) (.cons (.set 2 (.lc (.n 5) [5] (.rng (.call (c 0) (.cons (.var 0) (.cons (.con (.int 4)) .nil)) .nil)) .no (.call (c 3) (.cons (.var 0) (.cons (.bin .sub (.var 1) (.con (.int 1))) .nil)) .nil))) (.cons (.own 3 .nil) (.cons (.for_ (.n 4) (.seq (.bi .rev (.var 2))) (.cons (.ifs (.or (.cmp .eq (.var 3) (.lst .nil)) (.cmp .lt (.var 4) (.ix (.ix (.var 3) (.neg (.con (.int 1)))) (.con (.int 0))))) (.cons (.app 3 (.tup (.cons (.var 4) (.cons (.bin .add (.con (.int 1)) (.call (c 0) (.cons (.var 0) (.cons (.ix (.lst (.cons (.con (.int 1)) (.cons (.con (.int 2)) (.cons (.con (.int 2)) (.cons (.con (.int 9)) (.cons (.bin .pow (.con (.int 10)) (.con (.int 12))) .nil)))))) (.call (c 0) (.cons (.var 0) (.cons (.con (.int 5)) .nil)) .nil)) .nil)) .nil)) .nil)))) .nil) .nil) .nil)) (.cons (.ret (.bi .tuple (.var 3))) .nil)))))
abbrev k_law_ordinal : Nat := 3
class F_law_ordinal (P : Pc) : Prop where
  has : Has P.toPr (P.c k_law_ordinal) [.p 0, .p 1] 2 6 (B_law_ordinal P.c P.gc)

def B_law_sum (c gc : Nat → Nat) : Ss := (.cons (.ifs (.cmp .eq (.var 1) (.tup .nil)) (.cons (.ret (.var 0)) .nil) .nil) (.cons (.set 2 (.lc (.n 3) [3] (.seq (.var 0)) (.so (.cmp .ge (.ix (.var 3) (.con (.int 0))) (.ix (.ix (.var 1) (.con (.int 0))) (.con (.int 0))))) (.var 3))) (.cons (.ifs (.and (.cmp .ne (.var 2) (.lst .nil)) (.cmp .eq (.ix (.ix (.var 2) (.neg (.con (.int 1)))) (.con (.int 0))) (.ix (.ix (.var 1) (.con (.int 0))) (.con (.int 0))))) (.cons (.ret (.bin .add (.bin .add (.bi .tuple (.sl (.var 2) .no (.so (.neg (.con (.int 1)))))) (.tup (.cons (.tup (.cons (.ix (.ix (.var 1) (.con (.int 0))) (.con (.int 0))) (.cons (.bin .add (.ix (.ix (.var 2) (.neg (.con (.int 1)))) (.con (.int 1))) (.ix (.ix (.var 1) (.con (.int 0))) (.con (.int 1)))) .nil))) .nil))) (.sl (.var 1) (.so (.con (.int 1))) .no))) .nil) .nil) (.cons (.ret (.bin .add (.bi .tuple (.var 2)) (.var 1))) .nil))))
abbrev k_law_sum : Nat := 4
class F_law_sum (P : Pc) : Prop where
  has : Has P.toPr (P.c k_law_sum) [.p 0, .p 1] 2 4 (B_law_sum P.c P.gc)

def B_law_next (c gc : Nat → Nat) : Ss := (.cons (.ret (.call (c 4) (.cons (.var 0) (.cons (.call (c 2) (.cons (.con (.int 1)) .nil) .nil) .nil)) .nil)) .nil)
abbrev k_law_next : Nat := 5
class F_law_next (P : Pc) : Prop where
  has : Has P.toPr (P.c k_law_next) [.p 0] 1 1 (B_law_next P.c P.gc)

def B_law_raise (c gc : Nat → Nat) : Ss := (.cons (.set 2 (.bi .tuple (.lc (.n 3) [3] (.seq (.var 0)) (.so (.cmp .ge (.ix (.var 3) (.con (.int 0))) (.var 1))) (.var 3)))) (.cons (.ifs (.or (.cmp .eq (.var 1) (.tup .nil)) (.and (.cmp .eq (.var 2) (.var 0)) (.cmp .ne (.var 0) (.tup .nil)))) (.cons (.ret (.var 0)) .nil) .nil) (.cons (.ret (.call (c 4) (.cons (.var 2) (.cons (.tup (.cons (.tup (.cons (.var 1) (.cons (.con (.int 1)) .nil))) .nil)) .nil)) .nil)) .nil)))
abbrev k_law_raise : Nat := 6
class F_law_raise (P : Pc) : Prop where
  has : Has P.toPr (P.c k_law_raise) [.p 0, .p 1] 2 4 (B_law_raise P.c P.gc)

def B_law_row (c gc : Nat → Nat) : Ss := (.cons (.own 2 .nil) (.cons (.for_ (.n 3) (.rng (.var 1)) (.cons (.set 4 (.call (c 3) (.cons (.var 0) (.cons (.call (c 0) (.cons (.var 0) (.cons (.con (.int 3)) .nil)) .nil) .nil)) .nil)) (.cons (.ins0 2 (.ite (.cmp .eq (.var 2) (.lst .nil)) (.var 4) (.call (c 6) (.cons (.var 4) (.cons (.ix (.var 2) (.con (.int 0))) .nil)) .nil))) .nil))) (.cons (.ret (.bi .tuple (.var 2))) .nil)))
abbrev k_law_row : Nat := 7
class F_law_row (P : Pc) : Prop where
  has : Has P.toPr (P.c k_law_row) [.p 0, .p 1] 2 5 (B_law_row P.c P.gc)

section
variable {P : Pc} {cells : List Int} {n : Nat} {g : Bag} {Q : PyData → Bag → Prop}
theorem pull_w [F_law_pull P] {m : Int} (hn : 1 ≤ n) (hm : 0 < m) (hk : m < 10 ^ 30) (q : ∀ (i : Nat) (g : Bag), (i : Int) < m → Q (.int (i : Int)) g) : wC (P.F cells n) (P.c k_law_pull) [bag, .int m] [] g Q := by
  obtain ⟨n, rfl⟩ : ∃ k, n = k + 1 := ⟨n - 1, by omega⟩
  have b := pull_lt cells g hm
  refine wC_of (F_law_pull.has.call ⟨hm, log_lt (k := 200) ?_ (by decide) (by decide)⟩) ?_
  · have : (10 : Int) ^ 30 < 2 ^ 200 := by decide
    omega
  · have := q (pull cells g m).1.toNat (pull cells g m).2 (by omega)
    rw [Int.toNat_of_nonneg b.1] at this
    exact this
theorem of_w [F_law_pull P] [F_law_of P] {ds : List PyData} {d : PyData} (hd : d = .tuple ds ∨ d = .list ds) (hn : 2 ≤ n) (h0 : ds ≠ []) (h1 : ds.length ≤ lim) (q : ∀ x g, x ∈ ds → Q x g) : wC (P.F cells n) (P.c k_law_of) [bag, d] [] g Q := by
  obtain ⟨n, rfl⟩ : ∃ k, n = k + 2 := ⟨n - 2, by omega⟩
  obtain ⟨x, g', h2, h3⟩ := of_ok (P := P.toPr) (cells := cells) (n := n) (s := P.c k_law_of) (p := P.c k_law_pull) F_law_of.has F_law_pull.has hd (g := g) h0 h1
  exact wC_of h3 (q x g' h2)
theorem of_wl [F_law_pull P] [F_law_of P] {α : Type} {en : α → PyData} {l : List α} {d : PyData} (hd : d = .tuple (l.map en) ∨ d = .list (l.map en)) (hn : 2 ≤ n) (h0 : l ≠ []) (h1 : l.length ≤ lim) (q : ∀ x g, x ∈ l → Q (en x) g) : wC (P.F cells n) (P.c k_law_of) [bag, d] [] g Q := by
  refine of_w hd hn (fun z => h0 (List.map_eq_nil_iff.mp z)) (by rw [List.length_map]; exact h1) fun x g hx => ?_
  obtain ⟨y, hy, rfl⟩ := List.mem_map.mp hx
  exact q y g hy
theorem num_w [F_law_num P] {i : Int} (hn : 1 ≤ n) (q : Q (O.num i).enc g) : wC (P.F cells n) (P.c k_law_num) [.int i] [] g Q := by
  obtain ⟨n, rfl⟩ : ∃ k, n = k + 1 := ⟨n - 1, by omega⟩
  exact wC_of (num_ok (P := P.toPr) F_law_num.has) q
theorem ordinal_w [F_law_pull P] [F_law_num P] [F_law_ordinal P] {k : Nat} (hk : k ≤ 20) (hn : k + 2 ≤ n) (q : ∀ (x : O) (g : Bag), Gd (k + 1) (szB k) x → Q x.enc g) : wC (P.F cells n) (P.c k_law_ordinal) [bag, .int (k : Int)] [] g Q := by
  obtain ⟨n, rfl⟩ : ∃ m, n = m + k + 2 := ⟨n - k - 2, by omega⟩
  obtain ⟨x, g', h1, h2⟩ := ord_ok (P := P.toPr) (cells := cells) (p := P.c k_law_pull) (o := P.c k_law_ordinal) (m := P.c k_law_num) F_law_pull.has F_law_num.has F_law_ordinal.has k n g hk
  exact wC_of h1 (q x g' h2)
theorem sum_w [F_law_sum P] {a b : O} (hn : 1 ≤ n) (ha : a.nf) (h1 : a.ht ≤ 30) (h2 : b.ht ≤ 30) (k1 : a.sz ≤ 1000000) (k2 : b.sz ≤ 1000000) (q : Q (O.add a b).enc g) : wC (P.F cells n) (P.c k_law_sum) [a.enc, b.enc] [] g Q := by
  obtain ⟨n, rfl⟩ : ∃ k, n = k + 1 := ⟨n - 1, by omega⟩
  exact wC_of (sum_ok (P := P.toPr) F_law_sum.has rfl rfl ha h1 h2 k1 k2) q
theorem next_w [F_law_sum P] [F_law_num P] [F_law_next P] {a : O} (hn : 2 ≤ n) (ha : a.nf) (h1 : a.ht ≤ 30) (k1 : a.sz ≤ 1000000) (q : Q (O.add a (O.num 1)).enc g) : wC (P.F cells n) (P.c k_law_next) [a.enc] [] g Q := by
  refine F_law_next.has.w (by omega) rfl fun m hm => ?_
  unfold B_law_next
  (mul_fits; k_ne)
  refine num_w (by omega) ?_
  exact sum_w (by omega) ha h1 (by decide) k1 (by decide) q
theorem raise_w [F_law_sum P] [F_law_raise P] {a e : O} (hn : 2 ≤ n) (ha : a.nf) (h1 : a.ht ≤ 29) (h2 : e.ht ≤ 29) (k1 : a.sz ≤ 100000) (k2 : e.sz ≤ 100000) (q : Q (O.rsd a e).enc g) : wC (P.F cells n) (P.c k_law_raise) [a.enc, e.enc] [] g Q := by
  obtain ⟨n, rfl⟩ : ∃ k, n = k + 2 := ⟨n - 2, by omega⟩
  exact wC_of (rai_ok (P := P.toPr) (sm := P.c k_law_sum) F_law_raise.has F_law_sum.has rfl rfl ha (by omega) (by omega) (by omega) (by omega)) q
theorem row_w [F_law_pull P] [F_law_num P] [F_law_ordinal P] [F_law_sum P] [F_law_raise P] [F_law_row P] {k : Nat} (hk : k ≤ 3) (hn : 6 ≤ n) (q : ∀ (r : List O) (g : Bag), r.length = k → (∀ x ∈ r, Gd 5 66 x) → Q (encR r) g) : wC (P.F cells n) (P.c k_law_row) [bag, .int (k : Int)] [] g Q := by
  obtain ⟨n, rfl⟩ : ∃ m, n = m + 1 := ⟨n - 1, by omega⟩
  obtain ⟨r, g', h1, h2, h3⟩ := row_ok (P := P.toPr) (cells := cells) (n := n) (p := P.c k_law_pull) (o := P.c k_law_ordinal) (m := P.c k_law_num) (ra := P.c k_law_raise) (sm := P.c k_law_sum) F_law_row.has F_law_pull.has F_law_num.has F_law_ordinal.has F_law_raise.has F_law_sum.has (by omega) hk g
  exact wC_of h1 (q r g' h2 h3)
theorem cs_eq {a b : Str} (ha : PyData.canLay0 (.str a) = true) (hb : PyData.canLay0 (.str b) = true) : cmpD .eq (.str a) (.str b) = some (decide (a = b)) := by
  simp [cmpD, SeqAt.shaped, ha, hb, PyData.depth, PyData.eqv]
  rfl
theorem ci_lst (b : List PyData) : cmpD .is (.list b) .none = some false := by simp [cmpD]
theorem all_range {as bs : List PyData} {rs : List Bool} (hl : as.length = bs.length) (h : All2 (fun (i : Nat) (r : Bool) => r = true ↔ as[i]? = bs[i]?) (List.range bs.length) rs) : (rs.all id = true ↔ as = bs) := by
  have key : ∀ (l : List Nat) (rs : List Bool), All2 (fun (i : Nat) (r : Bool) => r = true ↔ as[i]? = bs[i]?) l rs → (rs.all id = true ↔ ∀ i ∈ l, as[i]? = bs[i]?) := by
    intro l rs h
    induction h with
    | nil => simp
    | cons h t ih =>
      simp only [List.all_cons, id, Bool.and_eq_true, h, ih, List.mem_cons, forall_eq_or_imp]
  rw [key _ _ h]
  constructor
  · intro q
    refine List.ext_getElem? fun i => ?_
    by_cases hi : i < bs.length
    · exact q i (List.mem_range.mpr hi)
    · rw [List.getElem?_eq_none (by omega), List.getElem?_eq_none (by omega)]
  · rintro rfl i _
    rfl
theorem boolsOf_iff {l : List PyData} {bs : List Bool} (h : l = bs.map .bool) : biD .all (.list l) = some (.bool (bs.all id)) := by
  subst h
  simp only [biD, boolsOf_map, Option.map_some]
/-- sameness of what is no list or tuple -/
theorem same_sc [F_law_same P] {n : Nat} {a b : PyData} {g : Bag} {Q : PyData → Bag → Prop} (ha : smD a = true) (hb : smD b = true) (hs : scalar b = true) (hn : 1 ≤ n) (q : ∀ r : Bool, (r = true ↔ a = b) → Q (.bool r) g) : wC (P.F cells n) (P.c k_law_same) [a, b] [] g Q := by
  refine F_law_same.has.w (by omega) rfl fun m hm => ?_
  unfold B_law_same
  cases b with
  | list ds => cases hs
  | tuple ds => cases hs
  | dict ds => cases hb
  | none =>
    cases a with
    | dict ds => cases ha
    | _ => (mul_fits; wp_walk using cb_ne, cb_eq, ci_none, ci_bool, ci_int, ci_str, ci_tup, ci_lst, bne_self_eq_false, Bool.not_eq_true', bne, beq_self_eq_true); repeat (((with_reducible refine wZ_go ?_); mul_fits; wp_walk using cb_ne, cb_eq, ci_none, ci_bool, ci_int, ci_str, ci_tup, ci_lst, bne_self_eq_false, Bool.not_eq_true', bne, beq_self_eq_true))
           exact q _ (by simp)
  | bool b =>
    cases a with
    | dict ds => cases ha
    | _ => (mul_fits; wp_walk using cb_ne, cb_eq, ci_none, ci_bool, ci_int, ci_str, ci_tup, ci_lst, bne_self_eq_false, Bool.not_eq_true', bne, beq_self_eq_true); repeat (((with_reducible refine wZ_go ?_); mul_fits; wp_walk using cb_ne, cb_eq, ci_none, ci_bool, ci_int, ci_str, ci_tup, ci_lst, bne_self_eq_false, Bool.not_eq_true', bne, beq_self_eq_true))
           exact q _ (by simp)
  | int b =>
    cases a with
    | dict ds => cases ha
    | _ => (mul_fits; wp_walk using cb_ne, cb_eq, ci_none, ci_bool, ci_int, ci_str, ci_tup, ci_lst, bne_self_eq_false, Bool.not_eq_true', bne, beq_self_eq_true); repeat (((with_reducible refine wZ_go ?_); mul_fits; wp_walk using cb_ne, cb_eq, ci_none, ci_bool, ci_int, ci_str, ci_tup, ci_lst, bne_self_eq_false, Bool.not_eq_true', bne, beq_self_eq_true))
           exact q _ (by simp)
  | str b =>
    cases a with
    | dict ds => cases ha
    | str c => 
      rw [smD] at ha hb
      (mul_fits; wp_walk using cb_ne, cb_eq, ci_none, ci_bool, ci_int, ci_str, ci_tup, ci_lst, bne_self_eq_false, Bool.not_eq_true', bne, beq_self_eq_true); repeat (((with_reducible refine wZ_go ?_); mul_fits; wp_walk using cb_ne, cb_eq, ci_none, ci_bool, ci_int, ci_str, ci_tup, ci_lst, bne_self_eq_false, Bool.not_eq_true', bne, beq_self_eq_true, cs_eq ha hb))
      exact q _ (by simp)
    | _ => (mul_fits; wp_walk using cb_ne, cb_eq, ci_none, ci_bool, ci_int, ci_str, ci_tup, ci_lst, bne_self_eq_false, Bool.not_eq_true', bne, beq_self_eq_true); repeat (((with_reducible refine wZ_go ?_); mul_fits; wp_walk using cb_ne, cb_eq, ci_none, ci_bool, ci_int, ci_str, ci_tup, ci_lst, bne_self_eq_false, Bool.not_eq_true', bne, beq_self_eq_true))
           exact q _ (by simp)
theorem same_gen [F_law_same P] : ∀ (k : Nat) {n : Nat} {a b : PyData} {g : Bag} {Q : PyData → Bag → Prop}, smD a = true → smD b = true → b.depth ≤ k → k + 1 ≤ n → (∀ r : Bool, (r = true ↔ a = b) → Q (.bool r) g) → wC (P.F cells n) (P.c k_law_same) [a, b] [] g Q := by
  intro k
  induction k with
  | zero =>
    intro n a b g Q ha hb hd hn q
    refine same_sc ha hb ?_ hn q
    cases b <;> first | rfl | (simp [PyData.depth] at hd) | cases hb
  | succ k ih =>
    intro n a b g Q ha hb hd hn q
    by_cases hsc : scalar b = true
    · exact same_sc ha hb hsc (by omega) q
    refine F_law_same.has.w (by omega) rfl fun m hm => ?_
    unfold B_law_same
    cases b with
    | list ds =>
      cases a with
      | dict ds => cases ha
      | list as =>
        rw [smD, Bool.and_eq_true] at ha hb
        rw [PyData.depth] at hd
        have hb1 := of_decide_eq_true hb.1
        (mul_fits; wp_walk using cb_ne, cb_eq, ci_none, ci_bool, ci_int, ci_str, ci_tup, ci_lst, bne_self_eq_false, Bool.not_eq_true', bne, beq_self_eq_true)
        repeat (((with_reducible refine wZ_go ?_); mul_fits; wp_walk using cb_ne, cb_eq, ci_none, ci_bool, ci_int, ci_str, ci_tup, ci_lst, bne_self_eq_false, Bool.not_eq_true', bne, beq_self_eq_true))
        refine wIf_c (fun e => ?_) fun e => ?_
        · have e : as.length = ds.length := by have := of_decide_eq_true e; omega
          refine ⟨⟨by omega, by omega⟩, hb1, ?_⟩
          rw [rangeD_map]
          refine wL_relp (en2 := PyData.bool) (T := fun (i : Nat) (r : Bool) => r = true ↔ as[i]? = ds[i]?) (fun i hi => ?_) fun rs hr => ?_
          · have hi := List.mem_range.mp hi
            wp_walk using ats_get (show i < as.length by omega), ats_get hi
            have m1 := List.getElem_mem (l := as) (show i < as.length by omega)
            have m2 := List.getElem_mem hi
            refine ih (smDs_mem ha.2 m1) (smDs_mem hb.2 m2) (by have := depth_mem m2; omega) (by omega) fun r hr => ⟨rfl, r, rfl, ?_⟩
            rw [hr, List.getElem?_eq_getElem (show i < as.length by omega), List.getElem?_eq_getElem hi, Option.some.injEq]
          · wp_walk using boolsOf_iff (rfl : rs.map PyData.bool = _)
            exact q _ (by rw [all_range e hr, PyData.list.injEq])
        · refine q _ ⟨(fun z => by cases z), fun z => ?_⟩
          cases z
          simp at e
      | _ =>
        (mul_fits; wp_walk using cb_ne, cb_eq, ci_none, ci_bool, ci_int, ci_str, ci_tup, ci_lst, bne_self_eq_false, Bool.not_eq_true', bne, beq_self_eq_true)
        repeat (((with_reducible refine wZ_go ?_); mul_fits; wp_walk using cb_ne, cb_eq, ci_none, ci_bool, ci_int, ci_str, ci_tup, ci_lst, bne_self_eq_false, Bool.not_eq_true', bne, beq_self_eq_true))
        exact q _ (by simp)
    | tuple ds =>
      cases a with
      | dict ds => cases ha
      | tuple as =>
        rw [smD, Bool.and_eq_true] at ha hb
        rw [PyData.depth] at hd
        have hb1 := of_decide_eq_true hb.1
        (mul_fits; wp_walk using cb_ne, cb_eq, ci_none, ci_bool, ci_int, ci_str, ci_tup, ci_lst, bne_self_eq_false, Bool.not_eq_true', bne, beq_self_eq_true)
        repeat (((with_reducible refine wZ_go ?_); mul_fits; wp_walk using cb_ne, cb_eq, ci_none, ci_bool, ci_int, ci_str, ci_tup, ci_lst, bne_self_eq_false, Bool.not_eq_true', bne, beq_self_eq_true))
        refine wIf_c (fun e => ?_) fun e => ?_
        · have e : as.length = ds.length := by have := of_decide_eq_true e; omega
          refine ⟨⟨by omega, by omega⟩, hb1, ?_⟩
          rw [rangeD_map]
          refine wL_relp (en2 := PyData.bool) (T := fun (i : Nat) (r : Bool) => r = true ↔ as[i]? = ds[i]?) (fun i hi => ?_) fun rs hr => ?_
          · have hi := List.mem_range.mp hi
            wp_walk using ats_get (show i < as.length by omega), ats_get hi
            have m1 := List.getElem_mem (l := as) (show i < as.length by omega)
            have m2 := List.getElem_mem hi
            refine ih (smDs_mem ha.2 m1) (smDs_mem hb.2 m2) (by have := depth_mem m2; omega) (by omega) fun r hr => ⟨rfl, r, rfl, ?_⟩
            rw [hr, List.getElem?_eq_getElem (show i < as.length by omega), List.getElem?_eq_getElem hi, Option.some.injEq]
          · wp_walk using boolsOf_iff (rfl : rs.map PyData.bool = _)
            exact q _ (by rw [all_range e hr, PyData.tuple.injEq])
        · refine q _ ⟨(fun z => by cases z), fun z => ?_⟩
          cases z
          simp at e
      | _ =>
        (mul_fits; wp_walk using cb_ne, cb_eq, ci_none, ci_bool, ci_int, ci_str, ci_tup, ci_lst, bne_self_eq_false, Bool.not_eq_true', bne, beq_self_eq_true)
        repeat (((with_reducible refine wZ_go ?_); mul_fits; wp_walk using cb_ne, cb_eq, ci_none, ci_bool, ci_int, ci_str, ci_tup, ci_lst, bne_self_eq_false, Bool.not_eq_true', bne, beq_self_eq_true))
        exact q _ (by simp)
    | dict ds => cases hb
    | _ => exact absurd rfl hsc
theorem same_eq [F_law_same P] (k : Nat) {d : PyData} (hs : smD d = true) (hd : d.depth ≤ k) (hn : k + 1 ≤ n) (q : Q (.bool true) g) : wC (P.F cells n) (P.c k_law_same) [d, d] [] g Q :=
  same_gen k hs hs hd hn fun r hr => by rw [hr.mpr rfl]; exact q
end
end Rf

set_option maxHeartbeats 400000
/-! Drawn stairs, by name. -/
namespace Rf
open PySem PySem.W L2 PyProof.Rows
local macro_rules | `(tactic| k_ne) => `(tactic| simp only [wZ_nil, wE_var, wE_con, wE_glo, wE_tup, wE_lst, wE_bin, wE_cmp, wE_chn, wE_neg, wE_and, wE_or, wE_not, wE_ite, wE_call, wE_bi, wE_isi, wE_ix, wE_sl, wE_lc, wA_nil, wA_cons, wA_star, wP_no, wP_so, wCd_no, wCd_so, wI_seq, wI_rng, wI_rng2, wI_enm, wE_rv, wE_jn, wSh_some, wD_list, wO_some, wB_bool, wN_int, wQ_list, wQ_tuple, wOw_some, wIf_t, wIf_f, seeF, see_slot, frz_slot, slot_some, slot_none, Rf.settle, frzF, putS, putE, wipeE, flat, flats, E.vars, Es.vars, Eo.vars, It.vars, wO_ite, bn_ai, bn_as, bn_at, bn_al, bn_si, bn_mi, bn_mt, bn_oi, bn_di, bn_pi, ix_l, ix_t, sl_l, sl_t, sl_s, it_l, it_t, it_s, ty_t, ty_l, ty_i, ty_b, ty_s, ty_n, tk_t, tk_l, tk_i, tk_b, tk_s, tk_n, Ty.ofT, Ty.ofL, Ty.ofI, Ty.ofB, Ty.ofS, bi_ll, bi_lt, bi_tl, bi_tt, bi_l1, bi_l2, bi_ii, rangeD_len, Int.toNat_natCast, noList, noLists, Ss.app, thenQ, retQ, turnQ, ats0, ats1, ci_eq, ci_ne, ci_lt, ci_le, ci_gt, ci_ge, List.map_cons, List.map_nil, List.cons_append, List.nil_append, List.append_nil, List.length_cons, List.length_nil, List.foldl_cons, List.foldl_nil, List.set_cons_succ, List.set_cons_zero, List.getElem?_cons_succ, List.getElem?_cons_zero, List.any_cons, List.any_nil, List.mem_cons, List.not_mem_nil, Option.map_some, Option.map_none, Bool.or_false, Bool.or_true, Bool.false_or, Bool.true_or, Bool.and_self, Bool.and_true, Bool.true_and, Bool.and_false, Bool.false_and, Bool.not_true, Bool.not_false, Bool.false_eq_true, Nat.reduceEqDiff, Nat.reduceAdd, Nat.reduceLT, Nat.reduceLeDiff, Nat.reduceSub, Nat.zero_add, List.replicate, or_false, or_true, false_or, true_or, if_true, if_false, ite_self, true_and, and_true, decide_true, decide_false, List.length_replicate, lim, Int.cast_ofNat_Int, arr, List.getD_cons_zero, List.getD_cons_succ, O.nls, rows_nl, List.isEmpty_nil, List.isEmpty_cons, List.length_map, Int.reduceNeg, Int.reduceLE, Int.reduceLT, Int.reduceToNat, Int.reduceAdd, Int.reduceSub, Int.reducePow, Int.reduceMul, and_self, Int.reduceEq, Int.natCast_zero, Int.natCast_one])
local macro_rules | `(tactic| wp_walk using $ts,*) => `(tactic| simp only [wZ_nil, wE_var, wE_con, wE_glo, wE_tup, wE_lst, wE_bin, wE_cmp, wE_chn, wE_neg, wE_and, wE_or, wE_not, wE_ite, wE_call, wE_bi, wE_isi, wE_ix, wE_sl, wE_lc, wA_nil, wA_cons, wA_star, wP_no, wP_so, wCd_no, wCd_so, wI_seq, wI_rng, wI_rng2, wI_enm, wE_rv, wE_jn, wSh_some, wD_list, wO_some, wB_bool, wN_int, wQ_list, wQ_tuple, wOw_some, wIf_t, wIf_f, seeF, see_slot, frz_slot, slot_some, slot_none, Rf.settle, frzF, putS, putE, wipeE, flat, flats, E.vars, Es.vars, Eo.vars, It.vars, wO_ite, bn_ai, bn_as, bn_at, bn_al, bn_si, bn_mi, bn_mt, bn_oi, bn_di, bn_pi, ix_l, ix_t, sl_l, sl_t, sl_s, it_l, it_t, it_s, ty_t, ty_l, ty_i, ty_b, ty_s, ty_n, tk_t, tk_l, tk_i, tk_b, tk_s, tk_n, Ty.ofT, Ty.ofL, Ty.ofI, Ty.ofB, Ty.ofS, bi_ll, bi_lt, bi_tl, bi_tt, bi_l1, bi_l2, bi_ii, rangeD_len, Int.toNat_natCast, noList, noLists, Ss.app, thenQ, retQ, turnQ, ats0, ats1, ci_eq, ci_ne, ci_lt, ci_le, ci_gt, ci_ge, List.map_cons, List.map_nil, List.cons_append, List.nil_append, List.append_nil, List.length_cons, List.length_nil, List.foldl_cons, List.foldl_nil, List.set_cons_succ, List.set_cons_zero, List.getElem?_cons_succ, List.getElem?_cons_zero, List.any_cons, List.any_nil, List.mem_cons, List.not_mem_nil, Option.map_some, Option.map_none, Bool.or_false, Bool.or_true, Bool.false_or, Bool.true_or, Bool.and_self, Bool.and_true, Bool.true_and, Bool.and_false, Bool.false_and, Bool.not_true, Bool.not_false, Bool.false_eq_true, Nat.reduceEqDiff, Nat.reduceAdd, Nat.reduceLT, Nat.reduceLeDiff, Nat.reduceSub, Nat.zero_add, List.replicate, or_false, or_true, false_or, true_or, if_true, if_false, ite_self, true_and, and_true, decide_true, decide_false, List.length_replicate, lim, Int.cast_ofNat_Int, arr, List.getD_cons_zero, List.getD_cons_succ, O.nls, rows_nl, List.isEmpty_nil, List.isEmpty_cons, List.length_map, Int.reduceNeg, Int.reduceLE, Int.reduceLT, Int.reduceToNat, Int.reduceAdd, Int.reduceSub, Int.reducePow, Int.reduceMul, and_self, Int.reduceEq, Int.natCast_zero, Int.natCast_one, $[$ts:term],*])
local macro_rules | `(tactic| mul_fits) => `(tactic| with_reducible (first | refine ss_set ?_ | refine ss_own ?_ | refine ss_if ?_ | refine ss_ret ?_ | refine ss_tset ?_ | refine ss_for ?_ | refine ss_app ?_ | refine ss_ins0 ?_ | refine ss_par ?_ | refine ss_brk ?_ | refine ss_cnt ?_ | refine ss_pas ?_ | refine ss_whl ?_ | refine ss_par3 ?_ | refine ss_aug ?_ | refine ss_ownl ?_))
theorem sort_enc {xs : List O} (h : ∀ x ∈ xs, x.ht ≤ 31) : ∃ ys : List O, ys.Perm xs ∧ biD .sorted (.list (xs.map O.enc)) = some (.list (ys.map O.enc)) := by
  refine ⟨xs.mergeSort fun a b => !dataLt b.enc a.enc, List.mergeSort_perm _ _, ?_⟩
  have ha : allAlike (xs.map O.enc) = true := by
    unfold allAlike
    simp only [Bool.and_eq_true, List.all_eq_true, List.mem_map]
    refine ⟨?_, ?_⟩
    · rintro d ⟨x, hx, rfl⟩
      exact ⟨rfl, O.shp (h x hx)⟩
    · rintro d ⟨x, hx, rfl⟩ e ⟨y, hy, rfl⟩
      exact O.alk x y
  simp only [biD, ha, if_true, dataSort]
  rw [List.map_mergeSort (r := fun a b : O => !dataLt b.enc a.enc) (s := fun a b => !dataLt b a) (f := O.enc) (l := xs) (fun a _ b _ => rfl)]
def B_law_steps (c gc : Nat → Nat) : Ss := (.cons (.set 2 (.bi .sorted (.lc (.n 5) [5] (.rng (.call (c 0) (.cons (.var 0) (.cons (.con (.int 4)) .nil)) .nil)) .no (.call (c 3) (.cons (.var 0) (.cons (.var 1) .nil)) .nil)))) (.cons (.own 3 (.cons (.tup .nil) .nil)) (.cons (.for_ (.n 4) (.seq (.var 2)) (.cons (.ifs (.cmp .ne (.var 4) (.ix (.var 3) (.neg (.con (.int 1))))) (.cons (.app 3 (.var 4)) .nil) .nil) .nil)) (.cons (.ret (.var 3)) .nil))))
abbrev k_law_steps : Nat := 8
class F_law_steps (P : Pc) : Prop where
  has : Has P.toPr (P.c k_law_steps) [.p 0, .p 1] 2 6 (B_law_steps P.c P.gc)

def B_law_stair (c gc : Nat → Nat) : Ss := (.cons (.ifs (.cmp .eq (.var 1) (.con (.int 0))) (.cons (.ret (.cmp .eq (.call (c 0) (.cons (.var 0) (.cons (.con (.int 2)) .nil)) .nil) (.con (.int 1)))) .nil) .nil) (.cons (.ret (.bi .tuple (.lc (.n 2) [2] (.seq (.call (c 8) (.cons (.var 0) (.cons (.bin .add (.con (.int 1)) (.call (c 0) (.cons (.var 0) (.cons (.con (.int 2)) .nil)) .nil)) .nil)) .nil)) .no (.tup (.cons (.var 2) (.cons (.call (c 9) (.cons (.var 0) (.cons (.bin .sub (.var 1) (.con (.int 1))) .nil)) .nil) .nil)))))) .nil))
abbrev k_law_stair : Nat := 9
class F_law_stair (P : Pc) : Prop where
  has : Has P.toPr (P.c k_law_stair) [.p 0, .p 1] 2 3 (B_law_stair P.c P.gc)

def B_law_pick (c gc : Nat → Nat) : Ss := (.cons (.set 2 (.ix (.ix (.var 0) (.con (.int 0))) (.con (.int 1)))) (.cons (.for_ (.t (.cons (.n 3) (.cons (.n 4) .nil))) (.seq (.var 0)) (.cons (.ifs (.cmp .le (.var 3) (.var 1)) (.cons (.set 2 (.var 4)) .nil) .nil) .nil)) (.cons (.ret (.var 2)) .nil)))
abbrev k_law_pick : Nat := 10
class F_law_pick (P : Pc) : Prop where
  has : Has P.toPr (P.c k_law_pick) [.p 0, .p 1] 2 5 (B_law_pick P.c P.gc)

def B_law_in (c gc : Nat → Nat) : Ss := (.cons (.set 2 (.var 0)) (.cons (.for_ (.n 3) (.seq (.var 1)) (.cons (.set 2 (.call (c 10) (.cons (.var 2) (.cons (.var 3) .nil)) .nil)) .nil)) (.cons (.ret (.var 2)) .nil)))
abbrev k_law_in : Nat := 11
class F_law_in (P : Pc) : Prop where
  has : Has P.toPr (P.c k_law_in) [.p 0, .p 1] 2 4 (B_law_in P.c P.gc)

def B_law_begins (c gc : Nat → Nat) : Ss := (.cons (.ifs (.cmp .eq (.var 1) (.con (.int 0))) (.cons (.ret (.lc (.t (.cons (.n 3) (.cons (.n 4) .nil))) [3, 4] (.seq (.var 0)) .no (.var 3))) .nil) .nil) (.cons (.own 2 .nil) (.cons (.for_ (.t (.cons (.n 3) (.cons (.n 4) .nil))) (.seq (.var 0)) (.cons (.set 2 (.bin .add (.var 2) (.call (c 12) (.cons (.var 4) (.cons (.bin .sub (.var 1) (.con (.int 1))) .nil)) .nil))) .nil)) (.cons (.ret (.var 2)) .nil))))
abbrev k_law_begins : Nat := 12
class F_law_begins (P : Pc) : Prop where
  has : Has P.toPr (P.c k_law_begins) [.p 0, .p 1] 2 5 (B_law_begins P.c P.gc)

def B_law_near (c gc : Nat → Nat) : Ss := (.cons (.own 3 .nil) (.cons (.for_ (.n 4) (.rng (.var 1)) (.cons (.own 5 (.cons (.tup .nil) .nil)) (.cons (.for_ (.n 6) (.seq (.var 2)) (.cons (.set 5 (.bin .add (.var 5) (.call (c 12) (.cons (.var 6) (.cons (.bin .sub (.bin .sub (.var 1) (.con (.int 1))) (.var 4)) .nil)) .nil))) .nil)) (.cons (.set 7 (.call (c 1) (.cons (.var 0) (.cons (.var 5) .nil)) .nil)) (.cons (.set 7 (.ix (.lst (.cons (.var 7) (.cons (.var 7) (.cons (.call (c 5) (.cons (.var 7) .nil) .nil) (.cons (.call (c 4) (.cons (.var 7) (.cons (.call (c 3) (.cons (.var 0) (.cons (.con (.int 1)) .nil)) .nil) .nil)) .nil) .nil))))) (.call (c 0) (.cons (.var 0) (.cons (.con (.int 4)) .nil)) .nil))) (.cons (.ins0 3 (.ite (.cmp .eq (.var 3) (.lst .nil)) (.var 7) (.call (c 6) (.cons (.var 7) (.cons (.ix (.var 3) (.con (.int 0))) .nil)) .nil))) .nil)))))) (.cons (.ret (.bi .tuple (.var 3))) .nil)))
abbrev k_law_near : Nat := 13
class F_law_near (P : Pc) : Prop where
  has : Has P.toPr (P.c k_law_near) [.p 0, .p 1, .p 2] 3 8 (B_law_near P.c P.gc)

def B_law_opposite (c gc : Nat → Nat) : Ss := (.cons (.ifs (.isi (.var 0) [.bool]) (.cons (.ret (.not (.var 0))) .nil) .nil) (.cons (.ret (.bi .tuple (.lc (.t (.cons (.n 1) (.cons (.n 2) .nil))) [1, 2] (.seq (.var 0)) .no (.tup (.cons (.var 1) (.cons (.call (c 14) (.cons (.var 2) .nil) .nil) .nil)))))) .nil))
abbrev k_law_opposite : Nat := 14
class F_law_opposite (P : Pc) : Prop where
  has : Has P.toPr (P.c k_law_opposite) [.p 0] 1 3 (B_law_opposite P.c P.gc)

def B_inner_at (c gc : Nat → Nat) : Ss := (.cons (.set 2 (.ix (.ix (.var 0) (.con (.int 0))) (.con (.int 1)))) (.cons (.for_ (.t (.cons (.n 3) (.cons (.n 4) .nil))) (.seq (.var 0)) (.cons (.ifs (.cmp .le (.var 3) (.var 1)) (.cons (.set 2 (.var 4)) .nil) .nil) .nil)) (.cons (.ret (.var 2)) .nil)))
abbrev k_inner_at : Nat := 15
class F_inner_at (P : Pc) : Prop where
  has : Has P.toPr (P.c k_inner_at) [.p 0, .p 1] 2 5 (B_inner_at P.c P.gc)

def B_value_at (c gc : Nat → Nat) : Ss := (.cons (.set 2 (.var 0)) (.cons (.for_ (.n 3) (.seq (.var 1)) (.cons (.set 2 (.call (c 15) (.cons (.var 2) (.cons (.var 3) .nil)) .nil)) .nil)) (.cons (.ret (.var 2)) .nil)))
abbrev k_value_at : Nat := 16
class F_value_at (P : Pc) : Prop where
  has : Has P.toPr (P.c k_value_at) [.p 0, .p 1] 2 4 (B_value_at P.c P.gc)

abbrev k_value_at_0_row_stair : Nat := 18
class F_value_at_0_row_stair (P : Pc) : Prop where
  has : Has P.toPr (P.c k_value_at_0_row_stair) [.k 1, .k 0] 2 4 (B_value_at P.c P.gc)

theorem opp_gs : ∀ {k : Nat} {s : Stair k}, GS k s → GS k (oppS k s)
  | 0, _, _ => trivial
  | k + 1, s, h => by
    obtain ⟨h1, ⟨a, r, rfl⟩, h3⟩ := h
    refine ⟨by rw [oppS, List.length_map]; exact h1, ⟨oppS k a, r.map fun p => (p.1, oppS k p.2), rfl⟩, fun p hp => ?_⟩
    obtain ⟨q, hq, rfl⟩ := List.mem_map.mp hp
    exact ⟨(h3 q hq).1, opp_gs (h3 q hq).2⟩
section
variable {P : Pc} {cells : List Int} {n : Nat} {g : Bag} {Q : PyData → Bag → Prop}
theorem steps_w [F_law_pull P] [F_law_num P] [F_law_ordinal P] [F_law_steps P] {k : Nat} (hk : k ≤ 2) (hn : 6 ≤ n) (q : ∀ (l : List O) (g : Bag), l.length ≤ 3 → (∀ x ∈ l, Gd 4 66 x) → Q (.list ((O.z :: l).map O.enc)) g) : wC (P.F cells n) (P.c k_law_steps) [bag, .int (k : Int)] [] g Q := by
  refine F_law_steps.has.w (by omega) rfl fun m hm => ?_
  unfold B_law_steps
  (mul_fits; k_ne)
  refine pull_w (by omega) (by decide) (by decide) fun i g hi => ?_
  k_ne
  refine ⟨by omega, by omega, wL_draw (en := O.enc) (T := Gd 4 66) (fun d hd g => ?_) fun xs g hl hx => ?_⟩
  · k_ne
    exact ordinal_w (by omega) (by omega) fun x g hx => ⟨x, rfl, hx.mono (by omega) (Nat.le_trans (szB_mono hk) (by decide))⟩
  simp only [rangeD_len] at hl
  obtain ⟨ys, hp, hs⟩ := sort_enc (xs := xs) fun x h => by have := (hx x h).ht; omega
  wp_walk using hs
  ((with_reducible refine wZ_go ?_); mul_fits; k_ne)
  ((with_reducible refine wZ_go ?_); mul_fits; k_ne)
  refine wT_inv (fun done ρ g => ∃ (l : List O) (a : O) (o : Option PyData), l.length ≤ done.length ∧ (∀ x ∈ l ++ [a], Gd 4 66 x) ∧ l ++ [a] = O.z :: (l ++ [a]).tail ∧ ρ = [.sh bag, .sh (.int (k : Int)), .sh (.list (ys.map O.enc)), .ow ((l ++ [a]).map O.enc), slot o, .un]) ⟨[], O.z, none, by simp, fun x hx => ?_, rfl, rfl⟩ ?_ ?_
  · rw [List.nil_append, List.mem_singleton] at hx
    subst hx
    exact ⟨trivial, by decide, by decide⟩
  · rintro done x rest ρ g e ⟨l, a, o, h1, h2, h3, rfl⟩
    have gx := hx x (hp.mem_iff.mp (by rw [e]; simp))
    have ga := h2 a (by simp)
    k_ne
    (mul_fits; wp_walk using ats_last, getLast_map)
    rw [O.c_ne (by have := gx.ht; omega) (by have := ga.ht; omega)]
    k_ne
    have hlen := congrArg List.length e
    rw [List.length_append, List.length_cons, hp.length_eq, hl] at hlen
    refine wIf_c (fun q => ?_) fun q => ?_
    · ((with_reducible refine wZ_go ?_); mul_fits; wp_walk using O.nls)
      refine ⟨by simp; omega, ?_⟩
      refine ⟨l ++ [a], x, some x.enc, by simp; omega, fun y hy => ?_, ?_, by simp [slot]⟩
      · rcases List.mem_append.mp hy with hy | hy
        · exact h2 y hy
        · rw [List.mem_singleton.mp hy]; exact gx
      · rw [h3]; rfl
    · exact ⟨l, a, some x.enc, by simp; omega, h2, h3, rfl⟩
  · rintro ρ g ⟨l, a, o, h1, h2, h3, rfl⟩
    k_ne
    ((with_reducible refine wZ_go ?_); mul_fits; k_ne)
    rw [h3]
    have : (l ++ [a]).tail.length = l.length := by simp
    have hpl := hp.length_eq
    refine q _ g (by rw [this]; omega) fun x hx => h2 x (List.mem_of_mem_tail hx)
theorem pick_w [F_law_pick P] {k : Nat} {l : Stair (k + 1)} {o : O} (hn : 1 ≤ n) (hl : GS (k + 1) l) (ho : o.ht ≤ 30) (q : Q (encS k (pickS l o (defS k))) g) : wC (P.F cells n) (P.c k_law_pick) [encS (k + 1) l, o.enc] [] g Q := by
  obtain ⟨n, rfl⟩ : ∃ m, n = m + 1 := ⟨n - 1, by omega⟩
  exact wC_of (pk_ok (P := P.toPr) F_law_pick.has hl ho) q
theorem in_w [F_law_pick P] [F_law_in P] {k : Nat} {a : Stair k} {r : List O} (hn : 2 ≤ n) (ga : GS k a) (hr : r.length = k) (ho : ∀ o ∈ r, o.ht ≤ 30) (q : Q (.bool (valS k a r)) g) : wC (P.F cells n) (P.c k_law_in) [encS k a, encR r] [] g Q := by
  obtain ⟨n, rfl⟩ : ∃ m, n = m + 2 := ⟨n - 2, by omega⟩
  exact wC_of (va_ok (P := P.toPr) F_law_in.has F_law_pick.has rfl rfl ga hr ho) q
theorem value_at_w [F_inner_at P] [F_value_at P] {k : Nat} {a : Stair k} {r : List O} (hn : 2 ≤ n) (ga : GS k a) (hr : r.length = k) (ho : ∀ o ∈ r, o.ht ≤ 30) (q : Q (.bool (valS k a r)) g) : wC (P.F cells n) (P.c k_value_at) [encS k a, encR r] [] g Q := by
  obtain ⟨n, rfl⟩ : ∃ m, n = m + 2 := ⟨n - 2, by omega⟩
  exact wC_of (va_ok (P := P.toPr) F_value_at.has F_inner_at.has rfl rfl ga hr ho) q
theorem value_at_kw [F_inner_at P] [F_value_at_0_row_stair P] {k : Nat} {a : Stair k} {r : List O} (hn : 2 ≤ n) (ga : GS k a) (hr : r.length = k) (ho : ∀ o ∈ r, o.ht ≤ 30) (q : Q (.bool (valS k a r)) g) : wC (P.F cells n) (P.c k_value_at_0_row_stair) [] [encR r, encS k a] g Q := by
  obtain ⟨n, rfl⟩ : ∃ m, n = m + 2 := ⟨n - 2, by omega⟩
  exact wC_of (va_ok (P := P.toPr) F_value_at_0_row_stair.has F_inner_at.has rfl rfl ga hr ho) q
theorem opposite_w [F_law_opposite P] {k : Nat} {a : Stair k} (hn : k + 1 ≤ n) (ga : GS k a) (q : Q (encS k (oppS k a)) g) : wC (P.F cells n) (P.c k_law_opposite) [encS k a] [] g Q := by
  obtain ⟨n, rfl⟩ : ∃ m, n = m + k + 1 := ⟨n - k - 1, by omega⟩
  exact wC_of (op_ok (P := P.toPr) F_law_opposite.has k n a g ga) q
theorem stair_w [F_law_pull P] [F_law_num P] [F_law_ordinal P] [F_law_steps P] [F_law_stair P] : ∀ {k n : Nat} {g : Bag} {Q : PyData → Bag → Prop}, 7 + k ≤ n → (∀ (s : Stair k) (g : Bag), GS k s → Q (encS k s) g) → wC (P.F cells n) (P.c k_law_stair) [bag, .int (k : Int)] [] g Q
  | 0, n, g, Q, hn, q => by
    refine F_law_stair.has.w (by omega) rfl fun m hm => ?_
    unfold B_law_stair
    (mul_fits; k_ne)
    ((with_reducible refine wZ_go ?_); mul_fits; k_ne)
    refine pull_w (by omega) (by decide) (by decide) fun i g hi => ?_
    k_ne
    exact q _ g trivial
  | k + 1, n, g, Q, hn, q => by
    refine F_law_stair.has.w (by omega) rfl fun m hm => ?_
    unfold B_law_stair
    (mul_fits; k_ne)
    rw [decide_eq_false (show ¬ (((k + 1 : Nat) : Int) = 0) by omega)]
    k_ne
    ((with_reducible refine wZ_go ?_); mul_fits; k_ne)
    refine pull_w (by omega) (by decide) (by decide) fun i g hi => ?_
    k_ne
    rw [show (1 : Int) + (i : Int) = ((1 + i : Nat) : Int) by omega]
    refine steps_w (by omega) (by omega) fun l g hl hx => ?_
    k_ne
    refine ⟨by omega, ?_⟩
    rw [← List.map_cons]
    refine wL_rel (en := O.enc) (en2 := encP k) (T := fun x p => p.1 = x ∧ GS k p.2) (fun x hx g => ?_) fun ys g hy => ?_
    · k_ne
      rw [show ((k + 1 : Nat) : Int) - 1 = (k : Int) by omega]
      exact stair_w (by omega) fun s g hs => ⟨(x, s), rfl, rfl, hs⟩
    · k_ne
      refine q ys g ?_
      cases hy with
      | cons h t =>
        rename_i p ps
        obtain ⟨p1, p2⟩ := p
        obtain ⟨e, h⟩ := h
        simp only at e h
        subst e
        refine ⟨by have := t.length; simp; omega, ⟨p2, ps, rfl⟩, fun p hp => ?_⟩
        cases hp with
        | head => exact ⟨⟨trivial, Nat.zero_le _, Nat.zero_le _⟩, h⟩
        | tail _ hp =>
          obtain ⟨a, h1, h2, h3⟩ := t.mem p hp
          rw [h2]
          exact ⟨hx a h1, h3⟩
theorem begins_w [F_law_begins P] : ∀ {d r n : Nat} {g : Bag} {Q : PyData → Bag → Prop} {a : Stair (r + d + 1)}, d + 1 ≤ n → d ≤ 3 → GS (r + d + 1) a → (∀ l : List O, l.length ≤ 4 ^ (d + 1) → (∀ x ∈ l, Gd 4 66 x) → Q (.list (l.map O.enc)) g) → wC (P.F cells n) (P.c k_law_begins) [encS (r + d + 1) a, .int (d : Int)] [] g Q
  | 0, r, n, g, Q, a, hn, hd, ga, q => by
    refine F_law_begins.has.w (by omega) rfl fun m hm => ?_
    unfold B_law_begins
    (mul_fits; k_ne)
    ((with_reducible refine wZ_go ?_); mul_fits; wp_walk using encS_succ)
    have h1 := ga.1
    refine ⟨by omega, ?_⟩
    refine wL_map (f := fun p => p.1.enc) (fun x hx g => ?_) ?_
    · k_ne
    · have := q (List.map (·.1) a) (by rw [List.length_map]; exact h1) (fun x hx => by
        obtain ⟨p, hp, rfl⟩ := List.mem_map.mp hx
        exact (ga.2.2 p hp).1)
      rw [List.map_map] at this
      exact this
  | d + 1, r, n, g, Q, a, hn, hd, ga, q => by
    refine F_law_begins.has.w (by omega) rfl fun m hm => ?_
    unfold B_law_begins
    (mul_fits; k_ne)
    rw [decide_eq_false (show ¬ (((d + 1 : Nat) : Int) = 0) by omega)]
    k_ne
    ((with_reducible refine wZ_go ?_); mul_fits; k_ne)
    ((with_reducible refine wZ_go ?_); mul_fits; wp_walk using encS_succ)
    have hp : 4 ^ (d + 1) ≤ 4 ^ 4 := Nat.pow_le_pow_right (by decide) (by omega)
    have h4 : List.length (α := O × Stair (r + (d + 1))) a ≤ 4 := ga.1
    refine wT_inv (fun done ρ g' => ∃ (l : List O) (s2 : Sl) (o3 o4 : Option PyData), (s2 = .ow (l.map O.enc) ∨ s2 = .sh (.list (l.map O.enc))) ∧ l.length ≤ done.length * 4 ^ (d + 1) ∧ (∀ x ∈ l, Gd 4 66 x) ∧ g' = g ∧ ρ = [.sh (.tuple (List.map (encP (r + (d + 1))) a)), .sh (.int ((d + 1 : Nat) : Int)), s2, slot o3, slot o4]) ⟨[], .ow [], none, none, .inl rfl, by simp, (fun x hx => by cases hx), rfl, rfl⟩ ?_ ?_
    · rintro done x rest ρ g' e ⟨l, s2, o3, o4, h1, h2, h3, rfl, rfl⟩
      have hx := ga.2.2 x (by rw [e]; simp)
      have hlen : done.length + (rest.length + 1) ≤ 4 := by
        have := congrArg List.length e
        simp only [List.length_append, List.length_cons] at this
        omega
      have hm2 : done.length * 4 ^ (d + 1) ≤ 4 * 4 ^ 4 := Nat.mul_le_mul (by omega) hp
      have fin : ∀ k2 : List O, k2.length ≤ 4 ^ (d + 1) → (∀ x ∈ k2, Gd 4 66 x) → (l ++ k2).length ≤ (done ++ [x]).length * 4 ^ (d + 1) ∧ (∀ x ∈ l ++ k2, Gd 4 66 x) ∧ l.length + k2.length ≤ lim := fun k2 q1 q2 => by
        refine ⟨?_, fun y hy => ?_, by simp only [lim]; omega⟩
        · rw [List.length_append, List.length_append, List.length_singleton, Nat.succ_mul]
          omega
        · rcases List.mem_append.mp hy with hy | hy
          · exact h3 y hy
          · exact q2 y hy
      rcases h1 with rfl | rfl
      · k_ne
        (mul_fits; k_ne)
        rw [show ((d + 1 : Nat) : Int) - 1 = (d : Int) by omega]
        refine begins_w (by omega) (by omega) hx.2 fun k2 q1 q2 => ?_
        obtain ⟨f1, f2, f3⟩ := fin k2 q1 q2
        k_ne
        refine ⟨by simpa using f3, ?_⟩
        exact ⟨l ++ k2, _, some x.1.enc, some (encS _ x.2), .inr rfl, f1, f2, by simp [slot]⟩
      · k_ne
        (mul_fits; k_ne)
        rw [show ((d + 1 : Nat) : Int) - 1 = (d : Int) by omega]
        refine begins_w (by omega) (by omega) hx.2 fun k2 q1 q2 => ?_
        obtain ⟨f1, f2, f3⟩ := fin k2 q1 q2
        k_ne
        refine ⟨by simpa using f3, ?_⟩
        exact ⟨l ++ k2, _, some x.1.enc, some (encS _ x.2), .inr rfl, f1, f2, by simp [slot]⟩
    · rintro ρ g' ⟨l, s2, o3, o4, h1, h2, h3, rfl, rfl⟩
      have hm2 : List.length (α := O × Stair (r + (d + 1))) a * 4 ^ (d + 1) ≤ 4 ^ (d + 1 + 1) := by rw [Nat.pow_succ, Nat.mul_comm]; exact Nat.mul_le_mul_left _ h4
      rcases h1 with rfl | rfl
      · k_ne
        ((with_reducible refine wZ_go ?_); mul_fits; k_ne)
        exact q l (Nat.le_trans h2 hm2) h3
      · k_ne
        ((with_reducible refine wZ_go ?_); mul_fits; k_ne)
        exact q l (Nat.le_trans h2 hm2) h3
/-- a row near the begins of a stair -/
theorem near_w [F_law_pull P] [F_law_num P] [F_law_ordinal P] [F_law_sum P] [F_law_next P] [F_law_raise P] [F_law_of P] [F_law_begins P] [F_law_near P] {k : Nat} {a : Stair k} (hn : 6 ≤ n) (hk : k ≤ 3) (ga : GS k a) (q : ∀ (r : List O) (g : Bag), r.length = k → (∀ x ∈ r, Gd 7 300 x) → Q (encR r) g) : wC (P.F cells n) (P.c k_law_near) [bag, .int (k : Int), .list [encS k a]] [] g Q := by
  refine F_law_near.has.w (by omega) rfl fun m hm => ?_
  unfold B_law_near
  (mul_fits; k_ne)
  ((with_reducible refine wZ_go ?_); mul_fits; k_ne)
  refine ⟨by omega, ?_⟩
  rw [rangeD_map]
  refine wT_inv (fun done ρ g' => ∃ (l : List O) (o4 o5 o6 o7 : Option PyData), l.length = done.length ∧ (∀ x ∈ l, Gd (4 + l.length) (75 * l.length) x) ∧ ρ = [.sh bag, .sh (.int (k : Int)), .sh (.list [encS k a]), .ow (l.map O.enc), slot o4, slot o5, slot o6, slot o7]) ⟨[], none, none, none, none, rfl, (fun x hx => by cases hx), rfl⟩ ?_ ?_
  · rintro done i rest ρ g e ⟨l, o4, o5, o6, o7, h1, h2, rfl⟩
    obtain ⟨e1, e2⟩ := range_split e
    k_ne
    (mul_fits; k_ne)
    ((with_reducible refine wZ_go ?_); mul_fits; k_ne)
    refine wT_cons ?_
    k_ne
    (mul_fits; k_ne)
    obtain ⟨d, r, hd, rfl⟩ : ∃ d r, d = k - 1 - i ∧ k = r + d + 1 := ⟨k - 1 - i, k - 1 - (k - 1 - i), rfl, by omega⟩
    rw [show ((r + d + 1 : Nat) : Int) - 1 - (i : Int) = (d : Int) by omega]
    refine begins_w (by omega) (by omega) ga fun bs hb1 hb2 => ?_
    have hp : 4 ^ (d + 1) ≤ 4 ^ 4 := Nat.pow_le_pow_right (by decide) (by omega)
    k_ne
    refine ⟨by omega, ?_⟩
    rw [wT_nil]
    k_ne
    ((with_reducible refine wZ_go ?_); mul_fits; k_ne)
    have zz : PyData.tuple [] :: bs.map O.enc = (O.z :: bs).map O.enc := rfl
    refine of_wl (en := O.enc) (l := O.z :: bs) (.inr (by rw [zz])) (by omega) (by simp) (by simp only [List.length_cons, lim]; omega) fun x g hx => ?_
    have gx : Gd 4 66 x := by
      cases hx with
      | head => exact ⟨trivial, by decide, by decide⟩
      | tail _ hx => exact hb2 x hx
    have xh := gx.ht
    have xs := gx.sz
    ((with_reducible refine wZ_go ?_); mul_fits; k_ne)
    refine next_w (by omega) gx.nf (by omega) (by omega) ?_
    rw [show (1 : Int) = ((1 : Nat) : Int) from rfl]
    refine ordinal_w (by omega) (by omega) fun y g gy => ?_
    have yh := gy.ht
    have ys : y.sz ≤ 6 := gy.sz
    refine sum_w (by omega) gx.nf (by omega) (by omega) (by omega) (by omega) ?_
    k_ne
    refine pull_w (by omega) (by decide) (by decide) fun j g hj => ?_
    k_ne
    refine wO_ats (by simp; omega) fun w hw => ?_
    obtain ⟨w, rfl, gw⟩ : ∃ v : O, w = v.enc ∧ Gd 4 72 v := by
      have a1 : Gd 4 72 x := gx.mono (by omega) (by omega)
      have a2 := O.add_sz (a := x) (b := O.num 1)
      have a3 := O.num_sz 1
      have a4 := O.add_sz (a := x) (b := y)
      have a5 := O.num_ht 1
      simp only [List.mem_cons, List.not_mem_nil, or_false] at hw
      rcases hw with rfl | rfl | rfl | rfl
      · exact ⟨x, rfl, a1⟩
      · exact ⟨x, rfl, a1⟩
      · exact ⟨_, rfl, O.add_nf gx.nf (O.num_nf 1), O.add_ht (by omega) (by omega), by omega⟩
      · exact ⟨_, rfl, O.add_nf gx.nf gy.nf, O.add_ht (by omega) (by omega), by omega⟩
    have wh := gw.ht
    have ws := gw.sz
    have c1 := cl_eqR (l := l) fun o ho => by have := (h2 o ho).ht; omega
    ((with_reducible refine wZ_go ?_); mul_fits; k_ne)
    rw [c1]
    k_ne
    have done' : ∀ (v : O) (g : Bag), Gd (4 + (l.length + 1)) (75 * (l.length + 1)) v → ∃ (l' : List O) (o4 o5 o6 o7 : Option PyData), l'.length = (done ++ [i]).length ∧ (∀ x ∈ l', Gd (4 + l'.length) (75 * l'.length) x) ∧ [Sl.sh bag, .sh (.int ((r + d + 1 : Nat) : Int)), .sh (.list [encS (r + d + 1) a]), .ow ((v :: l).map O.enc), .sh (.int (i : Int)), .sh (.list ((O.z :: bs).map O.enc)), .sh (encS (r + d + 1) a), .sh w.enc] = [.sh bag, .sh (.int ((r + d + 1 : Nat) : Int)), .sh (.list [encS (r + d + 1) a]), .ow (l'.map O.enc), slot o4, slot o5, slot o6, slot o7] := fun v g gv => by
      refine ⟨v :: l, some _, some _, some _, some _, by simp; omega, fun z hz => ?_, rfl⟩
      cases hz with
      | head => exact gv
      | tail _ hz => exact (h2 z hz).mono (by simp) (by simp only [List.length_cons]; omega)
    rcases l with _ | ⟨z, l⟩
    · k_ne
      exact done' w g (gw.mono (by simp) (by simp))
    · have gz := h2 z List.mem_cons_self
      have zh := gz.ht
      have zs := gz.sz
      simp only [List.length_cons] at zh zs h1
      k_ne
      have rs := O.rsd_sz w z
      refine raise_w (by omega) gw.nf (by omega) (by omega) (by omega) (by omega) ?_
      k_ne
      refine ⟨by omega, ?_⟩
      exact done' _ g ⟨O.rsd_nf gw.nf gz.nf, O.rsd_ht (by simp only [List.length_cons]; omega) (by simp only [List.length_cons]; omega), by simp only [List.length_cons]; omega⟩
  · rintro ρ g ⟨l, o4, o5, o6, o7, h1, h2, rfl⟩
    rw [List.length_range] at h1
    k_ne
    ((with_reducible refine wZ_go ?_); mul_fits; k_ne)
    exact q l g h1 fun x hx => (h2 x hx).mono (by omega) (by omega)
end
end Rf

set_option maxHeartbeats 400000
/-! Texts, names. -/
namespace Rf
open PySem PySem.W L2 PyProof.Rows
local macro_rules | `(tactic| k_ne) => `(tactic| simp only [wZ_nil, wE_var, wE_con, wE_glo, wE_tup, wE_lst, wE_bin, wE_cmp, wE_chn, wE_neg, wE_and, wE_or, wE_not, wE_ite, wE_call, wE_bi, wE_isi, wE_ix, wE_sl, wE_lc, wA_nil, wA_cons, wA_star, wP_no, wP_so, wCd_no, wCd_so, wI_seq, wI_rng, wI_rng2, wI_enm, wE_rv, wE_jn, wSh_some, wD_list, wO_some, wB_bool, wN_int, wQ_list, wQ_tuple, wOw_some, wIf_t, wIf_f, seeF, see_slot, frz_slot, slot_some, slot_none, Rf.settle, frzF, putS, putE, wipeE, flat, flats, E.vars, Es.vars, Eo.vars, It.vars, wO_ite, bn_ai, bn_as, bn_at, bn_al, bn_si, bn_mi, bn_mt, bn_oi, bn_di, bn_pi, ix_l, ix_t, sl_l, sl_t, sl_s, it_l, it_t, it_s, ty_t, ty_l, ty_i, ty_b, ty_s, ty_n, tk_t, tk_l, tk_i, tk_b, tk_s, tk_n, Ty.ofT, Ty.ofL, Ty.ofI, Ty.ofB, Ty.ofS, bi_ll, bi_lt, bi_tl, bi_tt, bi_l1, bi_l2, bi_ii, rangeD_len, Int.toNat_natCast, noList, noLists, Ss.app, thenQ, retQ, turnQ, ats0, ats1, ci_eq, ci_ne, ci_lt, ci_le, ci_gt, ci_ge, List.map_cons, List.map_nil, List.cons_append, List.nil_append, List.append_nil, List.length_cons, List.length_nil, List.foldl_cons, List.foldl_nil, List.set_cons_succ, List.set_cons_zero, List.getElem?_cons_succ, List.getElem?_cons_zero, List.any_cons, List.any_nil, List.mem_cons, List.not_mem_nil, Option.map_some, Option.map_none, Bool.or_false, Bool.or_true, Bool.false_or, Bool.true_or, Bool.and_self, Bool.and_true, Bool.true_and, Bool.and_false, Bool.false_and, Bool.not_true, Bool.not_false, Bool.false_eq_true, Nat.reduceEqDiff, Nat.reduceAdd, Nat.reduceLT, Nat.reduceLeDiff, Nat.reduceSub, Nat.zero_add, List.replicate, or_false, or_true, false_or, true_or, if_true, if_false, ite_self, true_and, and_true, decide_true, decide_false, List.length_replicate, lim, Int.cast_ofNat_Int, arr, List.getD_cons_zero, List.getD_cons_succ, O.nls, rows_nl, List.isEmpty_nil, List.isEmpty_cons, List.length_map, Int.reduceNeg, Int.reduceLE, Int.reduceLT, Int.reduceToNat, Int.reduceAdd, Int.reduceSub, Int.reducePow, Int.reduceMul, and_self, Int.reduceEq, Int.natCast_zero, Int.natCast_one])
local macro_rules | `(tactic| wp_walk using $ts,*) => `(tactic| simp only [wZ_nil, wE_var, wE_con, wE_glo, wE_tup, wE_lst, wE_bin, wE_cmp, wE_chn, wE_neg, wE_and, wE_or, wE_not, wE_ite, wE_call, wE_bi, wE_isi, wE_ix, wE_sl, wE_lc, wA_nil, wA_cons, wA_star, wP_no, wP_so, wCd_no, wCd_so, wI_seq, wI_rng, wI_rng2, wI_enm, wE_rv, wE_jn, wSh_some, wD_list, wO_some, wB_bool, wN_int, wQ_list, wQ_tuple, wOw_some, wIf_t, wIf_f, seeF, see_slot, frz_slot, slot_some, slot_none, Rf.settle, frzF, putS, putE, wipeE, flat, flats, E.vars, Es.vars, Eo.vars, It.vars, wO_ite, bn_ai, bn_as, bn_at, bn_al, bn_si, bn_mi, bn_mt, bn_oi, bn_di, bn_pi, ix_l, ix_t, sl_l, sl_t, sl_s, it_l, it_t, it_s, ty_t, ty_l, ty_i, ty_b, ty_s, ty_n, tk_t, tk_l, tk_i, tk_b, tk_s, tk_n, Ty.ofT, Ty.ofL, Ty.ofI, Ty.ofB, Ty.ofS, bi_ll, bi_lt, bi_tl, bi_tt, bi_l1, bi_l2, bi_ii, rangeD_len, Int.toNat_natCast, noList, noLists, Ss.app, thenQ, retQ, turnQ, ats0, ats1, ci_eq, ci_ne, ci_lt, ci_le, ci_gt, ci_ge, List.map_cons, List.map_nil, List.cons_append, List.nil_append, List.append_nil, List.length_cons, List.length_nil, List.foldl_cons, List.foldl_nil, List.set_cons_succ, List.set_cons_zero, List.getElem?_cons_succ, List.getElem?_cons_zero, List.any_cons, List.any_nil, List.mem_cons, List.not_mem_nil, Option.map_some, Option.map_none, Bool.or_false, Bool.or_true, Bool.false_or, Bool.true_or, Bool.and_self, Bool.and_true, Bool.true_and, Bool.and_false, Bool.false_and, Bool.not_true, Bool.not_false, Bool.false_eq_true, Nat.reduceEqDiff, Nat.reduceAdd, Nat.reduceLT, Nat.reduceLeDiff, Nat.reduceSub, Nat.zero_add, List.replicate, or_false, or_true, false_or, true_or, if_true, if_false, ite_self, true_and, and_true, decide_true, decide_false, List.length_replicate, lim, Int.cast_ofNat_Int, arr, List.getD_cons_zero, List.getD_cons_succ, O.nls, rows_nl, List.isEmpty_nil, List.isEmpty_cons, List.length_map, Int.reduceNeg, Int.reduceLE, Int.reduceLT, Int.reduceToNat, Int.reduceAdd, Int.reduceSub, Int.reducePow, Int.reduceMul, and_self, Int.reduceEq, Int.natCast_zero, Int.natCast_one, $[$ts:term],*])
local macro_rules | `(tactic| mul_fits) => `(tactic| with_reducible (first | refine ss_set ?_ | refine ss_own ?_ | refine ss_if ?_ | refine ss_ret ?_ | refine ss_tset ?_ | refine ss_for ?_ | refine ss_app ?_ | refine ss_ins0 ?_ | refine ss_par ?_ | refine ss_brk ?_ | refine ss_cnt ?_ | refine ss_pas ?_ | refine ss_whl ?_ | refine ss_par3 ?_ | refine ss_aug ?_ | refine ss_ownl ?_))
/-- a text of so many signs at most, each a sign -/
structure Tx (n : Nat) (s : Str) : Prop where
  len : s.length ≤ n
  ok : ∀ c ∈ s.cps.toList, c < 1114112
theorem Tx.lay {n : Nat} {s : Str} (h : Tx n s) : PyData.canLay0 (.str s) = true := by
  show PyData.strOk s = true
  unfold PyData.strOk
  rw [Array.all_eq_true']
  intro c hc
  exact decide_eq_true (h.ok c (by simpa using hc))
theorem Tx.mono {n m : Nat} {s : Str} (h : Tx n s) (k : n ≤ m) : Tx m s := ⟨Nat.le_trans h.len k, h.ok⟩
theorem Tx.app {n m : Nat} {s t : Str} (h : Tx n s) (k : Tx m t) : Tx (n + m) (s ++ t) := by
  have e : (s ++ t).cps.toList = s.cps.toList ++ t.cps.toList := by
    show (s.cps ++ t.cps).toList = _
    simp
  refine ⟨?_, fun c hc => ?_⟩
  · show (s.cps ++ t.cps).size ≤ _
    have := h.len
    have := k.len
    simp only [Str.length] at *
    simp
    omega
  · rw [e] at hc
    rcases List.mem_append.mp hc with hc | hc
    · exact h.ok c hc
    · exact k.ok c hc
theorem Tx.one {c : Nat} (h : c < 1114112) : Tx 1 ⟨#[c]⟩ := ⟨by simp [Str.length], fun d hd => by simp at hd; subst hd; exact h⟩
theorem Tx.cut {n : Nat} {s : Str} (h : Tx n s) (lo hi : Option Int) : Tx n (cutS s lo hi) := by
  refine ⟨?_, fun c hc => ?_⟩
  · have := h.len
    simp only [Str.length, cutS] at *
    simp
    omega
  · simp only [cutS] at hc
    exact h.ok c (List.mem_of_mem_drop (List.mem_of_mem_take (by simpa using hc)))
def txB (n : Nat) (s : Str) : Bool := decide (s.length ≤ n) && s.cps.toList.all fun c => decide (c < 1114112)
theorem Tx.of {n : Nat} {s : Str} (h : txB n s = true) : Tx n s := by
  unfold txB at h
  rw [Bool.and_eq_true, List.all_eq_true] at h
  exact ⟨of_decide_eq_true h.1, fun c hc => of_decide_eq_true (h.2 c hc)⟩
theorem wO_ixs {n : Nat} {s : Str} {i : Nat} {Q : PyData → Prop} (hs : Tx n s) (hn : n ≤ 1000000) (h : i < s.length) (q : ∀ t, Tx 1 t → Q (.str t)) : wO (ixD (.str s) (.int (i : Int))) Q := by
  obtain ⟨c, h1, h2⟩ := ats_nat (l := s.cps.toList) (i := (i : Int)) (by omega) (by simpa [Str.length] using h)
  have hl := hs.len
  have e : ixD (.str s) (.int (i : Int)) = some (.str ⟨#[c]⟩) := by
    simp only [ixD, lim]
    rw [if_pos (by omega), h2]
    rfl
  rw [e]
  exact q _ (Tx.one (hs.ok c h1))
theorem sl_s' {n : Nat} {s : Str} (hs : Tx n s) (hn : n ≤ 1000000) (lo hi : Option Int) : slD (.str s) lo hi = some (.str (cutS s lo hi)) := by
  have := hs.len
  simp only [slD, lim]
  rw [if_pos (by omega)]
theorem bn_s' {n m : Nat} {s t : Str} (hs : Tx n s) (ht : Tx m t) (hn : n + m ≤ 1000000) : binD .add (.str s) (.str t) = some (.str (s ++ t)) := by
  have := hs.len
  have := ht.len
  simp only [binD, lim]
  rw [if_pos (by omega)]
theorem bi_ls {n : Nat} {s : Str} (hs : Tx n s) (hn : n ≤ 1000000) : biD .len (.str s) = some (.int s.length) := by
  have := hs.len
  simp only [biD, lim]
  rw [if_pos (by omega)]
theorem shp_str {n : Nat} {s : Str} (h : Tx n s) : SeqAt.shaped (.str s) = true := by
  unfold SeqAt.shaped
  rw [h.lay]
  rfl
theorem fold_tx {sep : Str} {m k : Nat} (hs : Tx m sep) : ∀ (l : List Str) (acc : Array Nat) (n : Nat), (∀ y ∈ l, Tx k y) → acc.size ≤ n → (∀ c ∈ acc.toList, c < 1114112) → Tx (n + l.length * (m + k)) ⟨l.foldl (fun acc p => acc ++ sep.cps ++ p.cps) acc⟩
  | [], acc, n, _, h1, h2 => ⟨by simpa [Str.length] using h1, h2⟩
  | y :: l, acc, n, hy, h1, h2 => by
    have gy := hy y List.mem_cons_self
    have l1 := hs.len
    have l2 := gy.len
    have := fold_tx hs l (acc ++ sep.cps ++ y.cps) (n + (m + k)) (fun z hz => hy z (List.mem_cons_of_mem _ hz)) (by simp only [Str.length] at l1 l2; simp; omega) (fun c hc => by
      simp only [Array.toList_append, List.mem_append] at hc
      rcases hc with (hc | hc) | hc
      · exact h2 c hc
      · exact hs.ok c hc
      · exact gy.ok c hc)
    rw [List.foldl_cons]
    refine this.mono ?_
    rw [List.length_cons, Nat.succ_mul]
    omega
theorem Tx.join {sep : Str} {m k : Nat} (hs : Tx m sep) {l : List Str} (h : ∀ y ∈ l, Tx k y) : Tx (l.length * (m + k) + k) (Txt.join sep l) := by
  cases l with
  | nil => exact ⟨Nat.zero_le _, fun c hc => by simp [Txt.join, Builtin.Str.glued, Str.empty] at hc⟩
  | cons y l =>
    have gy := h y List.mem_cons_self
    have := fold_tx hs l y.cps k (fun z hz => h z (List.mem_cons_of_mem _ hz)) gy.len gy.ok
    refine this.mono ?_
    rw [List.length_cons, Nat.succ_mul]
    omega
theorem strsOf_map : ∀ l : List Str, strsOf (l.map .str) = some l
  | [] => rfl
  | i :: l => by rw [List.map_cons, strsOf, strsOf_map l]; rfl
/-! ### names -/
abbrev g_WORDS : Nat := 0
class G_WORDS (P : Pc) : Prop where
  has : P.gl (P.gc g_WORDS) = some (.tuple [(.str (Str.ofString "true")), (.str (Str.ofString "false")), (.str (Str.ofString "not")), (.str (Str.ofString "and")), (.str (Str.ofString "or")), (.str (Str.ofString "then")), (.str (Str.ofString "shown"))])

abbrev g_LETTERS : Nat := 1
class G_LETTERS (P : Pc) : Prop where
  has : P.gl (P.gc g_LETTERS) = some (.str (Str.ofString "abcdefghijklmnopqrstuvwxyz"))

abbrev g_LONGEST_NAME : Nat := 2
class G_LONGEST_NAME (P : Pc) : Prop where
  has : P.gl (P.gc g_LONGEST_NAME) = some (.int 6)

def B_is_name (c gc : Nat → Nat) : Ss := (.cons (.ret (.and (.chn .le .le (.con (.int 1)) (.bi .len (.var 0)) (.glo (gc 2))) (.and (.bi .all (.lc (.n 1) [1] (.seq (.var 0)) .no (.cmp .mem (.var 1) (.glo (gc 1))))) (.cmp .nmem (.var 0) (.glo (gc 0)))))) .nil)
abbrev k_is_name : Nat := 20
class F_is_name (P : Pc) : Prop where
  has : Has P.toPr (P.c k_is_name) [.p 0] 1 2 (B_is_name P.c P.gc)

def B_law_is_name (c gc : Nat → Nat) : Ss := (.cons (.ifs (.cmp .mem (.var 0) (.tup (.cons (.con (.str (Str.ofString "true"))) (.cons (.con (.str (Str.ofString "false"))) (.cons (.con (.str (Str.ofString "not"))) (.cons (.con (.str (Str.ofString "and"))) (.cons (.con (.str (Str.ofString "or"))) (.cons (.con (.str (Str.ofString "then"))) (.cons (.con (.str (Str.ofString "shown"))) .nil))))))))) (.cons (.ret (.con (.bool false))) .nil) .nil) (.cons (.ret (.and (.chn .le .le (.con (.int 1)) (.bi .len (.var 0)) (.con (.int 6))) (.bi .all (.lc (.n 1) [1] (.seq (.var 0)) .no (.cmp .mem (.var 1) (.con (.str (Str.ofString "abcdefghijklmnopqrstuvwxyz")))))))) .nil))
abbrev k_law_is_name : Nat := 21
class F_law_is_name (P : Pc) : Prop where
  has : Has P.toPr (P.c k_law_is_name) [.p 0] 1 2 (B_law_is_name P.c P.gc)

def lettersL : List Nat := (Str.ofString "abcdefghijklmnopqrstuvwxyz").cps.toList
def wordsL : List Str := [Str.ofString "true", Str.ofString "false", Str.ofString "not", Str.ofString "and", Str.ofString "or", Str.ofString "then", Str.ofString "shown"]
/-- whether a text is a name -/
def nmB (s : Str) : Bool := (decide (1 ≤ s.length) && decide (s.length ≤ 6)) && (s.cps.toList.all fun c => decide (c ∈ lettersL)) && !wordsL.any fun w => decide (w = s)
theorem cs_mem1 (c : Nat) (s : Str) : cmpD .mem (.str ⟨#[c]⟩) (.str s) = some (decide (c ∈ s.cps.toList)) := rfl
theorem words_any (s : Str) : ((wordsL.map PyData.str).any fun z => PyData.eqv z (.str s)) = wordsL.any fun w => decide (w = s) := by
  rw [List.any_map]
  congr 1
theorem words_shp : SeqAt.shaped (.list (wordsL.map PyData.str)) = true := by decide +kernel
theorem cs_nmem {n : Nat} {s : Str} (h : Tx n s) : cmpD .nmem (.str s) (.tuple (wordsL.map .str)) = some (!wordsL.any fun w => decide (w = s)) := by
  have e : (wordsL.map PyData.str).all scalar = true := by decide +kernel
  simp only [cmpD, scalar, e, shp_str h, words_shp, Bool.and_self, if_true, words_any]
theorem cs_wmem {n : Nat} {s : Str} (h : Tx n s) : cmpD .mem (.str s) (.tuple (wordsL.map .str)) = some (wordsL.any fun w => decide (w = s)) := by
  have e : (wordsL.map PyData.str).all scalar = true := by decide +kernel
  simp only [cmpD, scalar, e, shp_str h, words_shp, Bool.and_self, if_true, words_any]
section
variable {P : Pc} {cells : List Int} {n : Nat} {g : Bag} {Q : PyData → Bag → Prop}
theorem is_name_w [F_is_name P] [G_WORDS P] [G_LETTERS P] [G_LONGEST_NAME P] {m : Nat} {s : Str} (hs : Tx m s) (hm : m ≤ 1000000) (hn : 1 ≤ n) (q : Q (.bool (nmB s)) g) : wC (P.F cells n) (P.c k_is_name) [.str s] [] g Q := by
  refine F_is_name.has.w (by omega) rfl fun m hm => ?_
  unfold B_is_name
  (mul_fits; wp_walk using G_WORDS.has, G_LETTERS.has, G_LONGEST_NAME.has)
  have hl := hs.len
  have e1 : biD .len (.str s) = some (.int s.length) := by simp only [biD, lim]; rw [if_pos (by omega)]
  have hl2 : s.cps.toList.length ≤ 16777216 := by
    simp only [Str.length] at hl
    simp
    omega
  wp_walk using e1
  refine wIf_c (fun c1 => ?_) fun c1 => ?_
  · have c1 := of_decide_eq_true c1
    refine wIf_c (fun c2 => ?_) fun c2 => ?_
    · have c2 := of_decide_eq_true c2
      refine ⟨hl2, wL_map (f := fun c => .bool (decide (c ∈ lettersL))) (fun c hc g => ?_) ?_⟩
      · wp_walk using G_LETTERS.has, cs_mem1
        rfl
      · rw [List.nil_append, boolsOf_iff (bs := s.cps.toList.map fun c => decide (c ∈ lettersL)) (by rw [List.map_map]; rfl)]
        k_ne
        have e2 : nmB s = ((s.cps.toList.all fun c => decide (c ∈ lettersL)) && !wordsL.any fun w => decide (w = s)) := by
          unfold nmB
          rw [decide_eq_true (show 1 ≤ s.length by omega), decide_eq_true (show s.length ≤ 6 by omega)]
          rfl
        rw [e2] at q
        have e3 : ((s.cps.toList.map fun c => decide (c ∈ lettersL)).all id) = s.cps.toList.all fun c => decide (c ∈ lettersL) := by rw [List.all_map]; rfl
        rw [e3]
        refine wIf_c (fun c3 => ?_) fun c3 => ?_
        · rw [c3, Bool.true_and] at q
          exact wO_iff.mpr ⟨_, cs_nmem hs, q⟩
        · rw [c3, Bool.false_and] at q
          exact q
    · have : nmB s = false := by
        have c2 := of_decide_eq_false c2
        unfold nmB
        rw [decide_eq_false (show ¬ s.length ≤ 6 by omega)]
        simp
      rw [this] at q
      exact q
  · have : nmB s = false := by
      have c1 := of_decide_eq_false c1
      unfold nmB
      rw [decide_eq_false (show ¬ 1 ≤ s.length by omega)]
      simp
    rw [this] at q
    exact q
theorem law_is_name_w [F_law_is_name P] {m : Nat} {s : Str} (hs : Tx m s) (hm : m ≤ 1000000) (hn : 1 ≤ n) (q : Q (.bool (nmB s)) g) : wC (P.F cells n) (P.c k_law_is_name) [.str s] [] g Q := by
  refine F_law_is_name.has.w (by omega) rfl fun m hm => ?_
  unfold B_law_is_name
  (mul_fits; k_ne)
  refine wO_iff.mpr ⟨_, cs_wmem hs, ?_⟩
  refine wIf_c (fun c0 => ?_) fun c0 => ?_
  · ((with_reducible refine wZ_go ?_); mul_fits; k_ne)
    have : nmB s = false := by
      unfold nmB
      rw [c0]
      simp
    rw [this] at q
    exact q
  have hl := hs.len
  have e1 : biD .len (.str s) = some (.int s.length) := by simp only [biD, lim]; rw [if_pos (by omega)]
  have hl2 : s.cps.toList.length ≤ 16777216 := by
    simp only [Str.length] at hl
    simp
    omega
  ((with_reducible refine wZ_go ?_); mul_fits; wp_walk using e1)
  refine wIf_c (fun c1 => ?_) fun c1 => ?_
  · have c1 := of_decide_eq_true c1
    refine wIf_c (fun c2 => ?_) fun c2 => ?_
    · have c2 := of_decide_eq_true c2
      refine ⟨hl2, wL_map (f := fun c => .bool (decide (c ∈ lettersL))) (fun c hc g => ?_) ?_⟩
      · wp_walk using cs_mem1
        rfl
      · rw [List.nil_append, boolsOf_iff (bs := s.cps.toList.map fun c => decide (c ∈ lettersL)) (by rw [List.map_map]; rfl)]
        k_ne
        have e2 : nmB s = s.cps.toList.all fun c => decide (c ∈ lettersL) := by
          unfold nmB
          rw [decide_eq_true (show 1 ≤ s.length by omega), decide_eq_true (show s.length ≤ 6 by omega), c0]
          simp
        have e3 : ((s.cps.toList.map fun c => decide (c ∈ lettersL)).all id) = s.cps.toList.all fun c => decide (c ∈ lettersL) := by rw [List.all_map]; rfl
        rw [e3, ← e2]
        exact q
    · have : nmB s = false := by
        have c2 := of_decide_eq_false c2
        unfold nmB
        rw [decide_eq_false (show ¬ s.length ≤ 6 by omega)]
        simp
      rw [this] at q
      exact q
  · have : nmB s = false := by
      have c1 := of_decide_eq_false c1
      unfold nmB
      rw [decide_eq_false (show ¬ 1 ≤ s.length by omega)]
      simp
    rw [this] at q
    exact q
end
end Rf

set_option maxHeartbeats 400000
/-! The program's ordinals, by name. -/
namespace Rf
open PySem PySem.W L2 PyProof.Rows
local macro_rules | `(tactic| k_ne) => `(tactic| simp only [wZ_nil, wE_var, wE_con, wE_glo, wE_tup, wE_lst, wE_bin, wE_cmp, wE_chn, wE_neg, wE_and, wE_or, wE_not, wE_ite, wE_call, wE_bi, wE_isi, wE_ix, wE_sl, wE_lc, wA_nil, wA_cons, wA_star, wP_no, wP_so, wCd_no, wCd_so, wI_seq, wI_rng, wI_rng2, wI_enm, wE_rv, wE_jn, wSh_some, wD_list, wO_some, wB_bool, wN_int, wQ_list, wQ_tuple, wOw_some, wIf_t, wIf_f, seeF, see_slot, frz_slot, slot_some, slot_none, Rf.settle, frzF, putS, putE, wipeE, flat, flats, E.vars, Es.vars, Eo.vars, It.vars, wO_ite, bn_ai, bn_as, bn_at, bn_al, bn_si, bn_mi, bn_mt, bn_oi, bn_di, bn_pi, ix_l, ix_t, sl_l, sl_t, sl_s, it_l, it_t, it_s, ty_t, ty_l, ty_i, ty_b, ty_s, ty_n, tk_t, tk_l, tk_i, tk_b, tk_s, tk_n, Ty.ofT, Ty.ofL, Ty.ofI, Ty.ofB, Ty.ofS, bi_ll, bi_lt, bi_tl, bi_tt, bi_l1, bi_l2, bi_ii, rangeD_len, Int.toNat_natCast, noList, noLists, Ss.app, thenQ, retQ, turnQ, ats0, ats1, ci_eq, ci_ne, ci_lt, ci_le, ci_gt, ci_ge, List.map_cons, List.map_nil, List.cons_append, List.nil_append, List.append_nil, List.length_cons, List.length_nil, List.foldl_cons, List.foldl_nil, List.set_cons_succ, List.set_cons_zero, List.getElem?_cons_succ, List.getElem?_cons_zero, List.any_cons, List.any_nil, List.mem_cons, List.not_mem_nil, Option.map_some, Option.map_none, Bool.or_false, Bool.or_true, Bool.false_or, Bool.true_or, Bool.and_self, Bool.and_true, Bool.true_and, Bool.and_false, Bool.false_and, Bool.not_true, Bool.not_false, Bool.false_eq_true, Nat.reduceEqDiff, Nat.reduceAdd, Nat.reduceLT, Nat.reduceLeDiff, Nat.reduceSub, Nat.zero_add, List.replicate, or_false, or_true, false_or, true_or, if_true, if_false, ite_self, true_and, and_true, decide_true, decide_false, List.length_replicate, lim, Int.cast_ofNat_Int, arr, List.getD_cons_zero, List.getD_cons_succ, O.nls, rows_nl, List.isEmpty_nil, List.isEmpty_cons, List.length_map, Int.reduceNeg, Int.reduceLE, Int.reduceLT, Int.reduceToNat, Int.reduceAdd, Int.reduceSub, Int.reducePow, Int.reduceMul, and_self, Int.reduceEq, Int.natCast_zero, Int.natCast_one])
local macro_rules | `(tactic| wp_walk using $ts,*) => `(tactic| simp only [wZ_nil, wE_var, wE_con, wE_glo, wE_tup, wE_lst, wE_bin, wE_cmp, wE_chn, wE_neg, wE_and, wE_or, wE_not, wE_ite, wE_call, wE_bi, wE_isi, wE_ix, wE_sl, wE_lc, wA_nil, wA_cons, wA_star, wP_no, wP_so, wCd_no, wCd_so, wI_seq, wI_rng, wI_rng2, wI_enm, wE_rv, wE_jn, wSh_some, wD_list, wO_some, wB_bool, wN_int, wQ_list, wQ_tuple, wOw_some, wIf_t, wIf_f, seeF, see_slot, frz_slot, slot_some, slot_none, Rf.settle, frzF, putS, putE, wipeE, flat, flats, E.vars, Es.vars, Eo.vars, It.vars, wO_ite, bn_ai, bn_as, bn_at, bn_al, bn_si, bn_mi, bn_mt, bn_oi, bn_di, bn_pi, ix_l, ix_t, sl_l, sl_t, sl_s, it_l, it_t, it_s, ty_t, ty_l, ty_i, ty_b, ty_s, ty_n, tk_t, tk_l, tk_i, tk_b, tk_s, tk_n, Ty.ofT, Ty.ofL, Ty.ofI, Ty.ofB, Ty.ofS, bi_ll, bi_lt, bi_tl, bi_tt, bi_l1, bi_l2, bi_ii, rangeD_len, Int.toNat_natCast, noList, noLists, Ss.app, thenQ, retQ, turnQ, ats0, ats1, ci_eq, ci_ne, ci_lt, ci_le, ci_gt, ci_ge, List.map_cons, List.map_nil, List.cons_append, List.nil_append, List.append_nil, List.length_cons, List.length_nil, List.foldl_cons, List.foldl_nil, List.set_cons_succ, List.set_cons_zero, List.getElem?_cons_succ, List.getElem?_cons_zero, List.any_cons, List.any_nil, List.mem_cons, List.not_mem_nil, Option.map_some, Option.map_none, Bool.or_false, Bool.or_true, Bool.false_or, Bool.true_or, Bool.and_self, Bool.and_true, Bool.true_and, Bool.and_false, Bool.false_and, Bool.not_true, Bool.not_false, Bool.false_eq_true, Nat.reduceEqDiff, Nat.reduceAdd, Nat.reduceLT, Nat.reduceLeDiff, Nat.reduceSub, Nat.zero_add, List.replicate, or_false, or_true, false_or, true_or, if_true, if_false, ite_self, true_and, and_true, decide_true, decide_false, List.length_replicate, lim, Int.cast_ofNat_Int, arr, List.getD_cons_zero, List.getD_cons_succ, O.nls, rows_nl, List.isEmpty_nil, List.isEmpty_cons, List.length_map, Int.reduceNeg, Int.reduceLE, Int.reduceLT, Int.reduceToNat, Int.reduceAdd, Int.reduceSub, Int.reducePow, Int.reduceMul, and_self, Int.reduceEq, Int.natCast_zero, Int.natCast_one, $[$ts:term],*])
local macro_rules | `(tactic| mul_fits) => `(tactic| with_reducible (first | refine ss_set ?_ | refine ss_own ?_ | refine ss_if ?_ | refine ss_ret ?_ | refine ss_tset ?_ | refine ss_for ?_ | refine ss_app ?_ | refine ss_ins0 ?_ | refine ss_par ?_ | refine ss_brk ?_ | refine ss_cnt ?_ | refine ss_pas ?_ | refine ss_whl ?_ | refine ss_par3 ?_ | refine ss_aug ?_ | refine ss_ownl ?_))
abbrev g_ZERO : Nat := 3
class G_ZERO (P : Pc) : Prop where
  has : P.gl (P.gc g_ZERO) = some (.tuple [])

abbrev g_ONE : Nat := 4
class G_ONE (P : Pc) : Prop where
  has : P.gl (P.gc g_ONE) = some (.tuple [(.tuple [(.tuple []), (.int 1)])])

def B_plus (c gc : Nat → Nat) : Ss := (.cons (.ifs (.cmp .eq (.var 1) (.glo (gc 3))) (.cons (.ret (.var 0)) .nil) .nil) (.cons (.tset (.t (.cons (.n 4) (.cons (.n 5) .nil))) (.ix (.var 1) (.con (.int 0)))) (.cons (.set 2 (.lc (.n 6) [6] (.seq (.var 0)) (.so (.cmp .gt (.ix (.var 6) (.con (.int 0))) (.var 4))) (.var 6))) (.cons (.set 3 (.lc (.n 6) [6] (.seq (.var 0)) (.so (.cmp .eq (.ix (.var 6) (.con (.int 0))) (.var 4))) (.ix (.var 6) (.con (.int 1))))) (.cons (.ret (.tup (.star (.var 2) (.cons (.tup (.cons (.var 4) (.cons (.bin .add (.var 5) (.bi .sum (.var 3))) .nil))) (.star (.sl (.var 1) (.so (.con (.int 1))) .no) .nil))))) .nil)))))
abbrev k_plus : Nat := 22
class F_plus (P : Pc) : Prop where
  has : Has P.toPr (P.c k_plus) [.p 0, .p 1] 2 7 (B_plus P.c P.gc)

def B_successor (c gc : Nat → Nat) : Ss := (.cons (.ret (.call (c 22) (.cons (.var 0) (.cons (.glo (gc 4)) .nil)) .nil)) .nil)
abbrev k_successor : Nat := 23
class F_successor (P : Pc) : Prop where
  has : Has P.toPr (P.c k_successor) [.p 0] 1 1 (B_successor P.c P.gc)

def B_end_of (c gc : Nat → Nat) : Ss := (.cons (.ret (.ite (.cmp .ne (.var 0) (.glo (gc 3))) (.ix (.ix (.var 0) (.neg (.con (.int 1)))) (.con (.int 0))) (.glo (gc 3)))) .nil)
abbrev k_end_of : Nat := 24
class F_end_of (P : Pc) : Prop where
  has : Has P.toPr (P.c k_end_of) [.p 0] 1 1 (B_end_of P.c P.gc)

def B_omega_power (c gc : Nat → Nat) : Ss := (.cons (.ret (.ite (.cmp .gt (.var 1) (.con (.int 0))) (.tup (.cons (.tup (.cons (.var 0) (.cons (.var 1) .nil))) .nil)) (.glo (gc 3)))) .nil)
abbrev k_omega_power_1 : Nat := 25
class F_omega_power_1 (P : Pc) : Prop where
  has : Has P.toPr (P.c k_omega_power_1) [.p 0, .c (.int 1)] 2 2 (B_omega_power P.c P.gc)

abbrev k_omega_power_0_times_exponent : Nat := 37
class F_omega_power_0_times_exponent (P : Pc) : Prop where
  has : Has P.toPr (P.c k_omega_power_0_times_exponent) [.k 1, .k 0] 2 2 (B_omega_power P.c P.gc)

def B_raised (c gc : Nat → Nat) : Ss := (.cons (.ifs (.cmp .eq (.var 1) (.glo (gc 3))) (.cons (.ret (.var 0)) .nil) .nil) (.cons (.set 2 (.bi .tuple (.lc (.n 3) [3] (.seq (.var 0)) (.so (.cmp .ge (.ix (.var 3) (.con (.int 0))) (.var 1))) (.var 3)))) (.cons (.ifs (.and (.cmp .eq (.var 2) (.var 0)) (.cmp .ne (.var 0) (.glo (gc 3)))) (.cons (.ret (.var 0)) .nil) .nil) (.cons (.ret (.call (c 22) (.cons (.var 2) (.cons (.call (c 25) (.cons (.var 1) .nil) .nil) .nil)) .nil)) .nil))))
abbrev k_raised : Nat := 26
class F_raised (P : Pc) : Prop where
  has : Has P.toPr (P.c k_raised) [.p 0, .p 1] 2 4 (B_raised P.c P.gc)

abbrev k_raised_0_end_ordinal : Nat := 27
class F_raised_0_end_ordinal (P : Pc) : Prop where
  has : Has P.toPr (P.c k_raised_0_end_ordinal) [.k 1, .k 0] 2 4 (B_raised P.c P.gc)

def B_shorter_ones (c gc : Nat → Nat) : Ss := (.cons (.ownl 1 (.lc (.n 2) [2] (.rng2 (.con (.int 1)) (.bi .len (.var 0))) .no (.sl (.var 0) .no (.so (.var 2))))) (.cons (.ifs (.and (.cmp .ne (.var 0) (.glo (gc 3))) (.cmp .gt (.ix (.ix (.var 0) (.neg (.con (.int 1)))) (.con (.int 1))) (.con (.int 1)))) (.cons (.app 1 (.tup (.star (.sl (.var 0) .no (.so (.neg (.con (.int 1))))) (.cons (.tup (.cons (.ix (.ix (.var 0) (.neg (.con (.int 1)))) (.con (.int 0))) (.cons (.bin .sub (.ix (.ix (.var 0) (.neg (.con (.int 1)))) (.con (.int 1))) (.con (.int 1))) .nil))) .nil)))) .nil) .nil) (.cons (.ret (.var 1)) .nil)))
abbrev k_shorter_ones : Nat := 28
class F_shorter_ones (P : Pc) : Prop where
  has : Has P.toPr (P.c k_shorter_ones) [.p 0] 1 3 (B_shorter_ones P.c P.gc)

def B_end_limit (c gc : Nat → Nat) : Ss := (.cons (.for_ (.n 2) (.seq (.call (c 28) (.cons (.var 1) .nil) .nil)) (.cons (.ifs (.cmp .ge (.var 2) (.var 0)) (.cons (.ret (.call (c 23) (.cons (.call (c 24) (.cons (.var 2) .nil) .nil) .nil) .nil)) .nil) .nil) .nil)) (.cons (.set 3 (.call (c 24) (.cons (.var 1) .nil) .nil)) (.cons (.ret (.ite (.cmp .ne (.var 3) (.glo (gc 3))) (.var 3) (.glo (gc 4)))) .nil)))
abbrev k_end_limit : Nat := 29
class F_end_limit (P : Pc) : Prop where
  has : Has P.toPr (P.c k_end_limit) [.p 0, .p 1] 2 4 (B_end_limit P.c P.gc)

abbrev k_end_limit_0_behind_low : Nat := 30
class F_end_limit_0_behind_low (P : Pc) : Prop where
  has : Has P.toPr (P.c k_end_limit_0_behind_low) [.k 1, .k 0] 2 4 (B_end_limit P.c P.gc)

def B_law_end (c gc : Nat → Nat) : Ss := (.cons (.ret (.ite (.cmp .ne (.var 0) (.tup .nil)) (.ix (.ix (.var 0) (.neg (.con (.int 1)))) (.con (.int 0))) (.tup .nil))) .nil)
abbrev k_law_end : Nat := 31
class F_law_end (P : Pc) : Prop where
  has : Has P.toPr (P.c k_law_end) [.p 0] 1 1 (B_law_end P.c P.gc)

def B_law_cap (c gc : Nat → Nat) : Ss := (.cons (.set 2 (.bin .add (.bin .add (.lst (.cons (.call (c 2) (.cons (.con (.int 1)) .nil) .nil) .nil)) (.lc (.n 3) [3] (.seq (.var 1)) .no (.ix (.var 3) (.con (.int 0))))) (.lc (.n 3) [3] (.seq (.var 1)) .no (.call (c 5) (.cons (.ix (.var 3) (.con (.int 0))) .nil) .nil)))) (.cons (.ret (.bi .min (.lc (.n 4) [4] (.seq (.var 2)) (.so (.and (.cmp .ne (.var 4) (.tup .nil)) (.cmp .ge (.call (c 6) (.cons (.var 0) (.cons (.var 4) .nil)) .nil) (.var 1)))) (.var 4)))) .nil))
abbrev k_law_cap : Nat := 32
class F_law_cap (P : Pc) : Prop where
  has : Has P.toPr (P.c k_law_cap) [.p 0, .p 1] 2 5 (B_law_cap P.c P.gc)

/-- the shorter ones -/
def O.shs : O → List O
  | .z => []
  | .t e c .z => if 1 < c then [.t e (c - 1) .z] else []
  | .t e c (.t e2 c2 r2) => .t e c .z :: (O.shs (.t e2 c2 r2)).map (.t e c ·)
def O.pre (a : O) : List O := (List.range (a.ts.length - 1)).map fun i => O.mk (a.ts.take (i + 1))
theorem O.pre_t {e : O} {c : Int} {e2 : O} {c2 : Int} {r2 : O} : O.pre (.t e c (.t e2 c2 r2)) = .t e c .z :: (O.pre (.t e2 c2 r2)).map (.t e c ·) := by
  unfold O.pre
  have : (O.t e c (.t e2 c2 r2)).ts.length - 1 = ((O.t e2 c2 r2).ts.length - 1) + 1 := by simp [O.ts]
  rw [this, List.range_succ_eq_map, List.map_cons, List.map_map, List.map_map]
  rfl
/-- the terms without one of the last -/
def O.less (a : O) : List O := match a.ts.getLast? with
  | some p => if 1 < p.2 then [O.mk (a.ts.dropLast ++ [(p.1, p.2 - 1)])] else []
  | none => []
theorem O.shs_eq : ∀ a : O, a.shs = a.pre ++ a.less
  | .z => rfl
  | .t e c .z => by
    simp only [O.shs, O.pre, O.less, O.ts]
    rfl
  | .t e c (.t e2 c2 r2) => by
    rw [O.shs, O.pre_t, O.shs_eq (.t e2 c2 r2), List.map_append, List.cons_append]
    congr 2
    unfold O.less
    simp only [O.ts]
    rw [List.getLast?_cons_cons]
    cases h : ((e2, c2) :: r2.ts).getLast? with
    | none => rfl
    | some p =>
      simp only
      by_cases q : 1 < p.2
      · simp only [q, if_true, List.map_cons, List.map_nil, List.dropLast_cons_cons]
        rfl
      · simp only [q, if_false, List.map_nil]
theorem O.shs_nz : ∀ (a : O), ∀ x ∈ a.shs, x ≠ .z
  | .z, x, h => by cases h
  | .t e c .z, x, h => by
    rw [O.shs] at h
    split at h
    · rw [List.mem_singleton] at h
      subst h
      exact fun q => by cases q
    · cases h
  | .t e c (.t e2 c2 r2), x, h => by
    rw [O.shs] at h
    rcases List.mem_cons.mp h with h | h
    · subst h
      exact fun q => by cases q
    · obtain ⟨y, _, rfl⟩ := List.mem_map.mp h
      exact fun q => by cases q
theorem O.el_find : ∀ {high low : O}, O.lt low high = true → O.el low high = match high.shs.find? (fun x => !O.lt x low) with | some x => O.suc x.last | none => if high.last = .z then O.num 1 else high.last
  | .z, low, h => by rw [O.lt_z] at h; cases h
  | .t e c .z, low, h => by
    rw [O.el, O.shs]
    by_cases q : 1 < c
    · rw [if_pos q]
      cases w : O.lt (.t e (c - 1) .z) low with
      | false => simp [q, w, O.last_1]
      | true =>
        simp [w, O.last_1]
        try rfl
    · rw [if_neg q]
      simp [q, O.last_1]
      try rfl
  | .t e c (.t e2 c2 r2), low, h => by
    rw [O.el, O.shs]
    cases w : O.lt (.t e c .z) low with
    | false => simp [w, O.last_1]
    | true =>
      obtain ⟨s, rfl, hs, hsr⟩ := O.low_shape w h
      have ih := O.el_find hsr
      rw [if_neg (by simp)]
      rw [show (O.t e c s).tl = s from rfl, ih, List.find?_cons, w]
      simp only [Bool.not_true]
      rw [List.find?_map]
      have e1 : ((fun x => !O.lt x (.t e c s)) ∘ fun x => O.t e c x) = fun x => !O.lt x s := by
        funext x
        simp only [Function.comp, O.lt_same]
      rw [e1]
      cases f : (O.shs (.t e2 c2 r2)).find? (fun x => !O.lt x s) with
      | none =>
        simp only [Option.map_none]
        rw [O.last_t (e := e) (c := c) (r := .t e2 c2 r2) (by intro q; cases q)]
      | some x =>
        simp only [Option.map_some]
        rw [O.last_t (O.shs_nz _ x (List.mem_of_find?_eq_some f))]
theorem O.shs_ht {k : Nat} : ∀ {a : O}, a.ht ≤ k → ∀ x ∈ a.shs, x.ht ≤ k
  | .z, _, x, h => by cases h
  | .t e c .z, hk, x, h => by
    rw [O.shs] at h
    split at h
    · rw [List.mem_singleton] at h
      subst h
      simpa [O.ht] using hk
    · cases h
  | .t e c (.t e2 c2 r2), hk, x, h => by
    rw [O.shs] at h
    have h1 : e.ht + 1 ≤ k := by simp only [O.ht] at hk; omega
    have h2 : (O.t e2 c2 r2).ht ≤ k := by simp only [O.ht] at hk ⊢; omega
    rcases List.mem_cons.mp h with h | h
    · subst h
      simp only [O.ht]
      omega
    · obtain ⟨y, hy, rfl⟩ := List.mem_map.mp h
      have := O.shs_ht h2 y hy
      simp only [O.ht]
      omega
theorem O.last_ht : ∀ {a : O} {k : Nat}, a.ht ≤ k → a.last.ht ≤ k
  | .z, k, _ => Nat.zero_le _
  | .t e c .z, k, h => by rw [O.last_1]; simp only [O.ht] at h; omega
  | .t e c (.t e2 c2 r2), k, h => by
    rw [O.last_t (by intro q; cases q)]
    exact O.last_ht (by simp only [O.ht] at h ⊢; omega)
theorem O.last_sz : ∀ {a : O} {k : Nat}, a.sz ≤ k → a.last.sz ≤ k
  | .z, k, _ => Nat.zero_le _
  | .t e c .z, k, h => by rw [O.last_1]; simp only [O.sz] at h; omega
  | .t e c (.t e2 c2 r2), k, h => by
    rw [O.last_t (by intro q; cases q)]
    exact O.last_sz (by simp only [O.sz] at h ⊢; omega)
theorem O.shs_sz {k : Nat} : ∀ {a : O}, a.sz ≤ k → ∀ x ∈ a.shs, x.sz ≤ k
  | .z, _, x, h => by cases h
  | .t e c .z, hk, x, h => by
    rw [O.shs] at h
    split at h
    · rw [List.mem_singleton] at h
      subst h
      simpa [O.sz] using hk
    · cases h
  | .t e c (.t e2 c2 r2), hk, x, h => by
    rw [O.shs] at h
    rcases List.mem_cons.mp h with h | h
    · subst h
      simp only [O.sz] at hk ⊢
      omega
    · obtain ⟨y, hy, rfl⟩ := List.mem_map.mp h
      have := O.shs_sz (k := (O.t e2 c2 r2).sz) (Nat.le_refl _) y hy
      simp only [O.sz] at hk this ⊢
      omega
theorem O.shs_len : ∀ a : O, a.shs.length ≤ a.sz
  | .z => Nat.le_refl _
  | .t e c .z => by
    rw [O.shs]
    split <;> simp [O.sz]
  | .t e c (.t e2 c2 r2) => by
    have := O.shs_len (.t e2 c2 r2)
    simp only [O.shs, List.length_cons, List.length_map, O.sz] at *
    omega
/-! ### the least of some -/
theorem best_le (bt : Nat → Nat → Bool) : ∀ k, argBest bt k ≤ k
  | 0 => Nat.le_refl _
  | k + 1 => by
    rw [argBest]
    have := best_le bt k
    split <;> omega
theorem best_min (f : Nat → O) : ∀ (k j : Nat), j ≤ k → O.lt (f j) (f (argBest (fun i j => O.lt (f i) (f j)) k)) = false
  | 0, j, h => by
    have : j = 0 := by omega
    subst this
    exact O.lt_irr _
  | k + 1, j, h => by
    rw [argBest]
    by_cases q : j = k + 1
    · subst q
      split
      · exact O.lt_irr _
      · rename_i w
        simpa using w
    · have ih := best_min f k j (by omega)
      split
      · rename_i w
        exact O.lt_asy (O.lt_le w ih)
      · exact ih
theorem best_congr {bt bt' : Nat → Nat → Bool} : ∀ k, (∀ i j, i ≤ k → j ≤ k → bt i j = bt' i j) → argBest bt k = argBest bt' k
  | 0, _ => rfl
  | k + 1, h => by
    rw [argBest, argBest, best_congr k fun i j hi hj => h i j (by omega) (by omega), h (k + 1) _ (by omega) (Nat.le_trans (best_le bt' k) (by omega))]
theorem min_enc {l : List O} (h0 : l ≠ []) (hh : ∀ x ∈ l, x.ht ≤ 31) : ∃ x ∈ l, (∀ y ∈ l, O.lt y x = false) ∧ biD .min (.list (l.map O.enc)) = some x.enc := by
  have hl : 0 < l.length := List.length_pos_iff.mpr h0
  have ok : minOk (l.map O.enc) = true := by
    unfold minOk
    simp only [Bool.and_eq_true, List.all_eq_true, List.mem_map, decide_eq_true_eq, List.length_map]
    refine ⟨⟨hl, ?_⟩, ?_⟩
    · rintro d ⟨x, hx, rfl⟩
      exact ⟨O.shp (hh x hx), rfl⟩
    · rintro d ⟨x, hx, rfl⟩ e ⟨y, hy, rfl⟩
      exact O.alk x y
  have e1 : leastAt (l.map O.enc) = argBest (fun i j => O.lt (l.getD i .z) (l.getD j .z)) (l.length - 1) := by
    unfold leastAt
    rw [List.length_map]
    refine best_congr _ fun i j hi hj => ?_
    have g : ∀ i, i ≤ l.length - 1 → (l.map O.enc).getD i .none = (l.getD i .z).enc := fun i hi => by
      have : i < l.length := by omega
      rw [List.getD_eq_getElem?_getD, List.getD_eq_getElem?_getD, List.getElem?_map, List.getElem?_eq_getElem this]
      rfl
    rw [g i hi, g j hj, O.dlt]
  have hb := best_le (fun i j => O.lt (l.getD i .z) (l.getD j .z)) (l.length - 1)
  have hm := best_min (fun i => l.getD i .z) (l.length - 1)
  generalize argBest (fun i j => O.lt (l.getD i .z) (l.getD j .z)) (l.length - 1) = k at *
  have hk : k < l.length := by omega
  have gk : l.getD k .z = l[k] := by rw [List.getD_eq_getElem?_getD, List.getElem?_eq_getElem hk]; rfl
  refine ⟨l[k], List.getElem_mem hk, fun y hy => ?_, ?_⟩
  · obtain ⟨j, hj, rfl⟩ := List.getElem_of_mem hy
    have := hm j (by omega)
    rw [gk] at this
    rw [List.getD_eq_getElem?_getD, List.getElem?_eq_getElem hj] at this
    exact this
  · simp only [biD, ok, if_true, e1, List.getElem?_map, List.getElem?_eq_getElem hk, Option.map_some]
section
variable {P : Pc} {cells : List Int} {n : Nat} {g : Bag} {Q : PyData → Bag → Prop}
theorem plus_w [F_plus P] [G_ZERO P] {a b : O} (hn : 1 ≤ n) (h1 : a.ht ≤ 30) (h2 : b.ht ≤ 30) (k1 : a.sz ≤ 1000000) (k2 : b.sz ≤ 1000000) (q : Q (O.add a b).enc g) : wC (P.F cells n) (P.c k_plus) [a.enc, b.enc] [] g Q := by
  obtain ⟨n, rfl⟩ : ∃ k, n = k + 1 := ⟨n - 1, by omega⟩
  exact wC_of (plus_ok (P := P.toPr) (zg := P.gc g_ZERO) F_plus.has G_ZERO.has rfl rfl h1 h2 k1 k2) q
theorem successor_w [F_plus P] [G_ZERO P] [G_ONE P] [F_successor P] {a : O} (hn : 2 ≤ n) (h1 : a.ht ≤ 30) (k1 : a.sz ≤ 1000000) (q : Q (O.suc a).enc g) : wC (P.F cells n) (P.c k_successor) [a.enc] [] g Q := by
  refine F_successor.has.w (by omega) rfl fun m hm => ?_
  unfold B_successor
  (mul_fits; wp_walk using G_ONE.has)
  exact plus_w (b := O.num 1) (by omega) h1 (by decide) k1 (by decide) q
theorem end_of_w [F_end_of P] [G_ZERO P] {a : O} (hn : 1 ≤ n) (h1 : a.ht ≤ 30) (q : Q a.last.enc g) : wC (P.F cells n) (P.c k_end_of) [a.enc] [] g Q := by
  obtain ⟨n, rfl⟩ : ∃ k, n = k + 1 := ⟨n - 1, by omega⟩
  exact wC_of (endG_ok (P := P.toPr) (zg := P.gc g_ZERO) F_end_of.has G_ZERO.has h1) q
theorem law_end_w [F_law_end P] {a : O} (hn : 1 ≤ n) (h1 : a.ht ≤ 30) (q : Q a.last.enc g) : wC (P.F cells n) (P.c k_law_end) [a.enc] [] g Q := by
  obtain ⟨n, rfl⟩ : ∃ k, n = k + 1 := ⟨n - 1, by omega⟩
  exact wC_of (end_ok (P := P.toPr) F_law_end.has h1) q
theorem omega_power_w [F_omega_power_1 P] [G_ZERO P] {e : O} (hn : 1 ≤ n) (q : Q (O.t e 1 .z).enc g) : wC (P.F cells n) (P.c k_omega_power_1) [e.enc] [] g Q := by
  obtain ⟨n, rfl⟩ : ∃ k, n = k + 1 := ⟨n - 1, by omega⟩
  exact wC_of (om_ok (P := P.toPr) (zg := P.gc g_ZERO) F_omega_power_1.has) q
theorem raised_w [F_plus P] [G_ZERO P] [F_omega_power_1 P] [F_raised P] {a e : O} (hn : 2 ≤ n) (h1 : a.ht ≤ 29) (h2 : e.ht ≤ 29) (k1 : a.sz ≤ 100000) (k2 : e.sz ≤ 100000) (q : Q (O.rsd a e).enc g) : wC (P.F cells n) (P.c k_raised) [a.enc, e.enc] [] g Q := by
  obtain ⟨n, rfl⟩ : ∃ k, n = k + 2 := ⟨n - 2, by omega⟩
  exact wC_of (rsd_ok (P := P.toPr) (zg := P.gc g_ZERO) (p := P.c k_plus) (om := P.c k_omega_power_1) F_raised.has G_ZERO.has F_plus.has F_omega_power_1.has rfl rfl (by omega) (by omega) (by omega) (by omega)) q
theorem shorter_ones_w [F_shorter_ones P] [G_ZERO P] {a : O} (hn : 1 ≤ n) (h1 : a.ht ≤ 30) (k1 : a.sz ≤ 100000) (q : Q (.list (a.shs.map O.enc)) g) : wC (P.F cells n) (P.c k_shorter_ones) [a.enc] [] g Q := by
  refine F_shorter_ones.has.w (by omega) rfl fun m hm => ?_
  unfold B_shorter_ones
  have hl := O.len_sz a
  (mul_fits; k_ne)
  have rng : rangeD 1 ((a.encs.length : Int) - 1).toNat = (List.range (a.ts.length - 1)).map fun i : Nat => PyData.int (1 + (i : Int)) := by
    unfold rangeD
    rw [O.encs_len, show ((a.ts.length : Int) - 1).toNat = a.ts.length - 1 by omega]
  rw [O.encs_len] at *
  rw [rng]
  refine ⟨by omega, by omega, wL_map (f := fun i : Nat => (O.mk (a.ts.take (i + 1))).enc) (fun i hi g => ?_) ?_⟩
  · k_ne
    rw [cut_take _ (by omega), show (1 + (i : Int)).toNat = i + 1 by omega, O.enc_mk, O.encs_ts, List.map_take]
  have ep : (List.range (a.ts.length - 1)).map (fun i : Nat => (O.mk (a.ts.take (i + 1))).enc) = a.pre.map O.enc := by
    unfold O.pre
    rw [List.map_map]
    rfl
  rw [List.nil_append, ep]
  refine ⟨rows_nl _, ?_⟩
  rw [O.shs_eq] at q
  have hpl : a.pre.length ≤ 100000 := by
    unfold O.pre
    rw [List.length_map, List.length_range]
    omega
  ((with_reducible refine wZ_go ?_); mul_fits; wp_walk using G_ZERO.has)
  rw [O.cz_ne (by omega)]
  rcases O.cases_last a with z | ⟨l, e, c, q1, q2, q3, q4⟩
  · subst z
    k_ne
    ((with_reducible refine wZ_go ?_); mul_fits; k_ne)
    exact q
  · simp only [q4, decide_false, Bool.not_false]
    wp_walk using q2, atsL
    have hle : a.less = if 1 < c then [O.mk (l ++ [(e, c - 1)])] else [] := by
      unfold O.less
      rw [q1]
      simp
    refine wIf_c (fun h => ?_) fun h => ?_
    · have h := of_decide_eq_true h
      rw [hle, if_pos h] at q
      have ll : l.length + 1 ≤ 100000 := by
        have := congrArg List.length q1
        simp at this
        omega
      have en : PyData.tuple (l.map O.encT ++ [PyData.tuple [e.enc, .int (c - 1)]]) = (O.mk (l ++ [(e, c - 1)])).enc := by
        rw [O.enc_mk]
        simp
      have nl := O.nl (O.mk (l ++ [(e, c - 1)]))
      rw [← en] at nl
      ((with_reducible refine wZ_go ?_); mul_fits; wp_walk using cutL, q2, atsL)
      refine ⟨by simp; omega, by omega, ?_⟩
      rw [en]
      ((with_reducible refine wZ_go ?_); mul_fits; k_ne)
      rw [List.map_append] at q
      exact q
    · have h := of_decide_eq_false h
      rw [hle, if_neg h, List.append_nil] at q
      ((with_reducible refine wZ_go ?_); mul_fits; k_ne)
      exact q
theorem end_limit_g [F_shorter_ones P] [F_plus P] [F_successor P] [F_end_of P] [G_ZERO P] [G_ONE P] {s : Nat} {srcs : List Src} {ds es : List PyData} (h : Has P.toPr s srcs 2 4 (B_end_limit P.c P.gc)) (hs : srcs.length = 2) {low high : O} (ha : arr srcs ds es = [low.enc, high.enc]) (hn : 3 ≤ n) (h1 : low.ht ≤ 30) (h2 : high.ht ≤ 30) (k2 : high.sz ≤ 100000) (hl : O.lt low high = true) (q : Q (O.el low high).enc g) : wC (P.F cells n) s ds es g Q := by
  refine h.w (by omega) hs fun m hm => ?_
  rw [ha]
  unfold B_end_limit
  rw [O.el_find hl] at q
  (mul_fits; k_ne)
  refine shorter_ones_w (by omega) (by omega) k2 ?_
  k_ne
  refine wT_inv (fun done ρ g' => g' = g ∧ (∀ x ∈ done, O.lt x low = true) ∧ ∃ o : Option PyData, ρ = [.sh low.enc, .sh high.enc, slot o, .un]) ⟨rfl, (fun x hx => by cases hx), none, rfl⟩ ?_ ?_
  · intro done x rest ρ g' e hI
    obtain ⟨rfl, hd, o, rfl⟩ := hI
    have hx : x ∈ high.shs := by rw [e]; simp
    have xh := O.shs_ht h2 x hx
    have xs := O.shs_sz k2 x hx
    k_ne
    (mul_fits; k_ne)
    rw [O.c_ge (by omega) (by omega)]
    k_ne
    refine wIf_c (fun c => ?_) fun c => ?_
    · ((with_reducible refine wZ_go ?_); mul_fits; k_ne)
      refine end_of_w (by omega) (by omega) ?_
      refine successor_w (by omega) (O.last_ht xh) (O.last_sz (by omega)) ?_
      have : high.shs.find? (fun x => !O.lt x low) = some x := by
        rw [e, List.find?_append]
        have : done.find? (fun x => !O.lt x low) = none := List.find?_eq_none.mpr fun y hy => by rw [hd y hy]; simp
        rw [this, List.find?_cons, c]
        rfl
      rw [this] at q
      exact q
    · refine ⟨fun y hy => ?_, some x.enc, rfl⟩
      rcases List.mem_append.mp hy with hy | hy
      · exact hd y hy
      · rw [List.mem_singleton.mp hy]
        simpa using c
  · intro ρ g' hI
    obtain ⟨rfl, hd, o, rfl⟩ := hI
    have : high.shs.find? (fun x => !O.lt x low) = none := List.find?_eq_none.mpr fun y hy => by rw [hd y hy]; simp
    rw [this] at q
    k_ne
    ((with_reducible refine wZ_go ?_); mul_fits; k_ne)
    refine end_of_w (by omega) (by omega) ?_
    have lh := O.last_ht h2
    ((with_reducible refine wZ_go ?_); mul_fits; wp_walk using G_ZERO.has, G_ONE.has)
    rw [O.cz_ne (by omega)]
    by_cases z : high.last = .z
    · simp only [z, decide_true, Bool.not_true]
      wp_walk using G_ONE.has
      simp only [z, if_true] at q
      exact q
    · simp only [z, decide_false, Bool.not_false]
      k_ne
      simp only [z, if_false] at q
      exact q
theorem end_limit_w [F_shorter_ones P] [F_plus P] [F_successor P] [F_end_of P] [G_ZERO P] [G_ONE P] [F_end_limit P] {low high : O} (hn : 3 ≤ n) (h1 : low.ht ≤ 30) (h2 : high.ht ≤ 30) (k2 : high.sz ≤ 100000) (hl : O.lt low high = true) (q : Q (O.el low high).enc g) : wC (P.F cells n) (P.c k_end_limit) [low.enc, high.enc] [] g Q := end_limit_g F_end_limit.has rfl rfl hn h1 h2 k2 hl q
theorem end_limit_kw [F_shorter_ones P] [F_plus P] [F_successor P] [F_end_of P] [G_ZERO P] [G_ONE P] [F_end_limit_0_behind_low P] {low high : O} (hn : 3 ≤ n) (h1 : low.ht ≤ 30) (h2 : high.ht ≤ 30) (k2 : high.sz ≤ 100000) (hl : O.lt low high = true) (q : Q (O.el low high).enc g) : wC (P.F cells n) (P.c k_end_limit_0_behind_low) [] [high.enc, low.enc] g Q := end_limit_g F_end_limit_0_behind_low.has rfl rfl hn h1 h2 k2 hl q
theorem cap_w [F_law_num P] [F_law_sum P] [F_law_next P] [F_law_raise P] [F_law_cap P] {low high : O} (hn : 4 ≤ n) (nl : low.nf) (nh : high.nf) (h1 : low.ht ≤ 20) (h2 : high.ht ≤ 20) (k1 : low.sz ≤ 10000) (k2 : high.sz ≤ 10000) (hl : O.lt low high = true) (q : Q (O.el low high).enc g) : wC (P.F cells n) (P.c k_law_cap) [low.enc, high.enc] [] g Q := by
  refine F_law_cap.has.w (by omega) rfl fun m hm => ?_
  unfold B_law_cap
  (mul_fits; k_ne)
  refine num_w (by omega) ?_
  have ll := O.len_sz high
  have le : high.encs.length ≤ 16777216 := by rw [O.encs_len]; omega
  have mh : ∀ p ∈ high.ts, p.1.ht ≤ 20 ∧ p.1.sz ≤ 10000 ∧ p.1.nf := fun p hp => ⟨by have := O.mem_ht hp; omega, by have := O.mem_sz hp; omega, (O.nfs_all ((O.nfs_ts high).mpr nh) p hp).1⟩
  refine ⟨le, ?_⟩
  rw [O.encs_ts] at *
  refine wL_map (f := fun p : O × Int => p.1.enc) (fun p hp g => ?_) ?_
  · k_ne
  rw [List.nil_append]
  refine ⟨by rw [List.length_map] at *; omega, le, ?_⟩
  refine wL_map (f := fun p : O × Int => (O.suc p.1).enc) (fun p hp g => ?_) ?_
  · obtain ⟨a1, a2, a3⟩ := mh p hp
    k_ne
    exact next_w (by omega) a3 (by omega) (by omega) ⟨rfl, rfl⟩
  rw [List.nil_append]
  refine ⟨by rw [List.length_map, List.length_map] at *; omega, ?_⟩
  have ec : (O.num 1).enc :: (high.ts.map (fun p : O × Int => p.1.enc) ++ high.ts.map (fun p : O × Int => (O.suc p.1).enc)) = (O.num 1 :: (high.ts.map (·.1) ++ high.ts.map fun p => O.suc p.1)).map O.enc := by
    rw [List.map_cons, List.map_append, List.map_map, List.map_map]
    rfl
  rw [ec]
  have mc : ∀ x ∈ (O.num 1 :: (high.ts.map (·.1) ++ high.ts.map fun p => O.suc p.1)), x.ht ≤ 20 ∧ x.sz ≤ 10001 ∧ x.nf := fun x hx => by
    rcases List.mem_cons.mp hx with hx | hx
    · subst hx
      exact ⟨by decide, by decide, O.num_nf 1⟩
    · rcases List.mem_append.mp hx with hx | hx
      · obtain ⟨p, hp, rfl⟩ := List.mem_map.mp hx
        obtain ⟨a1, a2, a3⟩ := mh p hp
        exact ⟨a1, by omega, a3⟩
      · obtain ⟨p, hp, rfl⟩ := List.mem_map.mp hx
        obtain ⟨a1, a2, a3⟩ := mh p hp
        have b1 := O.add_sz (a := p.1) (b := O.num 1)
        have b2 := O.num_sz 1
        exact ⟨O.add_ht a1 (by decide), by unfold O.suc; omega, O.suc_nf a3⟩
  have lc : (O.num 1 :: (high.ts.map (·.1) ++ high.ts.map fun p => O.suc p.1)).length ≤ 16777216 := by simp; omega
  have mem : O.el low high ∈ (O.num 1 :: (high.ts.map (·.1) ++ high.ts.map fun p => O.suc p.1)) := by
    have hz : high ≠ .z := fun z => by rw [z, O.lt_z] at hl; cases hl
    rcases O.el_mem (low := low) hz with e | ⟨p, hp, e⟩ | ⟨p, hp, e⟩
    · rw [e]; exact List.mem_cons_self
    · rw [e]; exact List.mem_cons_of_mem _ (List.mem_append_left _ (List.mem_map.mpr ⟨p, hp, rfl⟩))
    · rw [e]; exact List.mem_cons_of_mem _ (List.mem_append_right _ (List.mem_map.mpr ⟨p, hp, rfl⟩))
  generalize (O.num 1 :: (high.ts.map (·.1) ++ high.ts.map fun p => O.suc p.1)) = cs at *
  ((with_reducible refine wZ_go ?_); mul_fits; k_ne)
  refine ⟨lc, ?_⟩
  refine wL_pure (p := fun x => !decide (x = .z) && !O.lt (O.rsd low x) high) (f := O.enc) (fun x hx g => ?_) ?_
  · obtain ⟨a1, a2, a3⟩ := mc x hx
    k_ne
    have cz : cmpD .ne x.enc (.tuple []) = some (!decide (x = .z)) := O.cz_ne (by omega)
    rw [cz]
    k_ne
    by_cases z : x = .z
    · simp only [z, decide_true, Bool.not_true]
      k_ne
      exact fun _ => trivial
    · simp only [z, decide_false, Bool.not_false]
      k_ne
      refine raise_w (by omega) nl (by omega) (by omega) (by omega) (by omega) ?_
      rw [O.c_ge (by have := O.rsd_ht (a := low) (e := x) (k := 21) (by omega) (by omega); omega) (by omega)]
      k_ne
      exact fun _ => trivial
  rw [List.nil_append]
  have elp : (!decide (O.el low high = .z) && !O.lt (O.rsd low (O.el low high)) high) = true := by
    have hz : high ≠ .z := fun z => by rw [z, O.lt_z] at hl; cases hl
    rw [O.el_rsd nh nl hl, decide_eq_false (O.el_nz nh hz)]
    rfl
  have mf : O.el low high ∈ cs.filter fun x => !decide (x = .z) && !O.lt (O.rsd low x) high := List.mem_filter.mpr ⟨mem, elp⟩
  obtain ⟨x, hx, hmin, he⟩ := min_enc (l := cs.filter fun x => !decide (x = .z) && !O.lt (O.rsd low x) high) (fun z => by rw [z] at mf; cases mf) (fun y hy => by have := (mc y (List.mem_filter.mp hy).1).1; omega)
  have ex : x = O.el low high := by
    have h3 := hmin _ mf
    have hx2 := (List.mem_filter.mp hx).2
    simp only [Bool.and_eq_true, Bool.not_eq_true'] at hx2
    rcases O.ge_of h3 with e | e
    · exact e.symm
    · have := O.el_min nh nl (mc x (List.mem_filter.mp hx).1).2.2 hl e
      rw [hx2.2] at this
      cases this
  rw [he]
  k_ne
  rw [ex]
  exact q
end
end Rf

set_option maxHeartbeats 400000
/-! Ordinals recognized. -/
namespace Rf
open PySem PySem.W L2 PyProof.Rows
local macro_rules | `(tactic| k_ne) => `(tactic| simp only [wZ_nil, wE_var, wE_con, wE_glo, wE_tup, wE_lst, wE_bin, wE_cmp, wE_chn, wE_neg, wE_and, wE_or, wE_not, wE_ite, wE_call, wE_bi, wE_isi, wE_ix, wE_sl, wE_lc, wA_nil, wA_cons, wA_star, wP_no, wP_so, wCd_no, wCd_so, wI_seq, wI_rng, wI_rng2, wI_enm, wE_rv, wE_jn, wSh_some, wD_list, wO_some, wB_bool, wN_int, wQ_list, wQ_tuple, wOw_some, wIf_t, wIf_f, seeF, see_slot, frz_slot, slot_some, slot_none, Rf.settle, frzF, putS, putE, wipeE, flat, flats, E.vars, Es.vars, Eo.vars, It.vars, wO_ite, bn_ai, bn_as, bn_at, bn_al, bn_si, bn_mi, bn_mt, bn_oi, bn_di, bn_pi, ix_l, ix_t, sl_l, sl_t, sl_s, it_l, it_t, it_s, ty_t, ty_l, ty_i, ty_b, ty_s, ty_n, tk_t, tk_l, tk_i, tk_b, tk_s, tk_n, Ty.ofT, Ty.ofL, Ty.ofI, Ty.ofB, Ty.ofS, bi_ll, bi_lt, bi_tl, bi_tt, bi_l1, bi_l2, bi_ii, rangeD_len, Int.toNat_natCast, noList, noLists, Ss.app, thenQ, retQ, turnQ, ats0, ats1, ci_eq, ci_ne, ci_lt, ci_le, ci_gt, ci_ge, List.map_cons, List.map_nil, List.cons_append, List.nil_append, List.append_nil, List.length_cons, List.length_nil, List.foldl_cons, List.foldl_nil, List.set_cons_succ, List.set_cons_zero, List.getElem?_cons_succ, List.getElem?_cons_zero, List.any_cons, List.any_nil, List.mem_cons, List.not_mem_nil, Option.map_some, Option.map_none, Bool.or_false, Bool.or_true, Bool.false_or, Bool.true_or, Bool.and_self, Bool.and_true, Bool.true_and, Bool.and_false, Bool.false_and, Bool.not_true, Bool.not_false, Bool.false_eq_true, Nat.reduceEqDiff, Nat.reduceAdd, Nat.reduceLT, Nat.reduceLeDiff, Nat.reduceSub, Nat.zero_add, List.replicate, or_false, or_true, false_or, true_or, if_true, if_false, ite_self, true_and, and_true, decide_true, decide_false, List.length_replicate, lim, Int.cast_ofNat_Int, arr, List.getD_cons_zero, List.getD_cons_succ, O.nls, rows_nl, List.isEmpty_nil, List.isEmpty_cons, List.length_map, Int.reduceNeg, Int.reduceLE, Int.reduceLT, Int.reduceToNat, Int.reduceAdd, Int.reduceSub, Int.reducePow, Int.reduceMul, and_self, Int.reduceEq, Int.natCast_zero, Int.natCast_one])
local macro_rules | `(tactic| wp_walk using $ts,*) => `(tactic| simp only [wZ_nil, wE_var, wE_con, wE_glo, wE_tup, wE_lst, wE_bin, wE_cmp, wE_chn, wE_neg, wE_and, wE_or, wE_not, wE_ite, wE_call, wE_bi, wE_isi, wE_ix, wE_sl, wE_lc, wA_nil, wA_cons, wA_star, wP_no, wP_so, wCd_no, wCd_so, wI_seq, wI_rng, wI_rng2, wI_enm, wE_rv, wE_jn, wSh_some, wD_list, wO_some, wB_bool, wN_int, wQ_list, wQ_tuple, wOw_some, wIf_t, wIf_f, seeF, see_slot, frz_slot, slot_some, slot_none, Rf.settle, frzF, putS, putE, wipeE, flat, flats, E.vars, Es.vars, Eo.vars, It.vars, wO_ite, bn_ai, bn_as, bn_at, bn_al, bn_si, bn_mi, bn_mt, bn_oi, bn_di, bn_pi, ix_l, ix_t, sl_l, sl_t, sl_s, it_l, it_t, it_s, ty_t, ty_l, ty_i, ty_b, ty_s, ty_n, tk_t, tk_l, tk_i, tk_b, tk_s, tk_n, Ty.ofT, Ty.ofL, Ty.ofI, Ty.ofB, Ty.ofS, bi_ll, bi_lt, bi_tl, bi_tt, bi_l1, bi_l2, bi_ii, rangeD_len, Int.toNat_natCast, noList, noLists, Ss.app, thenQ, retQ, turnQ, ats0, ats1, ci_eq, ci_ne, ci_lt, ci_le, ci_gt, ci_ge, List.map_cons, List.map_nil, List.cons_append, List.nil_append, List.append_nil, List.length_cons, List.length_nil, List.foldl_cons, List.foldl_nil, List.set_cons_succ, List.set_cons_zero, List.getElem?_cons_succ, List.getElem?_cons_zero, List.any_cons, List.any_nil, List.mem_cons, List.not_mem_nil, Option.map_some, Option.map_none, Bool.or_false, Bool.or_true, Bool.false_or, Bool.true_or, Bool.and_self, Bool.and_true, Bool.true_and, Bool.and_false, Bool.false_and, Bool.not_true, Bool.not_false, Bool.false_eq_true, Nat.reduceEqDiff, Nat.reduceAdd, Nat.reduceLT, Nat.reduceLeDiff, Nat.reduceSub, Nat.zero_add, List.replicate, or_false, or_true, false_or, true_or, if_true, if_false, ite_self, true_and, and_true, decide_true, decide_false, List.length_replicate, lim, Int.cast_ofNat_Int, arr, List.getD_cons_zero, List.getD_cons_succ, O.nls, rows_nl, List.isEmpty_nil, List.isEmpty_cons, List.length_map, Int.reduceNeg, Int.reduceLE, Int.reduceLT, Int.reduceToNat, Int.reduceAdd, Int.reduceSub, Int.reducePow, Int.reduceMul, and_self, Int.reduceEq, Int.natCast_zero, Int.natCast_one, $[$ts:term],*])
local macro_rules | `(tactic| mul_fits) => `(tactic| with_reducible (first | refine ss_set ?_ | refine ss_own ?_ | refine ss_if ?_ | refine ss_ret ?_ | refine ss_tset ?_ | refine ss_for ?_ | refine ss_app ?_ | refine ss_ins0 ?_ | refine ss_par ?_ | refine ss_brk ?_ | refine ss_cnt ?_ | refine ss_pas ?_ | refine ss_whl ?_ | refine ss_par3 ?_ | refine ss_aug ?_ | refine ss_ownl ?_))
def B_is_ordinal (c gc : Nat → Nat) : Ss := (.cons (.ifs (.not (.isi (.var 0) [.tuple])) (.cons (.ret (.con (.bool false))) .nil) .nil) (.cons (.set 1 (.con .none)) (.cons (.for_ (.n 2) (.seq (.var 0)) (.cons (.ifs (.or (.not (.isi (.var 2) [.tuple])) (.or (.cmp .ne (.bi .len (.var 2)) (.con (.int 2))) (.not (.call (c 33) (.cons (.ix (.var 2) (.con (.int 0))) .nil) .nil)))) (.cons (.ret (.con (.bool false))) .nil) .nil) (.cons (.set 3 (.ix (.var 2) (.con (.int 1)))) (.cons (.ifs (.or (.not (.isi (.var 3) [.int])) (.or (.isi (.var 3) [.bool]) (.cmp .lt (.var 3) (.con (.int 1))))) (.cons (.ret (.con (.bool false))) .nil) .nil) (.cons (.ifs (.and (.cmp .nis (.var 1) (.con .none)) (.cmp .ge (.ix (.var 2) (.con (.int 0))) (.var 1))) (.cons (.ret (.con (.bool false))) .nil) .nil) (.cons (.set 1 (.ix (.var 2) (.con (.int 0)))) .nil)))))) (.cons (.ret (.con (.bool true))) .nil))))
abbrev k_is_ordinal : Nat := 33
class F_is_ordinal (P : Pc) : Prop where
  has : Has P.toPr (P.c k_is_ordinal) [.p 0] 1 4 (B_is_ordinal P.c P.gc)

def B_law_is_ordinal (c gc : Nat → Nat) : Ss := (.cons (.ifs (.not (.isi (.var 0) [.tuple])) (.cons (.ret (.con (.bool false))) .nil) .nil) (.cons (.for_ (.n 1) (.rng (.bi .len (.var 0))) (.cons (.ifs (.or (.not (.isi (.ix (.var 0) (.var 1)) [.tuple])) (.or (.cmp .ne (.bi .len (.ix (.var 0) (.var 1))) (.con (.int 2))) (.not (.call (c 34) (.cons (.ix (.ix (.var 0) (.var 1)) (.con (.int 0))) .nil) .nil)))) (.cons (.ret (.con (.bool false))) .nil) .nil) (.cons (.ifs (.or (.not (.isi (.ix (.ix (.var 0) (.var 1)) (.con (.int 1))) [.int])) (.or (.isi (.ix (.ix (.var 0) (.var 1)) (.con (.int 1))) [.bool]) (.cmp .lt (.ix (.ix (.var 0) (.var 1)) (.con (.int 1))) (.con (.int 1))))) (.cons (.ret (.con (.bool false))) .nil) .nil) (.cons (.ifs (.and (.cmp .gt (.var 1) (.con (.int 0))) (.not (.cmp .lt (.ix (.ix (.var 0) (.var 1)) (.con (.int 0))) (.ix (.ix (.var 0) (.bin .sub (.var 1) (.con (.int 1)))) (.con (.int 0)))))) (.cons (.ret (.con (.bool false))) .nil) .nil) .nil)))) (.cons (.ret (.con (.bool true))) .nil)))
abbrev k_law_is_ordinal : Nat := 34
class F_law_is_ordinal (P : Pc) : Prop where
  has : Has P.toPr (P.c k_law_is_ordinal) [.p 0] 1 2 (B_law_is_ordinal P.c P.gc)

/-- a datum that is an ordinal -/
def isOrd (d : PyData) : Prop := ∃ o : O, o.nf ∧ d = o.enc
/-- terms of an ordinal -/
def ordT (ds : List PyData) : Prop := ∃ l : List (O × Int), O.nfs l ∧ ds = l.map O.encT
theorem isOrd_tup {ds : List PyData} : isOrd (.tuple ds) ↔ ordT ds := by
  constructor
  · rintro ⟨o, h, e⟩
    refine ⟨o.ts, (O.nfs_ts o).mpr h, ?_⟩
    rw [← O.encs_ts]
    exact PyData.tuple.inj e
  · rintro ⟨l, h, rfl⟩
    exact ⟨O.mk l, (O.nf_mk l).mpr h, (O.enc_mk l).symm⟩
theorem isOrd_not {d : PyData} (h : ∀ ds, d ≠ .tuple ds) : ¬ isOrd d := fun ⟨o, _, e⟩ => h o.encs e
/-- a term -/
def isTerm (d : PyData) : Prop := ∃ p : O × Int, p.1.nf ∧ 1 ≤ p.2 ∧ d = O.encT p
theorem ordT_mem {ds : List PyData} (h : ordT ds) {d : PyData} (hd : d ∈ ds) : isTerm d := by
  obtain ⟨l, h, rfl⟩ := h
  obtain ⟨p, hp, rfl⟩ := List.mem_map.mp hd
  exact ⟨p, (O.nfs_all h p hp).1, (O.nfs_all h p hp).2, rfl⟩
theorem encT_inj {p q : O × Int} (h : O.encT p = O.encT q) : p = q := by
  have h1 := PyData.tuple.inj h
  simp only [List.cons.injEq, and_true] at h1
  have h2 := h1.1
  have h3 : p.1 = q.1 := by
    have := O.eqv p.1 q.1
    rw [h2, O.eqv q.1 q.1] at this
    simp at this
    exact this
  exact Prod.ext h3 (PyData.int.inj h1.2)
theorem map_encT_inj : ∀ {l k : List (O × Int)}, l.map O.encT = k.map O.encT → l = k
  | [], [], _ => rfl
  | [], _ :: _, h => by cases h
  | _ :: _, [], h => by cases h
  | p :: l, q :: k, h => by
    rw [List.map_cons, List.map_cons, List.cons.injEq] at h
    rw [encT_inj h.1, map_encT_inj h.2]
/-- the next term must be less -/
theorem ordT_next {l : List (O × Int)} {p q : O × Int} {rest : List PyData} (h : ordT ((l ++ [q]).map O.encT ++ O.encT p :: rest)) : O.lt p.1 q.1 = true := by
  obtain ⟨k, hk, e⟩ := h
  have hp : ∃ r : List (O × Int), rest = r.map O.encT := by
    refine ⟨k.drop (l.length + 2), ?_⟩
    have := congrArg (List.drop (l.length + 2)) e
    rw [← List.map_drop] at this
    rw [← this]
    rw [List.drop_append]
    simp
  obtain ⟨r, rfl⟩ := hp
  have e2 : k = (l ++ [q]) ++ p :: r := by
    apply map_encT_inj
    rw [← e]
    simp
  rw [e2, O.nfs_app] at hk
  exact hk.2.2 q (by simp) p (by simp)
def lstD (l : List (O × Int)) : PyData := match l.getLast? with
  | some p => p.1.enc
  | none => .none
theorem lstD_app (l : List (O × Int)) (p : O × Int) : lstD (l ++ [p]) = p.1.enc := by simp [lstD]
theorem dep_encT (p : O × Int) : (O.encT p).depth = 2 * p.1.ht + 2 := by
  have := O.dep p.1
  simp only [PyData.depth, PyData.depthAll] at this ⊢
  omega
theorem nis_tup (b : List PyData) : cmpD .nis (.tuple b) .none = some true := by simp [cmpD]
theorem nis_non : cmpD .nis .none .none = some false := by simp [cmpD]
section
variable {P : Pc} {cells : List Int}
theorem is_ordinal_w [F_is_ordinal P] : ∀ (k : Nat) {n : Nat} {g : Bag} {Q : PyData → Bag → Prop} {d : PyData}, smD d = true → d.depth ≤ k → k ≤ 50 → k + 1 ≤ n → (∀ b : Bool, (b = true ↔ isOrd d) → Q (.bool b) g) → wC (P.F cells n) (P.c k_is_ordinal) [d] [] g Q := by
  intro k
  induction k with
  | zero =>
    intro n g Q d hs hd hk hn q
    refine F_is_ordinal.has.w (by omega) rfl fun m hm => ?_
    unfold B_is_ordinal
    cases d with
    | tuple ds => simp [PyData.depth] at hd
    | dict ds => cases hs
    | _ =>
      (mul_fits; k_ne)
      ((with_reducible refine wZ_go ?_); mul_fits; k_ne)
      exact q false ⟨(fun z => by cases z), fun h => absurd h (isOrd_not fun ds z => by cases z)⟩
  | succ k ih =>
    intro n g Q d hs hd hk hn q
    refine F_is_ordinal.has.w (by omega) rfl fun m hm => ?_
    unfold B_is_ordinal
    cases d with
    | dict ds => cases hs
    | tuple ds =>
      rw [smD, Bool.and_eq_true] at hs
      rw [PyData.depth] at hd
      (mul_fits; k_ne)
      ((with_reducible refine wZ_go ?_); mul_fits; k_ne)
      ((with_reducible refine wZ_go ?_); mul_fits; k_ne)
      have no : ¬ ordT ds → ∀ b : Bool, b = false → (b = true ↔ isOrd (.tuple ds)) := fun h b hb => ⟨(fun z => by rw [hb] at z; cases z), fun z => absurd (isOrd_tup.mp z) h⟩
      refine wT_invD (fun done ρ g' => g' = g ∧ ∃ (l : List (O × Int)) (o2 o3 : Option PyData), O.nfs l ∧ done = l.map O.encT ∧ (∀ p ∈ l, p.1.ht ≤ 30) ∧ ρ = [.sh (.tuple ds), .sh (lstD l), slot o2, slot o3]) ⟨rfl, [], none, none, trivial, rfl, (fun p hp => by cases hp), rfl⟩ ?_ ?_
      · intro done x rest ρ g' e hI
        obtain ⟨rfl, l, o2, o3, hl, rfl, hh, rfl⟩ := hI
        have mx : x ∈ ds := by rw [e]; simp
        have sx := smDs_mem hs.2 mx
        have dx := depth_mem mx
        k_ne
        have nt : ¬ isTerm x → ¬ ordT ds := fun h z => h (ordT_mem z mx)
        cases x with
        | dict kvs => cases sx
        | tuple xs =>
          (mul_fits; k_ne)
          rcases xs with _ | ⟨a, _ | ⟨c, _ | ⟨w, xs⟩⟩⟩
          · k_ne
            ((with_reducible refine wZ_go ?_); mul_fits; k_ne)
            exact q false (no (nt (fun ⟨p, _, _, z⟩ => by cases z)) false rfl)
          · k_ne
            ((with_reducible refine wZ_go ?_); mul_fits; k_ne)
            exact q false (no (nt (fun ⟨p, _, _, z⟩ => by cases z)) false rfl)
          · have sa : smD a = true := by
              rw [smD, Bool.and_eq_true] at sx
              exact smDs_mem sx.2 List.mem_cons_self
            have da : a.depth ≤ k - 1 := by
              have h1 : a.depth ≤ PyData.depthAll [a, c] := depth_mem List.mem_cons_self
              rw [PyData.depth] at dx
              omega
            k_ne
            refine ih sa (by omega) (by omega) (by omega) fun r hr => ?_
            cases r with
            | false =>
              k_ne
              ((with_reducible refine wZ_go ?_); mul_fits; k_ne)
              refine q false (no (nt fun ⟨p, h1, h2, z⟩ => ?_) false rfl)
              have z := PyData.tuple.inj z
              simp only [List.cons.injEq, and_true] at z
              have := hr.mpr ⟨p.1, h1, z.1⟩
              cases this
            | true =>
              obtain ⟨o, ho, rfl⟩ := hr.mp rfl
              have oh : o.ht ≤ 30 := by
                rw [O.dep] at da
                omega
              k_ne
              ((with_reducible refine wZ_go ?_); mul_fits; k_ne)
              have nc : ∀ {c : PyData}, (∀ i : Int, 1 ≤ i → c ≠ .int i) → ¬ isTerm (.tuple [o.enc, c]) := fun {c} h ⟨p, h1, h2, z⟩ => by
                have z := PyData.tuple.inj z
                simp only [List.cons.injEq, and_true] at z
                exact h p.2 h2 z.2
              cases c with
              | dict kvs =>
                rw [smD, Bool.and_eq_true] at sx
                have := smDs_mem sx.2 (List.mem_cons_of_mem _ List.mem_cons_self)
                cases this
              | int c =>
                ((with_reducible refine wZ_go ?_); mul_fits; k_ne)
                refine wIf_c (fun hc => ?_) fun hc => ?_
                · ((with_reducible refine wZ_go ?_); mul_fits; k_ne)
                  exact q false (no (nt (nc fun i hi z => by cases z; have := of_decide_eq_true hc; omega)) false rfl)
                · have hc : 1 ≤ c := by have := of_decide_eq_false hc; omega
                  have fin : O.nfs (l ++ [(o, c)]) → ∃ (k : List (O × Int)) (o2 o3 : Option PyData), O.nfs k ∧ List.map O.encT l ++ [.tuple [o.enc, .int c]] = k.map O.encT ∧ (∀ p ∈ k, p.1.ht ≤ 30) ∧ [Sl.sh (.tuple ds), .sh o.enc, .sh (.tuple [o.enc, .int c]), .sh (.int c)] = [.sh (.tuple ds), .sh (lstD k), slot o2, slot o3] := fun hn => ⟨l ++ [(o, c)], some _, some _, hn, by simp, fun p hp => by
                    rcases List.mem_append.mp hp with hp | hp
                    · exact hh p hp
                    · rw [List.mem_singleton.mp hp]; exact oh, by rw [lstD_app]; rfl⟩
                  rcases List.eq_nil_or_concat l with rfl | ⟨l', p, rfl⟩
                  · have e0 : lstD [] = .none := rfl
                    rw [e0]
                    ((with_reducible refine wZ_go ?_); mul_fits; wp_walk using nis_non)
                    ((with_reducible refine wZ_go ?_); mul_fits; k_ne)
                    exact fin ⟨ho, hc, trivial, fun p hp => by cases hp⟩
                  · rw [List.concat_eq_append] at *
                    have ph : p.1.ht ≤ 30 := hh p (by simp)
                    rw [lstD_app]
                    have cg := O.c_ge (a := o) (b := p.1) (by omega) (by omega)
                    ((with_reducible refine wZ_go ?_); mul_fits; wp_walk using nis_tup, cg)
                    refine wIf_c (fun hg => ?_) fun hg => ?_
                    · ((with_reducible refine wZ_go ?_); mul_fits; k_ne)
                      refine q false (no (fun z => ?_) false rfl)
                      rw [e] at z
                      have := ordT_next (p := (o, c)) z
                      simp only at this
                      rw [this] at hg
                      cases hg
                    · ((with_reducible refine wZ_go ?_); mul_fits; k_ne)
                      refine fin (O.nfs_app.mpr ⟨hl, ⟨ho, hc, trivial, fun p hp => by cases hp⟩, fun x hx y hy => ?_⟩)
                      rw [List.mem_singleton.mp hy]
                      have lt1 : O.lt o p.1 = true := by simpa using hg
                      rcases List.mem_append.mp hx with hx | hx
                      · exact O.lt_trans lt1 ((O.nfs_app.mp hl).2.2 x hx p (by simp))
                      · rw [List.mem_singleton.mp hx]
                        exact lt1
              | _ =>
                ((with_reducible refine wZ_go ?_); mul_fits; k_ne)
                ((with_reducible refine wZ_go ?_); mul_fits; k_ne)
                exact q false (no (nt (nc fun i hi z => by cases z)) false rfl)
          · k_ne
            rw [decide_eq_false (show ¬ ((xs.length + 1 + 1 + 1 : Nat) : Int) = 2 by omega)]
            k_ne
            ((with_reducible refine wZ_go ?_); mul_fits; k_ne)
            exact q false (no (nt (fun ⟨p, _, _, z⟩ => by cases z)) false rfl)
        | _ =>
          (mul_fits; k_ne)
          ((with_reducible refine wZ_go ?_); mul_fits; k_ne)
          exact q false (no (nt (fun ⟨p, _, _, z⟩ => by cases z)) false rfl)
      · intro ρ g' hI
        obtain ⟨rfl, l, o2, o3, hl, rfl, hh, rfl⟩ := hI
        k_ne
        ((with_reducible refine wZ_go ?_); mul_fits; k_ne)
        exact q true ⟨fun _ => isOrd_tup.mpr ⟨l, hl, rfl⟩, fun _ => rfl⟩
    | _ =>
      (mul_fits; k_ne)
      ((with_reducible refine wZ_go ?_); mul_fits; k_ne)
      exact q false ⟨(fun z => by cases z), fun h => absurd h (isOrd_not fun ds z => by cases z)⟩
theorem law_is_ordinal_w [F_law_is_ordinal P] : ∀ (k : Nat) {n : Nat} {g : Bag} {Q : PyData → Bag → Prop} {d : PyData}, smD d = true → d.depth ≤ k → k ≤ 50 → k + 1 ≤ n → (∀ b : Bool, (b = true ↔ isOrd d) → Q (.bool b) g) → wC (P.F cells n) (P.c k_law_is_ordinal) [d] [] g Q := by
  intro k
  induction k with
  | zero =>
    intro n g Q d hs hd hk hn q
    refine F_law_is_ordinal.has.w (by omega) rfl fun m hm => ?_
    unfold B_law_is_ordinal
    cases d with
    | tuple ds => simp [PyData.depth] at hd
    | dict ds => cases hs
    | _ =>
      (mul_fits; k_ne)
      ((with_reducible refine wZ_go ?_); mul_fits; k_ne)
      exact q false ⟨(fun z => by cases z), fun h => absurd h (isOrd_not fun ds z => by cases z)⟩
  | succ k ih =>
    intro n g Q d hs hd hk hn q
    refine F_law_is_ordinal.has.w (by omega) rfl fun m hm => ?_
    unfold B_law_is_ordinal
    cases d with
    | dict ds => cases hs
    | tuple ds =>
      rw [smD, Bool.and_eq_true] at hs
      rw [PyData.depth] at hd
      have hlen := of_decide_eq_true hs.1
      have no : ¬ ordT ds → ∀ b : Bool, b = false → (b = true ↔ isOrd (.tuple ds)) := fun h b hb => ⟨(fun z => by rw [hb] at z; cases z), fun z => absurd (isOrd_tup.mp z) h⟩
      (mul_fits; k_ne)
      ((with_reducible refine wZ_go ?_); mul_fits; k_ne)
      refine ⟨by omega, ?_⟩
      rw [rangeD_map]
      refine wT_inv (fun done ρ g' => g' = g ∧ ∃ (l : List (O × Int)) (o1 : Option PyData), O.nfs l ∧ ds.take done.length = l.map O.encT ∧ l.length = done.length ∧ (∀ p ∈ l, p.1.ht ≤ 30) ∧ ρ = [.sh (.tuple ds), slot o1]) ⟨rfl, [], none, trivial, rfl, rfl, (fun p hp => by cases hp), rfl⟩ ?_ ?_
      · intro done i rest ρ g' e hI
        obtain ⟨rfl, l, o1, hl, ht, hll, hh, rfl⟩ := hI
        obtain ⟨e1, e2⟩ := range_split e
        rw [← e1] at ht hll
        have ex : ds = l.map O.encT ++ ds[i] :: ds.drop (i + 1) := by
          rw [← ht, List.getElem_cons_drop, List.take_append_drop]
        have ai := ats_get e2
        generalize hx : ds[i] = x at *
        have mx : x ∈ ds := by rw [ex]; simp
        have sx := smDs_mem hs.2 mx
        have dx := depth_mem mx
        k_ne
        have nt : ¬ isTerm x → ¬ ordT ds := fun h z => h (ordT_mem z mx)
        cases x with
        | dict kvs => cases sx
        | tuple xs =>
          rcases xs with _ | ⟨a, _ | ⟨c, _ | ⟨w, xs⟩⟩⟩
          · (mul_fits; wp_walk using ai)
            ((with_reducible refine wZ_go ?_); mul_fits; k_ne)
            exact q false (no (nt (fun ⟨p, _, _, z⟩ => by cases z)) false rfl)
          · (mul_fits; wp_walk using ai)
            ((with_reducible refine wZ_go ?_); mul_fits; k_ne)
            exact q false (no (nt (fun ⟨p, _, _, z⟩ => by cases z)) false rfl)
          · have sa : smD a = true := by
              rw [smD, Bool.and_eq_true] at sx
              exact smDs_mem sx.2 List.mem_cons_self
            have da : a.depth ≤ k - 1 := by
              have h1 : a.depth ≤ PyData.depthAll [a, c] := depth_mem List.mem_cons_self
              rw [PyData.depth] at dx
              omega
            (mul_fits; wp_walk using ai)
            refine ih sa (by omega) (by omega) (by omega) fun r hr => ?_
            cases r with
            | false =>
              k_ne
              ((with_reducible refine wZ_go ?_); mul_fits; k_ne)
              refine q false (no (nt fun ⟨p, h1, h2, z⟩ => ?_) false rfl)
              have z := PyData.tuple.inj z
              simp only [List.cons.injEq, and_true] at z
              have := hr.mpr ⟨p.1, h1, z.1⟩
              cases this
            | true =>
              obtain ⟨o, ho, rfl⟩ := hr.mp rfl
              have oh : o.ht ≤ 30 := by
                rw [O.dep] at da
                omega
              k_ne
              have nc : ∀ {c : PyData}, (∀ i : Int, 1 ≤ i → c ≠ .int i) → ¬ isTerm (.tuple [o.enc, c]) := fun {c} h ⟨p, h1, h2, z⟩ => by
                have z := PyData.tuple.inj z
                simp only [List.cons.injEq, and_true] at z
                exact h p.2 h2 z.2
              cases c with
              | dict kvs =>
                rw [smD, Bool.and_eq_true] at sx
                have := smDs_mem sx.2 (List.mem_cons_of_mem _ List.mem_cons_self)
                cases this
              | int c =>
                ((with_reducible refine wZ_go ?_); mul_fits; wp_walk using ai)
                refine wIf_c (fun hc => ?_) fun hc => ?_
                · ((with_reducible refine wZ_go ?_); mul_fits; k_ne)
                  exact q false (no (nt (nc fun i hi z => by cases z; have := of_decide_eq_true hc; omega)) false rfl)
                · have hc : 1 ≤ c := by have := of_decide_eq_false hc; omega
                  have fin : O.nfs (l ++ [(o, c)]) → ∃ (k : List (O × Int)) (o1 : Option PyData), O.nfs k ∧ ds.take (done ++ [i]).length = k.map O.encT ∧ k.length = (done ++ [i]).length ∧ (∀ p ∈ k, p.1.ht ≤ 30) ∧ [Sl.sh (.tuple ds), .sh (.int (i : Int))] = [.sh (.tuple ds), slot o1] := fun hn => ⟨l ++ [(o, c)], some _, hn, by
                      rw [List.length_append, List.length_singleton, ← e1, ex, List.take_append, List.length_map, hll]
                      simp
                      rw [← hll]
                      simp [List.take_of_length_le], by simp; omega, fun p hp => by
                    rcases List.mem_append.mp hp with hp | hp
                    · exact hh p hp
                    · rw [List.mem_singleton.mp hp]; exact oh, rfl⟩
                  rcases List.eq_nil_or_concat l with rfl | ⟨l', p, rfl⟩
                  · have i0 : i = 0 := by simpa using hll.symm
                    subst i0
                    ((with_reducible refine wZ_go ?_); mul_fits; wp_walk using ai)
                    exact fin ⟨ho, hc, trivial, fun p hp => by cases hp⟩
                  · rw [List.concat_eq_append] at *
                    have ph : p.1.ht ≤ 30 := hh p (by simp)
                    have hi : i = l'.length + 1 := by simpa using hll.symm
                    have cl := O.c_lt (a := o) (b := p.1) (by omega) (by omega)
                    have a2 : L2.atI ds ((i : Int) - 1) = some (O.encT p) := by
                      rw [show (i : Int) - 1 = ((i - 1 : Nat) : Int) by omega, ats_get (show i - 1 < ds.length by omega)]
                      have : ds[i - 1]? = some (O.encT p) := by
                        rw [ex, List.map_append, List.append_assoc, List.getElem?_append_right (by simp; omega)]
                        simp [show i - 1 - l'.length = 0 by omega]
                      rw [List.getElem?_eq_getElem (show i - 1 < ds.length by omega)] at this
                      exact this
                    ((with_reducible refine wZ_go ?_); mul_fits; wp_walk using ai, a2)
                    rw [decide_eq_true (show (0 : Int) < (i : Int) by omega)]
                    wp_walk using cl
                    refine wIf_c (fun hg => ?_) fun hg => ?_
                    · ((with_reducible refine wZ_go ?_); mul_fits; k_ne)
                      refine q false (no (fun z => ?_) false rfl)
                      rw [ex] at z
                      have := ordT_next (p := (o, c)) z
                      simp only at this
                      rw [this] at hg
                      cases hg
                    · (try k_ne)
                      refine fin (O.nfs_app.mpr ⟨hl, ⟨ho, hc, trivial, fun p hp => by cases hp⟩, fun x hx y hy => ?_⟩)
                      rw [List.mem_singleton.mp hy]
                      have lt1 : O.lt o p.1 = true := by simpa using hg
                      rcases List.mem_append.mp hx with hx | hx
                      · exact O.lt_trans lt1 ((O.nfs_app.mp hl).2.2 x hx p (by simp))
                      · rw [List.mem_singleton.mp hx]
                        exact lt1
              | _ =>
                ((with_reducible refine wZ_go ?_); mul_fits; wp_walk using ai)
                ((with_reducible refine wZ_go ?_); mul_fits; k_ne)
                exact q false (no (nt (nc fun i hi z => by cases z)) false rfl)
          · (mul_fits; wp_walk using ai)
            rw [decide_eq_false (show ¬ ((xs.length + 1 + 1 + 1 : Nat) : Int) = 2 by omega)]
            k_ne
            ((with_reducible refine wZ_go ?_); mul_fits; k_ne)
            exact q false (no (nt (fun ⟨p, _, _, z⟩ => by cases z)) false rfl)
        | _ =>
          (mul_fits; wp_walk using ai)
          ((with_reducible refine wZ_go ?_); mul_fits; k_ne)
          exact q false (no (nt (fun ⟨p, _, _, z⟩ => by cases z)) false rfl)
      · intro ρ g' hI
        obtain ⟨rfl, l, o1, hl, ht, hll, hh, rfl⟩ := hI
        rw [List.length_range, List.take_length] at ht
        subst ht
        k_ne
        ((with_reducible refine wZ_go ?_); mul_fits; k_ne)
        exact q true ⟨fun _ => isOrd_tup.mpr ⟨l, hl, rfl⟩, fun _ => rfl⟩
    | _ =>
      (mul_fits; k_ne)
      ((with_reducible refine wZ_go ?_); mul_fits; k_ne)
      exact q false ⟨(fun z => by cases z), fun h => absurd h (isOrd_not fun ds z => by cases z)⟩
end
end Rf

set_option maxHeartbeats 400000
/-! Bent ordinals. -/
namespace Rf
open PySem PySem.W L2 PyProof.Rows
local macro_rules | `(tactic| k_ne) => `(tactic| simp only [wZ_nil, wE_var, wE_con, wE_glo, wE_tup, wE_lst, wE_bin, wE_cmp, wE_chn, wE_neg, wE_and, wE_or, wE_not, wE_ite, wE_call, wE_bi, wE_isi, wE_ix, wE_sl, wE_lc, wA_nil, wA_cons, wA_star, wP_no, wP_so, wCd_no, wCd_so, wI_seq, wI_rng, wI_rng2, wI_enm, wE_rv, wE_jn, wSh_some, wD_list, wO_some, wB_bool, wN_int, wQ_list, wQ_tuple, wOw_some, wIf_t, wIf_f, seeF, see_slot, frz_slot, slot_some, slot_none, Rf.settle, frzF, putS, putE, wipeE, flat, flats, E.vars, Es.vars, Eo.vars, It.vars, wO_ite, bn_ai, bn_as, bn_at, bn_al, bn_si, bn_mi, bn_mt, bn_oi, bn_di, bn_pi, ix_l, ix_t, sl_l, sl_t, sl_s, it_l, it_t, it_s, ty_t, ty_l, ty_i, ty_b, ty_s, ty_n, tk_t, tk_l, tk_i, tk_b, tk_s, tk_n, Ty.ofT, Ty.ofL, Ty.ofI, Ty.ofB, Ty.ofS, bi_ll, bi_lt, bi_tl, bi_tt, bi_l1, bi_l2, bi_ii, rangeD_len, Int.toNat_natCast, noList, noLists, Ss.app, thenQ, retQ, turnQ, ats0, ats1, ci_eq, ci_ne, ci_lt, ci_le, ci_gt, ci_ge, List.map_cons, List.map_nil, List.cons_append, List.nil_append, List.append_nil, List.length_cons, List.length_nil, List.foldl_cons, List.foldl_nil, List.set_cons_succ, List.set_cons_zero, List.getElem?_cons_succ, List.getElem?_cons_zero, List.any_cons, List.any_nil, List.mem_cons, List.not_mem_nil, Option.map_some, Option.map_none, Bool.or_false, Bool.or_true, Bool.false_or, Bool.true_or, Bool.and_self, Bool.and_true, Bool.true_and, Bool.and_false, Bool.false_and, Bool.not_true, Bool.not_false, Bool.false_eq_true, Nat.reduceEqDiff, Nat.reduceAdd, Nat.reduceLT, Nat.reduceLeDiff, Nat.reduceSub, Nat.zero_add, List.replicate, or_false, or_true, false_or, true_or, if_true, if_false, ite_self, true_and, and_true, decide_true, decide_false, List.length_replicate, lim, Int.cast_ofNat_Int, arr, List.getD_cons_zero, List.getD_cons_succ, O.nls, rows_nl, List.isEmpty_nil, List.isEmpty_cons, List.length_map, Int.reduceNeg, Int.reduceLE, Int.reduceLT, Int.reduceToNat, Int.reduceAdd, Int.reduceSub, Int.reducePow, Int.reduceMul, and_self, Int.reduceEq, Int.natCast_zero, Int.natCast_one])
local macro_rules | `(tactic| wp_walk using $ts,*) => `(tactic| simp only [wZ_nil, wE_var, wE_con, wE_glo, wE_tup, wE_lst, wE_bin, wE_cmp, wE_chn, wE_neg, wE_and, wE_or, wE_not, wE_ite, wE_call, wE_bi, wE_isi, wE_ix, wE_sl, wE_lc, wA_nil, wA_cons, wA_star, wP_no, wP_so, wCd_no, wCd_so, wI_seq, wI_rng, wI_rng2, wI_enm, wE_rv, wE_jn, wSh_some, wD_list, wO_some, wB_bool, wN_int, wQ_list, wQ_tuple, wOw_some, wIf_t, wIf_f, seeF, see_slot, frz_slot, slot_some, slot_none, Rf.settle, frzF, putS, putE, wipeE, flat, flats, E.vars, Es.vars, Eo.vars, It.vars, wO_ite, bn_ai, bn_as, bn_at, bn_al, bn_si, bn_mi, bn_mt, bn_oi, bn_di, bn_pi, ix_l, ix_t, sl_l, sl_t, sl_s, it_l, it_t, it_s, ty_t, ty_l, ty_i, ty_b, ty_s, ty_n, tk_t, tk_l, tk_i, tk_b, tk_s, tk_n, Ty.ofT, Ty.ofL, Ty.ofI, Ty.ofB, Ty.ofS, bi_ll, bi_lt, bi_tl, bi_tt, bi_l1, bi_l2, bi_ii, rangeD_len, Int.toNat_natCast, noList, noLists, Ss.app, thenQ, retQ, turnQ, ats0, ats1, ci_eq, ci_ne, ci_lt, ci_le, ci_gt, ci_ge, List.map_cons, List.map_nil, List.cons_append, List.nil_append, List.append_nil, List.length_cons, List.length_nil, List.foldl_cons, List.foldl_nil, List.set_cons_succ, List.set_cons_zero, List.getElem?_cons_succ, List.getElem?_cons_zero, List.any_cons, List.any_nil, List.mem_cons, List.not_mem_nil, Option.map_some, Option.map_none, Bool.or_false, Bool.or_true, Bool.false_or, Bool.true_or, Bool.and_self, Bool.and_true, Bool.true_and, Bool.and_false, Bool.false_and, Bool.not_true, Bool.not_false, Bool.false_eq_true, Nat.reduceEqDiff, Nat.reduceAdd, Nat.reduceLT, Nat.reduceLeDiff, Nat.reduceSub, Nat.zero_add, List.replicate, or_false, or_true, false_or, true_or, if_true, if_false, ite_self, true_and, and_true, decide_true, decide_false, List.length_replicate, lim, Int.cast_ofNat_Int, arr, List.getD_cons_zero, List.getD_cons_succ, O.nls, rows_nl, List.isEmpty_nil, List.isEmpty_cons, List.length_map, Int.reduceNeg, Int.reduceLE, Int.reduceLT, Int.reduceToNat, Int.reduceAdd, Int.reduceSub, Int.reducePow, Int.reduceMul, and_self, Int.reduceEq, Int.natCast_zero, Int.natCast_one, $[$ts:term],*])
local macro_rules | `(tactic| mul_fits) => `(tactic| with_reducible (first | refine ss_set ?_ | refine ss_own ?_ | refine ss_if ?_ | refine ss_ret ?_ | refine ss_tset ?_ | refine ss_for ?_ | refine ss_app ?_ | refine ss_ins0 ?_ | refine ss_par ?_ | refine ss_brk ?_ | refine ss_cnt ?_ | refine ss_pas ?_ | refine ss_whl ?_ | refine ss_par3 ?_ | refine ss_aug ?_ | refine ss_ownl ?_))
def B_law_bent_ordinal (c gc : Nat → Nat) : Ss := (.cons (.set 2 (.call (c 0) (.cons (.var 0) (.cons (.con (.int 9)) .nil)) .nil)) (.cons (.ifs (.cmp .eq (.var 2) (.con (.int 0))) (.cons (.ret (.bin .add (.var 1) (.sl (.var 1) .no (.so (.con (.int 1)))))) .nil) .nil) (.cons (.ifs (.cmp .eq (.var 2) (.con (.int 1))) (.cons (.ret (.rv (.var 1))) .nil) .nil) (.cons (.ifs (.cmp .eq (.var 2) (.con (.int 2))) (.cons (.ret (.bi .list (.var 1))) .nil) .nil) (.cons (.ifs (.cmp .eq (.var 2) (.con (.int 3))) (.cons (.ret (.bin .add (.var 1) (.tup (.cons (.tup (.cons (.tup .nil) (.cons (.call (c 1) (.cons (.var 0) (.cons (.lst (.cons (.con (.int 0)) (.cons (.neg (.con (.int 1))) (.cons (.con (.bool true)) (.cons (.con (.str (Str.ofString "1"))) (.cons (.con .none) (.cons (.tup .nil) (.cons (.con (.int 1)) .nil)))))))) .nil)) .nil) .nil))) .nil)))) .nil) .nil) (.cons (.ifs (.cmp .eq (.var 2) (.con (.int 4))) (.cons (.ret (.bin .add (.var 1) (.tup (.cons (.tup .nil) .nil)))) .nil) .nil) (.cons (.ifs (.cmp .eq (.var 2) (.con (.int 5))) (.cons (.ret (.call (c 1) (.cons (.var 0) (.cons (.lst (.cons (.con .none) (.cons (.con (.int 0)) (.cons (.con (.int 1)) (.cons (.con (.bool true)) (.cons (.con (.str (Str.ofString "w"))) (.cons (.con (.str (Str.ofString ""))) (.cons (.tup (.cons (.tup .nil) .nil)) (.cons (.tup (.cons (.tup .nil) (.cons (.con (.int 1)) .nil))) (.cons (.tup (.cons (.tup (.cons (.tup .nil) (.cons (.con (.int 1)) (.cons (.con (.int 1)) .nil)))) .nil)) (.cons (.tup (.cons (.lst (.cons (.tup .nil) (.cons (.con (.int 1)) .nil))) .nil)) .nil))))))))))) .nil)) .nil)) .nil) .nil) (.cons (.ifs (.and (.cmp .eq (.var 2) (.con (.int 6))) (.cmp .ne (.var 1) (.tup .nil))) (.cons (.set 3 (.call (c 0) (.cons (.var 0) (.cons (.bi .len (.var 1)) .nil)) .nil)) (.cons (.set 4 (.call (c 1) (.cons (.var 0) (.cons (.lst (.cons (.con (.int 0)) (.cons (.neg (.con (.int 1))) (.cons (.con (.bool true)) (.cons (.con .none) (.cons (.tup (.cons (.ix (.ix (.var 1) (.var 3)) (.con (.int 1))) .nil)) .nil)))))) .nil)) .nil)) (.cons (.ret (.bin .add (.bin .add (.sl (.var 1) .no (.so (.var 3))) (.tup (.cons (.tup (.cons (.ix (.ix (.var 1) (.var 3)) (.con (.int 0))) (.cons (.var 4) .nil))) .nil))) (.sl (.var 1) (.so (.bin .add (.var 3) (.con (.int 1)))) .no))) .nil))) .nil) (.cons (.ifs (.and (.cmp .eq (.var 2) (.con (.int 7))) (.cmp .ne (.var 1) (.tup .nil))) (.cons (.set 3 (.call (c 0) (.cons (.var 0) (.cons (.bi .len (.var 1)) .nil)) .nil)) (.cons (.ret (.bin .add (.bin .add (.sl (.var 1) .no (.so (.var 3))) (.tup (.cons (.tup (.cons (.call (c 35) (.cons (.var 0) (.cons (.ix (.ix (.var 1) (.var 3)) (.con (.int 0))) .nil)) .nil) (.cons (.ix (.ix (.var 1) (.var 3)) (.con (.int 1))) .nil))) .nil))) (.sl (.var 1) (.so (.bin .add (.var 3) (.con (.int 1)))) .no))) .nil)) .nil) (.cons (.ret (.var 1)) .nil))))))))))
abbrev k_law_bent_ordinal : Nat := 35
class F_law_bent_ordinal (P : Pc) : Prop where
  has : Has P.toPr (P.c k_law_bent_ordinal) [.p 0, .p 1] 2 5 (B_law_bent_ordinal P.c P.gc)

def B_natural (c gc : Nat → Nat) : Ss := (.cons (.ret (.ite (.cmp .gt (.var 0) (.con (.int 0))) (.tup (.cons (.tup (.cons (.glo (gc 3)) (.cons (.var 0) .nil))) .nil)) (.glo (gc 3)))) .nil)
abbrev k_natural : Nat := 36
class F_natural (P : Pc) : Prop where
  has : Has P.toPr (P.c k_natural) [.p 0] 1 1 (B_natural P.c P.gc)

theorem smDs_of : ∀ {ds : List PyData}, (∀ d ∈ ds, smD d = true) → smDs ds = true
  | [], _ => rfl
  | d :: ds, h => by rw [smDs, h d List.mem_cons_self, smDs_of fun e he => h e (List.mem_cons_of_mem _ he)]; rfl
theorem dep_of {K : Nat} : ∀ {ds : List PyData}, (∀ d ∈ ds, d.depth ≤ K) → PyData.depthAll ds ≤ K
  | [], _ => by simp [PyData.depthAll]
  | d :: ds, h => by
    rw [PyData.depthAll]
    have h1 := h d List.mem_cons_self
    have h2 := dep_of fun e he => h e (List.mem_cons_of_mem _ he)
    omega
/-- a bounded datum -/
def Bd (K : Nat) (d : PyData) : Prop := smD d = true ∧ d.depth ≤ K
theorem Bd.mono {K K' : Nat} {d : PyData} (h : Bd K d) (k : K ≤ K') : Bd K' d := ⟨h.1, Nat.le_trans h.2 k⟩
theorem Bd.tup {K : Nat} {ds : List PyData} (hl : ds.length ≤ 16777216) (h : ∀ d ∈ ds, Bd K d) : Bd (K + 1) (.tuple ds) := by
  refine ⟨?_, ?_⟩
  · rw [smD, smDs_of fun d hd => (h d hd).1, decide_eq_true hl]
    rfl
  · rw [PyData.depth]
    have := dep_of fun d hd => (h d hd).2
    omega
theorem Bd.lst {K : Nat} {ds : List PyData} (hl : ds.length ≤ 16777216) (h : ∀ d ∈ ds, Bd K d) : Bd (K + 1) (.list ds) := by
  refine ⟨?_, ?_⟩
  · rw [smD, smDs_of fun d hd => (h d hd).1, decide_eq_true hl]
    rfl
  · rw [PyData.depth]
    have := dep_of fun d hd => (h d hd).2
    omega
theorem mem_cut {α : Type} {l : List α} {lo hi : Option Int} {x : α} (h : x ∈ cut l lo hi) : x ∈ l := List.mem_of_mem_drop (List.mem_of_mem_take h)
theorem len_cut {α : Type} (l : List α) (lo hi : Option Int) : (cut l lo hi).length ≤ l.length := cut_length l lo hi
theorem Bd.enc {o : O} (h : o.sz ≤ 1000000) : Bd (2 * o.ht + 1) o.enc := ⟨O.sm (by omega), by rw [O.dep]; exact Nat.le_refl _⟩
theorem Bd.encs {o : O} {k : Nat} (hk : o.ht ≤ k) (h : o.sz ≤ 1000000) : ∀ d ∈ o.encs, Bd (2 * k + 1) d := fun d hd => by
  rw [O.encs_ts] at hd
  obtain ⟨p, hp, rfl⟩ := List.mem_map.mp hd
  have h1 := O.mem_ht hp
  have h2 := O.mem_sz hp
  have h3 := (Bd.enc (o := p.1) (by omega))
  refine (Bd.tup (K := 2 * p.1.ht + 1) (by simp) fun d hd => ?_).mono (by omega)
  simp only [List.mem_cons, List.not_mem_nil, or_false] at hd
  rcases hd with rfl | rfl
  · exact h3
  · exact ⟨rfl, by simp [PyData.depth]⟩
section
variable {P : Pc} {cells : List Int}
theorem bent_ways [F_law_pull P] [F_law_of P] [F_law_bent_ordinal P] (k : Nat) {n : Nat} {g : Bag} {Q : PyData → Bag → Prop} {o : O} (hk : o.ht ≤ k) (hk2 : k ≤ 20) (hs : o.sz ≤ 1000) (hn : 4 ≤ n)
    (rec : ∀ p ∈ o.ts, ∀ (g : Bag) (Q : PyData → Bag → Prop), (∀ d g, Bd (2 * k + 3) d → Q d g) → wC (P.F cells (n - 1)) (P.c k_law_bent_ordinal) [bag, p.1.enc] [] g Q) (q : ∀ d g, Bd (2 * k + 5) d → Q d g) : wC (P.F cells n) (P.c k_law_bent_ordinal) [bag, o.enc] [] g Q := by
  refine F_law_bent_ordinal.has.w (by omega) rfl fun m hm => ?_
  have hm' : n - 1 = m := by omega
  rw [hm'] at rec
  have bo := Bd.encs hk (show o.sz ≤ 1000000 by omega)
  have hl : o.encs.length ≤ 1000 := by rw [O.encs_len]; have := O.len_sz o; omega
  unfold B_law_bent_ordinal
  (mul_fits; k_ne)
  refine pull_w (by omega) (by decide) (by decide) fun i g hi => ?_
  (try k_ne)
  ((with_reducible refine wZ_go ?_); mul_fits; k_ne)
  refine wIf_c (fun c => ?_) fun c => ?_
  · ((with_reducible refine wZ_go ?_); mul_fits; k_ne)
    refine ⟨by have := len_cut o.encs none (some 1); omega, ?_⟩
    refine q _ g ((Bd.tup (K := 2 * k + 1) (by have := len_cut o.encs none (some 1); simp; omega) fun d hd => ?_).mono (by omega))
    rcases List.mem_append.mp hd with hd | hd
    · exact bo d hd
    · exact bo d (mem_cut hd)
  ((with_reducible refine wZ_go ?_); mul_fits; k_ne)
  refine wIf_c (fun c => ?_) fun c => ?_
  · ((with_reducible refine wZ_go ?_); mul_fits; k_ne)
    rw [show rvD o.enc = some (.tuple o.encs.reverse) from rfl]
    k_ne
    exact q _ g ((Bd.tup (K := 2 * k + 1) (by simp; omega) fun d hd => bo d (List.mem_reverse.mp hd)).mono (by omega))
  ((with_reducible refine wZ_go ?_); mul_fits; k_ne)
  refine wIf_c (fun c => ?_) fun c => ?_
  · ((with_reducible refine wZ_go ?_); mul_fits; k_ne)
    exact q _ g ((Bd.lst (K := 2 * k + 1) (by omega) bo).mono (by omega))
  ((with_reducible refine wZ_go ?_); mul_fits; k_ne)
  refine wIf_c (fun c => ?_) fun c => ?_
  · ((with_reducible refine wZ_go ?_); mul_fits; k_ne)
    refine of_w (ds := [.int 0, .int (-1), .bool true, .str (Str.ofString "1"), .none, .tuple [], .int 1]) (.inr rfl) (by omega) (by simp) (by simp [lim]) fun x g hx => ?_
    have bx : Bd 1 x := by
      simp only [List.mem_cons, List.not_mem_nil, or_false] at hx
      rcases hx with rfl | rfl | rfl | rfl | rfl | rfl | rfl <;> exact ⟨by decide +kernel, by decide +kernel⟩
    (try k_ne)
    refine ⟨by omega, q _ g ((Bd.tup (K := 2 * k + 4) (by simp; omega) fun d hd => ?_).mono (by omega))⟩
    rcases List.mem_append.mp hd with hd | hd
    · exact (bo d hd).mono (by omega)
    · rw [List.mem_singleton.mp hd]
      refine (Bd.tup (K := 1) (by simp) fun d hd => ?_).mono (by omega)
      simp only [List.mem_cons, List.not_mem_nil, or_false] at hd
      rcases hd with rfl | rfl
      · exact ⟨by decide +kernel, by decide +kernel⟩
      · exact bx
  ((with_reducible refine wZ_go ?_); mul_fits; k_ne)
  refine wIf_c (fun c => ?_) fun c => ?_
  · ((with_reducible refine wZ_go ?_); mul_fits; k_ne)
    refine ⟨by omega, q _ g ((Bd.tup (K := 2 * k + 4) (by simp; omega) fun d hd => ?_).mono (by omega))⟩
    rcases List.mem_append.mp hd with hd | hd
    · exact (bo d hd).mono (by omega)
    · rw [List.mem_singleton.mp hd]
      exact ⟨by decide +kernel, by simp [PyData.depth, PyData.depthAll]⟩
  ((with_reducible refine wZ_go ?_); mul_fits; k_ne)
  refine wIf_c (fun c => ?_) fun c => ?_
  · ((with_reducible refine wZ_go ?_); mul_fits; k_ne)
    refine of_w (ds := [.none, .int 0, .int 1, .bool true, .str (Str.ofString "w"), .str (Str.ofString ""), .tuple [.tuple []], .tuple [.tuple [], .int 1], .tuple [.tuple [.tuple [], .int 1, .int 1]], .tuple [.list [.tuple [], .int 1]]]) (.inr rfl) (by omega) (by simp) (by simp [lim]) fun x g hx => ?_
    refine q x g (Bd.mono (K := 3) ?_ (by omega))
    simp only [List.mem_cons, List.not_mem_nil, or_false] at hx
    rcases hx with rfl | rfl | rfl | rfl | rfl | rfl | rfl | rfl | rfl | rfl <;> exact ⟨by decide +kernel, by decide +kernel⟩
  have put : ∀ (j : Nat) (x : PyData), Bd (2 * k + 3) x → ∀ y : PyData, Bd (2 * k + 3) y → ∀ g, Q (.tuple (cut o.encs none (some (j : Int)) ++ .tuple [x, y] :: cut o.encs (some ((j : Int) + 1)) none)) g := fun j x hx y hy g => by
    have l1 := len_cut o.encs none (some (j : Int))
    have l2 := len_cut o.encs (some ((j : Int) + 1)) none
    refine q _ g ((Bd.tup (K := 2 * k + 4) (by simp; omega) fun d hd => ?_).mono (by omega))
    rcases List.mem_append.mp hd with hd | hd
    · exact (bo d (mem_cut hd)).mono (by omega)
    · rcases List.mem_cons.mp hd with hd | hd
      · subst hd
        refine (Bd.tup (K := 2 * k + 3) (by simp) fun d hd => ?_)
        simp only [List.mem_cons, List.not_mem_nil, or_false] at hd
        rcases hd with rfl | rfl
        · exact hx
        · exact hy
      · exact (bo d (mem_cut hd)).mono (by omega)
  have hz : cmpD .ne o.enc (.tuple []) = some (!decide (o = .z)) := O.cz_ne (by omega)
  have bel : ∀ j : Nat, j < o.encs.length → ∃ p ∈ o.ts, L2.atI o.encs (j : Int) = some (O.encT p) := fun j hj => by
    rw [ats_get hj]
    have : o.encs[j] ∈ o.ts.map O.encT := by rw [← O.encs_ts]; exact List.getElem_mem hj
    obtain ⟨p, hp, e⟩ := List.mem_map.mp this
    exact ⟨p, hp, by rw [e]⟩
  have pl : ∀ c2 : (!decide (o = .z)) = true, 0 < o.encs.length := fun c2 => by
    cases o with
    | z => simp at c2
    | t _ _ _ => simp [O.encs]
  refine wZ_go (ss_cut (fun ρ _ => ρ = [.sh bag, .sh o.enc, .sh (.int (i : Int)), .un, .un]) ?_ ?_)
  · k_ne
    refine wIf_c (fun c => ?_) fun c => ?_
    · rw [hz]
      k_ne
      refine wIf_c (fun c2 => ?_) fun c2 => ?_
      · have lp := pl c2
        ((with_reducible refine wZ_go ?_); mul_fits; k_ne)
        refine pull_w (by omega) (by omega) (by omega) fun j g hj => ?_
        obtain ⟨p, hp, ep⟩ := bel j (by omega)
        (try k_ne)
        ((with_reducible refine wZ_go ?_); mul_fits; wp_walk using ep)
        refine of_w (ds := [.int 0, .int (-1), .bool true, .none, .tuple [.int p.2]]) (.inr rfl) (by omega) (by simp) (by simp [lim]) fun x g hx => ?_
        have bx : Bd 1 x := by
          simp only [List.mem_cons, List.not_mem_nil, or_false] at hx
          rcases hx with rfl | rfl | rfl | rfl | rfl
          · exact ⟨by decide +kernel, by decide +kernel⟩
          · exact ⟨by decide +kernel, by decide +kernel⟩
          · exact ⟨by decide +kernel, by decide +kernel⟩
          · exact ⟨by decide +kernel, by decide +kernel⟩
          · exact ⟨by simp [smD, smDs], by simp [PyData.depth, PyData.depthAll]⟩
        have l1 := len_cut o.encs none (some (j : Int))
        have l2 := len_cut o.encs (some ((j : Int) + 1)) none
        have h1 := O.mem_ht hp
        have h2 := O.mem_sz hp
        (try k_ne)
        ((with_reducible refine wZ_go ?_); mul_fits; wp_walk using ep, List.length_append, List.append_assoc)
        refine ⟨by omega, by omega, ?_⟩
        exact put j p.1.enc ((Bd.enc (by omega)).mono (by omega)) x (bx.mono (by omega)) g
      · (try k_ne)
    · (try k_ne)
  intro ρ g h
  subst h
  refine ss_cut (fun ρ _ => ρ = [.sh bag, .sh o.enc, .sh (.int (i : Int)), .un, .un]) ?_ ?_
  · k_ne
    refine wIf_c (fun c => ?_) fun c => ?_
    · rw [hz]
      k_ne
      refine wIf_c (fun c2 => ?_) fun c2 => ?_
      · have lp := pl c2
        ((with_reducible refine wZ_go ?_); mul_fits; k_ne)
        refine pull_w (by omega) (by omega) (by omega) fun j g hj => ?_
        obtain ⟨p, hp, ep⟩ := bel j (by omega)
        have l1 := len_cut o.encs none (some (j : Int))
        have l2 := len_cut o.encs (some ((j : Int) + 1)) none
        have h1 := O.mem_ht hp
        have h2 := O.mem_sz hp
        (try k_ne)
        ((with_reducible refine wZ_go ?_); mul_fits; wp_walk using ep)
        refine rec p hp g _ fun x g bx => ?_
        wp_walk using ep, List.length_append, List.append_assoc
        refine ⟨by omega, by omega, ?_⟩
        exact put j x bx (.int p.2) ⟨rfl, by simp [PyData.depth]⟩ g
      · (try k_ne)
    · (try k_ne)
  intro ρ g h
  subst h
  (mul_fits; k_ne)
  exact q _ g ((Bd.enc (o := o) (by omega)).mono (by omega))
theorem bent_w [F_law_pull P] [F_law_of P] [F_law_bent_ordinal P] : ∀ (k : Nat) {n : Nat} {g : Bag} {Q : PyData → Bag → Prop} {o : O}, o.ht ≤ k → k ≤ 20 → o.sz ≤ 1000 → k + 4 ≤ n → (∀ d g, Bd (2 * k + 5) d → Q d g) → wC (P.F cells n) (P.c k_law_bent_ordinal) [bag, o.enc] [] g Q := by
  intro k
  induction k with
  | zero =>
    intro n g Q o hk hk2 hs hn q
    exact bent_ways 0 hk hk2 hs (by omega) (fun p hp => by have := O.mem_ht hp; omega) q
  | succ k ih =>
    intro n g Q o hk hk2 hs hn q
    exact bent_ways (k + 1) hk hk2 hs (by omega) (fun p hp g Q q => ih (by have := O.mem_ht hp; omega) (by omega) (by have := O.mem_sz hp; omega) (by omega) q) q
end
end Rf

set_option maxHeartbeats 1000000
/-! Printed by gen.py from the linked text. -/
namespace Lw
open PySem PySem.W L2 Rf
def topS (i : Nat) : Stmt := PySem.Challenge.pw_vowstair_k02_ordinals_recognized.main.body.getD i (.Pass ⟨0, 0, 0, 0⟩)
def f0 : Fn := ⟨(Str.ofString "_law_pull"), [(Str.ofString "_law_bag_here"), (Str.ofString "_law_sides")], [], .nil⟩
/-- _law_num -/
def f1 : Fn := ⟨(Str.ofString "_law_num"), [(Str.ofString "_law_many_z")], [(Str.ofString "_law_many_z")],
  (.cons (.ret (.ite (.cmp .gt (.var 0) (.con (.int 0))) (.tup (.cons (.tup (.cons (.tup .nil) (.cons (.var 0) .nil))) .nil)) (.tup .nil))) .nil)⟩
/-- _law_great_ordinals -/
def f2 : Fn := ⟨(Str.ofString "_law_great_ordinals"), [], [(Str.ofString "_law_k"), (Str.ofString "_law_wide"), (Str.ofString "_law_deep_one")],
  (.cons (.par 1 2 (.bi .tuple (.lc (.n 0) [0] (.rng (.con (.int 12))) .no (.tup (.cons (.call 0 (.cons (.bin .sub (.con (.int 11)) (.var 0)) .nil) .nil) (.cons (.bin .add (.con (.int 1)) (.var 0)) .nil))))) (.call 0 (.cons (.con (.int 2)) .nil) .nil)) (.cons (.for_ (.n 0) (.rng (.con (.int 5))) (.cons (.set 2 (.tup (.cons (.tup (.cons (.var 2) (.cons (.con (.int 2)) .nil))) (.cons (.tup (.cons (.tup .nil) (.cons (.con (.int 1)) .nil))) .nil)))) .nil)) (.cons (.ret (.lst (.cons (.var 1) (.cons (.var 2) .nil)))) .nil)))⟩
/-- _law_same -/
def f3 : Fn := ⟨(Str.ofString "_law_same"), [(Str.ofString "_law_found"), (Str.ofString "_law_due")], [(Str.ofString "_law_found"), (Str.ofString "_law_due"), (Str.ofString "_law_k")],
  (.cons (.ifs (.isi (.var 1) [.list, .tuple]) (.cons (.ifs (.or (.cmp .ne (.isi (.var 0) [.list]) (.isi (.var 1) [.list])) (.cmp .ne (.isi (.var 0) [.tuple]) (.isi (.var 1) [.tuple]))) (.cons (.ret (.con (.bool false))) .nil) .nil) (.cons (.ret (.and (.cmp .eq (.bi .len (.var 0)) (.bi .len (.var 1))) (.bi .all (.lc (.n 2) [2] (.rng (.bi .len (.var 1))) .no (.call 1 (.cons (.ix (.var 0) (.var 2)) (.cons (.ix (.var 1) (.var 2)) .nil)) .nil))))) .nil)) .nil) (.cons (.ifs (.or (.cmp .is (.var 1) (.con .none)) (.cmp .is (.var 0) (.con .none))) (.cons (.ret (.and (.cmp .is (.var 0) (.con .none)) (.cmp .is (.var 1) (.con .none)))) .nil) .nil) (.cons (.ifs (.or (.cmp .ne (.isi (.var 1) [.bool]) (.isi (.var 0) [.bool])) (.cmp .ne (.isi (.var 1) [.int]) (.isi (.var 0) [.int]))) (.cons (.ret (.con (.bool false))) .nil) .nil) (.cons (.ret (.and (.cmp .eq (.isi (.var 1) [.str]) (.isi (.var 0) [.str])) (.cmp .eq (.var 0) (.var 1)))) .nil))))⟩
/-- _law_ordinal -/
def f4 : Fn := ⟨(Str.ofString "_law_ordinal"), [(Str.ofString "_law_bag_here"), (Str.ofString "_law_deep")], [(Str.ofString "_law_bag_here"), (Str.ofString "_law_deep"), (Str.ofString "_law_some"), (Str.ofString "_law_found"), (Str.ofString "_law_power"), (Str.ofString "_law_k")],
  (.cons (.ifs (.cmp .eq (.var 1) (.con (.int 0))) (.cons (.ret (.call 0 (.cons (.ix (.lst (.cons (.con (.int 0)) (.cons (.con (.int 1)) (.cons (.con (.int 2)) (.cons (.con (.int 3)) (.cons (.bin .add (.con (.int 1)) (.call 2 (.cons (.var 0) (.cons (.bin .pow (.con (.int 10)) (.con (.int 9))) .nil)) .nil)) .nil)))))) (.call 2 (.cons (.var 0) (.cons (.con (.int 5)) .nil)) .nil)) .nil) .nil)) .nil) .nil) (.cons (.set 2 (.lc (.n 5) [5] (.rng (.call 2 (.cons (.var 0) (.cons (.con (.int 4)) .nil)) .nil)) .no (.call 3 (.cons (.var 0) (.cons (.bin .sub (.var 1) (.con (.int 1))) .nil)) .nil))) (.cons (.own 3 .nil) (.cons (.for_ (.n 4) (.seq (.bi .rev (.var 2))) (.cons (.ifs (.or (.cmp .eq (.var 3) (.lst .nil)) (.cmp .lt (.var 4) (.ix (.ix (.var 3) (.neg (.con (.int 1)))) (.con (.int 0))))) (.cons (.app 3 (.tup (.cons (.var 4) (.cons (.bin .add (.con (.int 1)) (.call 2 (.cons (.var 0) (.cons (.ix (.lst (.cons (.con (.int 1)) (.cons (.con (.int 2)) (.cons (.con (.int 2)) (.cons (.con (.int 9)) (.cons (.bin .pow (.con (.int 10)) (.con (.int 12))) .nil)))))) (.call 2 (.cons (.var 0) (.cons (.con (.int 5)) .nil)) .nil)) .nil)) .nil)) .nil)))) .nil) .nil) .nil)) (.cons (.ret (.bi .tuple (.var 3))) .nil)))))⟩
/-- _law_of -/
def f5 : Fn := ⟨(Str.ofString "_law_of"), [(Str.ofString "_law_bag_here"), (Str.ofString "_law_some")], [(Str.ofString "_law_bag_here"), (Str.ofString "_law_some")],
  (.cons (.ret (.ix (.var 1) (.call 2 (.cons (.var 0) (.cons (.bi .len (.var 1)) .nil)) .nil))) .nil)⟩
/-- _law_bent_ordinal -/
def f6 : Fn := ⟨(Str.ofString "_law_bent_ordinal"), [(Str.ofString "_law_bag_here"), (Str.ofString "_law_here")], [(Str.ofString "_law_bag_here"), (Str.ofString "_law_here"), (Str.ofString "_law_way"), (Str.ofString "_law_at_z"), (Str.ofString "_law_odd")],
  (.cons (.set 2 (.call 2 (.cons (.var 0) (.cons (.con (.int 9)) .nil)) .nil)) (.cons (.ifs (.cmp .eq (.var 2) (.con (.int 0))) (.cons (.ret (.bin .add (.var 1) (.sl (.var 1) .no (.so (.con (.int 1)))))) .nil) .nil) (.cons (.ifs (.cmp .eq (.var 2) (.con (.int 1))) (.cons (.ret (.rv (.var 1))) .nil) .nil) (.cons (.ifs (.cmp .eq (.var 2) (.con (.int 2))) (.cons (.ret (.bi .list (.var 1))) .nil) .nil) (.cons (.ifs (.cmp .eq (.var 2) (.con (.int 3))) (.cons (.ret (.bin .add (.var 1) (.tup (.cons (.tup (.cons (.tup .nil) (.cons (.call 4 (.cons (.var 0) (.cons (.lst (.cons (.con (.int 0)) (.cons (.neg (.con (.int 1))) (.cons (.con (.bool true)) (.cons (.con (.str (Str.ofString "1"))) (.cons (.con .none) (.cons (.tup .nil) (.cons (.con (.int 1)) .nil)))))))) .nil)) .nil) .nil))) .nil)))) .nil) .nil) (.cons (.ifs (.cmp .eq (.var 2) (.con (.int 4))) (.cons (.ret (.bin .add (.var 1) (.tup (.cons (.tup .nil) .nil)))) .nil) .nil) (.cons (.ifs (.cmp .eq (.var 2) (.con (.int 5))) (.cons (.ret (.call 4 (.cons (.var 0) (.cons (.lst (.cons (.con .none) (.cons (.con (.int 0)) (.cons (.con (.int 1)) (.cons (.con (.bool true)) (.cons (.con (.str (Str.ofString "w"))) (.cons (.con (.str (Str.ofString ""))) (.cons (.tup (.cons (.tup .nil) .nil)) (.cons (.tup (.cons (.tup .nil) (.cons (.con (.int 1)) .nil))) (.cons (.tup (.cons (.tup (.cons (.tup .nil) (.cons (.con (.int 1)) (.cons (.con (.int 1)) .nil)))) .nil)) (.cons (.tup (.cons (.lst (.cons (.tup .nil) (.cons (.con (.int 1)) .nil))) .nil)) .nil))))))))))) .nil)) .nil)) .nil) .nil) (.cons (.ifs (.and (.cmp .eq (.var 2) (.con (.int 6))) (.cmp .ne (.var 1) (.tup .nil))) (.cons (.set 3 (.call 2 (.cons (.var 0) (.cons (.bi .len (.var 1)) .nil)) .nil)) (.cons (.set 4 (.call 4 (.cons (.var 0) (.cons (.lst (.cons (.con (.int 0)) (.cons (.neg (.con (.int 1))) (.cons (.con (.bool true)) (.cons (.con .none) (.cons (.tup (.cons (.ix (.ix (.var 1) (.var 3)) (.con (.int 1))) .nil)) .nil)))))) .nil)) .nil)) (.cons (.ret (.bin .add (.bin .add (.sl (.var 1) .no (.so (.var 3))) (.tup (.cons (.tup (.cons (.ix (.ix (.var 1) (.var 3)) (.con (.int 0))) (.cons (.var 4) .nil))) .nil))) (.sl (.var 1) (.so (.bin .add (.var 3) (.con (.int 1)))) .no))) .nil))) .nil) (.cons (.ifs (.and (.cmp .eq (.var 2) (.con (.int 7))) (.cmp .ne (.var 1) (.tup .nil))) (.cons (.set 3 (.call 2 (.cons (.var 0) (.cons (.bi .len (.var 1)) .nil)) .nil)) (.cons (.ret (.bin .add (.bin .add (.sl (.var 1) .no (.so (.var 3))) (.tup (.cons (.tup (.cons (.call 5 (.cons (.var 0) (.cons (.ix (.ix (.var 1) (.var 3)) (.con (.int 0))) .nil)) .nil) (.cons (.ix (.ix (.var 1) (.var 3)) (.con (.int 1))) .nil))) .nil))) (.sl (.var 1) (.so (.bin .add (.var 3) (.con (.int 1)))) .no))) .nil)) .nil) (.cons (.ret (.var 1)) .nil))))))))))⟩
/-- is_ordinal -/
def f7 : Fn := ⟨(Str.ofString "is_ordinal"), [(Str.ofString "value")], [(Str.ofString "value"), (Str.ofString "last"), (Str.ofString "term"), (Str.ofString "count")],
  (.cons (.ifs (.not (.isi (.var 0) [.tuple])) (.cons (.ret (.con (.bool false))) .nil) .nil) (.cons (.set 1 (.con .none)) (.cons (.for_ (.n 2) (.seq (.var 0)) (.cons (.ifs (.or (.not (.isi (.var 2) [.tuple])) (.or (.cmp .ne (.bi .len (.var 2)) (.con (.int 2))) (.not (.call 6 (.cons (.ix (.var 2) (.con (.int 0))) .nil) .nil)))) (.cons (.ret (.con (.bool false))) .nil) .nil) (.cons (.set 3 (.ix (.var 2) (.con (.int 1)))) (.cons (.ifs (.or (.not (.isi (.var 3) [.int])) (.or (.isi (.var 3) [.bool]) (.cmp .lt (.var 3) (.con (.int 1))))) (.cons (.ret (.con (.bool false))) .nil) .nil) (.cons (.ifs (.and (.cmp .nis (.var 1) (.con .none)) (.cmp .ge (.ix (.var 2) (.con (.int 0))) (.var 1))) (.cons (.ret (.con (.bool false))) .nil) .nil) (.cons (.set 1 (.ix (.var 2) (.con (.int 0)))) .nil)))))) (.cons (.ret (.con (.bool true))) .nil))))⟩
/-- _law_is_ordinal -/
def f8 : Fn := ⟨(Str.ofString "_law_is_ordinal"), [(Str.ofString "_law_thing")], [(Str.ofString "_law_thing"), (Str.ofString "_law_k")],
  (.cons (.ifs (.not (.isi (.var 0) [.tuple])) (.cons (.ret (.con (.bool false))) .nil) .nil) (.cons (.for_ (.n 1) (.rng (.bi .len (.var 0))) (.cons (.ifs (.or (.not (.isi (.ix (.var 0) (.var 1)) [.tuple])) (.or (.cmp .ne (.bi .len (.ix (.var 0) (.var 1))) (.con (.int 2))) (.not (.call 7 (.cons (.ix (.ix (.var 0) (.var 1)) (.con (.int 0))) .nil) .nil)))) (.cons (.ret (.con (.bool false))) .nil) .nil) (.cons (.ifs (.or (.not (.isi (.ix (.ix (.var 0) (.var 1)) (.con (.int 1))) [.int])) (.or (.isi (.ix (.ix (.var 0) (.var 1)) (.con (.int 1))) [.bool]) (.cmp .lt (.ix (.ix (.var 0) (.var 1)) (.con (.int 1))) (.con (.int 1))))) (.cons (.ret (.con (.bool false))) .nil) .nil) (.cons (.ifs (.and (.cmp .gt (.var 1) (.con (.int 0))) (.not (.cmp .lt (.ix (.ix (.var 0) (.var 1)) (.con (.int 0))) (.ix (.ix (.var 0) (.bin .sub (.var 1) (.con (.int 1)))) (.con (.int 0)))))) (.cons (.ret (.con (.bool false))) .nil) .nil) .nil)))) (.cons (.ret (.con (.bool true))) .nil)))⟩
/-- omega_power -/
def f9 : Fn := ⟨(Str.ofString "omega_power"), [(Str.ofString "exponent"), (Str.ofString "times")], [(Str.ofString "exponent"), (Str.ofString "times")],
  (.cons (.ret (.ite (.cmp .gt (.var 1) (.con (.int 0))) (.tup (.cons (.tup (.cons (.var 0) (.cons (.var 1) .nil))) .nil)) (.glo 0))) .nil)⟩
/-- natural -/
def f10 : Fn := ⟨(Str.ofString "natural"), [(Str.ofString "number")], [(Str.ofString "number")],
  (.cons (.ret (.ite (.cmp .gt (.var 0) (.con (.int 0))) (.tup (.cons (.tup (.cons (.glo 0) (.cons (.var 0) .nil))) .nil)) (.glo 0))) .nil)⟩
def q0 : S := (.set 3 (.call 3 (.cons (.var 1) (.cons (.call 2 (.cons (.var 1) (.cons (.con (.int 4)) .nil)) .nil) .nil)) .nil))
def q1 : S := (.ifs (.not (.call 1 (.cons (.call 6 (.cons (.var 3) .nil) .nil) (.cons (.con (.bool true)) .nil)) .nil)) (.cons (.ret (.con (.bool false))) .nil) .nil)
def q2 : S := (.set 4 (.call 5 (.cons (.var 1) (.cons (.var 3) .nil)) .nil))
def q3 : S := (.ifs (.not (.call 1 (.cons (.call 6 (.cons (.var 4) .nil) .nil) (.cons (.call 7 (.cons (.var 4) .nil) .nil) .nil)) .nil)) (.cons (.ret (.con (.bool false))) .nil) .nil)
def q4 : S := (.set 5 (.call 4 (.cons (.var 1) (.cons (.lst (.cons (.con (.int 0)) (.cons (.con (.int 1)) (.cons (.con (.int 2)) (.cons (.call 2 (.cons (.var 1) (.cons (.bin .pow (.con (.int 10)) (.con (.int 20))) .nil)) .nil) .nil))))) .nil)) .nil))
def q5 : S := (.ifs (.not (.call 1 (.cons (.lst (.cons (.call 9 (.cons (.var 5) .nil) .nil) (.cons (.call 8 (.cons (.var 3) .nil) .nil) .nil))) (.cons (.lst (.cons (.call 0 (.cons (.var 5) .nil) .nil) (.cons (.tup (.cons (.tup (.cons (.var 3) (.cons (.con (.int 1)) .nil))) .nil)) .nil))) .nil)) .nil)) (.cons (.ret (.con (.bool false))) .nil) .nil)
def q6 : S := (.ifs (.not (.call 1 (.cons (.call 10 .nil (.cons (.var 5) (.cons (.var 3) .nil))) (.cons (.ite (.cmp .gt (.var 5) (.con (.int 0))) (.tup (.cons (.tup (.cons (.var 3) (.cons (.var 5) .nil))) .nil)) (.tup .nil)) .nil)) .nil)) (.cons (.ret (.con (.bool false))) .nil) .nil)
def q7 : S := (.for_ (.n 2) (.rng (.con (.int 8))) (.cons q0 (.cons q1 (.cons q2 (.cons q3 (.cons q4 (.cons q5 (.cons q6 .nil))))))))
def q8 : S := (.ifs (.not (.call 1 (.cons (.lst (.cons (.call 6 (.cons (.var 3) .nil) .nil) (.cons (.call 6 (.cons (.bin .add (.var 3) (.sl (.var 3) (.so (.neg (.con (.int 1)))) .no)) .nil) .nil) (.cons (.call 6 (.cons (.rv (.var 3)) .nil) .nil) .nil)))) (.cons (.lst (.cons (.con (.bool true)) (.cons (.con (.bool false)) (.cons (.con (.bool false)) .nil)))) .nil)) .nil)) (.cons (.ret (.con (.bool false))) .nil) .nil)
def q9 : S := (.for_ (.n 3) (.seq (.call 11 .nil .nil)) (.cons q8 .nil))
def q10 : S := (.ret (.call 1 (.cons (.lst (.cons (.glo 0) (.cons (.glo 2) (.cons (.glo 1) .nil)))) (.cons (.lst (.cons (.tup .nil) (.cons (.tup (.cons (.tup (.cons (.tup .nil) (.cons (.con (.int 1)) .nil))) .nil)) (.cons (.tup (.cons (.tup (.cons (.tup (.cons (.tup (.cons (.tup .nil) (.cons (.con (.int 1)) .nil))) .nil)) (.cons (.con (.int 1)) .nil))) .nil)) .nil)))) .nil)) .nil))
def fL : Fn := ⟨(Str.ofString "law"), [(Str.ofString "_law_script")], [(Str.ofString "_law_script"), (Str.ofString "_law_bag_here"), (Str.ofString "_law_turn"), (Str.ofString "_law_here"), (Str.ofString "_law_bent"), (Str.ofString "_law_many_z")],
  (.cons q7 (.cons q9 (.cons q10 .nil)))⟩
def gdat : List (Str × PyData) := [((Str.ofString "ZERO"), (.tuple [])), ((Str.ofString "OMEGA"), (.tuple [(.tuple [(.tuple [(.tuple [(.tuple []), (.int 1)])]), (.int 1)])])), ((Str.ofString "ONE"), (.tuple [(.tuple [(.tuple []), (.int 1)])]))]
def P : Pr := ⟨[f0, f1, f2, f3, f4, f5, f6, f7, f8, f9, f10], gdat,
  [(⟨(Str.ofString "_law_num"), 1, []⟩, 1, [.p 0]),
   (⟨(Str.ofString "_law_same"), 2, []⟩, 3, [.p 0, .p 1]),
   (⟨(Str.ofString "_law_pull"), 2, []⟩, 0, [.p 0, .p 1]),
   (⟨(Str.ofString "_law_ordinal"), 2, []⟩, 4, [.p 0, .p 1]),
   (⟨(Str.ofString "_law_of"), 2, []⟩, 5, [.p 0, .p 1]),
   (⟨(Str.ofString "_law_bent_ordinal"), 2, []⟩, 6, [.p 0, .p 1]),
   (⟨(Str.ofString "is_ordinal"), 1, []⟩, 7, [.p 0]),
   (⟨(Str.ofString "_law_is_ordinal"), 1, []⟩, 8, [.p 0]),
   (⟨(Str.ofString "omega_power"), 1, []⟩, 9, [.p 0, .c (.int 1)]),
   (⟨(Str.ofString "natural"), 1, []⟩, 10, [.p 0]),
   (⟨(Str.ofString "omega_power"), 0, [(Str.ofString "times"), (Str.ofString "exponent")]⟩, 9, [.k 1, .k 0]),
   (⟨(Str.ofString "_law_great_ordinals"), 0, []⟩, 2, [])]⟩
abbrev s_law_pull : Stmt := topS 9
abbrev s_law_num : Stmt := topS 12
abbrev s_law_great_ordinals : Stmt := topS 16
abbrev s_law_same : Stmt := topS 11
abbrev s_law_ordinal : Stmt := topS 13
abbrev s_law_of : Stmt := topS 10
abbrev s_law_bent_ordinal : Stmt := topS 14
abbrev s_is_ordinal : Stmt := topS 4
abbrev s_law_is_ordinal : Stmt := topS 15
abbrev s_omega_power : Stmt := topS 6
abbrev s_natural : Stmt := topS 5
abbrev s_law : Stmt := topS 17
abbrev s_law_bag : Stmt := topS 8
end Lw

set_option maxHeartbeats 4000000
namespace Lw
open PySem PySem.W L2 Rf
theorem c1 : (scopeB f1.N f1.ps (defScope s_law_num) && chkSs (P.tab f1) (defScope s_law_num) f1.body (defBody s_law_num)) = true := by decide +kernel
theorem c2 : (scopeB f2.N f2.ps (defScope s_law_great_ordinals) && chkSs (P.tab f2) (defScope s_law_great_ordinals) f2.body (defBody s_law_great_ordinals)) = true := by decide +kernel
theorem c3 : (scopeB f3.N f3.ps (defScope s_law_same) && chkSs (P.tab f3) (defScope s_law_same) f3.body (defBody s_law_same)) = true := by decide +kernel
theorem c4 : (scopeB f4.N f4.ps (defScope s_law_ordinal) && chkSs (P.tab f4) (defScope s_law_ordinal) f4.body (defBody s_law_ordinal)) = true := by decide +kernel
theorem c5 : (scopeB f5.N f5.ps (defScope s_law_of) && chkSs (P.tab f5) (defScope s_law_of) f5.body (defBody s_law_of)) = true := by decide +kernel
theorem c6 : (scopeB f6.N f6.ps (defScope s_law_bent_ordinal) && chkSs (P.tab f6) (defScope s_law_bent_ordinal) f6.body (defBody s_law_bent_ordinal)) = true := by decide +kernel
theorem c7 : (scopeB f7.N f7.ps (defScope s_is_ordinal) && chkSs (P.tab f7) (defScope s_is_ordinal) f7.body (defBody s_is_ordinal)) = true := by decide +kernel
theorem c8 : (scopeB f8.N f8.ps (defScope s_law_is_ordinal) && chkSs (P.tab f8) (defScope s_law_is_ordinal) f8.body (defBody s_law_is_ordinal)) = true := by decide +kernel
theorem c9 : (scopeB f9.N f9.ps (defScope s_omega_power) && chkSs (P.tab f9) (defScope s_omega_power) f9.body (defBody s_omega_power)) = true := by decide +kernel
theorem c10 : (scopeB f10.N f10.ps (defScope s_natural) && chkSs (P.tab f10) (defScope s_natural) f10.body (defBody s_natural)) = true := by decide +kernel
theorem cL : (scopeB fL.N fL.ps (defScope s_law) && chkSs (P.tab fL) (defScope s_law) fL.body ((defBody s_law).drop 1)) = true := by decide +kernel
def d_law_pull : He.DefD := ⟨((Str.ofString "_law_pull"), none), (Str.ofString "_law_pull"), (Str.ofString "_law_pull"), defArgs s_law_pull, defBody s_law_pull, defScope s_law_pull, [], []⟩
def d_law_num : He.DefD := ⟨((Str.ofString "_law_num"), none), (Str.ofString "_law_num"), (Str.ofString "_law_num"), defArgs s_law_num, defBody s_law_num, defScope s_law_num, [], []⟩
def d_law_great_ordinals : He.DefD := ⟨((Str.ofString "_law_great_ordinals"), none), (Str.ofString "_law_great_ordinals"), (Str.ofString "_law_great_ordinals"), defArgs s_law_great_ordinals, defBody s_law_great_ordinals, defScope s_law_great_ordinals, [], []⟩
def d_law_same : He.DefD := ⟨((Str.ofString "_law_same"), none), (Str.ofString "_law_same"), (Str.ofString "_law_same"), defArgs s_law_same, defBody s_law_same, defScope s_law_same, [], []⟩
def d_law_ordinal : He.DefD := ⟨((Str.ofString "_law_ordinal"), none), (Str.ofString "_law_ordinal"), (Str.ofString "_law_ordinal"), defArgs s_law_ordinal, defBody s_law_ordinal, defScope s_law_ordinal, [], []⟩
def d_law_of : He.DefD := ⟨((Str.ofString "_law_of"), none), (Str.ofString "_law_of"), (Str.ofString "_law_of"), defArgs s_law_of, defBody s_law_of, defScope s_law_of, [], []⟩
def d_law_bent_ordinal : He.DefD := ⟨((Str.ofString "_law_bent_ordinal"), none), (Str.ofString "_law_bent_ordinal"), (Str.ofString "_law_bent_ordinal"), defArgs s_law_bent_ordinal, defBody s_law_bent_ordinal, defScope s_law_bent_ordinal, [], []⟩
def d_is_ordinal : He.DefD := ⟨((Str.ofString "is_ordinal"), none), (Str.ofString "is_ordinal"), (Str.ofString "is_ordinal"), defArgs s_is_ordinal, defBody s_is_ordinal, defScope s_is_ordinal, [], []⟩
def d_law_is_ordinal : He.DefD := ⟨((Str.ofString "_law_is_ordinal"), none), (Str.ofString "_law_is_ordinal"), (Str.ofString "_law_is_ordinal"), defArgs s_law_is_ordinal, defBody s_law_is_ordinal, defScope s_law_is_ordinal, [], []⟩
def d_omega_power : He.DefD := ⟨((Str.ofString "omega_power"), none), (Str.ofString "omega_power"), (Str.ofString "omega_power"), defArgs s_omega_power, defBody s_omega_power, defScope s_omega_power, [], [((Str.ofString "times"), .int 1)]⟩
def d_natural : He.DefD := ⟨((Str.ofString "natural"), none), (Str.ofString "natural"), (Str.ofString "natural"), defArgs s_natural, defBody s_natural, defScope s_natural, [], []⟩
def d_law_bag : He.DefD := ⟨((Str.ofString "_law_bag"), none), (Str.ofString "_law_bag"), (Str.ofString "_law_bag"), defArgs s_law_bag, defBody s_law_bag, defScope s_law_bag, [], []⟩
def d_law : He.DefD := ⟨((Str.ofString "law"), none), (Str.ofString "law"), (Str.ofString "law"), defArgs s_law, defBody s_law, defScope s_law, [], []⟩
def fn : List He.DefD := [d_law_pull, d_law_num, d_law_great_ordinals, d_law_same, d_law_ordinal, d_law_of, d_law_bent_ordinal, d_is_ordinal, d_law_is_ordinal, d_omega_power, d_natural, d_law_bag, d_law]
def fa : List He.Fa := [.glo (Str.ofString "_law_pull"), .glo (Str.ofString "_law_num"), .glo (Str.ofString "_law_great_ordinals"), .glo (Str.ofString "_law_same"), .glo (Str.ofString "_law_ordinal"), .glo (Str.ofString "_law_of"), .glo (Str.ofString "_law_bent_ordinal"), .glo (Str.ofString "is_ordinal"), .glo (Str.ofString "_law_is_ordinal"), .glo (Str.ofString "omega_power"), .glo (Str.ofString "natural"), .glo (Str.ofString "_law_bag"), .glo (Str.ofString "law")] ++ bltNames.map .free
theorem memf {x : Str} (h : x ∈ bltNames) : He.Fa.free x ∈ fa := List.mem_append.mpr (.inr (List.mem_map.mpr ⟨x, h, rfl⟩))
def adl (K : Frag) : List Addr := [He.fAd K d_law_pull.at_, He.fAd K d_law_num.at_, He.fAd K d_law_great_ordinals.at_, He.fAd K d_law_same.at_, He.fAd K d_law_ordinal.at_, He.fAd K d_law_of.at_, He.fAd K d_law_bent_ordinal.at_, He.fAd K d_is_ordinal.at_, He.fAd K d_law_is_ordinal.at_, He.fAd K d_omega_power.at_, He.fAd K d_natural.at_]
def ad (K : Frag) (f : Nat) : Addr := (adl K).getD f 0
section
variable {prog : Program} {w : World} {K : Frag} {h : Heap} {mg : Str → Option Value}
theorem g_law_pull (X : K.In h) (G : h.Ns mainGlobals mg) (c : SaysR gdat fa fn K) : mg (Str.ofString "_law_pull") = some (.ref (He.fAd K d_law_pull.at_)) := He.glo_ok X G (c.d.fact 0 (f := .glo (Str.ofString "_law_pull")) rfl)
theorem g_law_num (X : K.In h) (G : h.Ns mainGlobals mg) (c : SaysR gdat fa fn K) : mg (Str.ofString "_law_num") = some (.ref (He.fAd K d_law_num.at_)) := He.glo_ok X G (c.d.fact 1 (f := .glo (Str.ofString "_law_num")) rfl)
theorem g_law_great_ordinals (X : K.In h) (G : h.Ns mainGlobals mg) (c : SaysR gdat fa fn K) : mg (Str.ofString "_law_great_ordinals") = some (.ref (He.fAd K d_law_great_ordinals.at_)) := He.glo_ok X G (c.d.fact 2 (f := .glo (Str.ofString "_law_great_ordinals")) rfl)
theorem g_law_same (X : K.In h) (G : h.Ns mainGlobals mg) (c : SaysR gdat fa fn K) : mg (Str.ofString "_law_same") = some (.ref (He.fAd K d_law_same.at_)) := He.glo_ok X G (c.d.fact 3 (f := .glo (Str.ofString "_law_same")) rfl)
theorem g_law_ordinal (X : K.In h) (G : h.Ns mainGlobals mg) (c : SaysR gdat fa fn K) : mg (Str.ofString "_law_ordinal") = some (.ref (He.fAd K d_law_ordinal.at_)) := He.glo_ok X G (c.d.fact 4 (f := .glo (Str.ofString "_law_ordinal")) rfl)
theorem g_law_of (X : K.In h) (G : h.Ns mainGlobals mg) (c : SaysR gdat fa fn K) : mg (Str.ofString "_law_of") = some (.ref (He.fAd K d_law_of.at_)) := He.glo_ok X G (c.d.fact 5 (f := .glo (Str.ofString "_law_of")) rfl)
theorem g_law_bent_ordinal (X : K.In h) (G : h.Ns mainGlobals mg) (c : SaysR gdat fa fn K) : mg (Str.ofString "_law_bent_ordinal") = some (.ref (He.fAd K d_law_bent_ordinal.at_)) := He.glo_ok X G (c.d.fact 6 (f := .glo (Str.ofString "_law_bent_ordinal")) rfl)
theorem g_is_ordinal (X : K.In h) (G : h.Ns mainGlobals mg) (c : SaysR gdat fa fn K) : mg (Str.ofString "is_ordinal") = some (.ref (He.fAd K d_is_ordinal.at_)) := He.glo_ok X G (c.d.fact 7 (f := .glo (Str.ofString "is_ordinal")) rfl)
theorem g_law_is_ordinal (X : K.In h) (G : h.Ns mainGlobals mg) (c : SaysR gdat fa fn K) : mg (Str.ofString "_law_is_ordinal") = some (.ref (He.fAd K d_law_is_ordinal.at_)) := He.glo_ok X G (c.d.fact 8 (f := .glo (Str.ofString "_law_is_ordinal")) rfl)
theorem g_omega_power (X : K.In h) (G : h.Ns mainGlobals mg) (c : SaysR gdat fa fn K) : mg (Str.ofString "omega_power") = some (.ref (He.fAd K d_omega_power.at_)) := He.glo_ok X G (c.d.fact 9 (f := .glo (Str.ofString "omega_power")) rfl)
theorem g_natural (X : K.In h) (G : h.Ns mainGlobals mg) (c : SaysR gdat fa fn K) : mg (Str.ofString "natural") = some (.ref (He.fAd K d_natural.at_)) := He.glo_ok X G (c.d.fact 10 (f := .glo (Str.ofString "natural")) rfl)
theorem g_law_bag (X : K.In h) (G : h.Ns mainGlobals mg) (c : SaysR gdat fa fn K) : mg (Str.ofString "_law_bag") = some (.ref (He.fAd K d_law_bag.at_)) := He.glo_ok X G (c.d.fact 11 (f := .glo (Str.ofString "_law_bag")) rfl)
theorem g_law (X : K.In h) (G : h.Ns mainGlobals mg) (c : SaysR gdat fa fn K) : mg (Str.ofString "law") = some (.ref (He.fAd K d_law.at_)) := He.glo_ok X G (c.d.fact 12 (f := .glo (Str.ofString "law")) rfl)
theorem hd (X : K.In h) (G : h.Ns mainGlobals mg) (c : SaysR gdat fa fn K) : ∃ fd : Nat → FuncData, Hd P prog w K mg (ad K) fd ∧ FunD K d_law_pull.name d_law_pull.qual d_law_pull.params d_law_pull.body d_law_pull.scope [] [] (ad K 0) (fd 0) := by
  obtain ⟨q0, F0⟩ := c.d.def_ 0 (d := d_law_pull) rfl
  obtain ⟨q1, F1⟩ := c.d.def_ 1 (d := d_law_num) rfl
  obtain ⟨q2, F2⟩ := c.d.def_ 2 (d := d_law_great_ordinals) rfl
  obtain ⟨q3, F3⟩ := c.d.def_ 3 (d := d_law_same) rfl
  obtain ⟨q4, F4⟩ := c.d.def_ 4 (d := d_law_ordinal) rfl
  obtain ⟨q5, F5⟩ := c.d.def_ 5 (d := d_law_of) rfl
  obtain ⟨q6, F6⟩ := c.d.def_ 6 (d := d_law_bent_ordinal) rfl
  obtain ⟨q7, F7⟩ := c.d.def_ 7 (d := d_is_ordinal) rfl
  obtain ⟨q8, F8⟩ := c.d.def_ 8 (d := d_law_is_ordinal) rfl
  obtain ⟨q9, F9⟩ := c.d.def_ 9 (d := d_omega_power) rfl
  obtain ⟨q10, F10⟩ := c.d.def_ 10 (d := d_natural) rfl
  refine ⟨fun f => [q0, q1, q2, q3, q4, q5, q6, q7, q8, q9, q10].getD f q0, ⟨fun f F hF => ?_, fun F hF => ?_, fun s sh f srcs hs => ?_, fun k x d hk => ?_, fun x hx => He.free_ok X G (c.free (memf hx))⟩, F0⟩
  · match f, hF with
    | 0, hF => cases hF; exact ⟨_, _, _, _, _, F1, scopeB_ok (He.ba c1).1, (He.ba c1).2⟩
    | 1, hF => cases hF; exact ⟨_, _, _, _, _, F2, scopeB_ok (He.ba c2).1, (He.ba c2).2⟩
    | 2, hF => cases hF; exact ⟨_, _, _, _, _, F3, scopeB_ok (He.ba c3).1, (He.ba c3).2⟩
    | 3, hF => cases hF; exact ⟨_, _, _, _, _, F4, scopeB_ok (He.ba c4).1, (He.ba c4).2⟩
    | 4, hF => cases hF; exact ⟨_, _, _, _, _, F5, scopeB_ok (He.ba c5).1, (He.ba c5).2⟩
    | 5, hF => cases hF; exact ⟨_, _, _, _, _, F6, scopeB_ok (He.ba c6).1, (He.ba c6).2⟩
    | 6, hF => cases hF; exact ⟨_, _, _, _, _, F7, scopeB_ok (He.ba c7).1, (He.ba c7).2⟩
    | 7, hF => cases hF; exact ⟨_, _, _, _, _, F8, scopeB_ok (He.ba c8).1, (He.ba c8).2⟩
    | 8, hF => cases hF; exact ⟨_, _, _, _, _, F9, scopeB_ok (He.ba c9).1, (He.ba c9).2⟩
    | 9, hF => cases hF; exact ⟨_, _, _, _, _, F10, scopeB_ok (He.ba c10).1, (He.ba c10).2⟩
    | n + 10, hF => exact absurd (show (none : Option Fn) = some F from hF) (by simp)
  · cases hF; rfl
  · match s, hs with
    | 0, hs => cases hs; exact ⟨f1, rfl, g_law_num X G c, F1.kp, rfl, _, _, kb_plain F1 _ _ _ (fun _ _ _ _ _ _ us ws h1 h2 => match us, h1, ws, h2 with | [_], _, [], _ => rfl), fun b S vs zs ds es r q _ _ => gS_arr r q _ rfl⟩
    | 1, hs => cases hs; exact ⟨f3, rfl, g_law_same X G c, F3.kp, rfl, _, _, kb_plain F3 _ _ _ (fun _ _ _ _ _ _ us ws h1 h2 => match us, h1, ws, h2 with | [_, _], _, [], _ => rfl), fun b S vs zs ds es r q _ _ => gS_arr r q _ rfl⟩
    | 2, hs => cases hs; exact ⟨f0, rfl, g_law_pull X G c, F0.kp, rfl, _, _, kb_plain F0 _ _ _ (fun _ _ _ _ _ _ us ws h1 h2 => match us, h1, ws, h2 with | [_, _], _, [], _ => rfl), fun b S vs zs ds es r q _ _ => gS_arr r q _ rfl⟩
    | 3, hs => cases hs; exact ⟨f4, rfl, g_law_ordinal X G c, F4.kp, rfl, _, _, kb_plain F4 _ _ _ (fun _ _ _ _ _ _ us ws h1 h2 => match us, h1, ws, h2 with | [_, _], _, [], _ => rfl), fun b S vs zs ds es r q _ _ => gS_arr r q _ rfl⟩
    | 4, hs => cases hs; exact ⟨f5, rfl, g_law_of X G c, F5.kp, rfl, _, _, kb_plain F5 _ _ _ (fun _ _ _ _ _ _ us ws h1 h2 => match us, h1, ws, h2 with | [_, _], _, [], _ => rfl), fun b S vs zs ds es r q _ _ => gS_arr r q _ rfl⟩
    | 5, hs => cases hs; exact ⟨f6, rfl, g_law_bent_ordinal X G c, F6.kp, rfl, _, _, kb_plain F6 _ _ _ (fun _ _ _ _ _ _ us ws h1 h2 => match us, h1, ws, h2 with | [_, _], _, [], _ => rfl), fun b S vs zs ds es r q _ _ => gS_arr r q _ rfl⟩
    | 6, hs => cases hs; exact ⟨f7, rfl, g_is_ordinal X G c, F7.kp, rfl, _, _, kb_plain F7 _ _ _ (fun _ _ _ _ _ _ us ws h1 h2 => match us, h1, ws, h2 with | [_], _, [], _ => rfl), fun b S vs zs ds es r q _ _ => gS_arr r q _ rfl⟩
    | 7, hs => cases hs; exact ⟨f8, rfl, g_law_is_ordinal X G c, F8.kp, rfl, _, _, kb_plain F8 _ _ _ (fun _ _ _ _ _ _ us ws h1 h2 => match us, h1, ws, h2 with | [_], _, [], _ => rfl), fun b S vs zs ds es r q _ _ => gS_arr r q _ rfl⟩
    | 8, hs => cases hs; obtain ⟨mv, kb⟩ := kb_kwd (ps := f9.ps) F9 1 [] [((Str.ofString "times"), .int 1)] [.p 0, .c (.int 1)] (by simp [He.DefD.kws, d_omega_power]) (by simp [He.DefD.kws, d_omega_power, He.Dv.v]) (fun _ _ _ _ _ _ us mv ws h1 h2 h3 => match us, h1, mv, h2, ws, h3 with | [_], _, [_], _, [], _ => ⟨_, _, _, _, _, _, rfl, rfl, rfl⟩); exact ⟨f9, rfl, g_omega_power X G c, F9.kp, rfl, _, _, kb, fun b S vs zs ds es r q l1 l2 => pick_arr r q _ (by rw [l1, l2]; decide) (.cons (.int _) .nil)⟩
    | 9, hs => cases hs; exact ⟨f10, rfl, g_natural X G c, F10.kp, rfl, _, _, kb_plain F10 _ _ _ (fun _ _ _ _ _ _ us ws h1 h2 => match us, h1, ws, h2 with | [_], _, [], _ => rfl), fun b S vs zs ds es r q _ _ => gS_arr r q _ rfl⟩
    | 10, hs => cases hs; obtain ⟨mv, kb⟩ := kb_kwd (ps := f9.ps) F9 0 [(Str.ofString "times"), (Str.ofString "exponent")] [] [.k 1, .k 0] (by simp [He.DefD.kws, d_omega_power]) (by simp [He.DefD.kws, d_omega_power, He.Dv.v]) (fun _ _ _ _ _ _ us mv ws h1 h2 h3 => match us, h1, mv, h2, ws, h3 with | [], _, [], _, [_, _], _ => rfl); exact ⟨f9, rfl, g_omega_power X G c, F9.kp, rfl, _, _, kb, fun b S vs zs ds es r q l1 l2 => pick_arr r q _ (by rw [l1, l2]; decide) .nil⟩
    | 11, hs => cases hs; exact ⟨f2, rfl, g_law_great_ordinals X G c, F2.kp, rfl, _, _, kb_plain F2 _ _ _ (fun _ _ _ _ _ _ us ws h1 h2 => match us, h1, ws, h2 with | [], _, [], _ => rfl), fun b S vs zs ds es r q _ _ => gS_arr r q _ rfl⟩
    | n + 12, hs => exact absurd (show (none : Option (Shp × Nat × List Src)) = some _ from hs) (by simp)
  · obtain ⟨u, v, h1, h2, h3⟩ := gloB_ok X G (q := (x, d)) (c.data (List.mem_of_getElem? hk))
    exact ⟨u, v, h1, h2, h3⟩
end
/-! ### the draw and the bag -/
section
variable {prog : Program} {w : World} {K : Frag} {h : Heap} {mg : Str → Option Value} {base : Heap}
theorem scP : FnScope [Str.ofString "_law_bag_here", Str.ofString "_law_sides", Str.ofString "_law_cell", Str.ofString "_law_got", Str.ofString "_law_seed"] [Str.ofString "_law_bag_here", Str.ofString "_law_sides"] (defScope s_law_pull) := scopeB_ok (by decide +kernel)
theorem scB : FnScope [Str.ofString "_law_script", Str.ofString "_law_salt", Str.ofString "_law_cell"] [Str.ofString "_law_script"] (defScope s_law_bag) := scopeB_ok (by decide +kernel)
theorem pull_ok {f : Addr} {fd : FuncData} (F : FunD K d_law_pull.name d_law_pull.qual d_law_pull.params d_law_pull.body d_law_pull.scope [] [] f fd) (mi : mg "int" = none) (ml : mg "len" = none) (ns : List Int) (n : Nat) : FnOk prog w K mg base CX0 (n + 1) f fd f0.ps (spF P ns K (n + 1) 0) := by
  refine F.ok scP (fun vs H Q E q => ?_) (fun cdv A outer s H vs Q E hr q => ⟨t_pull K, PSs.nox ?_, ?_⟩)
  · obtain ⟨b, S, ds, g, d, g', _, hl, _⟩ := q
    exact hl
  · exact pss_cons (ps_if (PW.pt (pw_and (pt_cmpR op_eq (q_bx (pv 0)) pe_int (nomark _)) (pw_and1 (pt_cmpR op_lt (q_bx (pv 0)) (q_len rfl ml (q_bx (pv 0)) rfl) (nomark _)))))
        (pss_cons (ps_set (i := 2) scP.nd rfl (.inl rfl) (pe_ix ix_list (q_bx (pv 0)) (q_bx (pv 0)) (fun _ _ => rfl)))
          (pss_cons (q_store (pv 0) (pe_op op_add (q_bx (pv 0)) pe_int) rfl rfl)
            (pss_one (ps_if (pt_cmpR op_ge (pv 2) (pe_op op_pow pe_int pe_int) (nomark _)) (pss_one (q_store (pv 0) (pv 2) rfl rfl))
              (pss_one (q_store (pv 0) (pe_op op_mod (pe_op op_add (pe_op op_add (pe_op op_mul (q_bx (pv 0)) pe_int) (pe_op op_mod (q_int rfl mi (pv 2) rfl) pe_int)) pe_int) pe_int) rfl rfl))))))
        pss_nil)
      (pss_cons (ps_if (pt_cmpR op_gt (q_bx (pv 0)) pe_int (nomark _))
          (pss_cons (ps_set (i := 3) scP.nd rfl (.inl rfl) (pe_op op_mod (q_int rfl mi (q_bx (pv 0)) rfl) (pv 1)))
            (pss_cons (q_store (pv 0) (pe_op op_fdivW (q_bx (pv 0)) (pv 1)) rfl rfl) (pss_one (ps_ret (pv 3))))) pss_nil)
      (pss_cons (q_store (pv 0) (pe_op op_add (q_bx (pv 0)) pe_int) rfl rfl)
      (pss_cons (ps_set (i := 4) scP.nd rfl (.inl rfl) (pe_op op_mod (pe_op op_add (q_bx (pv 0)) (pe_op op_mul (q_bx (pv 0)) pe_int)) pe_int))
      (pss_cons (q_store (pv 0) (pe_op op_mod (pe_op op_add (pe_op op_add (pe_op op_pow (pv 4) pe_int) (pe_op op_mul pe_int (pv 4))) pe_int) pe_int) rfl rfl)
      (pss_one (ps_ret (pe_op op_mod (pe_op op_add (pe_op op_fdivW (q_bx (pv 0)) pe_int) (pe_op op_mul (pe_op op_mod (q_int rfl mi (q_bx (pv 0)) rfl) pe_int) pe_int)) (pv 1))))))))
  · exact pull_end q
theorem bag_ok {f : Addr} {fd : FuncData} {n : Nat} (F : FunD K d_law_bag.name d_law_bag.qual d_law_bag.params d_law_bag.body d_law_bag.scope [] [] f fd) (mi : mg "int" = none) (ml : mg "list" = none) : FnOk prog w K mg base CX0 (n + 1) f fd [Str.ofString "_law_script"] (spBag K) := by
  refine F.ok scB (fun vs H Q E q => ?_) (fun cdv A outer s H vs Q E hr q => ⟨t_bag K, PSs.nox ?_, ?_⟩)
  · obtain ⟨a, ns, rfl, _⟩ := q
    rfl
  · exact pss_cons (ps_set (i := 1) scB.nd rfl (.inl rfl) pe_int)
      (pss_cons (ps_for PassesOwn.never rfl (pi_list (pe_slice sl_list (pv 0) po_none (po_some pe_int))) (pg_name (i := 2) scB.nd rfl (.inl rfl))
        (pss_one (ps_set (i := 1) scB.nd rfl (.inl rfl) (pe_op op_mod (pe_op op_add (pe_op op_add (pe_op op_mul (pv 1) pe_int) (pe_op op_mod (q_int rfl mi (pv 2) rfl) pe_int)) pe_int) pe_int))))
      (pss_one (ps_ret (pe_lst (pa_cons (pe_callTy call_list_of rfl ml (by decide +kernel) (pa_cons (pe_slice sl_list (pv 0) po_none (po_some pe_int)) pa_nil)) (pa_cons pe_int (pa_cons pe_int (pa_cons (pv 1) (pa_cons pe_int pa_nil)))))))))
  · obtain ⟨a, ns, rfl, hS, hl, k⟩ := q
    exact pure_bag hS hl k
end
/-! ### the head -/
abbrev R : OpenRow := OpenLaw.row PySem.Challenge.rw_vowstair_k02_ordinals_recognized
abbrev hk : Hook := hookR 7 gdat fa fn
def ob (s : SharedT) : AlR := obsRG 7 gdat fa fn (HandSHeadRun.getT s)
theorem ob_eq (s : SharedT) : ob s = hk.obs s.abs := obsRG_eq (HandSHeadRun.getT_eq s)
def loose : List Str := [(Str.ofString "is_ordinal"), (Str.ofString "natural"), (Str.ofString "omega_power"), (Str.ofString "_law_bag"), (Str.ofString "_law_pull"), (Str.ofString "_law_of"), (Str.ofString "_law_same"), (Str.ofString "_law_num"), (Str.ofString "_law_ordinal"), (Str.ofString "_law_bent_ordinal"), (Str.ofString "_law_is_ordinal"), (Str.ofString "_law_great_ordinals"), (Str.ofString "ZERO"), (Str.ofString "ONE"), (Str.ofString "OMEGA")]
theorem run (w : World) : HandSHeadRun.RunEq R (view R.prog [17]) hk ob 4000 loose w := by
  intro os
  kernel_rfl
theorem facts (n : Nat) (hev : ∀ (ns : List Int) (g : Bag), ns.length ≤ 63 → ∃ ρ' g', evSs (Φ P ns (n + 1)) P.gl fL.body (lawIn fL.N) g = some (.rt (.bool true), ρ', g')) {prog : Program} {w : World} {K : Frag} {h : Heap} {mg : Str → Option Value} {f : Addr} (X : K.In h) (G : h.Ns mainGlobals mg) (hfa : mg (Str.ofString "law") = some (.ref f)) (c : SaysR gdat fa fn K) :
    ∃ fd : FuncData, (∀ (s : Shared) (v : Value), BindsTo s fd ⟨[v], []⟩ [(Str.ofString "_law_script", v)]) ∧ ∀ base : Heap, K.In base → base.Ns mainGlobals mg → FnOk prog w K mg base CX0 (n + 2) f fd [Str.ofString "_law_script"] (spLaw K) := by
  obtain ⟨fd, H, F0⟩ := hd (prog := prog) (w := w) X G c
  obtain ⟨qB, FB⟩ := c.d.def_ (fn.length - 2) (d := d_law_bag) rfl
  obtain ⟨qL, FL⟩ := c.d.def_ (fn.length - 1) (d := d_law) rfl
  have e := hfa.symm.trans (g_law X G c)
  cases e
  have b := FunD.bindsA (ps := [Str.ofString "_law_script"]) FL fun _ _ _ _ _ _ us hl => match us, hl with | [_], _ => rfl
  have bB := FunD.bindsN (ps := [Str.ofString "_law_script"]) FB fun _ _ _ _ _ _ us hl => match us, hl with | [_], _ => rfl
  have mi : mg "int" = none := He.free_ok X G (c.free (memf (by decide)))
  have ml : mg "len" = none := He.free_ok X G (c.free (memf (by decide)))
  have mli : mg "list" = none := He.free_ok X G (c.free (memf (by decide)))
  refine ⟨qL, fun s v => b s [v] rfl, fun base _ _ => ?_⟩
  exact law_ok (base := base) P (F := fL) (n := n + 1) H (fun ns F m hF => by cases hF; exact pull_ok F0 mi ml ns m) (kpB := FB.kp) FL (scopeB_ok (He.ba cL).1) rfl rfl (by decide +kernel) (by decide +kernel) (by decide +kernel) (by decide) (bag_ok FB mi mli) bB (g_law_bag X G c) (He.ba cL).2 hev
end Lw

set_option maxHeartbeats 1000000
namespace Lw
open PySem PySem.W L2 Rf
def Pg : Pc := { toPr := P, c := fun k => (([(2, 0), (19, 1), (0, 2), (3, 3), (1, 4), (35, 5), (33, 6), (34, 7), (25, 8), (36, 9), (37, 10), (38, 11)] : List (Nat × Nat)).lookup k).getD 0, gc := fun k => (([(3, 0), (5, 1), (4, 2)] : List (Nat × Nat)).lookup k).getD 0 }
instance : F_law_pull Pg := ⟨⟨_, rfl⟩⟩
instance : F_law_num Pg := ⟨_, 0, _, rfl, rfl, rfl, rfl, rfl⟩
instance : F_law_same Pg := ⟨_, 2, _, rfl, rfl, rfl, rfl, rfl⟩
instance : F_law_ordinal Pg := ⟨_, 3, _, rfl, rfl, rfl, rfl, rfl⟩
instance : F_law_of Pg := ⟨_, 4, _, rfl, rfl, rfl, rfl, rfl⟩
instance : F_law_bent_ordinal Pg := ⟨_, 5, _, rfl, rfl, rfl, rfl, rfl⟩
instance : F_is_ordinal Pg := ⟨_, 6, _, rfl, rfl, rfl, rfl, rfl⟩
instance : F_law_is_ordinal Pg := ⟨_, 7, _, rfl, rfl, rfl, rfl, rfl⟩
instance : F_omega_power_1 Pg := ⟨_, 8, _, rfl, rfl, rfl, rfl, rfl⟩
instance : F_natural Pg := ⟨_, 9, _, rfl, rfl, rfl, rfl, rfl⟩
instance : F_omega_power_0_times_exponent Pg := ⟨_, 8, _, rfl, rfl, rfl, rfl, rfl⟩
instance : G_ZERO Pg := ⟨rfl⟩
instance : G_ONE Pg := ⟨rfl⟩
end Lw

set_option maxHeartbeats 1000000
namespace Lw
open PySem PySem.W L2 Rf
local macro_rules | `(tactic| k_ne) => `(tactic| simp only [wZ_nil, wE_var, wE_con, wE_glo, wE_tup, wE_lst, wE_bin, wE_cmp, wE_chn, wE_neg, wE_and, wE_or, wE_not, wE_ite, wE_call, wE_bi, wE_isi, wE_ix, wE_sl, wE_lc, wA_nil, wA_cons, wA_star, wP_no, wP_so, wCd_no, wCd_so, wI_seq, wI_rng, wI_rng2, wI_enm, wE_rv, wE_jn, wSh_some, wD_list, wO_some, wB_bool, wN_int, wQ_list, wQ_tuple, wOw_some, wIf_t, wIf_f, seeF, see_slot, frz_slot, slot_some, slot_none, Rf.settle, frzF, putS, putE, wipeE, flat, flats, E.vars, Es.vars, Eo.vars, It.vars, wO_ite, bn_ai, bn_as, bn_at, bn_al, bn_si, bn_mi, bn_mt, bn_oi, bn_di, bn_pi, ix_l, ix_t, sl_l, sl_t, sl_s, it_l, it_t, it_s, ty_t, ty_l, ty_i, ty_b, ty_s, ty_n, tk_t, tk_l, tk_i, tk_b, tk_s, tk_n, Ty.ofT, Ty.ofL, Ty.ofI, Ty.ofB, Ty.ofS, bi_ll, bi_lt, bi_tl, bi_tt, bi_l1, bi_l2, bi_ii, rangeD_len, Int.toNat_natCast, noList, noLists, Ss.app, thenQ, retQ, turnQ, ats0, ats1, ci_eq, ci_ne, ci_lt, ci_le, ci_gt, ci_ge, List.map_cons, List.map_nil, List.cons_append, List.nil_append, List.append_nil, List.length_cons, List.length_nil, List.foldl_cons, List.foldl_nil, List.set_cons_succ, List.set_cons_zero, List.getElem?_cons_succ, List.getElem?_cons_zero, List.any_cons, List.any_nil, List.mem_cons, List.not_mem_nil, Option.map_some, Option.map_none, Bool.or_false, Bool.or_true, Bool.false_or, Bool.true_or, Bool.and_self, Bool.and_true, Bool.true_and, Bool.and_false, Bool.false_and, Bool.not_true, Bool.not_false, Bool.false_eq_true, Nat.reduceEqDiff, Nat.reduceAdd, Nat.reduceLT, Nat.reduceLeDiff, Nat.reduceSub, Nat.zero_add, List.replicate, or_false, or_true, false_or, true_or, if_true, if_false, ite_self, true_and, and_true, decide_true, decide_false, List.length_replicate, lim, Int.cast_ofNat_Int, arr, List.getD_cons_zero, List.getD_cons_succ, O.nls, rows_nl, List.isEmpty_nil, List.isEmpty_cons, List.length_map, Int.reduceNeg, Int.reduceLE, Int.reduceLT, Int.reduceToNat, Int.reduceAdd, Int.reduceSub, Int.reducePow, Int.reduceMul, and_self, Int.reduceEq, Int.natCast_zero, Int.natCast_one])
local macro_rules | `(tactic| wp_walk using $ts,*) => `(tactic| simp only [wZ_nil, wE_var, wE_con, wE_glo, wE_tup, wE_lst, wE_bin, wE_cmp, wE_chn, wE_neg, wE_and, wE_or, wE_not, wE_ite, wE_call, wE_bi, wE_isi, wE_ix, wE_sl, wE_lc, wA_nil, wA_cons, wA_star, wP_no, wP_so, wCd_no, wCd_so, wI_seq, wI_rng, wI_rng2, wI_enm, wE_rv, wE_jn, wSh_some, wD_list, wO_some, wB_bool, wN_int, wQ_list, wQ_tuple, wOw_some, wIf_t, wIf_f, seeF, see_slot, frz_slot, slot_some, slot_none, Rf.settle, frzF, putS, putE, wipeE, flat, flats, E.vars, Es.vars, Eo.vars, It.vars, wO_ite, bn_ai, bn_as, bn_at, bn_al, bn_si, bn_mi, bn_mt, bn_oi, bn_di, bn_pi, ix_l, ix_t, sl_l, sl_t, sl_s, it_l, it_t, it_s, ty_t, ty_l, ty_i, ty_b, ty_s, ty_n, tk_t, tk_l, tk_i, tk_b, tk_s, tk_n, Ty.ofT, Ty.ofL, Ty.ofI, Ty.ofB, Ty.ofS, bi_ll, bi_lt, bi_tl, bi_tt, bi_l1, bi_l2, bi_ii, rangeD_len, Int.toNat_natCast, noList, noLists, Ss.app, thenQ, retQ, turnQ, ats0, ats1, ci_eq, ci_ne, ci_lt, ci_le, ci_gt, ci_ge, List.map_cons, List.map_nil, List.cons_append, List.nil_append, List.append_nil, List.length_cons, List.length_nil, List.foldl_cons, List.foldl_nil, List.set_cons_succ, List.set_cons_zero, List.getElem?_cons_succ, List.getElem?_cons_zero, List.any_cons, List.any_nil, List.mem_cons, List.not_mem_nil, Option.map_some, Option.map_none, Bool.or_false, Bool.or_true, Bool.false_or, Bool.true_or, Bool.and_self, Bool.and_true, Bool.true_and, Bool.and_false, Bool.false_and, Bool.not_true, Bool.not_false, Bool.false_eq_true, Nat.reduceEqDiff, Nat.reduceAdd, Nat.reduceLT, Nat.reduceLeDiff, Nat.reduceSub, Nat.zero_add, List.replicate, or_false, or_true, false_or, true_or, if_true, if_false, ite_self, true_and, and_true, decide_true, decide_false, List.length_replicate, lim, Int.cast_ofNat_Int, arr, List.getD_cons_zero, List.getD_cons_succ, O.nls, rows_nl, List.isEmpty_nil, List.isEmpty_cons, List.length_map, Int.reduceNeg, Int.reduceLE, Int.reduceLT, Int.reduceToNat, Int.reduceAdd, Int.reduceSub, Int.reducePow, Int.reduceMul, and_self, Int.reduceEq, Int.natCast_zero, Int.natCast_one, $[$ts:term],*])
local macro_rules | `(tactic| mul_fits) => `(tactic| with_reducible (first | refine ss_set ?_ | refine ss_own ?_ | refine ss_if ?_ | refine ss_ret ?_ | refine ss_tset ?_ | refine ss_for ?_ | refine ss_app ?_ | refine ss_ins0 ?_ | refine ss_par ?_ | refine ss_brk ?_ | refine ss_cnt ?_ | refine ss_pas ?_ | refine ss_whl ?_ | refine ss_par3 ?_ | refine ss_aug ?_ | refine ss_ownl ?_))
abbrev g_OMEGA : Nat := 5
class G_OMEGA (P : Pc) : Prop where
  has : P.gl (P.gc g_OMEGA) = some (.tuple [(.tuple [(.tuple [(.tuple [(.tuple []), (.int 1)])]), (.int 1)])])

instance : G_OMEGA Pg := ⟨rfl⟩
def B_law_great_ordinals (c gc : Nat → Nat) : Ss := (.cons (.par 1 2 (.bi .tuple (.lc (.n 0) [0] (.rng (.con (.int 12))) .no (.tup (.cons (.call (c 2) (.cons (.bin .sub (.con (.int 11)) (.var 0)) .nil) .nil) (.cons (.bin .add (.con (.int 1)) (.var 0)) .nil))))) (.call (c 2) (.cons (.con (.int 2)) .nil) .nil)) (.cons (.for_ (.n 0) (.rng (.con (.int 5))) (.cons (.set 2 (.tup (.cons (.tup (.cons (.var 2) (.cons (.con (.int 2)) .nil))) (.cons (.tup (.cons (.tup .nil) (.cons (.con (.int 1)) .nil))) .nil)))) .nil)) (.cons (.ret (.lst (.cons (.var 1) (.cons (.var 2) .nil)))) .nil)))
abbrev k_law_great_ordinals : Nat := 38
class F_law_great_ordinals (P : Pc) : Prop where
  has : Has P.toPr (P.c k_law_great_ordinals) [] 0 3 (B_law_great_ordinals P.c P.gc)

instance : F_law_great_ordinals Pg := ⟨_, 1, _, rfl, rfl, rfl, rfl, rfl⟩
def B_law_1 (c gc : Nat → Nat) : Ss := (.cons (.set 3 (.call (c 3) (.cons (.var 1) (.cons (.call (c 0) (.cons (.var 1) (.cons (.con (.int 4)) .nil)) .nil) .nil)) .nil)) (.cons (.ifs (.not (.call (c 19) (.cons (.call (c 33) (.cons (.var 3) .nil) .nil) (.cons (.con (.bool true)) .nil)) .nil)) (.cons (.ret (.con (.bool false))) .nil) .nil) (.cons (.set 4 (.call (c 35) (.cons (.var 1) (.cons (.var 3) .nil)) .nil)) (.cons (.ifs (.not (.call (c 19) (.cons (.call (c 33) (.cons (.var 4) .nil) .nil) (.cons (.call (c 34) (.cons (.var 4) .nil) .nil) .nil)) .nil)) (.cons (.ret (.con (.bool false))) .nil) .nil) (.cons (.set 5 (.call (c 1) (.cons (.var 1) (.cons (.lst (.cons (.con (.int 0)) (.cons (.con (.int 1)) (.cons (.con (.int 2)) (.cons (.call (c 0) (.cons (.var 1) (.cons (.bin .pow (.con (.int 10)) (.con (.int 20))) .nil)) .nil) .nil))))) .nil)) .nil)) (.cons (.ifs (.not (.call (c 19) (.cons (.lst (.cons (.call (c 36) (.cons (.var 5) .nil) .nil) (.cons (.call (c 25) (.cons (.var 3) .nil) .nil) .nil))) (.cons (.lst (.cons (.call (c 2) (.cons (.var 5) .nil) .nil) (.cons (.tup (.cons (.tup (.cons (.var 3) (.cons (.con (.int 1)) .nil))) .nil)) .nil))) .nil)) .nil)) (.cons (.ret (.con (.bool false))) .nil) .nil) (.cons (.ifs (.not (.call (c 19) (.cons (.call (c 37) .nil (.cons (.var 5) (.cons (.var 3) .nil))) (.cons (.ite (.cmp .gt (.var 5) (.con (.int 0))) (.tup (.cons (.tup (.cons (.var 3) (.cons (.var 5) .nil))) .nil)) (.tup .nil)) .nil)) .nil)) (.cons (.ret (.con (.bool false))) .nil) .nil) .nil)))))))
def B_law_2 (c gc : Nat → Nat) : Ss := (.cons (.ifs (.not (.call (c 19) (.cons (.lst (.cons (.call (c 33) (.cons (.var 3) .nil) .nil) (.cons (.call (c 33) (.cons (.bin .add (.var 3) (.sl (.var 3) (.so (.neg (.con (.int 1)))) .no)) .nil) .nil) (.cons (.call (c 33) (.cons (.rv (.var 3)) .nil) .nil) .nil)))) (.cons (.lst (.cons (.con (.bool true)) (.cons (.con (.bool false)) (.cons (.con (.bool false)) .nil)))) .nil)) .nil)) (.cons (.ret (.con (.bool false))) .nil) .nil) .nil)
def B_law (c gc : Nat → Nat) : Ss := (.cons (.for_ (.n 2) (.rng (.con (.int 8))) (B_law_1 c gc)) (.cons (.for_ (.n 3) (.seq (.call (c 38) .nil .nil)) (B_law_2 c gc)) (.cons (.ret (.call (c 19) (.cons (.lst (.cons (.glo (gc 3)) (.cons (.glo (gc 4)) (.cons (.glo (gc 5)) .nil)))) (.cons (.lst (.cons (.tup .nil) (.cons (.tup (.cons (.tup (.cons (.tup .nil) (.cons (.con (.int 1)) .nil))) .nil)) (.cons (.tup (.cons (.tup (.cons (.tup (.cons (.tup (.cons (.tup .nil) (.cons (.con (.int 1)) .nil))) .nil)) (.cons (.con (.int 1)) .nil))) .nil)) .nil)))) .nil)) .nil)) .nil)))
theorem lawIn_eq : lawIn fL.N = [.un, .sh bag, .un, .un, .un, .un] := rfl
def lvl : Nat := 40
variable {ns : List Int} {n : Nat} {g : Bag} {Q : PyData → Bag → Prop}
theorem natural_w {i : Int} (hn : 1 ≤ n) (q : Q (O.num i).enc g) : wC (Pg.F ns n) (Pg.c k_natural) [.int i] [] g Q := by
  refine F_natural.has.w hn rfl fun m hm => ?_
  unfold B_natural
  (mul_fits; wp_walk using G_ZERO.has)
  refine wIf_c (fun c => ?_) fun c => ?_
  · rw [O.num, if_pos (of_decide_eq_true c)] at q
    exact q
  · rw [O.num, if_neg (of_decide_eq_false c)] at q
    exact q
theorem omega_kw {c : Int} {e : O} (hn : 1 ≤ n) (q : Q (if 0 < c then (O.t e c .z).enc else .tuple []) g) : wC (Pg.F ns n) (Pg.c k_omega_power_0_times_exponent) [] [.int c, e.enc] g Q := by
  refine F_omega_power_0_times_exponent.has.w hn rfl fun m hm => ?_
  unfold B_omega_power
  (mul_fits; wp_walk using G_ZERO.has)
  refine wIf_c (fun h => ?_) fun h => ?_
  · rw [if_pos (of_decide_eq_true h)] at q
    exact q
  · rw [if_neg (of_decide_eq_false h)] at q
    exact q
def gW : O := O.mk ((List.range 12).map fun k : Nat => (O.num (11 - (k : Int)), 1 + (k : Int)))
def gD : Nat → O
  | 0 => O.num 2
  | k + 1 => .t (gD k) 2 (.t .z 1 .z)
theorem great_w (hn : 2 ≤ n) (q : Q (.list [gW.enc, (gD 5).enc]) g) : wC (Pg.F ns n) (Pg.c k_law_great_ordinals) [] [] g Q := by
  refine F_law_great_ordinals.has.w (by omega) rfl fun m hm => ?_
  unfold B_law_great_ordinals
  (mul_fits; k_ne)
  rw [rangeD_map]
  refine wL_map (f := fun k : Nat => O.encT (O.num (11 - (k : Int)), 1 + (k : Int))) (fun i hi g => ?_) ?_
  · k_ne
    exact num_w (by omega) ⟨rfl, rfl⟩
  refine num_w (by omega) ?_
  have eW : PyData.tuple ([] ++ (List.range 12).map fun k : Nat => O.encT (O.num (11 - (k : Int)), 1 + (k : Int))) = gW.enc := by
    rw [gW, O.enc_mk, List.map_map]
    rfl
  rw [eW]
  (try k_ne)
  ((with_reducible refine wZ_go ?_); mul_fits; k_ne)
  rw [rangeD_map]
  refine wT_inv (fun done ρ g' => g' = g ∧ ∃ o : Option PyData, ρ = [slot o, .sh gW.enc, .sh (gD done.length).enc]) ⟨rfl, none, rfl⟩ ?_ ?_
  · intro done x rest ρ g' e hI
    obtain ⟨rfl, o, rfl⟩ := hI
    k_ne
    (mul_fits; k_ne)
    exact ⟨some (.int (x : Int)), by simp [gD, slot, O.encs]⟩
  · intro ρ g' hI
    obtain ⟨rfl, o, rfl⟩ := hI
    k_ne
    ((with_reducible refine wZ_go ?_); mul_fits; k_ne)
    exact q
theorem gW_ok : gW.nf ∧ gW.ht ≤ 2 ∧ gW.sz ≤ 100 := ⟨by
  unfold gW
  rw [O.nf_mk, O.nfs_pair]
  refine ⟨fun p hp => ?_, by decide +kernel⟩
  obtain ⟨k, hk, rfl⟩ := List.mem_map.mp hp
  exact ⟨O.num_nf _, by simp only; omega⟩, by decide +kernel, by decide +kernel⟩
theorem gD_nf : ∀ k, (gD k).nf
  | 0 => O.num_nf 2
  | k + 1 => ⟨gD_nf k, by decide, ⟨trivial, by decide, trivial, fun p hp => by cases hp⟩, fun p hp => by
    cases hp
    cases k with
    | zero => rfl
    | succ k => rfl⟩
theorem gD_ok : (gD 5).nf ∧ (gD 5).ht ≤ 6 ∧ (gD 5).sz ≤ 100 := ⟨gD_nf 5, by decide +kernel, by decide +kernel⟩
theorem cutM {α : Type} (l : List α) (x : α) : cut (l ++ [x]) (some (-1)) none = [x] := by
  have : ((-1 : Int) + ((l ++ [x]).length : Nat)).toNat = l.length := by simp only [List.length_append, List.length_singleton]; omega
  unfold cut HT.sIx
  simp only [show ((-1 : Int) < 0) from by decide, if_true, this]
  simp
theorem turn2 {o : O} (hn : 40 ≤ n) (no : o.nf) (oh : o.ht ≤ 6) (os : o.sz ≤ 100) {p1 p2 : O × Int} {r : List (O × Int)} (e : o.ts = p1 :: p2 :: r) {o2 o3 o4 o5 : Option PyData} {R : SK} (q : R .nx [.un, .sh bag, slot o2, .sh o.enc, slot o4, slot o5] g) : wSs (Pg.F ns n) Pg.gl (B_law_2 Pg.c Pg.gc) [.un, .sh bag, slot o2, .sh o.enc, slot o4, slot o5] g R := by
  have bo := Bd.encs oh (show o.sz ≤ 1000000 by omega)
  have hl : o.encs.length ≤ 100 := by rw [O.encs_len]; have := O.len_sz o; omega
  unfold B_law_2
  (mul_fits; k_ne)
  refine is_ordinal_w 13 (O.sm (by omega)) (by rw [O.dep]; omega) (by decide) (by omega) fun b hb => ?_
  rw [hb.mpr ⟨o, no, rfl⟩]
  have l1 := len_cut o.encs (some (-1)) none
  refine ⟨by omega, ?_⟩
  have b1 : Bd 14 (.tuple (o.encs ++ cut o.encs (some (-1)) none)) := Bd.tup (K := 13) (by simp; omega) fun d hd => by
    rcases List.mem_append.mp hd with hd | hd
    · exact (bo d hd).mono (by decide)
    · exact (bo d (mem_cut hd)).mono (by decide)
  refine is_ordinal_w 14 b1.1 b1.2 (by decide) (by omega) fun b hb => ?_
  have f1 : b = false := by
    cases b with
    | false => rfl
    | true =>
      exfalso
      have := isOrd_tup.mp (hb.mp rfl)
      rcases List.eq_nil_or_concat o.ts with z | ⟨l, p, z⟩
      · rw [e] at z; cases z
      · rw [O.encs_ts, z, List.concat_eq_append, List.map_append, List.map_cons, List.map_nil, cutM, ← List.map_nil (f := O.encT), ← List.map_cons, ← List.map_append] at this
        have := ordT_next (rest := []) (p := p) this
        rw [O.lt_irr] at this
        cases this
  subst f1
  have b2 : Bd 14 (.tuple o.encs.reverse) := Bd.tup (K := 13) (by simp; omega) fun d hd => (bo d (List.mem_reverse.mp hd)).mono (by decide)
  rw [show rvD o.enc = some (.tuple o.encs.reverse) from rfl]
  k_ne
  refine is_ordinal_w 14 b2.1 b2.2 (by decide) (by omega) fun b hb => ?_
  have f2 : b = false := by
    cases b with
    | false => rfl
    | true =>
      exfalso
      have := isOrd_tup.mp (hb.mp rfl)
      have er : o.encs.reverse = (r.reverse ++ [p2]).map O.encT ++ O.encT p1 :: [] := by
        rw [O.encs_ts, e]
        simp
      rw [er] at this
      have := ordT_next this
      have nn := (O.nfs_ts o).mpr no
      rw [e] at nn
      have := O.lt_asy (nn.2.2.2 p2 rfl)
      simp_all
  subst f2
  refine same_eq 2 rfl (by decide) (by omega) ?_
  k_ne
  exact q
theorem main (ns : List Int) (g : Bag) (n : Nat) (hn : 40 ≤ n) : wSs (Pg.F ns n) Pg.gl (B_law Pg.c Pg.gc) (lawIn fL.N) g Won := by
  rw [lawIn_eq]
  unfold B_law
  (mul_fits; k_ne)
  refine wT_for (fun ρ _ => ∃ o2 o3 o4 o5 : Option PyData, ρ = [.un, .sh bag, slot o2, slot o3, slot o4, slot o5]) ⟨none, none, none, none, rfl⟩ ?_ ?_
  · intro d _ ρ g h
    obtain ⟨o2, o3, o4, o5, rfl⟩ := h
    unfold B_law_1
    k_ne
    (mul_fits; k_ne)
    refine pull_w (by omega) (by decide) (by decide) fun i g hi => ?_
    refine ordinal_w (by omega) (by omega) fun o g go => ?_
    have gl : Gd 4 66 o := go.mono (by omega) (Nat.le_trans (szB_mono (show i ≤ 3 by omega)) (by decide))
    have oh := gl.ht
    have os := gl.sz
    (try k_ne)
    ((with_reducible refine wZ_go ?_); mul_fits; k_ne)
    refine is_ordinal_w 9 (O.sm (by omega)) (by rw [O.dep]; omega) (by decide) (by omega) fun b hb => ?_
    rw [hb.mpr ⟨o, gl.nf, rfl⟩]
    refine same_eq 1 rfl (by decide) (by omega) ?_
    k_ne
    ((with_reducible refine wZ_go ?_); mul_fits; k_ne)
    refine bent_w 4 oh (by decide) (by omega) (by omega) fun d g bd => ?_
    (try k_ne)
    ((with_reducible refine wZ_go ?_); mul_fits; k_ne)
    refine is_ordinal_w 13 bd.1 bd.2 (by decide) (by omega) fun b hb => ?_
    refine law_is_ordinal_w 13 bd.1 bd.2 (by decide) (by omega) fun b' hb' => ?_
    have eb : b = b' := by
      cases b <;> cases b' <;> simp_all
    subst eb
    refine same_eq 1 rfl (by simp [PyData.depth]) (by omega) ?_
    k_ne
    ((with_reducible refine wZ_go ?_); mul_fits; k_ne)
    refine ⟨by decide, pull_w (by omega) (by decide) (by decide) fun j g hj => ?_⟩
    refine of_wl (en := PyData.int) (l := [0, 1, 2, (j : Int)]) (.inr rfl) (by omega) (by simp) (by simp [lim]) fun c g hc => ?_
    (try k_ne)
    ((with_reducible refine wZ_go ?_); mul_fits; k_ne)
    have b1 : Bd 3 (O.num c).enc := (Bd.enc (by have := O.num_sz c; omega)).mono (by have := O.num_ht c; omega)
    have b2 : Bd 11 (O.t o 1 .z).enc := (Bd.enc (by simp only [O.sz]; omega)).mono (by simp only [O.ht]; omega)
    have b3 : Bd 12 (.list [(O.num c).enc, (O.t o 1 .z).enc]) := Bd.lst (K := 11) (by simp) fun d hd => by
      simp only [List.mem_cons, List.not_mem_nil, or_false] at hd
      rcases hd with rfl | rfl
      · exact b1.mono (by decide)
      · exact b2
    refine natural_w (by omega) ?_
    refine omega_power_w (by omega) ?_
    refine num_w (by omega) ?_
    refine same_eq 12 b3.1 b3.2 (by omega) ?_
    k_ne
    ((with_reducible refine wZ_go ?_); mul_fits; k_ne)
    refine omega_kw (by omega) ?_
    have b4 : Bd 11 (if 0 < c then (O.t o c .z).enc else .tuple []) := by
      split
      · exact (Bd.enc (by simp only [O.sz]; omega)).mono (by simp only [O.ht]; omega)
      · exact ⟨rfl, by decide⟩
    refine wIf_c (fun h => ?_) fun h => ?_
    · rw [if_pos (of_decide_eq_true h)] at *
      refine same_eq 11 b4.1 b4.2 (by omega) ?_
      k_ne
      exact ⟨some _, some _, some _, some _, rfl⟩
    · rw [if_neg (of_decide_eq_false h)] at *
      refine same_eq 11 b4.1 b4.2 (by omega) ?_
      k_ne
      exact ⟨some _, some _, some _, some _, rfl⟩
  · intro ρ g h
    obtain ⟨o2, o3, o4, o5, rfl⟩ := h
    k_ne
    ((with_reducible refine wZ_go ?_); mul_fits; k_ne)
    refine great_w (by omega) ?_
    (try k_ne)
    refine wT_cons ?_
    k_ne
    refine turn2 hn gW_ok.1 (Nat.le_trans gW_ok.2.1 (by decide)) gW_ok.2.2 (by rfl) (o2 := o2) (o3 := o3) (o4 := o4) (o5 := o5) ?_
    k_ne
    refine wT_cons ?_
    k_ne
    refine turn2 hn gD_ok.1 gD_ok.2.1 gD_ok.2.2 (by rfl) (o2 := o2) (o3 := o3) (o4 := o4) (o5 := o5) ?_
    k_ne
    rw [wT_nil]
    k_ne
    ((with_reducible refine wZ_go ?_); mul_fits; wp_walk using G_ZERO.has, G_ONE.has, G_OMEGA.has)
    refine same_eq 7 (by decide +kernel) (by decide +kernel) (by omega) ?_
    rfl
theorem hev (ns : List Int) (g : Bag) (_ : ns.length ≤ 63) : ∃ ρ' g', evSs (Φ P ns (lvl + 1)) P.gl fL.body (lawIn fL.N) g = some (.rt (.bool true), ρ', g') := by
  obtain ⟨fl, ρ, g', h1, rfl⟩ := wR_iff.mp (main ns g (lvl + 1) (by decide))
  exact ⟨ρ, g', h1⟩
end Lw

open PySem PySem.W PySem.Calls PyProof.Rows
set_option maxHeartbeats 0 in
theorem PySem.Challenge.cw_vowstair_k02_ordinals_recognized_holds : PySem.Challenge.rw_vowstair_k02_ordinals_recognized.Holds := by
  w_on; o_law
  refine HandSHeadRun.head_any (r := OpenLaw.row PySem.Challenge.rw_vowstair_k02_ordinals_recognized) (q := view (OpenLaw.row PySem.Challenge.rw_vowstair_k02_ordinals_recognized).prog [17]) (H := Lw.hk) (ob := Lw.ob) (M := 4000) (loose := Lw.loose) (d := HandSHeadRun.topDef (OpenLaw.row PySem.Challenge.rw_vowstair_k02_ordinals_recognized).prog 17) (kwd := []) Lw.ob_eq
    (by kernel_rfl) (fun s => by kernel_rfl) Lw.run (by kernel_rfl) (by kernel_rfl) (by kernel_rfl) (by rfl) (by first | assumption | decide +kernel) (by decide +kernel) ⟨rfl, rfl, rfl, rfl, rfl, by decide +kernel⟩ ?hw ?hc
  case hw => w_witness2
  case hc =>
    refine L2.walk_ofE (l := PySem.Challenge.rw_vowstair_k02_ordinals_recognized) (n := 63) (k := Lw.lvl + 2) (x := Str.ofString "_law_script") (CX := L2.CX0) rfl (by decide) (by kernel_rfl) ⟨rfl, by decide, by decide⟩ ?F (fun _ _ _ _ z => z)
    intro w mg fa h Y G hmg0
    obtain ⟨K, KX, c⟩ := Y
    have hmg : mg (Str.ofString "law") = some (.ref fa) := by
      have e : (HandSHeadRun.topDef (OpenLaw.row PySem.Challenge.rw_vowstair_k02_ordinals_recognized).prog 17).name = (Str.ofString "law") := by kernel_rfl
      rw [← e]
      exact hmg0
    obtain ⟨fd, hb, hF⟩ := Lw.facts Lw.lvl Lw.hev (prog := (PySem.Challenge.rw_vowstair_k02_ordinals_recognized).prog) (w := w) KX G hmg c
    exact ⟨K, fd, Rf.spLaw K, KX, hb, fun H a ns hl _ hS => ⟨a, ns, rfl, hS, hl, fun _ => rfl⟩, hF⟩
