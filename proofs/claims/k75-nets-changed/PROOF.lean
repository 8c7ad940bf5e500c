import PyProof.Rows.All
import Wide.All
import OpenK.AllK
import Wide.FinOn
import KE.SortData
import KE.DataCmp
import KE.DataEq
import HandS.ForMost
import HandS.Deep
import HandS.Wide
import HandS.WideBits
import HandS.TupAny
import HandS.TupLe
import HandS.TupLen
import HandS.IsInst
import HandS.TupSets
import HandS.Zip
import HandS.Small
import HandS.Conv
import HandS.Flow
import HandS.Style
import HandS.DictTup
import HandS.Comp
import HandS.Codes
import HandS.Words
import HandS.Defaults
import PyProof.ZipIter
import KE.GoesEnumKw
import PyProof.Rows.CallKwBuiltin
import KE.KDictCopyH
import KE.KDictOf
import HandS.Ends
import PyProof.ReprLen
import PyProof.TableCode
import KE.KStateDown
import HandS.More
import HandS.WordsExc
import HandS.Head0
import HandS.Head1
import HandS.Head2
import HandS.HeadEnd
import HandS.HeadHook1
import HandS.HeadHook2
import PySem.Challenge.RW_bestbeats_k75_nets_changed
set_option Elab.async false
set_option linter.all false
set_option maxRecDepth 100000
/-! TvA: a small language over plain data (slots in place of names), and its evaluator. Pure Lean. -/
namespace Tv
open PySem
abbrev D := PyData
mutual
/-- no list, no dict within -/
def imm : D → Bool
  | .none => true
  | .bool _ => true
  | .int _ => true
  | .str _ => true
  | .tuple ds => imms ds
  | .list _ => false
  | .dict _ => false
def imms : List D → Bool
  | [] => true
  | d :: ds => imm d && imms ds
end
/-- what a slot holds: nothing known; a shared thing; a list/dict that is the slot's own (its items shared); a thing all of whose lists are the slot's own; borrowed: all open, top open; a borrowed parameter -/
inductive Sl where
  | un
  | sh (d : D)
  | ow (d : D)
  | dp (d : D)
  | vo (d : D)
  | vt (d : D)
  | bw (d : D)
abbrev Ev := List Sl
def Sl.d : Sl → D
  | .un => .none
  | .sh d => d
  | .ow d => d
  | .dp d => d
  | .vo d => d
  | .vt d => d
  | .bw d => d
def Sl.isVo : Sl → Bool
  | .vo _ => true
  | .vt _ => true
  | _ => false
def Sl.isDp : Sl → Bool
  | .dp _ => true
  | _ => false
/-- a value by itself -/
def Sl.good : Sl → Bool
  | .sh _ => true
  | .ow _ => true
  | .dp _ => true
  | _ => false
def shN (d : D) : Sl := if imm d then .dp d else .sh d
inductive Ty where
  | int | bool | tuple | list | str | dict
  deriving DecidableEq
inductive Bop where
  | add | sub | mul | fdiv | mod | pow
  deriving DecidableEq
inductive Cop where
  | eq | ne | lt | le | gt | ge | isN | notN | inn | nin
  deriving DecidableEq
inductive Blt where
  | len | min2 | max2 | sum | sorted | int | repr | dict | list | tuple | min1 | max1 | abs
  deriving DecidableEq
inductive Mth where
  | index | bitlen | get1 | get2
  deriving DecidableEq
inductive ItK where
  | val | rng1 | rng2 | zip | zipS | enum
  deriving DecidableEq
inductive Md where
  | val | bor | mov
  deriving DecidableEq
mutual
inductive Ex where
  | cst (d : D)
  | var (i : Nat)
  | bin (op : Bop) (a b : Ex)
  | cmp (op : Cop) (a b : Ex)
  | chain (o1 o2 : Cop) (a b c : Ex)
  | neg (a : Ex)
  | conj (a b : Ex)
  | disj (a b : Ex)
  | inv (a : Ex)
  | ite (c a b : Ex)
  | tup (es : Exs)
  | lst (es : Exs)
  | dnew (t : Bool)
  | idx (a i : Ex)
  | slc (a lo hi : Ex)
  | call (f : Nat) (es : Exs)
  | isi (a : Ex) (t : Ty)
  | blt (b : Blt) (es : Exs)
  | mth (m : Mth) (o : Ex) (es : Exs)
  | comp (k : ItK) (src : Exs) (tg : Tg) (own : List Nat) (cs : Exs) (e : Ex)
inductive Exs where
  | nil
  | cons (e : Ex) (es : Exs)
inductive Tg where
  | nm (i : Nat)
  | tup (ts : Tgs)
  | sub (i : Nat) (k : Ex)
inductive Tgs where
  | nil
  | cons (t : Tg) (ts : Tgs)
end
inductive St where
  | nop
  | seq (a b : St)
  | asg (t : Tg) (e : Ex)
  | eff (e : Ex)
  | app (i : Nat) (e : Ex)
  | poke (i : Nat) (path : List Nat) (e : Ex)
  | pop (i : Nat) (e : Ex)
  | ifs (c : Ex) (a b : St)
  | loop (k : ItK) (src : Exs) (tg : Tg) (b : St)
  | whl (c : Ex) (b : St)
  | ret (e : Ex)
  | brk
  | cont
  | halt
/-! ### operations upon data -/
def Ty.is : Ty → D → Bool
  | .int, .int _ => true
  | .int, .bool _ => true
  | .bool, .bool _ => true
  | .tuple, .tuple _ => true
  | .list, .list _ => true
  | .str, .str _ => true
  | .dict, .dict _ => true
  | _, _ => false
/-- a new list of items that are shared (or know no list) -/
def mkList (ds : List D) : Sl := if imms ds then .dp (.list ds) else .ow (.list ds)
def mkTup (ds : List D) : Sl := if imms ds then .dp (.tuple ds) else .sh (.tuple ds)
def szOk (n : Nat) : Bool := decide (n ≤ 100000)
def binD : Bop → D → D → Option Sl
  | .add, .int i, .int j => some (.dp (.int (i + j)))
  | .sub, .int i, .int j => some (.dp (.int (i - j)))
  | .mul, .int i, .int j => if i.natAbs.log2 + j.natAbs.log2 < 1000000 then some (.dp (.int (i * j))) else none
  | .fdiv, .int i, .int j => if 0 < j ∧ j.natAbs.log2 < 9000 then some (.dp (.int (i / j))) else none
  | .mod, .int i, .int j => if 0 < j then some (.dp (.int (i % j))) else none
  | .pow, .int i, .int j => if 0 ≤ j ∧ j ≤ 100 ∧ i.natAbs < 2 ^ 256 then some (.dp (.int (i ^ j.toNat))) else none
  | .add, .list xs, .list ys => if szOk (xs.length + ys.length) then some (mkList (xs ++ ys)) else none
  | _, _, _ => none
def isIntD : D → Bool
  | .int _ => true
  | _ => false
def notNone : D → Bool
  | .none => false
  | _ => true
/-- two things whose order Python tells: alike, no None, not deep -/
def ordOk (x y : D) : Bool := PySem.W.alike x y && notNone x && decide (x.depth ≤ 50) && (!PyData.hasDict x && !PyData.hasDict y)
def okD (d : D) : Bool := !PyData.hasDict d && PyData.plain d && decide (PyData.depth d ≤ 50)
/-- equality of keys: ints, texts, tuples of such -/
def eqk : D → D → Bool
  | .int i, .int j => i == j
  | .str x, .str y => decide (x = y)
  | _, _ => false
def eqks : List D → List D → Bool
  | [], [] => true
  | x :: xs, y :: ys => eqk x y && eqks xs ys
  | _, _ => false
def eqT : D → D → Bool
  | .tuple xs, .tuple ys => eqks xs ys
  | _, _ => false
def isKeyD : D → Bool
  | .int _ => true
  | .str _ => true
  | _ => false
/-- a tuple of ints and texts -/
def isTKey : D → Bool
  | .tuple xs => xs.all isKeyD
  | _ => false
def cmpD : Cop → D → D → Option Bool
  | .eq, x, y => if okD x && okD y then some (PyData.eqv x y) else none
  | .ne, x, y => if okD x && okD y then some (!PyData.eqv x y) else none
  | .lt, x, y => if ordOk x y then some (PySem.W.dataLt x y) else none
  | .gt, x, y => if ordOk x y then some (PySem.W.dataLt y x) else none
  | .le, x, y => if ordOk x y then some (!PySem.W.dataLt y x) else none
  | .ge, x, y => if ordOk x y then some (!PySem.W.dataLt x y) else none
  | .isN, x, .none => (match x with | .none => some true | _ => some false)
  | .notN, x, .none => (match x with | .none => some false | _ => some true)
  | .inn, x, .list ys => if okD x && okD (.list ys) then some (ys.any fun z => PyData.eqv z x) else none
  | .nin, x, .list ys => if okD x && okD (.list ys) then some (!ys.any fun z => PyData.eqv z x) else none
  | .inn, x, .tuple ys => if okD x && okD (.tuple ys) then some (ys.any fun z => PyData.eqv z x) else none
  | .nin, x, .tuple ys => if okD x && okD (.tuple ys) then some (!ys.any fun z => PyData.eqv z x) else none
  | .inn, x, .dict es => if isTKey x then some (es.any fun e => eqT e.1 x) else none
  | .nin, x, .dict es => if isTKey x then some (!es.any fun e => eqT e.1 x) else none
  | _, _, _ => none
/-- an index into n items -/
def ixD (n : Nat) (i : Int) : Option Nat :=
  if 0 ≤ i then (if i < n then some i.toNat else none) else if -(n : Int) ≤ i then some (i + n).toNat else none
def getD' (es : List (D × D)) (k : D) : Option D := (es.find? fun e => eqT e.1 k).map (·.2)
def putD (es : List (D × D)) (k v : D) : List (D × D) :=
  if es.any (fun e => eqT e.1 k) then es.map fun e => if eqT e.1 k then (e.1, v) else e else es ++ [(k, v)]
def dropD (es : List (D × D)) (k : D) : List (D × D) := es.filter fun e => !eqT e.1 k
def itemD : D → D → Option D
  | .list xs, .int i => (ixD xs.length i).bind fun j => xs[j]?
  | .tuple xs, .int i => (ixD xs.length i).bind fun j => xs[j]?
  | .dict es, k => if isTKey k then getD' es k else none
  | _, _ => none
/-- a slice's end -/
def sliceEnd (n : Nat) (dflt : Nat) : D → Option Nat
  | .none => some dflt
  | .int i => some (if i < 0 then (i + n).toNat else min i.toNat n)
  | _ => none
def sliceD : D → D → D → Option (Bool × List D)
  | .list xs, lo, hi => do
    let a ← sliceEnd xs.length 0 lo
    let b ← sliceEnd xs.length xs.length hi
    some (true, (xs.drop a).take (b - a))
  | .tuple xs, lo, hi => do
    let a ← sliceEnd xs.length 0 lo
    let b ← sliceEnd xs.length xs.length hi
    some (false, (xs.drop a).take (b - a))
  | _, _, _ => none
def sumD : List D → Option Int
  | [] => some 0
  | .int i :: r => (sumD r).map (i + ·)
  | _ :: _ => none
/-- the place of the first equal item -/
def indexD : List D → D → Option Nat
  | [], _ => none
  | x :: r, d => if PyData.eqv x d then some 0 else (indexD r d).map (· + 1)
def insD (a : D) : List D → List D
  | [] => [a]
  | b :: l => if PySem.W.dataLe false (fun d => d) a b then a :: b :: l else b :: insD a l
/-- the sort, by insertion from the right (it is stable, and reduces) -/
def sortD : List D → List D
  | [] => []
  | a :: l => insD a (sortD l)
def isTupD : D → Bool
  | .tuple _ => true
  | _ => false
def isTup1 : D → Bool
  | .tuple (_ :: _) => true
  | _ => false
def sortable (ds : List D) : Bool := szOk ds.length && (ds.all fun d => ds.all fun e => PySem.W.alike d e) && (ds.all isTup1 || ds.all fun d => notNone d && !isTupD d) && ds.all fun d => decide (d.depth ≤ 50)
def hashI : D → Int
  | .int i => hashInt i
  | _ => 0
def hashTD : D → Int
  | .tuple xs => reduceHash (Builtin.Tuple.tupleHashOf (xs.map hashI))
  | _ => 0
def isIntTup : D → Bool
  | .tuple xs => xs.all isIntD
  | _ => false
/-- keys that are tuples of ints, no two of one hash -/
def keysApartD (ks : List D) : Bool := ks.all isIntTup && decide ((ks.map hashTD).Nodup)
/-- own: whether the arguments may be shared with what is handed back -/
def bltD (own : Bool) : Blt → List D → Option Sl
  | .len, [.list xs] => some (.dp (.int xs.length))
  | .len, [.tuple xs] => some (.dp (.int xs.length))
  | .min2, [.int i, .int j] => some (.dp (.int (if j < i then j else i)))
  | .max2, [.int i, .int j] => some (.dp (.int (if i < j then j else i)))
  | .sum, [.list xs] => (sumD xs).map fun i => .dp (.int i)
  | .sorted, [.list xs] => if sortable xs && !PyData.hasDictAll xs && (own || imms xs) then some (mkList (sortD xs)) else none
  | .int, [.int i] => some (.dp (.int i))
  | .int, [.bool b] => some (.dp (.int (if b then 1 else 0)))
  | .repr, [d] => if PyData.showable d && !PyData.hasDict d && decide (PyData.depth d ≤ 50) && decide ((PyData.shown d).length ≤ 1000000) then some (.dp (.str (PyData.shown d))) else none
  | .dict, [.dict es] => if imms (es.map (·.2)) && keysApartD (es.map (·.1)) && szOk es.length then some (.dp (.dict es)) else none
  | .list, [.list xs] => if own || imms xs then some (mkList xs) else none
  | _, _ => none
def mthD : Mth → D → List D → Option Sl
  | .index, .list xs, [d] => if SeqAt.shaped (.list xs) && SeqAt.shaped d && okD (.list xs) && okD d then (indexD xs d).map fun j => .dp (.int j) else none
  | .bitlen, .int i, [] => some (.dp (.int (Builtin.Int.intBits i : Nat)))
  | _, _, _ => none
def rngD (lo : Int) : Nat → List D
  | 0 => []
  | n + 1 => .int lo :: rngD (lo + 1) n
def zipD : List D → List D → List D
  | x :: xs, y :: ys => .tuple [x, y] :: zipD xs ys
  | _, _ => []
def enumD (k : Int) : List D → List D
  | [] => []
  | x :: xs => .tuple [.int k, x] :: enumD (k + 1) xs
def small62 (i : Int) : Bool := decide (-(2 ^ 62) ≤ i) && decide (i < 2 ^ 62)
/-- the items of what is walked -/
def iterD : ItK → List D → Option (List D)
  | .val, [.list xs] => some xs
  | .val, [.tuple xs] => some xs
  | .val, [.dict es] => some (es.map (·.1))
  | .rng1, [.int j] => if small62 j then some (rngD 0 j.toNat) else none
  | .rng2, [.int i, .int j] => if small62 i && small62 j then some (rngD i (j - i).toNat) else none
  | .zip, [.list xs, .list ys] => some (zipD xs ys)
  | .zipS, [.list xs, .list ys] => if xs.length = ys.length then some (zipD xs ys) else none
  | .enum, [.list xs] => some (enumD 0 xs)
  | _, _ => none
/-- an item d of x -/
def itemRes (m : Md) (x : Sl) (d : D) : Option Sl := if imm d then some (.dp d) else match x with
  | .vo _ => if m = .bor then some (.vo d) else none
  | .vt (.tuple _) => none
  | _ => some (.sh d)
/-- a slice of x, a list or a tuple -/
def sliceRes (x : Sl) (l : Bool) (ds : List D) : Option Sl := if imms ds then some (.dp (if l then .list ds else .tuple ds)) else match x with
  | .vo _ => none
  | .vt (.tuple _) => none
  | _ => some (if l then .ow (.list ds) else .sh (.tuple ds))
def isDictD : D → Bool
  | .dict _ => true
  | _ => false
def isNoneEx : Ex → Bool
  | .cst .none => true
  | _ => false
/-! ### expressions -/
section
variable (mf : Nat → Bool) (Φ : Nat → List D → Option (Sl × D))
mutual
/-- nothing that stood is changed by it -/
def quiet : Ex → Bool
  | .cst _ => true
  | .var _ => true
  | .bin _ a b => quiet a && quiet b
  | .cmp _ a b => quiet a && quiet b
  | .chain _ _ a b c => quiet a && quiet b && quiet c
  | .neg a => quiet a
  | .conj a b => quiet a && quiet b
  | .disj a b => quiet a && quiet b
  | .inv a => quiet a
  | .ite c a b => quiet c && quiet a && quiet b
  | .tup es => quiets es
  | .lst es => quiets es
  | .dnew _ => true
  | .idx a i => quiet a && quiet i
  | .slc a lo hi => quiet a && quiet lo && quiet hi
  | .call f es => !mf f && quiets es
  | .isi a _ => quiet a
  | .blt _ es => quiets es
  | .mth _ o es => quiet o && quiets es
  | .comp _ _ _ _ _ _ => false
def quiets : Exs → Bool
  | .nil => true
  | .cons e es => quiet e && quiets es
end
/-- several targets' slots -/
def setS (env : Ev) (i : Nat) (x : Sl) : Option Ev := match env[i]? with
  | some (.bw _) => none
  | some _ => some (env.set i x)
  | none => none
mutual
/-- plain targets (names, tuples of such) -/
def bindT : Tg → Sl → Ev → Option Ev
  | .nm i, x, env => if x.isVo then none else setS env i x
  | .tup ts, .dp (.tuple ds), env => bindTs ts (ds.map .dp) env
  | .tup ts, .sh (.tuple ds), env => bindTs ts (ds.map shN) env
  | _, _, _ => none
def bindTs : Tgs → List Sl → Ev → Option Ev
  | .nil, [], env => some env
  | .cons t ts, x :: xs, env => (bindT t x env).bind (bindTs ts xs)
  | _, _, _ => none
end
def wipeS (env : Ev) : List Nat → Ev
  | [] => env
  | v :: vs => (wipeS env vs).set v .un
/-- the slots of the block's own names as they were -/
def restoreS (base env : Ev) : List Nat → Ev
  | [] => env
  | v :: vs => (restoreS base env vs).set v (base.getD v .un)
def tupR (rs : List Sl) : Option Sl :=
  if !szOk rs.length || rs.any (·.isVo) then none
  else some (if rs.all (·.isDp) then .dp (.tuple (rs.map (·.d))) else .sh (.tuple (rs.map (·.d))))
def lstR (rs : List Sl) : Option Sl :=
  if !szOk rs.length || rs.any (·.isVo) then none
  else some (if rs.all (·.isDp) then .dp (.list (rs.map (·.d))) else .ow (.list (rs.map (·.d))))
/-- one more item for a list that is being made -/
def addItem (acc x : Sl) : Option Sl := match acc with
  | .dp (.list ds) => if !szOk (ds.length + 1) || x.isVo then none else some (if x.isDp then .dp (.list (ds ++ [x.d])) else .ow (.list (ds ++ [x.d])))
  | .ow (.list ds) => if !szOk (ds.length + 1) || x.isVo then none else some (.ow (.list (ds ++ [x.d])))
  | _ => none
/-- a list comprehension's turns: test and element by the functions given -/
def compL (bind : Sl → Ev → Option Ev) (test : Ev → Option (Bool × Ev)) (elt : Ev → Option (Sl × Ev)) (own : List Nat) : List D → Sl → Ev → Option (Sl × Ev)
  | [], acc, env => some (acc, env)
  | x :: xs, acc, env => do
    let e1 ← bind (shN x) (wipeS env own)
    let (t, e2) ← test e1
    if t then do
      let (y, e3) ← elt e2
      if e3.any (·.isVo) then none else
      let acc' ← addItem acc y
      compL bind test elt own xs acc' e3
    else compL bind test elt own xs acc e2
/-- a dict that is walked is a name's -/
def dictOk (src : Exs) (ds : List D) : Bool := match ds with
  | [.dict _] => (match src with
    | .cons (.var _) .nil => true
    | _ => false)
  | _ => true
/-- nothing is known of the slot -/
def unS (env : Ev) (i : Nat) : Bool := match env[i]? with
  | some .un => true
  | none => true
  | _ => false
mutual
def ev : Md → Ex → Ev → Option (Sl × Ev)
  | _, .cst d, env => if imm d then some (.dp d, env) else none
  | m, .var i, env => match env[i]? with
    | some (.sh d) => some (.sh d, env)
    | some (.dp d) => if imm d then some (.dp d, env) else match m with
      | .bor => some (.vo d, env)
      | .mov => some (.dp d, env.set i .un)
      | .val => some (.sh d, env.set i (.sh d))
    | some (.ow d) => match m with
      | .bor => some (.vt d, env)
      | .mov => some (.ow d, env.set i .un)
      | .val => some (.sh d, env.set i (.sh d))
    | some (.bw d) => match m with
      | .bor => some (.vo d, env)
      | _ => none
    | _ => none
  | _, .bin op a b, env => do
    let (x, e1) ← ev .val a env
    let (y, e2) ← ev .val b e1
    let r ← binD op x.d y.d
    some (r, e2)
  | _, .cmp op a b, env => do
    let m' := if quiet mf b then Md.bor else .val
    let (x, e1) ← ev m' a env
    let (y, e2) ← ev m' b e1
    let r ← cmpD op x.d y.d
    some (.dp (.bool r), e2)
  | _, .chain o1 o2 a b c, env => do
    let (x, e1) ← ev .val a env
    let (y, e2) ← ev .val b e1
    let r ← cmpD o1 x.d y.d
    if r then do
      let (z, e3) ← ev .val c e2
      let r2 ← cmpD o2 y.d z.d
      some (.dp (.bool r2), e3)
    else some (.dp (.bool false), e2)
  | _, .neg a, env => do
    let (x, e1) ← ev .val a env
    match x.d with
    | .int i => some (.dp (.int (-i)), e1)
    | _ => none
  | _, .conj a b, env => do
    let (x, e1) ← ev .val a env
    match x.d with
    | .bool true => ev .val b e1
    | .bool false => some (.dp (.bool false), e1)
    | _ => none
  | _, .disj a b, env => do
    let (x, e1) ← ev .val a env
    match x.d with
    | .bool true => some (.dp (.bool true), e1)
    | .bool false => ev .val b e1
    | _ => none
  | _, .inv a, env => do
    let (x, e1) ← ev .val a env
    match x.d with
    | .bool b => some (.dp (.bool (!b)), e1)
    | _ => none
  | m, .ite c a b, env => do
    let (x, e1) ← ev .val c env
    match x.d with
    | .bool true => ev m a e1
    | .bool false => ev m b e1
    | _ => none
  | m, .tup es, env => do
    let (rs, e1) ← evs (if m = .mov then .mov else .val) es env
    let r ← tupR rs
    some (r, e1)
  | m, .lst es, env => do
    let (rs, e1) ← evs (if m = .mov then .mov else .val) es env
    let r ← lstR rs
    some (r, e1)
  | _, .dnew _, env => some (.dp (.dict []), env)
  | m, .idx a i, env => do
    let (x, e1) ← ev .bor a env
    if x.isVo && !quiet mf i then none else
    let (y, e2) ← ev .val i e1
    let d ← itemD x.d y.d
    let r ← itemRes m x d
    some (r, e2)
  | _, .slc a lo hi, env => do
    let (x, e1) ← ev .bor a env
    if x.isVo && !(quiet mf lo && quiet mf hi) then none else
    let (y, e2) ← ev .val lo e1
    let (z, e3) ← ev .val hi e2
    if (!isNoneEx lo && !isIntD y.d) || (!isNoneEx hi && !isIntD z.d) then none else
    let (l, ds) ← sliceD x.d y.d z.d
    let r ← sliceRes x l ds
    some (r, e3)
  | _, .call f es, env =>
    if mf f then (match es with
      | .cons (.var i) rest => do
        let (rs, e1) ← evs .val rest env
        if e1.any (·.isVo) || unS env i then none else
        match e1[i]? with
        | some (.bw (.list ns)) => if !imms ns then none else do
          let (r, d') ← Φ f (.list ns :: rs.map (·.d))
          match d' with
          | .list ns' => if !imms ns' || !r.good then none else some (r, e1.set i (.bw (.list ns')))
          | _ => none
        | some (.dp (.list ns)) => if !imms ns then none else do
          let (r, d') ← Φ f (.list ns :: rs.map (·.d))
          match d' with
          | .list ns' => if !imms ns' || !r.good then none else some (r, e1.set i (.dp (.list ns')))
          | _ => none
        | _ => none
      | .cons e .nil => do
        let (x, e1) ← ev .val e env
        if e1.any (·.isVo) then none else
        match x with
        | .dp (.list ns) => if !imms ns then none else do
          let (r, d') ← Φ f [.list ns]
          match d' with
          | .list ns' => if !imms ns' || !r.good then none else some (r, e1)
          | _ => none
        | _ => none
      | _ => none)
    else do
      let (rs, e1) ← evs (if quiets mf es then .bor else .val) es env
      let (r, _) ← Φ f (rs.map (·.d))
      if r.isDp || (!rs.any (·.isVo) && r.good) then some (r, e1) else none
  | _, .isi a t, env => do
    let (x, e1) ← ev .bor a env
    if isDictD x.d then none else some (.dp (.bool (t.is x.d)), e1)
  | _, .blt b es, env => do
    let (rs, e1) ← evs (if quiets mf es then .bor else .val) es env
    let r ← bltD (rs.all fun r => match r with | .vo _ => false | _ => true) b (rs.map (·.d))
    some (r, e1)
  | _, .mth m o es, env => do
    let m' := if quiets mf es then Md.bor else .val
    let (x, e1) ← ev m' o env
    let (rs, e2) ← evs m' es e1
    let r ← mthD m x.d (rs.map (·.d))
    some (r, e2)
  | _, .comp k src tg own cs e, env => do
    let (rs, e1) ← evs .val src env
    if !dictOk src (rs.map (·.d)) || e1.any (·.isVo) then none else
    let xs ← iterD k (rs.map (·.d))
    let (r, e2) ← compL (fun x env' => bindT tg x env') (fun env' => evt cs env') (fun env' => ev .val e env') own xs (.dp (.list [])) e1
    some (r, restoreS e1 e2 own)
def evs : Md → Exs → Ev → Option (List Sl × Ev)
  | _, .nil, env => some ([], env)
  | m, .cons e es, env => do
    let (x, e1) ← ev m e env
    let (xs, e2) ← evs m es e1
    some (x :: xs, e2)
/-- the tests of a clause (none, or one) -/
def evt : Exs → Ev → Option (Bool × Ev)
  | .nil, env => some (true, env)
  | .cons c .nil, env => do
    let (x, e1) ← ev .val c env
    match x.d with
    | .bool b => some (b, e1)
    | _ => none
  | _, _ => none
end
/-! ### statements -/
inductive Fl where
  | nx
  | rt (r : Sl)
  | bk
  | ct
/-- o[k] = v by what the slot of o holds -/
def setItemS (o k v : Sl) : Option Sl := match o with
  | .dp (.dict es) => if !isTKey k.d || !v.good || !szOk (es.length + 1) then none else some (if v.isDp && imms (es.map (·.2)) && imm v.d then .dp (.dict (putD es k.d v.d)) else .ow (.dict (putD es k.d v.d)))
  | .ow (.dict es) => if !isTKey k.d || !v.good || !szOk (es.length + 1) then none else some (.ow (.dict (putD es k.d v.d)))
  | .dp (.list xs) => (match k.d with
    | .int i => if !imms xs || !imm v.d || !v.good then none else (ixD xs.length i).map fun j => .dp (.list (xs.set j v.d))
    | _ => none)
  | .bw (.list xs) => (match k.d with
    | .int i => if !imms xs || !imm v.d || !v.good then none else (ixD xs.length i).map fun j => .bw (.list (xs.set j v.d))
    | _ => none)
  | _ => none
def isListS (env : Ev) (i : Nat) : Bool := match env[i]? with
  | some s => (match s.d with
    | .list _ => true
    | _ => false)
  | none => false
def isDictS (env : Ev) (i : Nat) : Bool := match env[i]? with
  | some (.dp (.dict _)) => true
  | some (.ow (.dict _)) => true
  | _ => false
def isCst : Ex → Bool
  | .cst _ => true
  | _ => false
mutual
/-- any target -/
def bindG : Tg → Sl → Ev → Option Ev
  | .nm i, x, env => if x.isVo then none else setS env i x
  | .tup ts, .dp (.tuple ds), env => bindGs ts (ds.map .dp) env
  | .tup ts, .sh (.tuple ds), env => bindGs ts (ds.map shN) env
  | .tup _, _, _ => none
  | .sub i k, x, env => do
    let (y, e1) ← ev mf Φ .val k env
    if unS env i || e1.any (·.isVo) then none else
    let o ← e1[i]?
    let o' ← setItemS o y x
    some (e1.set i o')
def bindGs : Tgs → List Sl → Ev → Option Ev
  | .nil, [], env => some env
  | .cons t ts, x :: xs, env => (bindG t x env).bind (bindGs ts xs)
  | _, _, _ => none
end
/-- x[i][j]...append(y) within a thing that is the slot's own -/
def pokeD (y : D) : List Nat → D → Option D
  | [], .list xs => if szOk (xs.length + 1) then some (.list (xs ++ [y])) else none
  | j :: p, .list xs => do
    let x ← xs[j]?
    let x' ← pokeD y p x
    some (.list (xs.set j x'))
  | j :: p, .tuple xs => do
    let x ← xs[j]?
    let x' ← pokeD y p x
    some (.tuple (xs.set j x'))
  | _, _ => none
def loopF (bind : Sl → Ev → Option Ev) (body : Ev → Option (Fl × Ev)) : List D → Ev → Option (Fl × Ev)
  | [], env => some (.nx, env)
  | x :: xs, env => do
    let e1 ← bind (shN x) env
    match ← body e1 with
    | (.nx, e2) => loopF bind body xs e2
    | (.ct, e2) => loopF bind body xs e2
    | (.bk, e2) => some (.nx, e2)
    | (.rt r, e2) => some (.rt r, e2)
def whileF (test : Ev → Option (Bool × Ev)) (body : Ev → Option (Fl × Ev)) : Nat → Ev → Option (Fl × Ev)
  | 0, _ => none
  | n + 1, env => do
    let (b, e1) ← test env
    if b then
      match ← body e1 with
      | (.nx, e2) => whileF test body n e2
      | (.ct, e2) => whileF test body n e2
      | (.bk, e2) => some (.nx, e2)
      | (.rt r, e2) => some (.rt r, e2)
    else some (.nx, e1)
def asgMode : Tg → Ex → Md
  | .tup _, .var _ => .mov
  | _, _ => .val
def exS (wf : Nat) : St → Ev → Option (Fl × Ev)
  | .nop, env => some (.nx, env)
  | .seq a b, env => do
    match ← exS wf a env with
    | (.nx, e1) => exS wf b e1
    | r => some r
  | .asg t e, env => do
    let (x, e1) ← ev mf Φ (asgMode t e) e env
    let e2 ← bindG mf Φ t x e1
    some (.nx, e2)
  | .eff e, env => do
    let (_, e1) ← ev mf Φ .val e env
    some (.nx, e1)
  | .app i e, env => do
    let (y, e1) ← ev mf Φ .val e env
    if !isListS env i || e1.any (·.isVo) then none else
    let o ← e1[i]?
    let o' ← addItem o y
    some (.nx, e1.set i o')
  | .poke i p e, env => do
    let (y, e1) ← ev mf Φ .val e env
    if !isCst e || env.any (·.isVo) then none else
    match e1[i]? with
    | some (.dp d) => if !imm y.d then none else do
      let d' ← pokeD y.d p d
      some (.nx, e1.set i (.dp d'))
    | _ => none
  | .pop i e, env => do
    let (y, e1) ← ev mf Φ .val e env
    if !isTKey y.d || !isDictS env i || e1.any (·.isVo) then none else
    match e1[i]? with
    | some (.dp (.dict es)) => if imms (es.map (·.2)) && es.any (fun z => eqT z.1 y.d) then some (.nx, e1.set i (.dp (.dict (dropD es y.d)))) else none
    | some (.ow (.dict es)) => if es.any (fun z => eqT z.1 y.d) then some (.nx, e1.set i (.ow (.dict (dropD es y.d)))) else none
    | _ => none
  | .ifs c a b, env => do
    let (x, e1) ← ev mf Φ .val c env
    match x.d with
    | .bool true => exS wf a e1
    | .bool false => exS wf b e1
    | _ => none
  | .loop k src tg b, env => do
    let (rs, e1) ← evs mf Φ .val src env
    if !dictOk src (rs.map (·.d)) then none else
    let xs ← iterD k (rs.map (·.d))
    loopF (fun x env' => bindT tg x env') (fun env' => exS wf b env') xs e1
  | .whl c b, env =>
    whileF (fun env' => do
      let (x, e1) ← ev mf Φ .val c env'
      match x.d with
      | .bool t => some (t, e1)
      | _ => none) (fun env' => exS wf b env') wf env
  | .ret e, env => do
    let (r, e1) ← ev mf Φ .mov e env
    if !r.good then none else some (.rt r, e1)
  | .brk, env => some (.bk, env)
  | .cont, env => some (.ct, env)
  | .halt, _ => none
end
/-- a def: parameters, slots, whether its first parameter is a list that it changes, body -/
structure FDef where
  np : Nat
  ns : Nat
  mu : Bool
  body : St
def env0 (fd : FDef) (ds : List D) : Ev := (match fd.mu, ds with
  | true, d :: r => .bw d :: r.map shN
  | _, ds => ds.map shN) ++ List.replicate (fd.ns - fd.np) .un
def runF (mf : Nat → Bool) (Φ : Nat → List D → Option (Sl × D)) (wf : Nat) (fd : FDef) (ds : List D) : Option (Sl × D) :=
  if ds.length ≠ fd.np then none else
  match exS mf Φ wf fd.body (env0 fd ds) with
  | some (.rt r, env) => if fd.mu then (match List.head? (env : List Sl) with
    | some (.bw d) => some (r, d)
    | _ => none) else some (r, .none)
  | some (.nx, env) => if fd.mu then (match List.head? (env : List Sl) with
    | some (.bw d) => some (.dp .none, d)
    | _ => none) else some (.dp .none, .none)
  | _ => none
abbrev Tbl := Nat → Option FDef
def mutOf (T : Tbl) (f : Nat) : Bool := match T f with
  | some fd => fd.mu
  | none => false
def sem (T : Tbl) (wf : Nat) : Nat → Nat → List D → Option (Sl × D)
  | 0, _, _ => none
  | k + 1, f, ds => match T f with
    | some fd => runF (mutOf T) (sem T wf k) wf fd ds
    | none => none
end Tv
/-! TvB: how data lie in the abstract heap; who owns what. -/
namespace Tv
open PySem PySem.Spec PyProof.Rows L2
def keyD : Key → D
  | .inl i => .int i
  | .inr x => .str x
def tkD (k : List Key) : D := .tuple (k.map keyD)
/-- a list of the written part -/
def KL (K : PySem.W.Frag) (a : Addr) (xs : List V) : Prop :=
  ∃ (o : Obj) (its : Array Value) (n : Nat), K.lookup a = some o ∧ o.cls = .type "list" ∧ o.dict = none ∧ o.data = .seq its n ∧ its.size ≤ sizeLine ∧ Vals xs its.toList
section
variable (K : PySem.W.Frag) (H : Hp)
mutual
/-- v stands for the datum d; F: the lists and dicts met, from the left -/
def Rp : D → V → List Addr → Prop
  | .none, v, F => v = .non ∧ F = []
  | .bool b, v, F => v = .bl b ∧ F = []
  | .int i, v, F => v = .int i ∧ F = []
  | .str x, v, F => v = .str x ∧ F = []
  | .list ds, v, F => (∃ a xs G, v = .ref a ∧ Rd H a (.lst xs) ∧ F = a :: G ∧ Rps ds xs G) ∨ (∃ a xs, v = .ref a ∧ KL K a xs ∧ F = [] ∧ Rps ds xs [])
  | .tuple ds, v, F => ∃ a xs, v = .ref a ∧ H a = some (.tup xs) ∧ Rps ds xs F
  | .dict es, v, F => ∃ a kvs G, v = .ref a ∧ Rd H a (.dT kvs) ∧ F = a :: G ∧ Rpv es kvs G
def Rps : List D → List V → List Addr → Prop
  | [], xs, F => xs = [] ∧ F = []
  | d :: ds, xs, F => ∃ x r F1 F2, xs = x :: r ∧ F = F1 ++ F2 ∧ Rp d x F1 ∧ Rps ds r F2
def Rpv : List (D × D) → List (List Key × V) → List Addr → Prop
  | [], kvs, F => kvs = [] ∧ F = []
  | (k, d) :: es, kvs, F => ∃ kk x r F1 F2, kvs = (kk, x) :: r ∧ k = tkD kk ∧ F = F1 ++ F2 ∧ Rp d x F1 ∧ Rpv es r F2
end
end
/-- from H to H' all is to be read as it was, but for M -/
structure Fz (M : List Addr) (H H' : Hp) : Prop where
  rd : ∀ a u, Rd H a u → a ∉ M → Mut (some u) → Rd H' a u
  tp : ∀ a xs, H a = some (.tup xs) → H' a = some (.tup xs)
theorem Fz.same {H H' : Hp} (s : Same H H') : Fz [] H H' := by
  refine ⟨fun a u h _ _ => ?_, fun a xs h => s _ _ h⟩
  rcases h with h | ⟨o, h⟩
  · exact .inl (s _ _ h)
  · exact .inr ⟨o, s _ _ h⟩
theorem Fz.upd {H : Hp} {p : Addr} {o : HO} (hp : ∀ xs, H p ≠ some (.tup xs)) : Fz [p] H (upd H p o) := by
  refine ⟨fun a u h hn _ => ?_, fun a xs h => ?_⟩
  · have ne : a ≠ p := fun e => hn (by simp [e])
    rcases h with h | ⟨o', h⟩
    · exact .inl (by rw [upd_ne ne]; exact h)
    · exact .inr ⟨o', by rw [upd_ne ne]; exact h⟩
  · have ne : a ≠ p := fun e => hp xs (e ▸ h)
    rw [upd_ne ne]; exact h
section
variable {K : PySem.W.Frag} {H H' : Hp} {M : List Addr}
mutual
theorem Rp.frame (z : Fz M H H') : ∀ (d : D) (v : V) (F : List Addr), Rp K H d v F → (∀ a ∈ F, a ∉ M) → Rp K H' d v F
  | .none, _, _, h, _ => h
  | .bool _, _, _, h, _ => h
  | .int _, _, _, h, _ => h
  | .str _, _, _, h, _ => h
  | .list ds, v, F, h, hf => by
    unfold Rp at h ⊢
    rcases h with ⟨a, xs, G, e1, e2, e3, e4⟩ | ⟨a, xs, e1, e2, e3, e4⟩
    · subst e3
      exact .inl ⟨a, xs, G, e1, z.rd _ _ e2 (hf a (by simp)) trivial, rfl, Rps.frame z ds xs G e4 fun b hb => hf b (by simp [hb])⟩
    · exact .inr ⟨a, xs, e1, e2, e3, Rps.frame z ds xs [] e4 fun b hb => by simp at hb⟩
  | .tuple ds, v, F, h, hf => by
    unfold Rp at h ⊢
    obtain ⟨a, xs, e1, e2, e3⟩ := h
    exact ⟨a, xs, e1, z.tp _ _ e2, Rps.frame z ds xs F e3 hf⟩
  | .dict es, v, F, h, hf => by
    unfold Rp at h ⊢
    obtain ⟨a, kvs, G, e1, e2, e3, e4⟩ := h
    subst e3
    exact ⟨a, kvs, G, e1, z.rd _ _ e2 (hf a (by simp)) trivial, rfl, Rpv.frame z es kvs G e4 fun b hb => hf b (by simp [hb])⟩
theorem Rps.frame (z : Fz M H H') : ∀ (ds : List D) (vs : List V) (F : List Addr), Rps K H ds vs F → (∀ a ∈ F, a ∉ M) → Rps K H' ds vs F
  | [], _, _, h, _ => h
  | d :: ds, vs, F, h, hf => by
    unfold Rps at h ⊢
    obtain ⟨x, r, F1, F2, e1, e2, e3, e4⟩ := h
    subst e2
    exact ⟨x, r, F1, F2, e1, rfl, Rp.frame z d x F1 e3 fun b hb => hf b (by simp [hb]), Rps.frame z ds r F2 e4 fun b hb => hf b (by simp [hb])⟩
theorem Rpv.frame (z : Fz M H H') : ∀ (es : List (D × D)) (kvs : List (List Key × V)) (F : List Addr), Rpv K H es kvs F → (∀ a ∈ F, a ∉ M) → Rpv K H' es kvs F
  | [], _, _, h, _ => h
  | (k, d) :: es, kvs, F, h, hf => by
    unfold Rpv at h ⊢
    obtain ⟨kk, x, r, F1, F2, e0, e1, e2, e3, e4⟩ := h
    subst e2
    exact ⟨kk, x, r, F1, F2, e0, e1, rfl, Rp.frame z d x F1 e3 fun b hb => hf b (by simp [hb]), Rpv.frame z es r F2 e4 fun b hb => hf b (by simp [hb])⟩
end
mutual
theorem Rp.imm : ∀ (d : D) (v : V) (F : List Addr), imm d = true → Rp K H d v F → F = []
  | .none, _, _, _, h => h.2
  | .bool _, _, _, _, h => h.2
  | .int _, _, _, _, h => h.2
  | .str _, _, _, _, h => h.2
  | .list _, _, _, h, _ => by simp [Tv.imm] at h
  | .tuple ds, v, F, h, r => by
    unfold Rp at r
    obtain ⟨a, xs, _, _, r⟩ := r
    exact Rps.imm ds xs F (by simpa [Tv.imm] using h) r
  | .dict _, _, _, h, _ => by simp [Tv.imm] at h
theorem Rps.imm : ∀ (ds : List D) (vs : List V) (F : List Addr), imms ds = true → Rps K H ds vs F → F = []
  | [], _, _, _, h => h.2
  | d :: ds, vs, F, h, r => by
    unfold Rps at r
    obtain ⟨x, r', F1, F2, e1, e2, e3, e4⟩ := r
    have h' : Tv.imm d = true ∧ imms ds = true := by simpa [imms] using h
    rw [e2, Rp.imm d x F1 h'.1 e3, Rps.imm ds r' F2 h'.2 e4]; rfl
end
mutual
theorem Rp.alive : ∀ (d : D) (v : V) (F : List Addr), Rp K H d v F → ∀ a ∈ F, ∃ u, Rd H a u
  | .none, _, _, h, a, ha => by rw [h.2] at ha; simp at ha
  | .bool _, _, _, h, a, ha => by rw [h.2] at ha; simp at ha
  | .int _, _, _, h, a, ha => by rw [h.2] at ha; simp at ha
  | .str _, _, _, h, a, ha => by rw [h.2] at ha; simp at ha
  | .list ds, v, F, h, b, hb => by
    unfold Rp at h
    rcases h with ⟨a, xs, G, e1, e2, e3, e4⟩ | ⟨a, xs, e1, e2, e3, e4⟩
    · subst e3
      rcases List.mem_cons.mp hb with rfl | hb
      · exact ⟨_, e2⟩
      · exact Rps.alive ds xs G e4 b hb
    · rw [e3] at hb; simp at hb
  | .tuple ds, v, F, h, b, hb => by
    unfold Rp at h
    obtain ⟨a, xs, _, _, r⟩ := h
    exact Rps.alive ds xs F r b hb
  | .dict es, v, F, h, b, hb => by
    unfold Rp at h
    obtain ⟨a, kvs, G, e1, e2, e3, e4⟩ := h
    subst e3
    rcases List.mem_cons.mp hb with rfl | hb
    · exact ⟨_, e2⟩
    · exact Rpv.alive es kvs G e4 b hb
theorem Rps.alive : ∀ (ds : List D) (vs : List V) (F : List Addr), Rps K H ds vs F → ∀ a ∈ F, ∃ u, Rd H a u
  | [], _, _, h, a, ha => by rw [h.2] at ha; simp at ha
  | d :: ds, vs, F, h, b, hb => by
    unfold Rps at h
    obtain ⟨x, r, F1, F2, e1, e2, e3, e4⟩ := h
    subst e2
    rcases List.mem_append.mp hb with hb | hb
    · exact Rp.alive d x F1 e3 b hb
    · exact Rps.alive ds r F2 e4 b hb
theorem Rpv.alive : ∀ (es : List (D × D)) (kvs : List (List Key × V)) (F : List Addr), Rpv K H es kvs F → ∀ a ∈ F, ∃ u, Rd H a u
  | [], _, _, h, a, ha => by rw [h.2] at ha; simp at ha
  | (k, d) :: es, kvs, F, h, b, hb => by
    unfold Rpv at h
    obtain ⟨kk, x, r, F1, F2, e0, e1, e2, e3, e4⟩ := h
    subst e2
    rcases List.mem_append.mp hb with hb | hb
    · exact Rp.alive d x F1 e3 b hb
    · exact Rpv.alive es r F2 e4 b hb
end
theorem Rd.some {a : Addr} {u : HO} (h : Rd H a u) : H a ≠ none := by
  rcases h with h | ⟨o, h⟩ <;> rw [h] <;> simp
theorem SqL.ofRd {a : Addr} {xs : List V} (h : Rd H a (.lst xs)) : SqL K H a xs := .inl h
theorem SqL.ofKL {a : Addr} {xs : List V} (h : KL K a xs) : SqL K H a xs := .inr h
/-- reading a list -/
theorem Rp.list {ds : List D} {v : V} {F : List Addr} (h : Rp K H (.list ds) v F) : ∃ a xs G, v = .ref a ∧ SqL K H a xs ∧ Rps K H ds xs G ∧ ∀ b ∈ G, b ∈ F := by
  unfold Rp at h
  rcases h with ⟨a, xs, G, e1, e2, e3, e4⟩ | ⟨a, xs, e1, e2, e3, e4⟩
  · exact ⟨a, xs, G, e1, .inl e2, e4, fun b hb => by rw [e3]; simp [hb]⟩
  · exact ⟨a, xs, [], e1, .inr e2, e4, fun b hb => by simp at hb⟩
theorem Rp.tuple {ds : List D} {v : V} {F : List Addr} (h : Rp K H (.tuple ds) v F) : ∃ a xs, v = .ref a ∧ H a = some (.tup xs) ∧ Rps K H ds xs F := by
  unfold Rp at h; exact h
theorem Rp.dict {es : List (D × D)} {v : V} {F : List Addr} (h : Rp K H (.dict es) v F) : ∃ a kvs G, v = .ref a ∧ Rd H a (.dT kvs) ∧ F = a :: G ∧ Rpv K H es kvs G := by
  unfold Rp at h; exact h
theorem Rps.length : ∀ {ds : List D} {vs : List V} {F : List Addr}, Rps K H ds vs F → vs.length = ds.length
  | [], _, _, h => by rw [h.1]; rfl
  | d :: ds, vs, F, h => by
    unfold Rps at h
    obtain ⟨x, r, F1, F2, e1, e2, e3, e4⟩ := h
    rw [e1]
    simp [Rps.length e4]
theorem Rps.get : ∀ {ds : List D} {vs : List V} {F : List Addr} {i : Nat} {d : D}, Rps K H ds vs F → ds[i]? = some d → ∃ x G, vs[i]? = some x ∧ Rp K H d x G ∧ ∀ b ∈ G, b ∈ F
  | [], _, _, _, _, _, e => by simp at e
  | d :: ds, vs, F, 0, d', h, e => by
    unfold Rps at h
    obtain ⟨x, r, F1, F2, e1, e2, e3, e4⟩ := h
    have : d = d' := by simpa using e
    subst this
    exact ⟨x, F1, by rw [e1]; rfl, e3, fun b hb => by rw [e2]; simp [hb]⟩
  | d :: ds, vs, F, i + 1, d', h, e => by
    unfold Rps at h
    obtain ⟨x, r, F1, F2, e1, e2, e3, e4⟩ := h
    obtain ⟨y, G, q1, q2, q3⟩ := Rps.get (i := i) (d := d') e4 (by simpa using e)
    exact ⟨y, G, by rw [e1]; simpa using q1, q2, fun b hb => by rw [e2]; simp [q3 b hb]⟩
theorem Rps.append : ∀ {ds es : List D} {vs ws : List V} {F G : List Addr}, Rps K H ds vs F → Rps K H es ws G → Rps K H (ds ++ es) (vs ++ ws) (F ++ G)
  | [], _, _, _, _, _, h, h2 => by rw [h.1, h.2]; exact h2
  | d :: ds, es, vs, ws, F, G, h, h2 => by
    unfold Rps at h
    obtain ⟨x, r, F1, F2, e1, e2, e3, e4⟩ := h
    subst e1 e2
    show Rps K H (d :: (ds ++ es)) _ _
    unfold Rps
    exact ⟨x, r ++ ws, F1, F2 ++ G, rfl, by simp, e3, Rps.append e4 h2⟩
theorem Rps.one {d : D} {v : V} {F : List Addr} (h : Rp K H d v F) : Rps K H [d] [v] F := by
  unfold Rps
  exact ⟨v, [], F, [], rfl, by simp, h, by unfold Rps; exact ⟨rfl, rfl⟩⟩
theorem Rps.nil : Rps K H [] [] [] := by unfold Rps; exact ⟨rfl, rfl⟩
theorem Rps.cons {d : D} {ds : List D} {v : V} {vs : List V} {F G : List Addr} (h : Rp K H d v F) (r : Rps K H ds vs G) : Rps K H (d :: ds) (v :: vs) (F ++ G) := by
  unfold Rps
  exact ⟨v, vs, F, G, rfl, rfl, h, r⟩
theorem Rps.take : ∀ {ds : List D} {vs : List V} {F : List Addr} (n : Nat), Rps K H ds vs F → ∃ G, Rps K H (ds.take n) (vs.take n) G ∧ ∀ b ∈ G, b ∈ F
  | [], _, _, n, h => by rw [h.1]; exact ⟨[], by simpa using Rps.nil, by simp⟩
  | d :: ds, vs, F, 0, h => ⟨[], by simpa using Rps.nil, by simp⟩
  | d :: ds, vs, F, n + 1, h => by
    unfold Rps at h
    obtain ⟨x, r, F1, F2, e1, e2, e3, e4⟩ := h
    subst e1 e2
    obtain ⟨G, q1, q2⟩ := Rps.take n e4
    exact ⟨F1 ++ G, Rps.cons e3 q1, fun b hb => by
      rcases List.mem_append.mp hb with hb | hb
      · simp [hb]
      · simp [q2 b hb]⟩
theorem Rps.drop : ∀ {ds : List D} {vs : List V} {F : List Addr} (n : Nat), Rps K H ds vs F → ∃ G, Rps K H (ds.drop n) (vs.drop n) G ∧ ∀ b ∈ G, b ∈ F
  | [], _, _, n, h => by rw [h.1]; exact ⟨[], by simpa using Rps.nil, by simp⟩
  | d :: ds, vs, F, 0, h => ⟨F, by simpa using h, fun b hb => hb⟩
  | d :: ds, vs, F, n + 1, h => by
    unfold Rps at h
    obtain ⟨x, r, F1, F2, e1, e2, e3, e4⟩ := h
    subst e1 e2
    obtain ⟨G, q1, q2⟩ := Rps.drop n e4
    exact ⟨G, by simpa using q1, fun b hb => by simp [q2 b hb]⟩
/-- all ints -/
theorem Rps.ints : ∀ {ds : List D} {vs : List V} {F : List Addr}, Rps K H ds vs F → ds.all isIntD = true → ∃ ns : List Int, ds = ns.map PyData.int ∧ vs = ns.map V.int
  | [], _, _, h, _ => ⟨[], rfl, h.1⟩
  | d :: ds, vs, F, h, ha => by
    unfold Rps at h
    obtain ⟨x, r, F1, F2, e1, e2, e3, e4⟩ := h
    have ha' : isIntD d = true ∧ ds.all isIntD = true := by simpa using ha
    obtain ⟨ns, q1, q2⟩ := Rps.ints e4 ha'.2
    cases d with
    | int i =>
      have e3' : x = V.int i := by unfold Rp at e3; exact e3.1
      exact ⟨i :: ns, by rw [q1]; rfl, by rw [e1, e3', q2]; rfl⟩
    | _ => simp [isIntD] at ha'
mutual
/-- what is told without the written part is told with it -/
theorem Rp.wid {L : PySem.W.Frag} : ∀ (d : D) (v : V) (F : List Addr), Rp [] H d v F → Rp L H d v F
  | .none, _, _, h => h
  | .bool _, _, _, h => h
  | .int _, _, _, h => h
  | .str _, _, _, h => h
  | .list ds, v, F, h => by
    unfold Rp at h ⊢
    rcases h with ⟨a, xs, G, e1, e2, e3, e4⟩ | ⟨a, xs, e1, ⟨o, its, n, q, _⟩, _⟩
    · exact .inl ⟨a, xs, G, e1, e2, e3, Rps.wid ds xs G e4⟩
    · cases q
  | .tuple ds, v, F, h => by
    unfold Rp at h ⊢
    obtain ⟨a, xs, e1, e2, e3⟩ := h
    exact ⟨a, xs, e1, e2, Rps.wid ds xs F e3⟩
  | .dict es, v, F, h => by
    unfold Rp at h ⊢
    obtain ⟨a, kvs, G, e1, e2, e3, e4⟩ := h
    exact ⟨a, kvs, G, e1, e2, e3, Rpv.wid es kvs G e4⟩
theorem Rps.wid {L : PySem.W.Frag} : ∀ (ds : List D) (vs : List V) (F : List Addr), Rps [] H ds vs F → Rps L H ds vs F
  | [], _, _, h => h
  | d :: ds, vs, F, h => by
    unfold Rps at h ⊢
    obtain ⟨x, r, F1, F2, e1, e2, e3, e4⟩ := h
    exact ⟨x, r, F1, F2, e1, e2, Rp.wid d x F1 e3, Rps.wid ds r F2 e4⟩
theorem Rpv.wid {L : PySem.W.Frag} : ∀ (es : List (D × D)) (kvs : List (List Key × V)) (F : List Addr), Rpv [] H es kvs F → Rpv L H es kvs F
  | [], _, _, h => h
  | (k, d) :: es, kvs, F, h => by
    unfold Rpv at h ⊢
    obtain ⟨kk, x, r, F1, F2, e0, e1, e2, e3, e4⟩ := h
    exact ⟨kk, x, r, F1, F2, e0, e1, e2, Rp.wid d x F1 e3, Rpv.wid es r F2 e4⟩
end
mutual
theorem Rp.nar {L : PySem.W.Frag} : ∀ (d : D) (v : V) (F : List Addr), Tv.imm d = true → Rp K H d v F → Rp L H d v F
  | .none, _, _, _, h => h
  | .bool _, _, _, _, h => h
  | .int _, _, _, _, h => h
  | .str _, _, _, _, h => h
  | .list ds, v, F, hi, h => by simp [Tv.imm] at hi
  | .tuple ds, v, F, hi, h => by
    unfold Rp at h ⊢
    obtain ⟨a, xs, e1, e2, e3⟩ := h
    exact ⟨a, xs, e1, e2, Rps.nar ds xs F (by simpa [Tv.imm] using hi) e3⟩
  | .dict es, v, F, hi, h => by simp [Tv.imm] at hi
theorem Rps.nar {L : PySem.W.Frag} : ∀ (ds : List D) (vs : List V) (F : List Addr), imms ds = true → Rps K H ds vs F → Rps L H ds vs F
  | [], _, _, _, h => h
  | d :: ds, vs, F, hi, h => by
    unfold Rps at h ⊢
    obtain ⟨x, r, F1, F2, e1, e2, e3, e4⟩ := h
    have h' : Tv.imm d = true ∧ imms ds = true := by simpa [imms] using hi
    exact ⟨x, r, F1, F2, e1, e2, Rp.nar d x F1 h'.1 e3, Rps.nar ds r F2 h'.2 e4⟩
end
/-- a list or dict of imm items in the heap, wherever its items were told -/
theorem Rpv.nar {L : PySem.W.Frag} : ∀ (es : List (D × D)) (kvs : List (List Key × V)) (F : List Addr), imms (es.map (·.2)) = true → Rpv K H es kvs F → Rpv L H es kvs F
  | [], _, _, _, h => h
  | (k, d) :: es, kvs, F, hi, h => by
    unfold Rpv at h ⊢
    obtain ⟨kk, x, r, F1, F2, e0, e1, e2, e3, e4⟩ := h
    have h' : Tv.imm d = true ∧ imms (es.map (·.2)) = true := by simpa [imms] using hi
    exact ⟨kk, x, r, F1, F2, e0, e1, e2, Rp.nar d x F1 h'.1 e3, Rpv.nar es r F2 h'.2 e4⟩
mutual
theorem Rp.dp : ∀ (d : D) (v : V) (F : List Addr), PyData.hasDict d = false → Rp K H d v F → Dp K H v d
  | .none, _, _, _, h => by rw [h.1]; exact .non
  | .bool _, _, _, _, h => by rw [h.1]; exact .bl _
  | .int _, _, _, _, h => by rw [h.1]; exact .int _
  | .str _, _, _, _, h => by rw [h.1]; exact .str _
  | .list ds, v, F, hd, h => by
    obtain ⟨a, xs, G, e1, e2, e3, _⟩ := Rp.list h
    rw [e1]
    exact .lst e2 (Rps.dp ds xs G (by simpa [PyData.hasDict] using hd) e3)
  | .tuple ds, v, F, hd, h => by
    obtain ⟨a, xs, e1, e2, e3⟩ := Rp.tuple h
    rw [e1]
    exact .tup (SqT.of e2) (Rps.dp ds xs F (by simpa [PyData.hasDict] using hd) e3)
  | .dict _, _, _, hd, _ => by simp [PyData.hasDict] at hd
theorem Rps.dp : ∀ (ds : List D) (vs : List V) (F : List Addr), PyData.hasDictAll ds = false → Rps K H ds vs F → DpAll K H vs ds
  | [], _, _, _, h => by rw [h.1]; exact .nil
  | d :: ds, vs, F, hd, h => by
    unfold Rps at h
    obtain ⟨x, r, F1, F2, e1, e2, e3, e4⟩ := h
    have hd' : PyData.hasDict d = false ∧ PyData.hasDictAll ds = false := by simpa [PyData.hasDictAll] using hd
    rw [e1]
    exact .cons (Rp.dp d x F1 hd'.1 e3) (Rps.dp ds r F2 hd'.2 e4)
end
end
/-! ### slots -/
structure Cell where
  v : Option V
  s : Sl
  f : List Addr
def CellOk (K : PySem.W.Frag) (A : List Addr) (H : Hp) (c : Cell) : Prop := match c.s with
  | .un => c.f = []
  | .sh d => ∃ x F, c.v = some x ∧ Rp K H d x F ∧ (∀ a ∈ F, a ∉ A) ∧ c.f = []
  | .vo d => ∃ x F, c.v = some x ∧ Rp K H d x F ∧ c.f = []
  | .ow d => ∃ p F, c.v = some (.ref p) ∧ Rp K H d (.ref p) (p :: F) ∧ (∀ a ∈ F, a ∉ A) ∧ c.f = [p]
  | .vt d => ∃ p F, c.v = some (.ref p) ∧ Rp K H d (.ref p) (p :: F) ∧ (∀ a ∈ F, a ∉ A) ∧ c.f = []
  | .dp d => ∃ x, c.v = some x ∧ Rp [] H d x c.f
  | .bw d => ∃ p, c.v = some (.ref p) ∧ Rp K H d (.ref p) [p] ∧ c.f = [p]
def fp (cs : List Cell) : List Addr := cs.flatMap (·.f)
theorem fp_append (a b : List Cell) : fp (a ++ b) = fp a ++ fp b := by simp [fp]
theorem fp_cons (c : Cell) (b : List Cell) : fp (c :: b) = c.f ++ fp b := by simp [fp]
theorem fp_nil : fp [] = [] := rfl
theorem fp_mem {cs : List Cell} {c : Cell} (h : c ∈ cs) {a : Addr} (ha : a ∈ c.f) : a ∈ fp cs := List.mem_flatMap.mpr ⟨c, h, ha⟩
theorem fp_sub : ∀ {a b : List Cell}, a.Sublist b → (fp a).Sublist (fp b)
  | _, _, .slnil => .slnil
  | _, _, .cons c h => by
    rw [fp_cons]
    exact (fp_sub h).trans (List.sublist_append_right _ _)
  | _, _, .cons_cons c h => by
    rw [fp_cons, fp_cons]
    exact (List.append_sublist_append_left _).mpr (fp_sub h)
/-- S: what the callers keep; H0: the heap at the entry; P: what the def may change of it -/
structure Ok (K : PySem.W.Frag) (S : List Addr) (H0 : Hp) (P : List Addr) (H : Hp) (cs : List Cell) : Prop where
  cell : ∀ c ∈ cs, CellOk K (S ++ fp cs) H c
  nd : (fp cs).Nodup
  mu : ∀ a ∈ fp cs, Mut (H a)
  dj : ∀ a ∈ S, a ∉ fp cs
  al : ∀ a ∈ S, H a ≠ none
  ext : ∀ a o, H0 a = some o → a ∉ P → H a = some o
  fr : ∀ a ∈ fp cs, a ∈ P ∨ H0 a = none
  bw : ∀ c ∈ cs, ∀ d, c.s = .bw d → ∀ a ∈ c.f, a ∈ P
def noVo (cs : List Cell) : Prop := ∀ c ∈ cs, c.s.isVo = false
section
variable {K : PySem.W.Frag} {S A A' : List Addr} {H0 H H' : Hp} {P M : List Addr} {cs : List Cell} {c : Cell}
theorem CellOk.move (h : CellOk K A H c) (z : Fz M H H') (hA : ∀ a ∈ M, a ∈ A) (hc : ∀ a ∈ M, a ∉ c.f) (hv : c.s.isVo = false ∨ M = []) (hs : ∀ a ∈ A', a ∈ A) : CellOk K A' H' c := by
  obtain ⟨v, s, f⟩ := c
  cases s with
  | un => exact h
  | sh d =>
    obtain ⟨x, F, e1, e2, e3, e4⟩ := h
    exact ⟨x, F, e1, Rp.frame z d x F e2 fun a ha hm => e3 a ha (hA a hm), fun a ha q => e3 a ha (hs a q), e4⟩
  | vo d =>
    obtain ⟨x, F, e1, e2, e4⟩ := h
    rcases hv with hv | hv
    · simp [Sl.isVo] at hv
    · subst hv
      exact ⟨x, F, e1, Rp.frame z d x F e2 fun a _ hm => by simp at hm, e4⟩
  | ow d =>
    obtain ⟨p, F, e1, e2, e3, e4⟩ := h
    have e4' : f = [p] := e4
    refine ⟨p, F, e1, Rp.frame z d _ _ e2 fun a ha hm => ?_, fun a ha q => e3 a ha (hs a q), e4⟩
    rcases List.mem_cons.mp ha with rfl | ha
    · exact hc _ hm (by rw [e4']; simp)
    · exact e3 a ha (hA a hm)
  | vt d =>
    obtain ⟨p, F, e1, e2, e3, e4⟩ := h
    rcases hv with hv | hv
    · simp [Sl.isVo] at hv
    · subst hv
      exact ⟨p, F, e1, Rp.frame z d _ _ e2 fun a _ hm => by simp at hm, fun a ha q => e3 a ha (hs a q), e4⟩
  | dp d =>
    obtain ⟨x, e1, e2⟩ := h
    exact ⟨x, e1, Rp.frame z d x f e2 fun a ha hm => hc a hm ha⟩
  | bw d =>
    obtain ⟨p, e1, e2, e4⟩ := h
    have e4' : f = [p] := e4
    refine ⟨p, e1, Rp.frame z d _ _ e2 fun a ha hm => ?_, e4⟩
    exact hc a hm (by rw [e4']; exact ha)
theorem CellOk.less (h : CellOk K A H c) (hs : ∀ a ∈ A', a ∈ A) : CellOk K A' H c :=
  h.move (M := []) ⟨fun _ _ h _ _ => h, fun _ _ h => h⟩ (fun _ h => by simp at h) (fun _ h => by simp at h) (.inr rfl) hs
/-- all that a good cell's value reads is there -/
theorem CellOk.alive (h : CellOk K A H c) : ∀ a ∈ c.f, H a ≠ none := by
  obtain ⟨v, s, f⟩ := c
  intro a ha
  cases s with
  | un => rw [show f = [] from h] at ha; simp at ha
  | sh d => obtain ⟨x, F, _, _, _, e⟩ := h; rw [show f = [] from e] at ha; simp at ha
  | vo d => obtain ⟨x, F, _, _, e⟩ := h; rw [show f = [] from e] at ha; simp at ha
  | vt d => obtain ⟨x, F, _, _, _, e⟩ := h; rw [show f = [] from e] at ha; simp at ha
  | ow d =>
    obtain ⟨p, F, _, e2, _, e⟩ := h
    rw [show f = [p] from e] at ha
    obtain ⟨u, hu⟩ := Rp.alive d _ _ e2 a (by simp at ha; simp [ha])
    exact Rd.some hu
  | dp d =>
    obtain ⟨x, _, e2⟩ := h
    obtain ⟨u, hu⟩ := Rp.alive d _ _ e2 a ha
    exact Rd.some hu
  | bw d =>
    obtain ⟨p, _, e2, e⟩ := h
    rw [show f = [p] from e] at ha
    obtain ⟨u, hu⟩ := Rp.alive d _ _ e2 a ha
    exact Rd.some hu
theorem Mut.some {o : Option HO} (h : Mut o) : o ≠ none := by
  intro e; rw [e] at h; exact h
theorem Mut.notTup {H : Hp} {a : Addr} (h : Mut (H a)) : ∀ xs, H a ≠ Option.some (.tup xs) := by
  intro xs e; rw [e] at h; exact h
/-- the heap grows -/
theorem Ok.same (o : Ok K S H0 P H cs) (s : Same H H') : Ok K S H0 P H' cs where
  cell := fun c hc => (o.cell c hc).move (M := []) (.same s) (fun _ h => by simp at h) (fun _ h => by simp at h) (.inr rfl) fun _ h => h
  nd := o.nd
  mu := fun a ha => by
    have m := o.mu a ha
    cases e : H a with
    | none => rw [e] at m; exact m.elim
    | some u => rw [s a u e]; rw [e] at m; exact m
  dj := o.dj
  al := fun a ha => by
    cases e : H a with
    | none => exact absurd e (o.al a ha)
    | some u => rw [s a u e]; simp
  ext := fun a u h hp => s a u (o.ext a u h hp)
  fr := o.fr
  bw := o.bw
/-- cells weakened, left out, reordered -/
theorem Ok.sub {cs' : List Cell} (o : Ok K S H0 P H cs) (hnd : (fp cs').Nodup) (hf : ∀ a ∈ fp cs', a ∈ fp cs) (hc : ∀ c ∈ cs', CellOk K (S ++ fp cs') H c) (hb : ∀ c ∈ cs', ∀ d, c.s = .bw d → ∀ a ∈ c.f, a ∈ P) : Ok K S H0 P H cs' where
  cell := hc
  nd := hnd
  mu := fun a ha => o.mu a (hf a ha)
  dj := fun a ha h => o.dj a ha (hf a h)
  al := o.al
  ext := o.ext
  fr := fun a ha => o.fr a (hf a ha)
  bw := hb
/-- a sublist of the cells -/
theorem Ok.drop {cs' : List Cell} (o : Ok K S H0 P H cs) (h : cs'.Sublist cs) : Ok K S H0 P H cs' := by
  have hs : (fp cs').Sublist (fp cs) := fp_sub h
  refine o.sub (o.nd.sublist hs) (fun a ha => hs.subset ha) (fun c hc => ?_) fun c hc => o.bw c (h.subset hc)
  refine (o.cell c (h.subset hc)).less fun a ha => ?_
  rcases List.mem_append.mp ha with ha | ha
  · exact List.mem_append_left _ ha
  · exact List.mem_append_right _ (hs.subset ha)
/-- a new cell upon a heap that grew -/
theorem Ok.push (o : Ok K S H0 P H cs) (s : Same H H') (hc : CellOk K (S ++ fp cs ++ c.f) H' c) (hn : ∀ a ∈ c.f, H a = none) (hnd : c.f.Nodup) (hm : ∀ a ∈ c.f, Mut (H' a)) (hb : ∀ d, c.s ≠ .bw d) : Ok K S H0 P H' (cs ++ [c]) := by
  have o' := o.same s
  have fe : fp (cs ++ [c]) = fp cs ++ c.f := by rw [fp_append, fp_cons, fp_nil, List.append_nil]
  have old : ∀ a ∈ fp cs, H a ≠ none := fun a ha => Mut.some (o.mu a ha)
  refine ⟨fun d hd => ?_, ?_, fun a ha => ?_, fun a ha h => ?_, o'.al, o'.ext, fun a ha => ?_, fun d hd e he => ?_⟩
  · rw [fe, ← List.append_assoc]
    rcases List.mem_append.mp hd with hd | hd
    · -- an old cell: nothing new is read by it
      have q := o.cell d hd
      obtain ⟨v, sl, f⟩ := d
      have nw : ∀ F : List Addr, (∀ a ∈ F, H a ≠ none) → (∀ a ∈ F, a ∉ S ++ fp cs) → ∀ a ∈ F, a ∉ S ++ fp cs ++ c.f := fun F h1 h2 a ha hm => by
        rcases List.mem_append.mp hm with hm | hm
        · exact h2 a ha hm
        · exact h1 a ha (hn a hm)
      have q' := o'.cell _ hd
      cases sl with
      | un => exact q'
      | sh e =>
        obtain ⟨x, F, e1, e2, e3, e4⟩ := q
        refine ⟨x, F, e1, Rp.frame (.same s) e x F e2 (fun a _ h => by simp at h), nw F (fun a ha => ?_) e3, e4⟩
        obtain ⟨u, hu⟩ := Rp.alive _ _ _ e2 a ha
        exact Rd.some hu
      | vo e => exact q'
      | ow e =>
        obtain ⟨p, F, e1, e2, e3, e4⟩ := q
        refine ⟨p, F, e1, Rp.frame (.same s) e _ _ e2 (fun a _ h => by simp at h), nw F (fun a ha => ?_) e3, e4⟩
        obtain ⟨u, hu⟩ := Rp.alive _ _ _ e2 a (by simp [ha])
        exact Rd.some hu
      | vt e =>
        obtain ⟨p, F, e1, e2, e3, e4⟩ := q
        refine ⟨p, F, e1, Rp.frame (.same s) e _ _ e2 (fun a _ h => by simp at h), nw F (fun a ha => ?_) e3, e4⟩
        obtain ⟨u, hu⟩ := Rp.alive _ _ _ e2 a (by simp [ha])
        exact Rd.some hu
      | dp e => exact q'
      | bw e => exact q'
    · simp at hd; subst hd; exact hc
  · rw [fe]
    exact List.nodup_append.mpr ⟨o.nd, hnd, fun a ha b hb e => old a ha (e ▸ hn b hb)⟩
  · rw [fe] at ha
    rcases List.mem_append.mp ha with ha | ha
    · exact o'.mu a ha
    · exact hm a ha
  · rw [fe] at h
    rcases List.mem_append.mp h with h | h
    · exact o.dj a ha h
    · exact o.al a ha (hn a h)
  · rw [fe] at ha
    rcases List.mem_append.mp ha with ha | ha
    · exact o.fr a ha
    · have e := hn a ha
      by_cases hp : a ∈ P
      · exact .inl hp
      · right
        cases q : H0 a with
        | none => rfl
        | some u => rw [o.ext a u q hp] at e; cases e
  · rcases List.mem_append.mp hd with hd | hd
    · exact o.bw d hd e he
    · simp at hd; subst hd; exact absurd he (hb e)
end
end Tv
set_option maxHeartbeats 1000000
/-! TvC: readings from the evaluator; rules for the plain expressions. -/
namespace Tv
open PySem PySem.Spec PyProof.Rows L2
section
variable {K : PySem.W.Frag} {S A A' : List Addr} {H0 H H' : Hp} {P M : List Addr} {cs l r ts : List Cell} {c : Cell}
theorem Ok.perm {cs' : List Cell} (o : Ok K S H0 P H cs) (hp : (fp cs').Perm (fp cs)) (hc : ∀ c ∈ cs', c ∈ cs ∨ (c.s = .un ∧ c.f = [])) : Ok K S H0 P H cs' := by
  refine o.sub (hp.nodup_iff.mpr o.nd) (fun a ha => hp.mem_iff.mp ha) (fun c h => ?_) fun c h d e => ?_
  · rcases hc c h with h | ⟨h1, h2⟩
    · refine (o.cell c h).less fun a ha => ?_
      rcases List.mem_append.mp ha with ha | ha
      · exact List.mem_append_left _ ha
      · exact List.mem_append_right _ (hp.mem_iff.mp ha)
    · obtain ⟨v, s, f⟩ := c
      have h1' : s = .un := h1
      subst h1'
      exact h2
  · rcases hc c h with h | ⟨h1, _⟩
    · exact o.bw c h d e
    · rw [h1] at e; cases e
theorem Ok.add0 (o : Ok K S H0 P H cs) (hc : CellOk K (S ++ fp cs) H c) (hf : c.f = []) (hb : ∀ d, c.s ≠ .bw d) : Ok K S H0 P H (cs ++ [c]) :=
  o.push (Same.refl H) (by rw [hf, List.append_nil]; exact hc) (fun a ha => by rw [hf] at ha; simp at ha) (by rw [hf]; simp) (fun a ha => by rw [hf] at ha; simp at ha) hb
theorem Ok.addI (o : Ok K S H0 P H cs) {d : D} {x : V} (h : Rp [] H d x []) : Ok K S H0 P H (cs ++ [⟨some x, .dp d, []⟩]) :=
  o.add0 ⟨x, rfl, h⟩ rfl fun _ => by simp
/-- a cell gives up what it owns -/
def Cell.dem (c : Cell) : Cell := match c.s with
  | .dp d => ⟨c.v, .sh d, []⟩
  | .ow d => ⟨c.v, .sh d, []⟩
  | _ => c
theorem fp_mid : fp (l ++ c :: r) = fp l ++ (c.f ++ fp r) := by rw [fp_append, fp_cons]
theorem Ok.dem (o : Ok K S H0 P H (l ++ c :: r)) : Ok K S H0 P H (l ++ c.dem :: r) := by
  have hc := o.cell c (by simp)
  have nd := o.nd
  rw [fp_mid] at nd
  obtain ⟨n1, n2, n3⟩ := List.nodup_append.mp nd
  obtain ⟨n4, n5, n6⟩ := List.nodup_append.mp n2
  have key : ∀ (d : D) (x : V) (F : List Addr), c.v = some x → Rp K H d x F → (∀ a ∈ F, a ∉ S ++ (fp l ++ fp r)) → Ok K S H0 P H (l ++ ⟨c.v, .sh d, []⟩ :: r) := by
    intro d x F e1 e2 e3
    have fe : fp (l ++ (⟨c.v, .sh d, []⟩ : Cell) :: r) = fp l ++ fp r := by rw [fp_mid]; rfl
    refine o.sub ?_ (fun a ha => ?_) (fun c' hc' => ?_) fun c' hc' d' e' => ?_
    · rw [fe]
      exact List.nodup_append.mpr ⟨n1, n5, fun a ha b hb => n3 a ha b (List.mem_append_right _ hb)⟩
    · rw [fe] at ha
      rw [fp_mid]
      rcases List.mem_append.mp ha with ha | ha
      · simp [ha]
      · simp [ha]
    · rw [fe]
      have old : c' ∈ l ++ c :: r → CellOk K (S ++ (fp l ++ fp r)) H c' := fun h => (o.cell c' h).less fun a ha => by
        rw [fp_mid]
        rcases List.mem_append.mp ha with ha | ha
        · simp [ha]
        · rcases List.mem_append.mp ha with ha | ha
          · simp [ha]
          · simp [ha]
      rcases List.mem_append.mp hc' with h | h
      · exact old (by simp [h])
      · rcases List.mem_cons.mp h with rfl | h
        · exact ⟨x, F, e1, e2, e3, rfl⟩
        · exact old (by simp [h])
    · rcases List.mem_append.mp hc' with h | h
      · exact o.bw c' (by simp [h]) d' e'
      · rcases List.mem_cons.mp h with rfl | h
        · cases e'
        · exact o.bw c' (by simp [h]) d' e'
  have avoid : ∀ a ∈ c.f, a ∉ S ++ (fp l ++ fp r) := fun a ha hm => by
    rcases List.mem_append.mp hm with hm | hm
    · exact o.dj a hm (by rw [fp_mid]; simp [ha])
    · rcases List.mem_append.mp hm with hm | hm
      · exact n3 a hm a (List.mem_append_left _ ha) rfl
      · exact n6 a ha a hm rfl
  obtain ⟨v, s, f⟩ := c
  unfold Cell.dem
  cases s with
  | dp d =>
    obtain ⟨x, e1, e2⟩ := hc
    exact key d x f e1 (Rp.wid _ _ _ e2) avoid
  | ow d =>
    obtain ⟨p, F, e1, e2, e3, e4⟩ := hc
    have e4' : f = [p] := e4
    refine key d _ _ e1 e2 fun a ha hm => ?_
    rcases List.mem_cons.mp ha with rfl | ha
    · exact avoid _ (by show _ ∈ f; rw [e4']; simp) hm
    · refine e3 a ha ?_
      rw [fp_mid]
      rcases List.mem_append.mp hm with hm | hm
      · simp [hm]
      · rcases List.mem_append.mp hm with hm | hm <;> simp [hm]
  | un => exact o
  | sh d => exact o
  | vo d => exact o
  | vt d => exact o
  | bw d => exact o
/-- the datum of a cell that holds one -/
theorem CellOk.rp (h : CellOk K A H c) (hu : c.s ≠ .un) : ∃ x F, c.v = some x ∧ Rp K H c.s.d x F := by
  obtain ⟨v, s, f⟩ := c
  cases s with
  | un => exact absurd rfl hu
  | sh d => obtain ⟨x, F, e1, e2, _⟩ := h; exact ⟨x, F, e1, e2⟩
  | vo d => obtain ⟨x, F, e1, e2, _⟩ := h; exact ⟨x, F, e1, e2⟩
  | vt d => obtain ⟨x, F, e1, e2, _⟩ := h; exact ⟨_, _, e1, e2⟩
  | ow d => obtain ⟨x, F, e1, e2, _⟩ := h; exact ⟨_, _, e1, e2⟩
  | dp d => obtain ⟨x, e1, e2⟩ := h; exact ⟨x, f, e1, Rp.wid _ _ _ e2⟩
  | bw d => obtain ⟨x, e1, e2, _⟩ := h; exact ⟨_, _, e1, e2⟩
theorem CellOk.shN (h : CellOk K A H c) {d : D} (hs : c.s = .sh d) : ∃ x F, c.v = some x ∧ Rp K H d x F ∧ ∀ a ∈ F, a ∉ A := by
  obtain ⟨v, s, f⟩ := c
  have hs' : s = .sh d := hs
  subst hs'
  obtain ⟨x, F, e1, e2, e3, _⟩ := h
  exact ⟨x, F, e1, e2, e3⟩
theorem split_at {α : Type} : ∀ {cs : List α} {i : Nat} {c : α}, cs[i]? = some c → ∃ l r, cs = l ++ c :: r ∧ l.length = i
  | [], _, _, h => by simp at h
  | a :: r, 0, c, h => ⟨[], r, by simp at h; simp [h], rfl⟩
  | a :: as, i + 1, c, h => by
    obtain ⟨l, r, e1, e2⟩ := split_at (cs := as) (i := i) (c := c) (by simpa using h)
    exact ⟨a :: l, r, by rw [e1]; rfl, by simp [e2]⟩
theorem set_mid {α : Type} {l r : List α} {c c' : α} {i : Nat} (h : l.length = i) : (l ++ c :: r).set i c' = l ++ c' :: r := by
  subst h; simp
theorem env_at {i : Nat} {x : Sl} (h : (cs.map (·.s))[i]? = some x) : ∃ l c r, cs = l ++ c :: r ∧ l.length = i ∧ c.s = x := by
  rw [List.getElem?_map] at h
  cases e : cs[i]? with
  | none => rw [e] at h; simp at h
  | some c =>
    rw [e] at h
    obtain ⟨l, r, e1, e2⟩ := split_at e
    exact ⟨l, c, r, e1, e2, by simpa using h⟩
end
/-! ### the readings -/
section
variable (K : PySem.W.Frag) (mf : Nat → Bool) (Φ : Nat → List D → Option (Sl × D))
def Post (S : List Addr) (H0 : Hp) (P : List Addr) (cs ts : List Cell) (env : Ev) (q : Bool) (H : Hp) (r : Sl) (Q : VK) : Prop :=
  ∀ x H' cs' f, cs'.map (·.v) = cs.map (·.v) → cs'.map (·.s) = env → Ok K S H0 P H' (cs' ++ ts ++ [⟨some x, r, f⟩]) → (q = true → Same H H') → Q x H'
def tE (m : Md) (e : Ex) : TE := fun σ H Q => ∃ S H0 P cs ts r env, σ = cs.map (·.v) ∧ Ok K S H0 P H (cs ++ ts) ∧ ev mf Φ m e (cs.map (·.s)) = some (r, env) ∧
  (quiet mf e = true ∨ noVo ts) ∧ Post K S H0 P cs ts env (quiet mf e) H r Q
def tEs (m : Md) (es : Exs) : TA := fun σ H Q => ∃ S H0 P cs ts rs env, σ = cs.map (·.v) ∧ Ok K S H0 P H (cs ++ ts) ∧ evs mf Φ m es (cs.map (·.s)) = some (rs, env) ∧
  (quiets mf es = true ∨ (noVo ts ∧ m ≠ .bor)) ∧
  ∀ xs H' cs' tl, cs'.map (·.v) = cs.map (·.v) → cs'.map (·.s) = env → tl.map (·.v) = xs.map some → tl.map (·.s) = rs → Ok K S H0 P H' (cs' ++ ts ++ tl) → (quiets mf es = true → Same H H') → Q xs H'
end
theorem weak {X : Cx} {e : Expr} {t t' : TE} (h : PE X e t) (w : ∀ σ H Q, t' σ H Q → t σ H Q) : PE X e t' := ⟨fun pins s σ H Q I q => h.run pins s σ H Q I (w σ H Q q)⟩
theorem PE.or {X : Cx} {e : Expr} {t t' : TE} (h : PE X e t) (h' : PE X e t') : PE X e (fun σ H Q => t σ H Q ∨ t' σ H Q) :=
  ⟨fun pins s σ H Q I q => q.elim (h.run pins s σ H Q I) (h'.run pins s σ H Q I)⟩
theorem PE.pull {X : Cx} {e : Expr} {t : TE} (h : ∀ σ H Q, t σ H Q → ∃ t', PE X e t' ∧ t' σ H Q) : PE X e t :=
  ⟨fun pins s σ H Q I q => let ⟨_, h1, h2⟩ := h σ H Q q; h1.run pins s σ H Q I h2⟩
section
variable {X : Cx} {mf : Nat → Bool} {Φ : Nat → List D → Option (Sl × D)} {pos : Pos}
theorem noVo_app {a b : List Cell} (h : noVo a) (h' : noVo b) : noVo (a ++ b) := fun c hc => by
  rcases List.mem_append.mp hc with hc | hc
  · exact h c hc
  · exact h' c hc
theorem noVo_one {c : Cell} (h : c.s.isVo = false) : noVo [c] := fun d hd => by simp at hd; subst hd; exact h
/-- constants -/
theorem te_cst {m : Md} {d : D} {e : Expr} {v : V} (h : PE X e (tC v)) (hr : ∀ H, Rp X.K H d v []) : PE X e (tE X.K mf Φ m (.cst d)) := by
  refine weak h fun σ H Q q => ?_
  obtain ⟨S, H0, P, cs, ts, r, env, rfl, o, he, _, k⟩ := q
  unfold ev at he
  split at he
  · rename_i hi
    cases he
    exact k v H cs [] rfl rfl (by rw [List.append_assoc]; exact (o.addI (Rp.nar _ _ _ hi (hr H))) |> fun z => by simpa [List.append_assoc] using z) fun _ => Same.refl H
  · cases he
theorem te_int {m : Md} {i : Int} {j : Nat} : PE X (.Constant (.int i) j pos) (tE X.K mf Φ m (.cst (.int i))) := te_cst pe_int fun H => by unfold Rp; exact ⟨rfl, rfl⟩
theorem get_mid {α : Type} {l r : List α} {c : α} {i : Nat} (h : l.length = i) : (l ++ c :: r)[i]? = some c := by
  subst h; simp
theorem te_var {m : Md} {i : Nat} {e : Expr} (h : PE X e (tVar i)) : PE X e (tE X.K mf Φ m (.var i)) := by
  refine weak h fun σ H Q q => ?_
  obtain ⟨S, H0, P, cs, ts, r0, env, rfl, o, he, _, k⟩ := q
  -- the value of a cell that holds something
  have val : ∀ {l r : List Cell} {c : Cell} {x : V}, cs = l ++ c :: r → l.length = i → c.v = some x → (cs.map (·.v))[i]? = some (some x) := fun {l r c x} e1 e2 e3 => by
    rw [e1, List.getElem?_map, get_mid e2]; simp [e3]
  have bor : ∀ {l r : List Cell} {c : Cell} {s : Sl} {x : V}, cs = l ++ c :: r → l.length = i → c.v = some x → (∀ d, s ≠ .bw d) → CellOk X.K (S ++ fp (cs ++ ts)) H ⟨some x, s, []⟩ → r0 = s → env = cs.map (·.s) → ∃ v, (cs.map (·.v))[i]? = some (some v) ∧ Q v H := fun {l r c s x} e1 e2 e3 hb hc er ee => by
    subst er ee
    exact ⟨x, val e1 e2 e3, k x H cs [] rfl rfl (o.add0 hc rfl hb) fun _ => Same.refl H⟩
  unfold ev at he
  cases hi : (cs.map (·.s))[i]? with
  | none => rw [hi] at he; cases he
  | some sl =>
    rw [hi] at he
    obtain ⟨l, c, r, e1, e2, e3⟩ := env_at hi
    have hcell : CellOk X.K (S ++ fp (cs ++ ts)) H c := o.cell c (by rw [e1]; simp)
    have eset : ∀ c' : Cell, (l ++ c' :: r).map (·.s) = (cs.map (·.s)).set i c'.s := fun c' => by
      rw [e1]
      simp only [List.map_append, List.map_cons]
      rw [set_mid (by simpa using e2)]
    have evv : ∀ c' : Cell, c'.v = c.v → (l ++ c' :: r).map (·.v) = cs.map (·.v) := fun c' hv => by
      rw [e1]; simp [hv]
    -- a thing is shared from here on
    have frz : ∀ {d : D} {x : V}, c.dem = ⟨c.v, .sh d, []⟩ → c.v = some x → r0 = .sh d → env = (cs.map (·.s)).set i (.sh d) → ∃ v, (cs.map (·.v))[i]? = some (some v) ∧ Q v H := fun {d x} hd hv er ee => by
      subst er ee
      have o1 : Ok X.K S H0 P H (l ++ c :: (r ++ ts)) := by rw [e1] at o; simpa using o
      have o2 := o1.dem
      rw [hd] at o2
      have hc2 : CellOk X.K (S ++ fp (l ++ (⟨c.v, .sh d, []⟩ : Cell) :: (r ++ ts))) H ⟨c.v, .sh d, []⟩ := o2.cell _ (by simp)
      have o3 := o2.add0 hc2 rfl (fun _ => by simp)
      refine ⟨x, val e1 e2 hv, k x H (l ++ ⟨c.v, .sh d, []⟩ :: r) [] (evv _ rfl) (eset _) ?_ fun _ => Same.refl H⟩
      rw [← hv]
      simpa using o3
    -- a thing moves out of its slot
    have mov : ∀ {x : V}, c.v = some x → c.s = r0 → (∀ d, c.s ≠ .bw d) → env = (cs.map (·.s)).set i .un → ∃ v, (cs.map (·.v))[i]? = some (some v) ∧ Q v H := fun {x} hv er hb ee => by
      subst er ee
      refine ⟨x, val e1 e2 hv, k x H (l ++ ⟨c.v, .un, []⟩ :: r) c.f (evv _ rfl) (eset _) ?_ fun _ => Same.refl H⟩
      refine o.perm (cs' := l ++ ⟨c.v, .un, []⟩ :: r ++ ts ++ [⟨some x, c.s, c.f⟩]) ?_ fun c' hc' => ?_
      · rw [e1]
        simp only [fp_append, fp_cons, fp_nil, List.nil_append, List.append_nil, List.append_assoc]
        refine List.Perm.append_left _ ?_
        refine (List.perm_append_comm (l₁ := fp r) (l₂ := fp ts ++ c.f)).trans ?_
        rw [List.append_assoc]
        refine (List.perm_append_comm (l₁ := fp ts) (l₂ := c.f ++ fp r)).trans ?_
        rw [List.append_assoc]
      · have eq : (⟨some x, c.s, c.f⟩ : Cell) = c := by rw [← hv]
        rw [eq] at hc'
        rw [e1]
        simp only [List.append_assoc, List.mem_append, List.mem_cons, List.not_mem_nil, or_false, List.cons_append] at hc' ⊢
        rcases hc' with h | rfl | h | h | h
        · exact .inl (.inl h)
        · exact .inr ⟨rfl, rfl⟩
        · exact .inl (.inr (.inr (.inl h)))
        · exact .inl (.inr (.inr (.inr h)))
        · exact .inl (.inr (.inl h))
    obtain ⟨cv, cs', cf⟩ := c
    have e3' : cs' = sl := e3
    subst e3'
    cases cs' with
    | un => cases he
    | sh d =>
      cases he
      obtain ⟨x, F, q1, q2, q3, q4⟩ := hcell
      exact bor (s := .sh d) e1 e2 q1 (fun _ => by simp) ⟨x, F, rfl, q2, q3, rfl⟩ rfl rfl
    | vo d => cases he
    | vt d => cases he
    | bw d =>
      obtain ⟨p, q1, q2, q3⟩ := hcell
      cases m with
      | bor =>
        cases he
        exact bor (s := .vo d) e1 e2 q1 (fun _ => by simp) ⟨_, _, rfl, q2, rfl⟩ rfl rfl
      | val => cases he
      | mov => cases he
    | ow d =>
      obtain ⟨p, F, q1, q2, q3, q4⟩ := hcell
      cases m with
      | bor =>
        cases he
        exact bor (s := .vt d) e1 e2 q1 (fun _ => by simp) ⟨p, F, rfl, q2, q3, rfl⟩ rfl rfl
      | val =>
        cases he
        exact frz rfl q1 rfl rfl
      | mov =>
        cases he
        exact mov q1 rfl (fun _ => by simp) rfl
    | dp d =>
      obtain ⟨x, q1, q2⟩ := hcell
      by_cases hi : imm d = true
      · have he' : some (Sl.dp d, cs.map (·.s)) = some (r0, env) := by
          have h0 := he
          simp only [if_pos hi] at h0
          exact h0
        cases he'
        have ef : cf = [] := Rp.imm d x cf hi q2
        exact bor (s := .dp d) e1 e2 q1 (fun _ => by simp) ⟨x, rfl, by rw [ef] at q2; exact q2⟩ rfl rfl
      · simp only [if_neg hi] at he
        cases m with
        | bor =>
          cases he
          exact bor (s := .vo d) e1 e2 q1 (fun _ => by simp) ⟨x, cf, rfl, Rp.wid _ _ _ q2, rfl⟩ rfl rfl
        | val =>
          cases he
          exact frz rfl q1 rfl rfl
        | mov =>
          cases he
          exact mov q1 rfl (fun _ => by simp) rfl
end
end Tv
set_option maxHeartbeats 1000000
/-! TvD: operators. -/
namespace Tv
open PySem PySem.Spec PyProof.Rows L2
section
variable {X : Cx} {mf : Nat → Bool} {Φ : Nat → List D → Option (Sl × D)} {pos : Pos}
/-- a value that is handed on by val or mov is no borrowed one -/
theorem bltD_noVo {own : Bool} {b : Blt} {ds : List D} {r : Sl} (h : bltD own b ds = some r) : r.good = true := by
  unfold bltD at h
  split at h
  all_goals first
    | (cases h; rfl)
    | (split at h
       · first
         | (cases h; rfl)
         | (cases h; unfold mkList; split <;> rfl)
         | (split at h <;> (cases h; rfl))
       · cases h)
    | (rename_i xs
       cases e : sumD xs with
       | none => rw [e] at h; cases h
       | some i => rw [e] at h; cases h; rfl)
    | cases h
theorem mthD_noVo {m : Mth} {d : D} {ds : List D} {r : Sl} (h : mthD m d ds = some r) : r.good = true := by
  unfold mthD at h
  split at h
  · split at h
    · rename_i xs d _
      cases e : indexD xs d with
      | none => rw [e] at h; cases h
      | some i => rw [e] at h; cases h; rfl
    · cases h
  · cases h; rfl
  · cases h
theorem binD_noVo {op : Bop} {x y : D} {r : Sl} (h : binD op x y = some r) : r.good = true := by
  unfold binD at h
  split at h
  all_goals first
    | (cases h; rfl)
    | (split at h
       · first
         | (cases h; rfl)
         | (cases h; unfold mkList; split <;> rfl)
       · cases h)
    | cases h
theorem addItem_noVo {a x r : Sl} (h : addItem a x = some r) : r.good = true := by
  unfold addItem at h
  split at h
  · split at h
    · cases h
    · cases h; split <;> rfl
  · split at h
    · cases h
    · cases h; rfl
  · cases h
theorem compL_noVo {bind : Sl → Ev → Option Ev} {test : Ev → Option (Bool × Ev)} {elt : Ev → Option (Sl × Ev)} {own : List Nat} : ∀ (xs : List D) (acc : Sl) (env : Ev) (r : Sl) (env' : Ev), acc.good = true → compL bind test elt own xs acc env = some (r, env') → r.good = true
  | [], acc, env, r, env', ha, h => by
    unfold compL at h; cases h; exact ha
  | x :: xs, acc, env, r, env', ha, h => by
    unfold compL at h
    simp only [Option.bind_eq_bind, Option.bind_eq_some_iff] at h
    obtain ⟨e1, h1, ⟨t, e2⟩, h2, h⟩ := h
    simp only at h
    split at h
    · simp only [Option.bind_eq_some_iff] at h
      obtain ⟨⟨y, e3⟩, h3, h⟩ := h
      simp only at h
      split at h
      · cases h
      simp only [Option.bind_eq_some_iff] at h
      obtain ⟨acc', h4, h⟩ := h
      exact compL_noVo xs acc' e3 r env' (addItem_noVo h4) h
    · exact compL_noVo xs acc e2 r env' ha h
theorem tupR_noVo {rs : List Sl} {r : Sl} (h : tupR rs = some r) : r.good = true := by
  unfold tupR at h
  split at h
  · cases h
  · cases h; split <;> rfl
theorem lstR_noVo {rs : List Sl} {r : Sl} (h : lstR rs = some r) : r.good = true := by
  unfold lstR at h
  split at h
  · cases h
  · cases h; split <;> rfl
theorem isDp_noVo {r : Sl} (h : r.isDp = true) : r.good = true := by cases r <;> first | rfl | cases h
theorem good_noVo {r : Sl} (h : r.good = true) : r.isVo = false := by cases r <;> first | rfl | cases h
theorem good_nu {r : Sl} (h : r.good = true) : r ≠ .un := by intro e; subst e; cases h
theorem itemRes_good {m : Md} {x r : Sl} {d : D} (hm : m ≠ .bor) (h : itemRes m x d = some r) : r.good = true := by
  unfold itemRes at h
  split at h
  · cases h; rfl
  · split at h
    · first
        | cases h
        | (rw [if_neg hm] at h; cases h)
    · cases h
    · cases h; rfl
theorem itemRes_nu {m : Md} {x r : Sl} {d : D} (h : itemRes m x d = some r) : r.good = true ∨ r.isVo = true := by
  unfold itemRes at h
  split at h
  · cases h; exact .inl rfl
  · split at h
    · split at h
      · cases h; exact .inr rfl
      · cases h
    · cases h
    · cases h; exact .inl rfl
theorem sliceRes_good {x r : Sl} {l : Bool} {ds : List D} (h : sliceRes x l ds = some r) : r.good = true := by
  unfold sliceRes at h
  split at h
  · cases h; split <;> rfl
  · split at h
    · cases h
    · cases h
    · cases h; split <;> rfl
theorem ev_noVo : ∀ (e : Ex) (m : Md) (env : Ev) (r : Sl) (env' : Ev), m ≠ .bor → ev mf Φ m e env = some (r, env') → r.good = true
  | .cst d, m, env, r, env', hm, h => by
    unfold ev at h; split at h <;> cases h; rfl
  | .var i, m, env, r, env', hm, h => by
    unfold ev at h
    split at h
    · cases h; rfl
    · split at h
      · cases h; rfl
      · cases m with
        | bor => exact absurd rfl hm
        | mov => cases h; rfl
        | val => cases h; rfl
    · cases m with
      | bor => exact absurd rfl hm
      | mov => cases h; rfl
      | val => cases h; rfl
    · cases m with
      | bor => exact absurd rfl hm
      | mov => cases h
      | val => cases h
    · cases h
  | .bin op a b, m, env, r, env', hm, h => by
    unfold ev at h
    simp only [Option.bind_eq_bind, Option.bind_eq_some_iff] at h
    obtain ⟨⟨x, e1⟩, _, ⟨y, e2⟩, _, z, h3, h⟩ := h
    cases h; exact binD_noVo h3
  | .cmp op a b, m, env, r, env', hm, h => by
    unfold ev at h
    simp only [Option.bind_eq_bind, Option.bind_eq_some_iff] at h
    obtain ⟨⟨x, e1⟩, _, ⟨y, e2⟩, _, z, h3, h⟩ := h
    cases h; rfl
  | .chain o1 o2 a b c, m, env, r, env', hm, h => by
    unfold ev at h
    simp only [Option.bind_eq_bind, Option.bind_eq_some_iff] at h
    obtain ⟨⟨x, e1⟩, _, ⟨y, e2⟩, _, z, h3, h⟩ := h
    simp only at h
    split at h
    · simp only [Option.bind_eq_some_iff] at h
      obtain ⟨_, _, _, _, h⟩ := h
      cases h; rfl
    · cases h; rfl
  | .neg a, m, env, r, env', hm, h => by
    unfold ev at h
    simp only [Option.bind_eq_bind, Option.bind_eq_some_iff] at h
    obtain ⟨⟨x, e1⟩, _, h⟩ := h
    simp only at h
    split at h
    · cases h; rfl
    · cases h
  | .conj a b, m, env, r, env', hm, h => by
    unfold ev at h
    simp only [Option.bind_eq_bind, Option.bind_eq_some_iff] at h
    obtain ⟨⟨x, e1⟩, _, h⟩ := h
    simp only at h
    split at h
    · exact ev_noVo b .val e1 r env' (by decide) h
    · cases h; rfl
    · cases h
  | .disj a b, m, env, r, env', hm, h => by
    unfold ev at h
    simp only [Option.bind_eq_bind, Option.bind_eq_some_iff] at h
    obtain ⟨⟨x, e1⟩, _, h⟩ := h
    simp only at h
    split at h
    · cases h; rfl
    · exact ev_noVo b .val e1 r env' (by decide) h
    · cases h
  | .inv a, m, env, r, env', hm, h => by
    unfold ev at h
    simp only [Option.bind_eq_bind, Option.bind_eq_some_iff] at h
    obtain ⟨⟨x, e1⟩, _, h⟩ := h
    simp only at h
    split at h
    · cases h; rfl
    · cases h
  | .ite c a b, m, env, r, env', hm, h => by
    unfold ev at h
    simp only [Option.bind_eq_bind, Option.bind_eq_some_iff] at h
    obtain ⟨⟨x, e1⟩, _, h⟩ := h
    simp only at h
    split at h
    · exact ev_noVo a m e1 r env' hm h
    · exact ev_noVo b m e1 r env' hm h
    · cases h
  | .tup es, m, env, r, env', hm, h => by
    unfold ev at h
    simp only [Option.bind_eq_bind, Option.bind_eq_some_iff] at h
    obtain ⟨⟨rs, e1⟩, _, r', h2, h⟩ := h
    cases h
    exact tupR_noVo h2
  | .lst es, m, env, r, env', hm, h => by
    unfold ev at h
    simp only [Option.bind_eq_bind, Option.bind_eq_some_iff] at h
    obtain ⟨⟨rs, e1⟩, _, r', h2, h⟩ := h
    cases h
    exact lstR_noVo h2
  | .dnew t, m, env, r, env', hm, h => by
    unfold ev at h; cases h; rfl
  | .idx a i, m, env, r, env', hm, h => by
    unfold ev at h
    simp only [Option.bind_eq_bind, Option.bind_eq_some_iff] at h
    obtain ⟨⟨x, e1⟩, _, h⟩ := h
    simp only at h
    split at h
    · cases h
    · simp only [Option.bind_eq_some_iff] at h
      obtain ⟨⟨y, e2⟩, _, d, _, r', h2, h⟩ := h
      cases h
      exact itemRes_good hm h2
  | .slc a lo hi, m, env, r, env', hm, h => by
    unfold ev at h
    simp only [Option.bind_eq_bind, Option.bind_eq_some_iff] at h
    obtain ⟨⟨x, e1⟩, _, h⟩ := h
    simp only at h
    split at h
    · cases h
    · simp only [Option.bind_eq_some_iff] at h
      obtain ⟨⟨y, e2⟩, _, ⟨z, e3⟩, _, h⟩ := h
      simp only at h
      split at h
      · cases h
      · simp only [Option.bind_eq_some_iff] at h
        obtain ⟨⟨l, ds⟩, _, r', h2, h⟩ := h
        cases h
        exact sliceRes_good h2
  | .call f es, m, env, r, env', hm, h => by
    unfold ev at h
    split at h
    · split at h
      · simp only [Option.bind_eq_bind, Option.bind_eq_some_iff] at h
        obtain ⟨⟨rs, e1⟩, _, h⟩ := h
        simp only at h
        split at h
        · cases h
        split at h
        · split at h
          · cases h
          · simp only [Option.bind_eq_some_iff] at h
            obtain ⟨⟨r1, d1⟩, _, h⟩ := h
            simp only at h
            split at h
            · split at h
              · cases h
              · rename_i hh
                cases h
                cases q : r.good with
                | true => rfl
                | false => exact absurd (by simp [q]) hh
            · cases h
        · split at h
          · cases h
          · simp only [Option.bind_eq_some_iff] at h
            obtain ⟨⟨r1, d1⟩, _, h⟩ := h
            simp only at h
            split at h
            · split at h
              · cases h
              · rename_i hh
                cases h
                cases q : r.good with
                | true => rfl
                | false => exact absurd (by simp [q]) hh
            · cases h
        · cases h
      · simp only [Option.bind_eq_bind, Option.bind_eq_some_iff] at h
        obtain ⟨⟨x, e1⟩, _, h⟩ := h
        simp only at h
        split at h
        · cases h
        split at h
        · split at h
          · cases h
          · simp only [Option.bind_eq_some_iff] at h
            obtain ⟨⟨r1, d1⟩, _, h⟩ := h
            simp only at h
            split at h
            · split at h
              · cases h
              · rename_i hh
                cases h
                cases q : r.good with
                | true => rfl
                | false => exact absurd (by simp [q]) hh
            · cases h
        · cases h
      · cases h
    · simp only [Option.bind_eq_bind, Option.bind_eq_some_iff] at h
      obtain ⟨⟨rs, e1⟩, _, ⟨r1, d1⟩, _, h⟩ := h
      simp only at h
      split at h
      · rename_i hh
        cases h
        simp only [Bool.or_eq_true, Bool.and_eq_true] at hh
        rcases hh with hh | hh
        · exact isDp_noVo hh
        · exact hh.2
      · cases h
  | .isi a t, m, env, r, env', hm, h => by
    unfold ev at h
    simp only [Option.bind_eq_bind, Option.bind_eq_some_iff] at h
    obtain ⟨⟨x, e1⟩, _, h⟩ := h
    simp only at h
    split at h
    · cases h
    · cases h; rfl
  | .blt b es, m, env, r, env', hm, h => by
    unfold ev at h
    simp only [Option.bind_eq_bind, Option.bind_eq_some_iff] at h
    obtain ⟨⟨rs, e1⟩, _, r', h2, h⟩ := h
    cases h
    exact bltD_noVo h2
  | .mth b o es, m, env, r, env', hm, h => by
    unfold ev at h
    simp only [Option.bind_eq_bind, Option.bind_eq_some_iff] at h
    obtain ⟨⟨x, e1⟩, _, ⟨rs, e2⟩, _, r', h2, h⟩ := h
    cases h
    exact mthD_noVo h2
  | .comp k src tg own cs e, m, env, r, env', hm, h => by
    unfold ev at h
    simp only [Option.bind_eq_bind, Option.bind_eq_some_iff] at h
    obtain ⟨⟨rs, e1⟩, _, h⟩ := h
    simp only at h
    split at h
    · cases h
    simp only [Option.bind_eq_some_iff] at h
    obtain ⟨xs, _, ⟨r', e2⟩, h2, h⟩ := h
    cases h
    exact compL_noVo xs _ _ _ _ rfl h2
theorem ev_nu : ∀ (e : Ex) (m : Md) (env : Ev) (r : Sl) (env' : Ev), ev mf Φ m e env = some (r, env') → r.good = true ∨ r.isVo = true
  | .var i, m, env, r, env', h => by
    cases m with
    | val => exact Or.inl (ev_noVo _ _ _ _ _ (by decide) h)
    | mov => exact Or.inl (ev_noVo _ _ _ _ _ (by decide) h)
    | bor =>
      unfold ev at h
      split at h
      · cases h; exact .inl rfl
      · split at h
        · cases h; exact .inl rfl
        · cases h; exact .inr rfl
      · cases h; exact .inr rfl
      · cases h; exact .inr rfl
      · cases h
  | .idx a i, m, env, r, env', h => by
    unfold ev at h
    simp only [Option.bind_eq_bind, Option.bind_eq_some_iff] at h
    obtain ⟨⟨x, e1⟩, _, h⟩ := h
    simp only at h
    split at h
    · cases h
    · simp only [Option.bind_eq_some_iff] at h
      obtain ⟨⟨y, e2⟩, _, d, _, r', h2, h⟩ := h
      cases h
      exact itemRes_nu h2
  | .ite c a b, m, env, r, env', h => by
    unfold ev at h
    simp only [Option.bind_eq_bind, Option.bind_eq_some_iff] at h
    obtain ⟨⟨x, e1⟩, _, h⟩ := h
    simp only at h
    split at h
    · exact ev_nu a m e1 r env' h
    · exact ev_nu b m e1 r env' h
    · cases h
  | .cst d, m, env, r, env', h => Or.inl (ev_noVo (.cst d) .val env r env' (by decide) (by cases m <;> exact h))
  | .bin op a b, m, env, r, env', h => Or.inl (ev_noVo (.bin op a b) .val env r env' (by decide) (by cases m <;> exact h))
  | .cmp op a b, m, env, r, env', h => Or.inl (ev_noVo (.cmp op a b) .val env r env' (by decide) (by cases m <;> exact h))
  | .chain o1 o2 a b c, m, env, r, env', h => Or.inl (ev_noVo (.chain o1 o2 a b c) .val env r env' (by decide) (by cases m <;> exact h))
  | .neg a, m, env, r, env', h => Or.inl (ev_noVo (.neg a) .val env r env' (by decide) (by cases m <;> exact h))
  | .conj a b, m, env, r, env', h => Or.inl (ev_noVo (.conj a b) .val env r env' (by decide) (by cases m <;> exact h))
  | .disj a b, m, env, r, env', h => Or.inl (ev_noVo (.disj a b) .val env r env' (by decide) (by cases m <;> exact h))
  | .inv a, m, env, r, env', h => Or.inl (ev_noVo (.inv a) .val env r env' (by decide) (by cases m <;> exact h))
  | .tup es, m, env, r, env', h => by
    cases m with
    | bor => exact Or.inl (ev_noVo (.tup es) .val env r env' (by decide) h)
    | val => exact Or.inl (ev_noVo (.tup es) .val env r env' (by decide) h)
    | mov => exact Or.inl (ev_noVo (.tup es) .mov env r env' (by decide) h)
  | .lst es, m, env, r, env', h => by
    cases m with
    | bor => exact Or.inl (ev_noVo (.lst es) .val env r env' (by decide) h)
    | val => exact Or.inl (ev_noVo (.lst es) .val env r env' (by decide) h)
    | mov => exact Or.inl (ev_noVo (.lst es) .mov env r env' (by decide) h)
  | .dnew t, m, env, r, env', h => Or.inl (ev_noVo (.dnew t) .val env r env' (by decide) (by cases m <;> exact h))
  | .slc a lo hi, m, env, r, env', h => Or.inl (ev_noVo (.slc a lo hi) .val env r env' (by decide) (by cases m <;> exact h))
  | .call f es, m, env, r, env', h => Or.inl (ev_noVo (.call f es) .val env r env' (by decide) (by cases m <;> (unfold ev at h ⊢; exact h)))
  | .isi a t, m, env, r, env', h => Or.inl (ev_noVo (.isi a t) .val env r env' (by decide) (by cases m <;> exact h))
  | .blt b es, m, env, r, env', h => Or.inl (ev_noVo (.blt b es) .val env r env' (by decide) (by cases m <;> exact h))
  | .mth k o es, m, env, r, env', h => Or.inl (ev_noVo (.mth k o es) .val env r env' (by decide) (by cases m <;> exact h))
  | .comp k src tg own cs e, m, env, r, env', h => Or.inl (ev_noVo (.comp k src tg own cs e) .val env r env' (by decide) (by cases m <;> exact h))
theorem ev_un {e : Ex} {m : Md} {env env' : Ev} {r : Sl} (h : ev mf Φ m e env = some (r, env')) : r ≠ .un := by
  intro q; subst q
  rcases ev_nu _ _ _ _ _ h with z | z <;> cases z
theorem ev_nbw {e : Ex} {m : Md} {env env' : Ev} {r : Sl} (h : ev mf Φ m e env = some (r, env')) : ∀ d, r ≠ .bw d := by
  intro d q; subst q
  rcases ev_nu _ _ _ _ _ h with z | z <;> cases z
/-- one expression, then the rest -/
theorem one {m : Md} {a : Ex} {S : List Addr} {H0 H : Hp} {P : List Addr} {cs ts : List Cell} {x : Sl} {e1 : Ev} {Q : VK} (o : Ok X.K S H0 P H (cs ++ ts)) (h1 : ev mf Φ m a (cs.map (·.s)) = some (x, e1)) (hq : quiet mf a = true ∨ noVo ts)
    (k : ∀ vx H' cs' f, cs'.map (·.v) = cs.map (·.v) → cs'.map (·.s) = e1 → Ok X.K S H0 P H' (cs' ++ ts ++ [⟨some vx, x, f⟩]) → (quiet mf a = true → Same H H') → Q vx H') :
    tE X.K mf Φ m a (cs.map (·.v)) H Q := ⟨S, H0, P, cs, ts, x, e1, rfl, o, h1, hq, k⟩
/-- two expressions in a row -/
theorem two {m1 m2 : Md} {a b : Ex} {S : List Addr} {H0 H : Hp} {P : List Addr} {cs ts : List Cell} {x y : Sl} {e1 e2 : Ev} {R : V → V → Hp → Prop} (o : Ok X.K S H0 P H (cs ++ ts)) (h1 : ev mf Φ m1 a (cs.map (·.s)) = some (x, e1)) (h2 : ev mf Φ m2 b e1 = some (y, e2))
    (hq : (quiet mf a && quiet mf b) = true ∨ noVo ts) (hb : quiet mf b = true ∨ x.isVo = false)
    (k : ∀ vx vy H' cs' f g, cs'.map (·.v) = cs.map (·.v) → cs'.map (·.s) = e2 → Ok X.K S H0 P H' (cs' ++ ts ++ [⟨some vx, x, f⟩, ⟨some vy, y, g⟩]) → ((quiet mf a && quiet mf b) = true → Same H H') → R vx vy H') :
    tE X.K mf Φ m1 a (cs.map (·.v)) H fun vx H1 => tE X.K mf Φ m2 b (cs.map (·.v)) H1 fun vy H2 => R vx vy H2 := by
  refine one o h1 (hq.imp (fun h => (Bool.and_eq_true_iff.mp h).1) id) fun vx H1 cs1 f hv hs o1 same1 => ?_
  rw [← hv]
  subst hs
  rw [List.append_assoc] at o1
  refine one o1 h2 ?_ fun vy H2 cs2 g hv2 hs2 o2 same2 => ?_
  · rcases hb with hb | hb
    · exact .inl hb
    · rcases hq with hq | hq
      · exact .inl (Bool.and_eq_true_iff.mp hq).2
      · exact .inr (noVo_app hq (noVo_one hb))
  · refine k vx vy H2 cs2 f g (hv2.trans hv) hs2 (by simpa using o2) fun hh => ?_
    obtain ⟨ha, hb⟩ := Bool.and_eq_true_iff.mp hh
    exact (same1 ha).trans (same2 hb)
end
end Tv
set_option maxHeartbeats 1000000
/-! TvE: operators, comparisons. -/
namespace Tv
open PySem PySem.Spec PyProof.Rows L2
def Bop.op : Bop → Operator
  | .add => .Add
  | .sub => .Sub
  | .mul => .Mult
  | .fdiv => .FloorDiv
  | .mod => .Mod
  | .pow => .Pow
def Cop.op : Cop → CmpOp
  | .eq => .Eq
  | .ne => .NotEq
  | .lt => .Lt
  | .le => .LtE
  | .gt => .Gt
  | .ge => .GtE
  | .isN => .Is
  | .notN => .IsNot
  | .inn => .In
  | .nin => .NotIn
section
variable {X : Cx} {mf : Nat → Bool} {Φ : Nat → List D → Option (Sl × D)} {pos : Pos}
def rDat (K : PySem.W.Frag) (cond : D → D → Bool) (g : D → D → Bool) : R2 := fun x y H Q => ∃ d e, Dp K H x d ∧ Dp K H y e ∧ cond d e = true ∧ Q (.bl (g d e)) H
theorem op_dat {op : CmpOp} {cond : D → D → Bool} {g : D → D → Bool}
    (rule : ∀ {s : Shared} {a b : Value} {d e : D} {as bs : List Addr} {Q : Value → Shared → Prop}, Reads s.heap a d as → Reads s.heap b e bs → cond d e = true → Q (.bool (g d e)) s → wpAny (model X.prog X.w) X.A (compareOp op a b) Q X.xe s) :
    OpR X (compareOp op) (rDat X.K cond g) := by
  intro pins s σ H x y v u Q I rx ry h
  obtain ⟨d, e, hd, he, c, q⟩ := h
  obtain ⟨as, r1⟩ := Dp.reads I d x v hd rx
  obtain ⟨bs, r2⟩ := Dp.reads I e y u he ry
  exact rule r1 r2 c ⟨.bl _, H, I, rfl, q⟩
theorem okD_iff {d : D} (h : okD d = true) : PyData.hasDict d = false ∧ PyData.plain d = true ∧ PyData.depth d ≤ 50 := by
  unfold okD at h
  simp only [Bool.and_eq_true, Bool.not_eq_true', decide_eq_true_eq] at h
  exact ⟨h.1.1, h.1.2, h.2⟩
theorem ordOk_iff {d e : D} (h : ordOk d e = true) : PySem.W.alike d e = true ∧ d ≠ .none ∧ PyData.depth d ≤ 50 := by
  unfold ordOk at h
  simp only [Bool.and_eq_true, decide_eq_true_eq] at h
  refine ⟨h.1.1.1, fun q => ?_, h.1.2⟩
  subst q
  exact absurd h.1.1.2 (by simp [notNone])
theorem ordOk_no {d e : D} (h : ordOk d e = true) : PyData.hasDict d = false ∧ PyData.hasDict e = false := by
  unfold ordOk at h
  simp only [Bool.and_eq_true, Bool.not_eq_true'] at h
  exact h.2
theorem op_eqP (hu : X.A.units + 64 < cLine) : OpR X (compareOp .Eq) (rDat X.K (fun d e => okD d && okD e) PyData.eqv) := op_dat fun r1 r2 c q => by
  obtain ⟨c1, c2⟩ := Bool.and_eq_true_iff.mp c
  exact PySem.SeqAt.eq_plain r1 r2 (okD_iff c1).2.1 (okD_iff c2).2.1 (by have := (okD_iff c1).2.2; omega) q
theorem op_neP (hu : X.A.units + 64 < cLine) : OpR X (compareOp .NotEq) (rDat X.K (fun d e => okD d && okD e) fun d e => !PyData.eqv d e) := op_dat fun r1 r2 c q => by
  obtain ⟨c1, c2⟩ := Bool.and_eq_true_iff.mp c
  exact PySem.SeqAt.ne_plain r1 r2 (okD_iff c1).2.1 (okD_iff c2).2.1 (by have := (okD_iff c1).2.2; omega) q
theorem op_ltP (hu : X.A.units + 64 < cLine) : OpR X (compareOp .Lt) (rDat X.K ordOk PySem.W.dataLt) := op_dat fun r1 r2 c q => by
  obtain ⟨c1, c2, c3⟩ := ordOk_iff c
  exact PySem.W.lt_data r1 r2 c1 c2 (by omega) q
theorem op_gtP (hu : X.A.units + 64 < cLine) : OpR X (compareOp .Gt) (rDat X.K ordOk fun d e => PySem.W.dataLt e d) := op_dat fun r1 r2 c q => by
  obtain ⟨c1, c2, c3⟩ := ordOk_iff c
  exact PySem.W.gt_data r1 r2 c1 c2 (by omega) q
theorem op_leP (hu : X.A.units + 64 < cLine) : OpR X (compareOp .LtE) (rDat X.K ordOk fun d e => !PySem.W.dataLt e d) := op_dat fun r1 r2 c q => by
  obtain ⟨c1, c2, c3⟩ := ordOk_iff c
  exact PySem.W.le_data r1 r2 c1 c2 (by omega) q
theorem op_geP (hu : X.A.units + 64 < cLine) : OpR X (compareOp .GtE) (rDat X.K ordOk fun d e => !PySem.W.dataLt d e) := op_dat fun r1 r2 c q => by
  obtain ⟨c1, c2, c3⟩ := ordOk_iff c
  exact PySem.W.ge_data r1 r2 c1 c2 (by omega) q
def memD (x y : D) : Bool := match y with
  | .list ys => ys.any fun z => PyData.eqv z x
  | .tuple ys => ys.any fun z => PyData.eqv z x
  | _ => false
def seqD : D → Bool
  | .list _ => true
  | .tuple _ => true
  | _ => false
theorem op_inP (hu : X.A.units + 64 < cLine) : OpR X (compareOp .In) (rDat X.K (fun d e => okD d && okD e && seqD e) memD) := op_dat fun {s a b d e as bs Q} r1 r2 c q => by
  obtain ⟨c0, c3⟩ := Bool.and_eq_true_iff.mp c
  obtain ⟨c1, c2⟩ := Bool.and_eq_true_iff.mp c0
  have hd := (okD_iff c1).2.2
  cases e with
  | list ys => exact PySem.SeqAt.in_list_data r2 r1 (by have := (okD_iff c2).2.1; simpa [PyData.plain] using this) (okD_iff c1).2.1 (by omega) q
  | tuple ys => exact PySem.SeqAt.in_tuple_data r2 r1 (by have := (okD_iff c2).2.1; simpa [PyData.plain] using this) (okD_iff c1).2.1 (by omega) q
  | _ => simp [seqD] at c3
theorem op_ninP (hu : X.A.units + 64 < cLine) : OpR X (compareOp .NotIn) (rDat X.K (fun d e => okD d && okD e && seqD e) fun x y => !memD x y) := op_dat fun {s a b d e as bs Q} r1 r2 c q => by
  obtain ⟨c0, c3⟩ := Bool.and_eq_true_iff.mp c
  obtain ⟨c1, c2⟩ := Bool.and_eq_true_iff.mp c0
  have hd := (okD_iff c1).2.2
  cases e with
  | list ys => exact PySem.SeqAt.notIn_list_data r2 r1 (by have := (okD_iff c2).2.1; simpa [PyData.plain] using this) (okD_iff c1).2.1 (by omega) q
  | tuple ys => exact PySem.SeqAt.notIn_tuple_data r2 r1 (by have := (okD_iff c2).2.1; simpa [PyData.plain] using this) (okD_iff c1).2.1 (by omega) q
  | _ => simp [seqD] at c3
theorem op_powP : OpR X (binaryOp .Pow) (rI (fun i j => 0 ≤ j ∧ (Builtin.Int.intBits i : Int) * j ≤ 2 ^ 27) fun i j => .int (i ^ j.toNat)) := opI fun _ _ _ _ _ _ _ hc q => pow_int hc.1 hc.2 q
/-- what an int's datum stands for -/
theorem Rp.int_eq {K : PySem.W.Frag} {H : Hp} {i : Int} {v : V} {F : List Addr} (h : Rp K H (.int i) v F) : v = .int i := by unfold Rp at h; exact h.1
theorem Rp.bool_eq {K : PySem.W.Frag} {H : Hp} {b : Bool} {v : V} {F : List Addr} (h : Rp K H (.bool b) v F) : v = .bl b := by unfold Rp at h; exact h.1
theorem Rp.none_eq {K : PySem.W.Frag} {H : Hp} {v : V} {F : List Addr} (h : Rp K H .none v F) : v = .non := by unfold Rp at h; exact h.1
theorem Rp.mk_int {K : PySem.W.Frag} {H : Hp} (i : Int) : Rp K H (.int i) (.int i) [] := by unfold Rp; exact ⟨rfl, rfl⟩
theorem Rp.mk_bool {K : PySem.W.Frag} {H : Hp} (b : Bool) : Rp K H (.bool b) (.bl b) [] := by unfold Rp; exact ⟨rfl, rfl⟩
theorem Rp.mk_none {K : PySem.W.Frag} {H : Hp} : Rp K H .none .non [] := by unfold Rp; exact ⟨rfl, rfl⟩
theorem Rp.mk_str {K : PySem.W.Frag} {H : Hp} (x : Str) : Rp K H (.str x) (.str x) [] := by unfold Rp; exact ⟨rfl, rfl⟩
/-- the last temporaries' data -/
theorem Ok.last {K : PySem.W.Frag} {S P : List Addr} {H0 H : Hp} {a b : List Cell} {c : Cell} (o : Ok K S H0 P H (a ++ c :: b)) (hu : c.s ≠ .un) : ∃ x F, c.v = some x ∧ Rp K H c.s.d x F := (o.cell c (by simp)).rp hu
/-- the imm result of an operation takes the temporaries' place -/
theorem Ok.res {K : PySem.W.Frag} {S P : List Addr} {H0 H : Hp} {cs ts tl : List Cell} (o : Ok K S H0 P H (cs ++ ts ++ tl)) {d : D} {x : V} (h : Rp [] H d x []) : Ok K S H0 P H (cs ++ ts ++ [⟨some x, .dp d, []⟩]) :=
  (o.drop (cs' := cs ++ ts) (List.sublist_append_left _ _)).addI h
theorem mkList_ok {K : PySem.W.Frag} {S P : List Addr} {H0 H : Hp} {cs : List Cell} {p : Addr} {xs : List V} {ds : List D} {F : List Addr} (o : Ok K S H0 P H cs) (hp : H p = none) (r : Rps K H ds xs F) (ha : ∀ a ∈ F, a ∉ S ++ fp cs) :
    Ok K S H0 P (upd H p (.lst xs)) (cs ++ [⟨some (.ref p), mkList ds, [p]⟩]) := by
  have hs : Same H (upd H p (.lst xs)) := fun b u e => by rw [upd_ne (ne_of_none e hp)]; exact e
  have live : ∀ a ∈ F, a ≠ p := fun a ha e => by
    obtain ⟨u, hu⟩ := Rps.alive ds xs F r a ha
    exact Rd.some hu (e ▸ hp)
  have hl : Rd (upd H p (.lst xs)) p (.lst xs) := .inl upd_same
  have r' := Rps.frame (.same hs) ds xs F r (fun a _ h => by simp at h)
  refine o.push hs ?_ (fun a ha => ?_) (by simp) (fun a ha => ?_) fun d => ?_
  · unfold mkList
    by_cases hi : imms ds = true
    · rw [if_pos hi]
      have eF := Rps.imm ds xs F hi r
      subst eF
      exact ⟨.ref p, rfl, by unfold Rp; exact .inl ⟨p, xs, [], rfl, hl, rfl, Rps.nar _ _ _ hi r'⟩⟩
    · rw [if_neg hi]
      refine ⟨p, F, rfl, by unfold Rp; exact .inl ⟨p, xs, F, rfl, hl, rfl, r'⟩, fun a h q => ?_, rfl⟩
      rcases List.mem_append.mp q with q | q
      · exact ha a h q
      · exact live a h (by simpa using q)
  · have : a = p := by simpa using ha
    rw [this]; exact hp
  · have : a = p := by simpa using ha
    subst this
    rw [upd_same]; trivial
  · unfold mkList; split <;> (intro q; cases q)
/-- two last cells, demoted, give their items -/
theorem Ok.dem2 {K : PySem.W.Frag} {S P : List Addr} {H0 H : Hp} {cs : List Cell} {c1 c2 : Cell} (o : Ok K S H0 P H (cs ++ [c1, c2])) : Ok K S H0 P H (cs ++ [c1.dem, c2.dem]) := by
  have o1 : Ok K S H0 P H (cs ++ c1.dem :: [c2]) := (show Ok K S H0 P H (cs ++ c1 :: [c2]) from o).dem
  have o2 : Ok K S H0 P H ((cs ++ [c1.dem]) ++ c2 :: []) := by simpa using o1
  simpa using o2.dem
/-- a good cell, demoted, is shared: what it reads is nobody's own -/
theorem CellOk.dem_rp {K : PySem.W.Frag} {A : List Addr} {H : Hp} {c : Cell} (h : CellOk K A H c.dem) (hg : c.s.good = true) : ∃ x F, c.v = some x ∧ Rp K H c.s.d x F ∧ ∀ a ∈ F, a ∉ A := by
  obtain ⟨v, s, f⟩ := c
  cases s with
  | sh d => exact h.shN rfl
  | ow d => exact CellOk.shN (c := ⟨v, .sh d, []⟩) h rfl
  | dp d => exact CellOk.shN (c := ⟨v, .sh d, []⟩) h rfl
  | un => cases hg
  | vo d => cases hg
  | vt d => cases hg
  | bw d => cases hg
theorem noUn {e : Ex} {m : Md} {env env' : Ev} {r : Sl} (h : ev mf Φ m e env = some (r, env')) : r ≠ .un := ev_un h
theorem pow_ok {i j : Int} (h : 0 ≤ j ∧ j ≤ 100 ∧ i.natAbs < 2 ^ 256) : 0 ≤ j ∧ (Builtin.Int.intBits i : Int) * j ≤ 2 ^ 27 := by
  obtain ⟨h0, h1, h2⟩ := h
  have hb : Builtin.Int.intBits i ≤ 256 := PyProof.Rows.intBits_le h2
  have h3 : (Builtin.Int.intBits i : Int) * j ≤ 256 * j := Int.mul_le_mul_of_nonneg_right (by omega) h0
  exact ⟨h0, by omega⟩
def rCatS (K : PySem.W.Frag) : R2 := fun x y H Q => ∃ l b xs zs, x = .ref l ∧ y = .ref b ∧ SqL K H l xs ∧ SqL K H b zs ∧ xs.length + zs.length ≤ sizeLine ∧ ∀ p, H p = none → Q (.ref p) (upd H p (.lst (xs ++ zs)))
theorem op_catS : OpR X (binaryOp .Add) (rCatS X.K) := by
  intro pins s σ H x y v u Q I rx ry h
  obtain ⟨l, b, xs, zs, rfl, rfl, hl, hb, hz, q⟩ := h
  cases rx
  cases ry
  obtain ⟨its, r1, p1, _⟩ := I.list hl
  obtain ⟨its2, r2, p2, _⟩ := I.list hb
  obtain ⟨⟨cls, dd, data, sl⟩, ho, hc, n, hd⟩ := p1.isList
  obtain ⟨⟨cls2, dd2, data2, sl2⟩, ho2, hc2, n2, hd2⟩ := p2.isList
  simp only at hc hd hc2 hd2
  subst hc hd hc2 hd2
  have l1 := r1.length
  have l2 := r2.length
  have e : its.toArray ++ its2.toArray = (its ++ its2).toArray := by simp
  refine concat_meets ⟨_, ho, rfl⟩ ⟨_, ho2, rfl⟩ noFill_list_add seq_list_add PySem.F.slot_list_add PySem.F.entry_list_add (PySem.F.args_list_add_2 _ _)
    (list_addW l b its.toArray its2.toArray n n2 dd dd2 sl sl2 (by simp only [List.size_toArray]; omega)) ⟨ho, ho2, ?_⟩
  rw [e]
  exact ⟨.ref _, _, I.lnew (t' := s.toks) (r1.append r2) (by rw [List.length_append]; omega), rfl, q _ I.fresh⟩
theorem line_big : 100000 ≤ sizeLine := by decide
theorem te_bin {op : Bop} {a b : Expr} {ea eb : Ex} {m : Md} (ha : ∀ m, PE X a (tE X.K mf Φ m ea)) (hb : ∀ m, PE X b (tE X.K mf Φ m eb)) : PE X (.BinOp a op.op b pos) (tE X.K mf Φ m (.bin op ea eb)) := by
  refine PE.pull fun σ H Q q => ?_
  obtain ⟨S, H0, P, cs, ts, r0, env, rfl, o, he, hq, k⟩ := q
  unfold ev at he
  simp only [Option.bind_eq_bind, Option.bind_eq_some_iff] at he
  obtain ⟨⟨x, e1⟩, h1, ⟨y, e2⟩, h2, z, h3, he⟩ := he
  simp only at h1 h2 h3 he
  cases he
  have gx := ev_noVo _ _ _ _ _ (by decide) h1
  have gy := ev_noVo _ _ _ _ _ (by decide) h2
  have hq' : (quiet mf ea && quiet mf eb) = true ∨ noVo ts := by simpa only [quiet] using hq
  have hb' : quiet mf eb = true ∨ x.isVo = false := .inr (good_noVo gx)
  have int2 : ∀ {i j : Int} {n : Int} {C : Int → Int → Prop} {g : Int → Int → V} {op' : Operator}, x.d = .int i → y.d = .int j → r0 = .dp (.int n) → g i j = .int n → C i j → OpR X (binaryOp op') (rI C g) → op' = op.op → ∃ t', PE X (.BinOp a op.op b pos) t' ∧ t' (cs.map (·.v)) H Q := by
    intro i j n C g op' dx dy dz dg hc ho eo
    subst eo
    refine ⟨_, pe_op ho (ha .val) (hb .val), two o h1 h2 hq' hb' fun vx vy H' cs' f g' hv hs o' same => ?_⟩
    have hx := o'.cell ⟨some vx, x, f⟩ (by simp)
    have hy := o'.cell ⟨some vy, y, g'⟩ (by simp)
    obtain ⟨vx', F, e1, rx⟩ := hx.rp (good_nu gx)
    obtain ⟨vy', G, e2, ry⟩ := hy.rp (good_nu gy)
    cases e1; cases e2
    have rx' : vx = .int i := Rp.int_eq (by rw [← dx]; exact rx)
    have ry' : vy = .int j := Rp.int_eq (by rw [← dy]; exact ry)
    refine ⟨i, j, rx', ry', hc, ?_⟩
    rw [dg]
    refine k (.int n) H' cs' [] hv hs ?_ same
    subst dz
    exact o'.res (Rp.mk_int n)
  have drop2 : ∀ {i j : Int} {n : Int} {g : Int → Int → V} {op' : Operator}, x.d = .int i → y.d = .int j → r0 = .dp (.int n) → g i j = .int n → OpR X (binaryOp op') (rI0 g) → op' = op.op → ∃ t', PE X (.BinOp a op.op b pos) t' ∧ t' (cs.map (·.v)) H Q := by
    intro i j n g op' dx dy dz dg ho eo
    refine int2 (C := fun _ _ => True) dx dy dz dg trivial (fun pins s σ H x y v u Q I rx ry h => ?_) eo
    obtain ⟨i, j, h1, h2, _, h3⟩ := h
    exact ho pins s σ H x y v u Q I rx ry ⟨i, j, h1, h2, h3⟩
  cases op with
  | add =>
    cases dx : x.d with
    | int i =>
      cases dy : y.d with
      | int j =>
        rw [dx, dy] at h3
        have h3' : r0 = .dp (.int (i + j)) := by simpa [binD] using h3.symm
        exact drop2 dx dy h3' rfl op_add rfl
      | _ => rw [dx, dy] at h3; simp [binD] at h3
    | list xs =>
      cases dy : y.d with
      | list ys =>
        rw [dx, dy] at h3
        simp only [binD] at h3
        split at h3
        · rename_i hz
          have h3' : r0 = mkList (xs ++ ys) := by simpa using h3.symm
          have hz' : xs.length + ys.length ≤ 100000 := by simpa [szOk] using hz
          refine ⟨_, pe_op op_catS (ha .val) (hb .val), two o h1 h2 hq' hb' fun vx vy H' cs' f g' hv hs o' same => ?_⟩
          have o2 := (show Ok X.K S H0 P H' ((cs' ++ ts) ++ [⟨some vx, x, f⟩, ⟨some vy, y, g'⟩]) from o').dem2
          obtain ⟨vx', F, e1, rx, ax⟩ := (o2.cell (Cell.dem ⟨some vx, x, f⟩) (by simp)).dem_rp gx
          obtain ⟨vy', G, e2, ry, ay⟩ := (o2.cell (Cell.dem ⟨some vy, y, g'⟩) (by simp)).dem_rp gy
          cases e1; cases e2
          have rx' : Rp X.K H' (.list xs) vx F := by rw [← dx]; exact rx
          have ry' : Rp X.K H' (.list ys) vy G := by rw [← dy]; exact ry
          obtain ⟨l, ux, F', el, sl, rl, fl⟩ := rx'.list
          obtain ⟨l2, uy, G', el2, sl2, rl2, fl2⟩ := ry'.list
          have n1 := rl.length
          have n2 := rl2.length
          refine ⟨l, l2, ux, uy, el, el2, sl, sl2, by have := line_big; omega, fun p hp => ?_⟩
          have o3 := o2.drop (cs' := cs' ++ ts) (List.sublist_append_left _ _)
          have sub : ∀ a, a ∈ S ++ fp (cs' ++ ts) → a ∈ S ++ fp ((cs' ++ ts) ++ [Cell.dem ⟨some vx, x, f⟩, Cell.dem ⟨some vy, y, g'⟩]) := fun a h => by
            rw [fp_append (cs' ++ ts), ← List.append_assoc]
            exact List.mem_append_left _ h
          have o4 := mkList_ok o3 hp (rl.append rl2) fun a h q => by
            rcases List.mem_append.mp h with h | h
            · exact ax a (fl a h) (sub a q)
            · exact ay a (fl2 a h) (sub a q)
          refine k (.ref p) _ cs' [p] hv hs (by rw [h3']; exact o4) fun hh => ?_
          exact (same (by simpa only [quiet] using hh)).trans fun b u e => by rw [upd_ne (ne_of_none e hp)]; exact e
        · cases h3
      | _ => rw [dx, dy] at h3; simp [binD] at h3
    | _ => rw [dx] at h3; simp [binD] at h3
  | sub =>
    cases dx : x.d with
    | int i =>
      cases dy : y.d with
      | int j =>
        rw [dx, dy] at h3
        have h3' : r0 = .dp (.int (i - j)) := by simpa [binD] using h3.symm
        exact drop2 dx dy h3' rfl op_sub rfl
      | _ => rw [dx, dy] at h3; simp [binD] at h3
    | _ => rw [dx] at h3; simp [binD] at h3
  | mul =>
    cases dx : x.d with
    | int i =>
      cases dy : y.d with
      | int j =>
        rw [dx, dy] at h3
        simp only [binD] at h3
        split at h3
        · rename_i hc
          exact int2 dx dy (by simpa using h3.symm) rfl hc op_mulW rfl
        · cases h3
      | _ => rw [dx, dy] at h3; simp [binD] at h3
    | _ => rw [dx] at h3; simp [binD] at h3
  | fdiv =>
    cases dx : x.d with
    | int i =>
      cases dy : y.d with
      | int j =>
        rw [dx, dy] at h3
        simp only [binD] at h3
        split at h3
        · rename_i hc
          exact int2 dx dy (by simpa using h3.symm) rfl hc op_fdivW rfl
        · cases h3
      | _ => rw [dx, dy] at h3; simp [binD] at h3
    | _ => rw [dx] at h3; simp [binD] at h3
  | mod =>
    cases dx : x.d with
    | int i =>
      cases dy : y.d with
      | int j =>
        rw [dx, dy] at h3
        simp only [binD] at h3
        split at h3
        · rename_i hc
          exact int2 dx dy (by simpa using h3.symm) rfl hc op_mod rfl
        · cases h3
      | _ => rw [dx, dy] at h3; simp [binD] at h3
    | _ => rw [dx] at h3; simp [binD] at h3
  | pow =>
    cases dx : x.d with
    | int i =>
      cases dy : y.d with
      | int j =>
        rw [dx, dy] at h3
        simp only [binD] at h3
        split at h3
        · rename_i hc
          exact int2 dx dy (by simpa using h3.symm) rfl (pow_ok hc) op_powP rfl
        · cases h3
      | _ => rw [dx, dy] at h3; simp [binD] at h3
    | _ => rw [dx] at h3; simp [binD] at h3
end
end Tv
set_option maxHeartbeats 1000000
/-! TvF: comparisons, dicts read, tests. -/
namespace Tv
open PySem PySem.Spec PyProof.Rows L2
theorem eqk_key (a b : Key) : eqk (keyD a) (keyD b) = decide (a = b) := by
  cases a with
  | inl i =>
    cases b with
    | inl j =>
      show (i == j) = _
      by_cases h : i = j
      · subst h; simp
      · have : ¬ (Sum.inl i : Key) = Sum.inl j := fun q => h (Sum.inl.inj q)
        simp [h]
    | inr y => rfl
  | inr x =>
    cases b with
    | inl j => rfl
    | inr y =>
      show decide (x = y) = _
      by_cases h : x = y
      · subst h; simp
      · have : ¬ (Sum.inr x : Key) = Sum.inr y := fun q => h (Sum.inr.inj q)
        simp [h]
theorem eqks_key : ∀ a b : List Key, eqks (a.map keyD) (b.map keyD) = decide (a = b)
  | [], [] => rfl
  | [], _ :: _ => rfl
  | _ :: _, [] => rfl
  | x :: xs, y :: ys => by
    show (eqk (keyD x) (keyD y) && eqks (xs.map keyD) (ys.map keyD)) = _
    rw [eqk_key, eqks_key xs ys]
    by_cases h : x = y
    · subst h; simp
    · simp [h]
theorem eqT_key (a b : List Key) : eqT (tkD a) (tkD b) = decide (a = b) := eqks_key a b
theorem keys_of : ∀ {xs : List D}, xs.all isKeyD = true → ∃ k : List Key, xs = k.map keyD
  | [], _ => ⟨[], rfl⟩
  | x :: xs, h => by
    have h' : isKeyD x = true ∧ xs.all isKeyD = true := by simpa using h
    obtain ⟨k, e⟩ := keys_of h'.2
    cases x with
    | int i => exact ⟨.inl i :: k, by rw [e]; rfl⟩
    | str z => exact ⟨.inr z :: k, by rw [e]; rfl⟩
    | _ => simp [isKeyD] at h'
theorem tkey_of {d : D} (h : isTKey d = true) : ∃ k : List Key, d = tkD k := by
  cases d with
  | tuple xs =>
    obtain ⟨k, e⟩ := keys_of (xs := xs) h
    exact ⟨k, by rw [e]; rfl⟩
  | _ => simp [isTKey] at h
section
variable {K : PySem.W.Frag} {H : Hp}
theorem Rps.keys : ∀ {k : List Key} {vs : List V} {F : List Addr}, Rps K H (k.map keyD) vs F → vs = k.map kV
  | [], _, _, h => h.1
  | x :: xs, vs, F, h => by
    have h' : Rps K H (keyD x :: xs.map keyD) vs F := h
    unfold Rps at h'
    obtain ⟨v, r, F1, F2, e1, e2, e3, e4⟩ := h'
    rw [e1, Rps.keys e4]
    cases x with
    | inl i => rw [Rp.int_eq (i := i) e3]; rfl
    | inr z =>
      have : v = .str z := by
        have e3' : Rp K H (.str z) v F1 := e3
        unfold Rp at e3'
        exact e3'.1
      rw [this]; rfl
theorem Rp.tkey {k : List Key} {v : V} {F : List Addr} (h : Rp K H (tkD k) v F) : ∃ b, v = .ref b ∧ H b = some (.tup (k.map kV)) := by
  obtain ⟨a, xs, e1, e2, e3⟩ := Rp.tuple h
  exact ⟨a, e1, by rw [← Rps.keys e3]; exact e2⟩
theorem Rpv.val {k : List Key} : ∀ {es : List (D × D)} {kvs : List (List Key × V)} {F : List Addr}, Rpv K H es kvs F →
    (es.any fun e => eqT e.1 (tkD k)) = (valV kvs k).isSome ∧ ∀ d, getD' es (tkD k) = some d → ∃ v G, valV kvs k = some v ∧ Rp K H d v G ∧ ∀ a ∈ G, a ∈ F
  | [], kvs, F, h => by
    rw [h.1]
    exact ⟨rfl, fun d e => by cases e⟩
  | (kd, d0) :: es, kvs, F, h => by
    unfold Rpv at h
    obtain ⟨kk, x, r, F1, F2, e0, e1, e2, e3, e4⟩ := h
    subst e0 e1 e2
    obtain ⟨q1, q2⟩ := Rpv.val (k := k) e4
    by_cases hk : kk = k
    · subst hk
      have ht : eqT (tkD kk) (tkD kk) = true := by rw [eqT_key]; simp
      refine ⟨?_, fun d e => ?_⟩
      · rw [valV_pos rfl, List.any_cons, ht]; rfl
      · unfold getD' at e
        rw [List.find?_cons, ht] at e
        have : d0 = d := by simpa using e
        subst this
        exact ⟨x, F1, valV_pos rfl, e3, fun a ha => List.mem_append_left _ ha⟩
    · have ht : eqT (tkD kk) (tkD k) = false := by rw [eqT_key]; simp [hk]
      refine ⟨?_, fun d e => ?_⟩
      · rw [valV_neg hk, List.any_cons, ht, ← q1]; rfl
      · unfold getD' at e
        rw [List.find?_cons, ht] at e
        obtain ⟨v, G, w1, w2, w3⟩ := q2 d (by unfold getD'; simpa using e)
        exact ⟨v, G, by rw [valV_neg hk]; exact w1, w2, fun a ha => List.mem_append_right _ (w3 a ha)⟩
end
section
variable {X : Cx} {mf : Nat → Bool} {Φ : Nat → List D → Option (Sl × D)} {pos : Pos}
/-- a comparison as a value and as a test -/
structure PB (X : Cx) (e : Expr) (t : TE) : Prop where
  pe : PE X e t
  pt : PT X e (tB t)
theorem PB.pull {e : Expr} {t : TE} (h : ∀ σ H Q, t σ H Q → ∃ t', PB X e t' ∧ t' σ H Q) : PB X e t :=
  ⟨PE.pull fun σ H Q q => let ⟨t', h1, h2⟩ := h σ H Q q; ⟨t', h1.pe, h2⟩,
   ⟨fun pins s σ H Q I q => let ⟨t', h1, h2⟩ := h σ H _ q; h1.pt.run pins s σ H Q I h2⟩⟩
theorem pb_cmpR {op : CmpOp} {r : R2} {a b : Expr} {ta tb : TE} (ho : OpR X (compareOp op) r) (ha : PE X a ta) (hb : PE X b tb) (hm : behindInMarks op b = false) : PB X (.Compare a [op] [b] pos) (tOp r ta tb) := ⟨pe_cmpR ho ha hb hm, pt_cmpR ho ha hb hm⟩
theorem pb_cmp {op : CmpOp} {a b : Expr} {t : TE} (h : PC X op a b t) (hm : behindInMarks op b = false) : PB X (.Compare a [op] [b] pos) t := ⟨pe_cmp h hm, pt_cmp h hm⟩
theorem tb_cmp {op : Cop} {a b : Expr} {ea eb : Ex} {m : Md} (hu : X.A.units + 64 < cLine) (hm : behindInMarks op.op b = false) (ha : ∀ m, PE X a (tE X.K mf Φ m ea)) (hb : ∀ m, PE X b (tE X.K mf Φ m eb)) : PB X (.Compare a [op.op] [b] pos) (tE X.K mf Φ m (.cmp op ea eb)) := by
  refine PB.pull fun σ H Q q => ?_
  obtain ⟨S, H0, P, cs, ts, r0, env, rfl, o, he, hq, k⟩ := q
  unfold ev at he
  simp only [Option.bind_eq_bind, Option.bind_eq_some_iff] at he
  obtain ⟨⟨x, e1⟩, h1, ⟨y, e2⟩, h2, z, h3, he⟩ := he
  simp only at h1 h2 h3 he
  cases he
  generalize hm' : (if quiet mf eb = true then Md.bor else Md.val) = m' at h1 h2
  have ux := noUn h1
  have uy := noUn h2
  have hq' : (quiet mf ea && quiet mf eb) = true ∨ noVo ts := by simpa only [quiet] using hq
  have hb' : quiet mf eb = true ∨ x.isVo = false := by
    by_cases hqb : quiet mf eb = true
    · exact .inl hqb
    · rw [if_neg hqb] at hm'
      subst hm'
      exact .inr (good_noVo (ev_noVo _ _ _ _ _ (by decide) h1))
  -- the end of each case
  have fin : ∀ {vx vy : V} {H' : Hp} {cs' : List Cell} {f g : List Addr} {c : Bool}, cs'.map (·.v) = cs.map (·.v) → cs'.map (·.s) = env → Ok X.K S H0 P H' (cs' ++ ts ++ [⟨some vx, x, f⟩, ⟨some vy, y, g⟩]) → ((quiet mf ea && quiet mf eb) = true → Same H H') → c = z → Q (.bl c) H' := fun {vx vy H' cs' f g c} hv hs o' same ec => by
    subst ec
    exact k (.bl c) H' cs' [] hv hs (o'.res (Rp.mk_bool c)) (fun hh => same (by simpa only [quiet] using hh))
  have get : ∀ {vx vy : V} {H' : Hp} {cs' : List Cell} {f g : List Addr}, Ok X.K S H0 P H' (cs' ++ ts ++ [⟨some vx, x, f⟩, ⟨some vy, y, g⟩]) → (∃ F, Rp X.K H' x.d vx F) ∧ ∃ G, Rp X.K H' y.d vy G := fun {vx vy H' cs' f g} o' => by
    obtain ⟨vx', F, e1, rx⟩ := (o'.cell ⟨some vx, x, f⟩ (by simp)).rp ux
    obtain ⟨vy', G, e2, ry⟩ := (o'.cell ⟨some vy, y, g⟩ (by simp)).rp uy
    cases e1; cases e2
    exact ⟨⟨F, rx⟩, G, ry⟩
  have dat : ∀ {cond g : D → D → Bool}, OpR X (compareOp op.op) (rDat X.K cond g) → cond x.d y.d = true → g x.d y.d = z → PyData.hasDict x.d = false → PyData.hasDict y.d = false → ∃ t', PB X (.Compare a [op.op] [b] pos) t' ∧ t' (cs.map (·.v)) H Q := fun {cond g} ho hc hg nx ny => by
    refine ⟨_, pb_cmpR ho (ha m') (hb m') hm, two o h1 h2 hq' hb' fun vx vy H' cs' f g' hv hs o' same => ?_⟩
    obtain ⟨⟨F, rx⟩, G, ry⟩ := get o'
    exact ⟨x.d, y.d, Rp.dp _ _ _ nx rx, Rp.dp _ _ _ ny ry, hc, fin hv hs o' same hg⟩
  have okk : ∀ {p q : D}, (okD p && okD q) = true → PyData.hasDict p = false ∧ PyData.hasDict q = false := fun {p q} h => by
    obtain ⟨c1, c2⟩ := Bool.and_eq_true_iff.mp h
    exact ⟨(okD_iff c1).1, (okD_iff c2).1⟩
  have alikeNo : ∀ {p q : D}, ordOk p q = true → PyData.hasDict p = false ∧ PyData.hasDict q = false := ordOk_no
  -- is None, is not None
  have isn : ∀ {g : V → Bool}, OpR X (compareOp op.op) (fun x y H Q => y = .non ∧ Q (.bl (g x)) H) → y.d = .none → (∀ v F H', Rp X.K H' x.d v F → g v = z) → ∃ t', PB X (.Compare a [op.op] [b] pos) t' ∧ t' (cs.map (·.v)) H Q := fun {g} ho dy hg => by
    refine ⟨_, pb_cmpR ho (ha m') (hb m') hm, two o h1 h2 hq' hb' fun vx vy H' cs' f g' hv hs o' same => ?_⟩
    obtain ⟨⟨F, rx⟩, G, ry⟩ := get o'
    exact ⟨Rp.none_eq (by rw [← dy]; exact ry), fin hv hs o' same (hg vx F H' rx)⟩
  have nonN : ∀ {d : D} {v : V} {F : List Addr} {H' : Hp}, Rp X.K H' d v F → d ≠ .none → v ≠ .non := fun {d v F H'} r hd e => by
    subst e
    cases d with
    | none => exact hd rfl
    | bool _ => unfold Rp at r; exact nomatch r.1
    | int _ => unfold Rp at r; exact nomatch r.1
    | str _ => unfold Rp at r; exact nomatch r.1
    | list _ => obtain ⟨_, _, _, e, _⟩ := Rp.list r; exact nomatch e
    | tuple _ => obtain ⟨_, _, e, _⟩ := Rp.tuple r; exact nomatch e
    | dict _ => obtain ⟨_, _, _, e, _⟩ := Rp.dict r; exact nomatch e
  cases op with
  | eq =>
    simp only [cmpD] at h3
    split at h3
    · rename_i c; cases h3
      exact dat (op_eqP hu) c rfl (okk c).1 (okk c).2
    · cases h3
  | ne =>
    simp only [cmpD] at h3
    split at h3
    · rename_i c; cases h3
      exact dat (op_neP hu) c rfl (okk c).1 (okk c).2
    · cases h3
  | lt =>
    simp only [cmpD] at h3
    split at h3
    · rename_i c; cases h3
      exact dat (op_ltP hu) c rfl (alikeNo c).1 (alikeNo c).2
    · cases h3
  | gt =>
    simp only [cmpD] at h3
    split at h3
    · rename_i c; cases h3
      exact dat (op_gtP hu) c rfl (alikeNo c).1 (alikeNo c).2
    · cases h3
  | le =>
    simp only [cmpD] at h3
    split at h3
    · rename_i c; cases h3
      exact dat (op_leP hu) c rfl (alikeNo c).1 (alikeNo c).2
    · cases h3
  | ge =>
    simp only [cmpD] at h3
    split at h3
    · rename_i c; cases h3
      exact dat (op_geP hu) c rfl (alikeNo c).1 (alikeNo c).2
    · cases h3
  | isN =>
    cases dy : y.d with
    | none =>
      rw [dy] at h3
      refine isn (g := fun x => decide (x = .non)) op_isN dy fun v F H' r => ?_
      cases dx : x.d with
      | none =>
        rw [dx] at r h3
        have : z = true := by simpa [cmpD] using h3.symm
        rw [Rp.none_eq r, this]; rfl
      | _ =>
        have hz : z = false := by rw [dx] at h3; simpa [cmpD] using h3.symm
        have := nonN r (by rw [dx]; intro q; cases q)
        rw [hz]; simp [this]
    | _ => rw [dy] at h3; cases dx : x.d <;> (rw [dx] at h3; simp [cmpD] at h3)
  | notN =>
    cases dy : y.d with
    | none =>
      rw [dy] at h3
      refine isn (g := fun x => !decide (x = .non)) op_notN dy fun v F H' r => ?_
      cases dx : x.d with
      | none =>
        rw [dx] at r h3
        have : z = false := by simpa [cmpD] using h3.symm
        rw [Rp.none_eq r, this]; rfl
      | _ =>
        have hz : z = true := by rw [dx] at h3; simpa [cmpD] using h3.symm
        have := nonN r (by rw [dx]; intro q; cases q)
        rw [hz]; simp [this]
    | _ => rw [dy] at h3; cases dx : x.d <;> (rw [dx] at h3; simp [cmpD] at h3)
  | inn =>
    cases dy : y.d with
    | list ys =>
      rw [dy] at h3
      simp only [cmpD] at h3
      split at h3
      · rename_i c; cases h3
        exact dat (op_inP hu) (by rw [dy, c]; rfl) (by rw [dy]; rfl) (okk c).1 (by rw [dy]; exact (okk c).2)
      · cases h3
    | tuple ys =>
      rw [dy] at h3
      simp only [cmpD] at h3
      split at h3
      · rename_i c; cases h3
        exact dat (op_inP hu) (by rw [dy, c]; rfl) (by rw [dy]; rfl) (okk c).1 (by rw [dy]; exact (okk c).2)
      · cases h3
    | dict es =>
      rw [dy] at h3
      simp only [cmpD] at h3
      split at h3
      · rename_i c
        obtain ⟨kk, ek⟩ := tkey_of c
        refine ⟨_, pb_cmp (pc_din (by omega) (ha m') (hb m')) hm, two o h1 h2 hq' hb' fun vx vy H' cs' f g' hv hs o' same => ?_⟩
        obtain ⟨⟨F, rx⟩, G, ry⟩ := get o'
        obtain ⟨bk, ebk, hbk⟩ := Rp.tkey (k := kk) (by rw [← ek]; exact rx)
        obtain ⟨ad, kvs, G', ed, hd, _, rv⟩ := Rp.dict (by rw [← dy]; exact ry)
        have hz : (valV kvs kk).isSome = z := by
          rw [← (Rpv.val (k := kk) rv).1, ← ek]
          simpa using h3
        exact ⟨ad, valV kvs kk, ed, .inr ⟨kvs, kk, bk, hd, ebk, hbk, rfl⟩, fin hv hs o' same hz⟩
      · cases h3
    | _ => rw [dy] at h3; simp [cmpD] at h3
  | nin =>
    cases dy : y.d with
    | list ys =>
      rw [dy] at h3
      simp only [cmpD] at h3
      split at h3
      · rename_i c; cases h3
        exact dat (op_ninP hu) (by rw [dy, c]; rfl) (by rw [dy]; rfl) (okk c).1 (by rw [dy]; exact (okk c).2)
      · cases h3
    | tuple ys =>
      rw [dy] at h3
      simp only [cmpD] at h3
      split at h3
      · rename_i c; cases h3
        exact dat (op_ninP hu) (by rw [dy, c]; rfl) (by rw [dy]; rfl) (okk c).1 (by rw [dy]; exact (okk c).2)
      · cases h3
    | dict es =>
      rw [dy] at h3
      simp only [cmpD] at h3
      split at h3
      · rename_i c
        obtain ⟨kk, ek⟩ := tkey_of c
        refine ⟨_, pb_cmp (pc_dnotin (by omega) (ha m') (hb m')) hm, two o h1 h2 hq' hb' fun vx vy H' cs' f g' hv hs o' same => ?_⟩
        obtain ⟨⟨F, rx⟩, G, ry⟩ := get o'
        obtain ⟨bk, ebk, hbk⟩ := Rp.tkey (k := kk) (by rw [← ek]; exact rx)
        obtain ⟨ad, kvs, G', ed, hd, _, rv⟩ := Rp.dict (by rw [← dy]; exact ry)
        have hz : (!(valV kvs kk).isSome) = z := by
          rw [← (Rpv.val (k := kk) rv).1, ← ek]
          simpa using h3
        exact ⟨ad, valV kvs kk, ed, .inr ⟨kvs, kk, bk, hd, ebk, hbk, rfl⟩, fin hv hs o' same hz⟩
      · cases h3
    | _ => rw [dy] at h3; simp [cmpD] at h3
end
end Tv
set_option maxHeartbeats 1000000
/-! TvG: truth: and, or, not, a if c else b; tests. -/
namespace Tv
open PySem PySem.Spec PyProof.Rows L2
section
variable (K : PySem.W.Frag) (mf : Nat → Bool) (Φ : Nat → List D → Option (Sl × D))
/-- an expression as a test -/
def tT (e : Ex) : TT := fun σ H Q => ∃ S H0 P cs ts r b env, σ = cs.map (·.v) ∧ Ok K S H0 P H (cs ++ ts) ∧ ev mf Φ .val e (cs.map (·.s)) = some (r, env) ∧ r.d = .bool b ∧
  (quiet mf e = true ∨ noVo ts) ∧ ∀ H' cs', cs'.map (·.v) = cs.map (·.v) → cs'.map (·.s) = env → Ok K S H0 P H' (cs' ++ ts) → (quiet mf e = true → Same H H') → Q b H'
end
section
variable {X : Cx} {mf : Nat → Bool} {Φ : Nat → List D → Option (Sl × D)} {pos : Pos}
theorem tT_B {e : Ex} {σ : L2.St} {H : Hp} {Q : Bool → Hp → Prop} (h : tT X.K mf Φ e σ H Q) : tB (tE X.K mf Φ .val e) σ H Q := by
  obtain ⟨S, H0, P, cs, ts, r, b, env, rfl, o, he, hb, hq, k⟩ := h
  refine one o he hq fun vx H' cs' f hv hs o' same => ?_
  obtain ⟨v, F, e1, rr⟩ := (o'.cell ⟨some vx, r, f⟩ (by simp)).rp (noUn he)
  cases e1
  exact ⟨b, Rp.bool_eq (by rw [← hb]; exact rr), k H' cs' hv hs (o'.drop (List.sublist_append_left _ _)) same⟩
theorem weakT {e : Expr} {t t' : TT} (h : PT X e t) (w : ∀ σ H Q, t' σ H Q → t σ H Q) : PT X e t' := ⟨fun pins s σ H Q I q => h.run pins s σ H Q I (w σ H Q q)⟩
theorem weakW {e : Expr} {t t' : TT} (h : PW X e t) (w : ∀ σ H Q, t' σ H Q → t σ H Q) : PW X e t' := ⟨fun wh pins s σ H Q I q => h.run wh pins s σ H Q I (w σ H Q q)⟩
/-- a test by the value -/
theorem tt_val {e : Expr} {ex : Ex} (h : ∀ m, PE X e (tE X.K mf Φ m ex)) (he : ∀ whole, isTrue e X.env whole = (do let v ← whole; standAt e.pos; holding [v] (truthy v))) : PT X e (tT X.K mf Φ ex) :=
  weakT (pt_val (h .val) he) fun _ _ _ q => tT_B q
theorem tt_cmp {op : Cop} {a b : Expr} {ea eb : Ex} (hu : X.A.units + 64 < cLine) (hm : behindInMarks op.op b = false) (ha : ∀ m, PE X a (tE X.K mf Φ m ea)) (hb : ∀ m, PE X b (tE X.K mf Φ m eb)) : PT X (.Compare a [op.op] [b] pos) (tT X.K mf Φ (.cmp op ea eb)) :=
  weakT (tb_cmp (m := .val) hu hm ha hb).pt fun _ _ _ q => tT_B q
theorem te_cmp {op : Cop} {a b : Expr} {ea eb : Ex} {m : Md} (hu : X.A.units + 64 < cLine) (hm : behindInMarks op.op b = false) (ha : ∀ m, PE X a (tE X.K mf Φ m ea)) (hb : ∀ m, PE X b (tE X.K mf Φ m eb)) : PE X (.Compare a [op.op] [b] pos) (tE X.K mf Φ m (.cmp op ea eb)) := (tb_cmp hu hm ha hb).pe
/-- what a quiet pair asks -/
theorem q2 {a b : Bool} {T : Prop} (h : (a && b) = true ∨ T) : (a = true ∨ T) ∧ (b = true ∨ T) := by
  rcases h with h | h
  · obtain ⟨h1, h2⟩ := Bool.and_eq_true_iff.mp h
    exact ⟨.inl h1, .inl h2⟩
  · exact ⟨.inr h, .inr h⟩
theorem te_conj {a : Expr} {b : Expr} {rest : List Expr} {ea eb : Ex} {m : Md} (ha : ∀ m, PE X a (tE X.K mf Φ m ea)) (hb : ∀ m, PE X (.BoolOp .And (b :: rest) pos) (tE X.K mf Φ m eb)) : PE X (.BoolOp .And (a :: b :: rest) pos) (tE X.K mf Φ m (.conj ea eb)) := by
  refine weak (pe_and (ha .val) (hb .val)) fun σ H Q q => ?_
  obtain ⟨S, H0, P, cs, ts, r0, env, rfl, o, he, hq, k⟩ := q
  unfold ev at he
  simp only [Option.bind_eq_bind, Option.bind_eq_some_iff] at he
  obtain ⟨⟨x, e1⟩, h1, he⟩ := he
  simp only at h1 he
  have hq' : (quiet mf ea && quiet mf eb) = true ∨ noVo ts := by simpa only [quiet] using hq
  obtain ⟨qa, qb⟩ := q2 hq'
  refine one o h1 qa fun vx H' cs' f hv hs o' same => ?_
  obtain ⟨v, F, ee, rr⟩ := (o'.cell ⟨some vx, x, f⟩ (by simp)).rp (noUn h1)
  cases ee
  have o1 := o'.drop (cs' := cs' ++ ts) (List.sublist_append_left _ _)
  split at he
  · rename_i hd
    refine ⟨true, Rp.bool_eq (by rw [← hd]; exact rr), ?_⟩
    refine iteT ?_
    rw [← hv]
    subst hs
    refine one o1 he qb fun vy H2 cs2 g hv2 hs2 o2 same2 => k vy H2 cs2 g (hv2.trans hv) hs2 o2 fun hh => ?_
    obtain ⟨c1, c2⟩ := Bool.and_eq_true_iff.mp (show (quiet mf ea && quiet mf eb) = true by simpa only [quiet] using hh)
    exact (same c1).trans (same2 c2)
  · rename_i hd
    cases he
    refine ⟨false, Rp.bool_eq (by rw [← hd]; exact rr), ?_⟩
    refine iteF ?_
    refine k (.bl false) H' cs' [] hv hs (o1.addI (Rp.mk_bool false)) fun hh => ?_
    obtain ⟨c1, c2⟩ := Bool.and_eq_true_iff.mp (show (quiet mf ea && quiet mf eb) = true by simpa only [quiet] using hh)
    exact same c1
  · cases he
theorem te_disj {a : Expr} {b : Expr} {rest : List Expr} {ea eb : Ex} {m : Md} (ha : ∀ m, PE X a (tE X.K mf Φ m ea)) (hb : ∀ m, PE X (.BoolOp .Or (b :: rest) pos) (tE X.K mf Φ m eb)) : PE X (.BoolOp .Or (a :: b :: rest) pos) (tE X.K mf Φ m (.disj ea eb)) := by
  refine weak (pe_or (ha .val) (hb .val)) fun σ H Q q => ?_
  obtain ⟨S, H0, P, cs, ts, r0, env, rfl, o, he, hq, k⟩ := q
  unfold ev at he
  simp only [Option.bind_eq_bind, Option.bind_eq_some_iff] at he
  obtain ⟨⟨x, e1⟩, h1, he⟩ := he
  simp only at h1 he
  have hq' : (quiet mf ea && quiet mf eb) = true ∨ noVo ts := by simpa only [quiet] using hq
  obtain ⟨qa, qb⟩ := q2 hq'
  refine one o h1 qa fun vx H' cs' f hv hs o' same => ?_
  obtain ⟨v, F, ee, rr⟩ := (o'.cell ⟨some vx, x, f⟩ (by simp)).rp (noUn h1)
  cases ee
  have o1 := o'.drop (cs' := cs' ++ ts) (List.sublist_append_left _ _)
  split at he
  · rename_i hd
    cases he
    refine ⟨true, Rp.bool_eq (by rw [← hd]; exact rr), ?_⟩
    refine iteT ?_
    refine k (.bl true) H' cs' [] hv hs (o1.addI (Rp.mk_bool true)) fun hh => ?_
    obtain ⟨c1, c2⟩ := Bool.and_eq_true_iff.mp (show (quiet mf ea && quiet mf eb) = true by simpa only [quiet] using hh)
    exact same c1
  · rename_i hd
    refine ⟨false, Rp.bool_eq (by rw [← hd]; exact rr), ?_⟩
    refine iteF ?_
    rw [← hv]
    subst hs
    refine one o1 he qb fun vy H2 cs2 g hv2 hs2 o2 same2 => k vy H2 cs2 g (hv2.trans hv) hs2 o2 fun hh => ?_
    obtain ⟨c1, c2⟩ := Bool.and_eq_true_iff.mp (show (quiet mf ea && quiet mf eb) = true by simpa only [quiet] using hh)
    exact (same c1).trans (same2 c2)
  · cases he
theorem te_inv {a : Expr} {ea : Ex} {m : Md} (ha : ∀ m, PE X a (tE X.K mf Φ m ea)) : PE X (.UnaryOp .Not a pos) (tE X.K mf Φ m (.inv ea)) := by
  refine weak (pe_not (ha .val)) fun σ H Q q => ?_
  obtain ⟨S, H0, P, cs, ts, r0, env, rfl, o, he, hq, k⟩ := q
  unfold ev at he
  simp only [Option.bind_eq_bind, Option.bind_eq_some_iff] at he
  obtain ⟨⟨x, e1⟩, h1, he⟩ := he
  simp only at h1 he
  refine one o h1 (by simpa only [quiet] using hq) fun vx H' cs' f hv hs o' same => ?_
  obtain ⟨v, F, ee, rr⟩ := (o'.cell ⟨some vx, x, f⟩ (by simp)).rp (noUn h1)
  cases ee
  split at he
  · rename_i b hd
    cases he
    exact ⟨b, Rp.bool_eq (by rw [← hd]; exact rr), k (.bl (!b)) H' cs' [] hv hs (o'.res (tl := [_]) (Rp.mk_bool _)) (by simpa only [quiet] using same)⟩
  · cases he
theorem te_neg {a : Expr} {ea : Ex} {m : Md} (ha : ∀ m, PE X a (tE X.K mf Φ m ea)) : PE X (.UnaryOp .USub a pos) (tE X.K mf Φ m (.neg ea)) := by
  refine weak (pe_un un_neg (ha .val)) fun σ H Q q => ?_
  obtain ⟨S, H0, P, cs, ts, r0, env, rfl, o, he, hq, k⟩ := q
  unfold ev at he
  simp only [Option.bind_eq_bind, Option.bind_eq_some_iff] at he
  obtain ⟨⟨x, e1⟩, h1, he⟩ := he
  simp only at h1 he
  refine one o h1 (by simpa only [quiet] using hq) fun vx H' cs' f hv hs o' same => ?_
  obtain ⟨v, F, ee, rr⟩ := (o'.cell ⟨some vx, x, f⟩ (by simp)).rp (noUn h1)
  cases ee
  split at he
  · rename_i i hd
    cases he
    exact ⟨i, Rp.int_eq (by rw [← hd]; exact rr), k (.int (-i)) H' cs' [] hv hs (o'.res (tl := [_]) (Rp.mk_int _)) (by simpa only [quiet] using same)⟩
  · cases he
theorem te_ite {c a b : Expr} {ec ea eb : Ex} {m : Md} (hc : PT X c (tT X.K mf Φ ec)) (ha : ∀ m, PE X a (tE X.K mf Φ m ea)) (hb : ∀ m, PE X b (tE X.K mf Φ m eb)) : PE X (.IfExp c a b pos) (tE X.K mf Φ m (.ite ec ea eb)) := by
  refine weak (pe_ifExp hc (ha m) (hb m)) fun σ H Q q => ?_
  obtain ⟨S, H0, P, cs, ts, r0, env, rfl, o, he, hq, k⟩ := q
  unfold ev at he
  simp only [Option.bind_eq_bind, Option.bind_eq_some_iff] at he
  obtain ⟨⟨x, e1⟩, h1, he⟩ := he
  simp only at h1 he
  have hq' : ((quiet mf ec && quiet mf ea) && quiet mf eb) = true ∨ noVo ts := by simpa only [quiet] using hq
  obtain ⟨qca, qb⟩ := q2 hq'
  obtain ⟨qc, qa⟩ := q2 qca
  have quietAll : quiet mf (.ite ec ea eb) = true → quiet mf ec = true ∧ quiet mf ea = true ∧ quiet mf eb = true := fun hh => by
    have hh' : ((quiet mf ec && quiet mf ea) && quiet mf eb) = true := by simpa only [quiet] using hh
    obtain ⟨w1, w2⟩ := Bool.and_eq_true_iff.mp hh'
    obtain ⟨w3, w4⟩ := Bool.and_eq_true_iff.mp w1
    exact ⟨w3, w4, w2⟩
  split at he
  · rename_i hd
    refine ⟨S, H0, P, cs, ts, x, true, e1, rfl, o, h1, hd, qc, fun H' cs' hv hs o' same => ?_⟩
    refine iteT ?_
    rw [← hv]
    subst hs
    exact one o' he qa fun vy H2 cs2 g hv2 hs2 o2 same2 => k vy H2 cs2 g (hv2.trans hv) hs2 o2 fun hh => (same (quietAll hh).1).trans (same2 (quietAll hh).2.1)
  · rename_i hd
    refine ⟨S, H0, P, cs, ts, x, false, e1, rfl, o, h1, hd, qc, fun H' cs' hv hs o' same => ?_⟩
    refine iteF ?_
    rw [← hv]
    subst hs
    exact one o' he qb fun vy H2 cs2 g hv2 hs2 o2 same2 => k vy H2 cs2 g (hv2.trans hv) hs2 o2 fun hh => (same (quietAll hh).1).trans (same2 (quietAll hh).2.2)
  · cases he
/-! tests -/
theorem tt_inv {a : Expr} {ea : Ex} (ha : PT X a (tT X.K mf Φ ea)) : PT X (.UnaryOp .Not a pos) (tT X.K mf Φ (.inv ea)) := by
  refine weakT (pt_not ha) fun σ H Q q => ?_
  obtain ⟨S, H0, P, cs, ts, r0, b, env, rfl, o, he, hb, hq, k⟩ := q
  unfold ev at he
  simp only [Option.bind_eq_bind, Option.bind_eq_some_iff] at he
  obtain ⟨⟨x, e1⟩, h1, he⟩ := he
  simp only at h1 he
  split at he
  · rename_i c hd
    cases he
    have eb : (!c) = b := by simpa [Sl.d] using hb
    refine ⟨S, H0, P, cs, ts, x, c, env, rfl, o, h1, hd, by simpa only [quiet] using hq, fun H' cs' hv hs o' same => ?_⟩
    show Q (!c) H'
    rw [eb]
    exact k H' cs' hv hs o' (by simpa only [quiet] using same)
  · cases he
theorem tw_conj {a b : Expr} {rest : List Expr} {ea eb : Ex} (ha : PT X a (tT X.K mf Φ ea)) (hb : PW X (.BoolOp .And (b :: rest) pos) (tT X.K mf Φ eb)) : PW X (.BoolOp .And (a :: b :: rest) pos) (tT X.K mf Φ (.conj ea eb)) := by
  refine weakW (pw_and ha hb) fun σ H Q q => ?_
  obtain ⟨S, H0, P, cs, ts, r0, bb, env, rfl, o, he, hbb, hq, k⟩ := q
  unfold ev at he
  simp only [Option.bind_eq_bind, Option.bind_eq_some_iff] at he
  obtain ⟨⟨x, e1⟩, h1, he⟩ := he
  simp only at h1 he
  have hq' : (quiet mf ea && quiet mf eb) = true ∨ noVo ts := by simpa only [quiet] using hq
  obtain ⟨qa, qb⟩ := q2 hq'
  have qq : quiet mf (.conj ea eb) = true → quiet mf ea = true ∧ quiet mf eb = true := fun hh => Bool.and_eq_true_iff.mp (show (quiet mf ea && quiet mf eb) = true by simpa only [quiet] using hh)
  split at he
  · rename_i hd
    refine ⟨S, H0, P, cs, ts, x, true, e1, rfl, o, h1, hd, qa, fun H' cs' hv hs o' same => ?_⟩
    refine iteT ?_
    rw [← hv]
    subst hs
    exact ⟨S, H0, P, cs', ts, r0, bb, env, rfl, o', he, hbb, qb, fun H2 cs2 hv2 hs2 o2 same2 => k H2 cs2 (hv2.trans hv) hs2 o2 fun hh => (same (qq hh).1).trans (same2 (qq hh).2)⟩
  · rename_i hd
    cases he
    have eb : false = bb := by simpa [Sl.d] using hbb
    refine ⟨S, H0, P, cs, ts, x, false, env, rfl, o, h1, hd, qa, fun H' cs' hv hs o' same => ?_⟩
    refine iteF ?_
    rw [eb]
    exact k H' cs' hv hs o' fun hh => same (qq hh).1
  · cases he
theorem tw_disj {a b : Expr} {rest : List Expr} {ea eb : Ex} (ha : PT X a (tT X.K mf Φ ea)) (hb : PW X (.BoolOp .Or (b :: rest) pos) (tT X.K mf Φ eb)) : PW X (.BoolOp .Or (a :: b :: rest) pos) (tT X.K mf Φ (.disj ea eb)) := by
  refine weakW (pw_or ha hb) fun σ H Q q => ?_
  obtain ⟨S, H0, P, cs, ts, r0, bb, env, rfl, o, he, hbb, hq, k⟩ := q
  unfold ev at he
  simp only [Option.bind_eq_bind, Option.bind_eq_some_iff] at he
  obtain ⟨⟨x, e1⟩, h1, he⟩ := he
  simp only at h1 he
  have hq' : (quiet mf ea && quiet mf eb) = true ∨ noVo ts := by simpa only [quiet] using hq
  obtain ⟨qa, qb⟩ := q2 hq'
  have qq : quiet mf (.disj ea eb) = true → quiet mf ea = true ∧ quiet mf eb = true := fun hh => Bool.and_eq_true_iff.mp (show (quiet mf ea && quiet mf eb) = true by simpa only [quiet] using hh)
  split at he
  · rename_i hd
    cases he
    have eb : true = bb := by simpa [Sl.d] using hbb
    refine ⟨S, H0, P, cs, ts, x, true, env, rfl, o, h1, hd, qa, fun H' cs' hv hs o' same => ?_⟩
    refine iteT ?_
    rw [eb]
    exact k H' cs' hv hs o' fun hh => same (qq hh).1
  · rename_i hd
    refine ⟨S, H0, P, cs, ts, x, false, e1, rfl, o, h1, hd, qa, fun H' cs' hv hs o' same => ?_⟩
    refine iteF ?_
    rw [← hv]
    subst hs
    exact ⟨S, H0, P, cs', ts, r0, bb, env, rfl, o', he, hbb, qb, fun H2 cs2 hv2 hs2 o2 same2 => k H2 cs2 (hv2.trans hv) hs2 o2 fun hh => (same (qq hh).1).trans (same2 (qq hh).2)⟩
  · cases he
end
end Tv
set_option maxHeartbeats 1000000
/-! TvH: displays, items, slices. -/
namespace Tv
open PySem PySem.Spec PyProof.Rows L2
section
variable {K : PySem.W.Frag} {S A A' : List Addr} {H0 H H' : Hp} {P M : List Addr} {cs tl l r ts : List Cell} {c : Cell}
/-- a new cell that takes over what the last cells own, and new objects -/
theorem Ok.absorb {q g : List Addr} (o : Ok K S H0 P H (cs ++ tl)) (s : Same H H') (hc : CellOk K (S ++ fp cs ++ c.f) H' c) (ef : c.f = q ++ g) (hg : g.Sublist (fp tl)) (hn : ∀ a ∈ q, H a = none) (hnd : q.Nodup) (hm : ∀ a ∈ q, Mut (H' a)) (hb : ∀ d, c.s ≠ .bw d) : Ok K S H0 P H' (cs ++ [c]) := by
  have o' := o.same s
  have fe : fp (cs ++ [c]) = fp cs ++ c.f := by rw [fp_append, fp_cons, fp_nil, List.append_nil]
  have fo : fp (cs ++ tl) = fp cs ++ fp tl := fp_append _ _
  have old : ∀ a ∈ fp (cs ++ tl), H a ≠ none := fun a ha => Mut.some (o.mu a ha)
  have gmem : ∀ a ∈ g, a ∈ fp (cs ++ tl) := fun a ha => by rw [fo]; exact List.mem_append_right _ (hg.subset ha)
  have nd := o.nd
  rw [fo] at nd
  obtain ⟨n1, n2, n3⟩ := List.nodup_append.mp nd
  have cases_f : ∀ a ∈ c.f, H a = none ∨ a ∈ g := fun a ha => by
    rw [ef] at ha
    rcases List.mem_append.mp ha with ha | ha
    · exact .inl (hn a ha)
    · exact .inr ha
  refine ⟨fun d hd => ?_, ?_, fun a ha => ?_, fun a ha h => ?_, o'.al, o'.ext, fun a ha => ?_, fun d hd e he => ?_⟩
  · rw [fe, ← List.append_assoc]
    rcases List.mem_append.mp hd with hd | hd
    · have hd' : d ∈ cs ++ tl := List.mem_append_left _ hd
      have q0 := o.cell d hd'
      have q1 := o'.cell d hd'
      have sub : ∀ a, a ∈ S ++ fp cs → a ∈ S ++ fp (cs ++ tl) := fun a h => by
        rw [fo]
        rcases List.mem_append.mp h with h | h
        · simp [h]
        · simp [h]
      have nw : ∀ F : List Addr, (∀ a ∈ F, H a ≠ none) → (∀ a ∈ F, a ∉ S ++ fp (cs ++ tl)) → ∀ a ∈ F, a ∉ S ++ fp cs ++ c.f := fun F h1 h2 a ha hm => by
        rcases List.mem_append.mp hm with hm | hm
        · exact h2 a ha (sub a hm)
        · rcases cases_f a hm with z | z
          · exact h1 a ha z
          · exact h2 a ha (List.mem_append_right _ (gmem a z))
      obtain ⟨v, sl, f⟩ := d
      cases sl with
      | un => exact q1
      | sh e =>
        obtain ⟨x, F, e1, e2, e3, e4⟩ := q0
        refine ⟨x, F, e1, Rp.frame (.same s) e x F e2 (fun a _ h => by simp at h), nw F (fun a ha => ?_) e3, e4⟩
        obtain ⟨u, hu⟩ := Rp.alive _ _ _ e2 a ha
        exact Rd.some hu
      | vo e => exact q1
      | ow e =>
        obtain ⟨p, F, e1, e2, e3, e4⟩ := q0
        refine ⟨p, F, e1, Rp.frame (.same s) e _ _ e2 (fun a _ h => by simp at h), nw F (fun a ha => ?_) e3, e4⟩
        obtain ⟨u, hu⟩ := Rp.alive _ _ _ e2 a (by simp [ha])
        exact Rd.some hu
      | vt e =>
        obtain ⟨p, F, e1, e2, e3, e4⟩ := q0
        refine ⟨p, F, e1, Rp.frame (.same s) e _ _ e2 (fun a _ h => by simp at h), nw F (fun a ha => ?_) e3, e4⟩
        obtain ⟨u, hu⟩ := Rp.alive _ _ _ e2 a (by simp [ha])
        exact Rd.some hu
      | dp e => exact q1
      | bw e => exact q1
    · simp at hd; subst hd; exact hc
  · rw [fe, ef]
    refine List.nodup_append.mpr ⟨n1, List.nodup_append.mpr ⟨hnd, n2.sublist hg, fun a ha b hb e => ?_⟩, fun a ha b hb e => ?_⟩
    · exact old b (gmem b hb) (e ▸ hn a ha)
    · subst e
      rcases List.mem_append.mp hb with hb | hb
      · exact old a (by rw [fo]; exact List.mem_append_left _ ha) (hn a hb)
      · exact n3 a ha a (hg.subset hb) rfl
  · rw [fe] at ha
    rcases List.mem_append.mp ha with ha | ha
    · exact o'.mu a (by rw [fo]; exact List.mem_append_left _ ha)
    · rw [ef] at ha
      rcases List.mem_append.mp ha with ha | ha
      · exact hm a ha
      · exact o'.mu a (gmem a ha)
  · rw [fe] at h
    rcases List.mem_append.mp h with h | h
    · exact o.dj a ha (by rw [fo]; exact List.mem_append_left _ h)
    · rcases cases_f a h with z | z
      · exact o.al a ha z
      · exact o.dj a ha (gmem a z)
  · rw [fe] at ha
    rcases List.mem_append.mp ha with ha | ha
    · exact o.fr a (by rw [fo]; exact List.mem_append_left _ ha)
    · rcases cases_f a ha with e | z
      · by_cases hp : a ∈ P
        · exact .inl hp
        · right
          cases q : H0 a with
          | none => rfl
          | some u => rw [o.ext a u q hp] at e; cases e
      · exact o.fr a (gmem a z)
  · rcases List.mem_append.mp hd with hd | hd
    · exact o.bw d (List.mem_append_left _ hd) e he
    · simp at hd; subst hd; exact absurd he (hb e)
theorem Ok.demAll : ∀ {tl : List Cell} {cs : List Cell}, Ok K S H0 P H (cs ++ tl) → Ok K S H0 P H (cs ++ tl.map Cell.dem)
  | [], cs, o => by simpa using o
  | c :: tl, cs, o => by
    have o1 : Ok K S H0 P H ((cs ++ [c]) ++ tl) := by simpa using o
    have o2 := Ok.demAll o1
    have o3 : Ok K S H0 P H (cs ++ c :: tl.map Cell.dem) := by simpa using o2
    simpa using o3.dem
theorem fp_dem : ∀ {tl : List Cell}, (∀ c ∈ tl, c.s.good = true) → (∀ c ∈ tl, CellOk K A H c) → fp (tl.map Cell.dem) = []
  | [], _, _ => rfl
  | c :: tl, hg, hc => by
    rw [List.map_cons, fp_cons, fp_dem (fun d hd => hg d (by simp [hd])) fun d hd => hc d (by simp [hd])]
    have h1 := hg c (by simp)
    have h2 := hc c (by simp)
    obtain ⟨v, s, f⟩ := c
    cases s with
    | sh d =>
      obtain ⟨x, F, _, _, _, e⟩ := h2
      show f ++ [] = []
      rw [show f = [] from e]; rfl
    | ow d => rfl
    | dp d => rfl
    | un => cases h1
    | vo d => cases h1
    | vt d => cases h1
    | bw d => cases h1
/-- the items of shared cells -/
theorem rps_dem : ∀ {tl : List Cell} {xs : List V}, (∀ c ∈ tl, c.s.good = true) → (∀ c ∈ tl.map Cell.dem, CellOk K A H c) → tl.map (·.v) = xs.map some → ∃ F, Rps K H (tl.map fun c => c.s.d) xs F ∧ ∀ a ∈ F, a ∉ A
  | [], xs, _, _, hv => by
    have : xs = [] := by cases xs <;> simp at hv ⊢
    subst this
    exact ⟨[], Rps.nil, by simp⟩
  | c :: tl, xs, hg, hc, hv => by
    cases xs with
    | nil => simp at hv
    | cons x xs =>
      have hv' : c.v = some x ∧ tl.map (·.v) = xs.map some := by simpa using hv
      obtain ⟨F, r, a1⟩ := rps_dem (fun d hd => hg d (by simp [hd])) (fun d hd => hc d (by rw [List.map_cons]; exact List.mem_cons_of_mem _ hd)) hv'.2
      obtain ⟨y, G, e1, e2, a2⟩ := (hc c.dem (by simp)).dem_rp (hg c (by simp))
      have : x = y := Option.some.inj (hv'.1.symm.trans e1)
      subst this
      refine ⟨G ++ F, Rps.cons e2 r, fun a ha => ?_⟩
      rcases List.mem_append.mp ha with ha | ha
      · exact a2 a ha
      · exact a1 a ha
/-- the items of cells that own all that is theirs -/
theorem rps_dp : ∀ {tl : List Cell} {xs : List V}, (∀ c ∈ tl, c.s.isDp = true) → (∀ c ∈ tl, CellOk K A H c) → tl.map (·.v) = xs.map some → Rps [] H (tl.map fun c => c.s.d) xs (fp tl)
  | [], xs, _, _, hv => by
    have : xs = [] := by cases xs <;> simp at hv ⊢
    subst this
    exact Rps.nil
  | c :: tl, xs, hg, hc, hv => by
    cases xs with
    | nil => simp at hv
    | cons x xs =>
      have hv' : c.v = some x ∧ tl.map (·.v) = xs.map some := by simpa using hv
      have r := rps_dp (fun d hd => hg d (by simp [hd])) (fun d hd => hc d (by simp [hd])) hv'.2
      have h1 := hg c (by simp)
      have h2 := hc c (by simp)
      rw [fp_cons]
      obtain ⟨v, s, f⟩ := c
      cases s with
      | dp d =>
        obtain ⟨y, e1, e2⟩ := h2
        have e1' : v = some y := e1
        have : x = y := Option.some.inj (hv'.1.symm.trans e1')
        subst this
        exact Rps.cons e2 r
      | _ => cases h1
end
section
variable {X : Cx} {mf : Nat → Bool} {Φ : Nat → List D → Option (Sl × D)} {pos : Pos}
theorem tes_nil {m : Md} : PA X [] (tEs X.K mf Φ m .nil) := by
  refine ⟨fun pos pins s σ H Q I q => ?_⟩
  obtain ⟨S, H0, P, cs, ts, rs, env, rfl, o, he, hq, k⟩ := q
  unfold evs at he
  cases he
  exact pa_nil.run pos pins s _ H Q I (k [] H cs [] rfl rfl rfl rfl (by simpa using o) fun _ => Same.refl H)
theorem tes_cons {m : Md} {e : Expr} {es : List Expr} {x : Ex} {xs : Exs} (hs : starEach (e :: es) X.env = (false, eval e X.env) :: starEach es X.env) (ha : ∀ m, PE X e (tE X.K mf Φ m x)) (hb : ∀ m, PA X es (tEs X.K mf Φ m xs)) : PA X (e :: es) (tEs X.K mf Φ m (.cons x xs)) := by
  have base := pa_cons (ha m) (hb m) hs
  refine ⟨fun pos pins s σ H Q I q => base.run pos pins s σ H Q I ?_⟩
  obtain ⟨S, H0, P, cs, ts, rs, env, rfl, o, he, hq, k⟩ := q
  unfold evs at he
  simp only [Option.bind_eq_bind, Option.bind_eq_some_iff] at he
  obtain ⟨⟨y, e1⟩, h1, ⟨ys, e2⟩, h2, he⟩ := he
  simp only at h1 h2 he
  cases he
  have hq' : (quiet mf x && quiets mf xs) = true ∨ (noVo ts ∧ m ≠ .bor) := by simpa only [quiets] using hq
  refine one o h1 (hq'.imp (fun h => (Bool.and_eq_true_iff.mp h).1) (·.1)) fun vx H1 cs1 f hv hs1 o1 same1 => ?_
  rw [← hv]
  subst hs1
  refine ⟨S, H0, P, cs1, ts ++ [⟨some vx, y, f⟩], ys, env, rfl, by simpa using o1, h2, ?_, fun vs H2 cs2 tl hv2 hs2 ht1 ht2 o2 same2 => ?_⟩
  · rcases hq' with h | ⟨h, hm⟩
    · exact .inl (Bool.and_eq_true_iff.mp h).2
    · exact .inr ⟨noVo_app h (noVo_one (good_noVo (ev_noVo _ _ _ _ _ hm h1))), hm⟩
  · refine k (vx :: vs) H2 cs2 (⟨some vx, y, f⟩ :: tl) (hv2.trans hv) hs2 (by simp [ht1]) (by simp [ht2]) (by simpa using o2) fun hh => ?_
    have hh' : (quiet mf x && quiets mf xs) = true := by simpa only [quiets] using hh
    obtain ⟨c1, c2⟩ := Bool.and_eq_true_iff.mp hh'
    exact (same1 c1).trans (same2 c2)
theorem evs_good : ∀ (es : Exs) (m : Md) (env : Ev) (rs : List Sl) (env' : Ev), m ≠ .bor → evs mf Φ m es env = some (rs, env') → ∀ r ∈ rs, r.good = true
  | .nil, m, env, rs, env', _, h, r, hr => by unfold evs at h; cases h; simp at hr
  | .cons e es, m, env, rs, env', hm, h, r, hr => by
    unfold evs at h
    simp only [Option.bind_eq_bind, Option.bind_eq_some_iff] at h
    obtain ⟨⟨y, e1⟩, h1, ⟨ys, e2⟩, h2, h⟩ := h
    cases h
    rcases List.mem_cons.mp hr with rfl | hr
    · exact ev_noVo _ _ _ _ _ hm h1
    · exact evs_good es m e1 ys e2 hm h2 r hr
theorem evs_nu : ∀ (es : Exs) (m : Md) (env : Ev) (rs : List Sl) (env' : Ev), evs mf Φ m es env = some (rs, env') → ∀ r ∈ rs, r ≠ .un
  | .nil, m, env, rs, env', h, r, hr => by unfold evs at h; cases h; simp at hr
  | .cons e es, m, env, rs, env', h, r, hr => by
    unfold evs at h
    simp only [Option.bind_eq_bind, Option.bind_eq_some_iff] at h
    obtain ⟨⟨y, e1⟩, h1, ⟨ys, e2⟩, h2, h⟩ := h
    cases h
    rcases List.mem_cons.mp hr with rfl | hr
    · exact ev_un h1
    · exact evs_nu es m e1 ys e2 h2 r hr
theorem evs_gv : ∀ (es : Exs) (m : Md) (env : Ev) (rs : List Sl) (env' : Ev), evs mf Φ m es env = some (rs, env') → ∀ r ∈ rs, r.good = true ∨ r.isVo = true
  | .nil, m, env, rs, env', h, r, hr => by unfold evs at h; cases h; simp at hr
  | .cons e es, m, env, rs, env', h, r, hr => by
    unfold evs at h
    simp only [Option.bind_eq_bind, Option.bind_eq_some_iff] at h
    obtain ⟨⟨y, e1⟩, h1, ⟨ys, e2⟩, h2, h⟩ := h
    cases h
    rcases List.mem_cons.mp hr with rfl | hr
    · exact ev_nu _ _ _ _ _ h1
    · exact evs_gv es m e1 ys e2 h2 r hr
theorem same_upd {H : Hp} {p : Addr} {o : HO} (hp : H p = none) : Same H (upd H p o) := fun b u e => by rw [upd_ne (ne_of_none e hp)]; exact e
/-- a list of cells and its slots -/
theorem tl_d {tl : List Cell} {rs : List Sl} (h : tl.map (·.s) = rs) : (tl.map fun c => c.s.d) = rs.map (·.d) := by subst h; simp
theorem tl_all {tl : List Cell} {rs : List Sl} {p : Sl → Prop} (h : tl.map (·.s) = rs) (hp : ∀ r ∈ rs, p r) : ∀ c ∈ tl, p c.s := fun c hc => hp c.s (by subst h; exact List.mem_map.mpr ⟨c, hc, rfl⟩)
theorem len_of {tl : List Cell} {xs : List V} (h : tl.map (·.v) = xs.map some) : tl.length = xs.length := by simpa using congrArg List.length h
theorem te_tup {es : List Expr} {ex : Exs} {m : Md} {x1 : Nat} (h : ∀ m, PA X es (tEs X.K mf Φ m ex)) : PE X (.Tuple es x1 pos) (tE X.K mf Φ m (.tup ex)) := by
  refine PE.pull fun σ H Q q => ?_
  obtain ⟨S, H0, P, cs, ts, r0, env, rfl, o, he, hq, k⟩ := q
  unfold ev at he
  simp only [Option.bind_eq_bind, Option.bind_eq_some_iff] at he
  obtain ⟨⟨rs, e1⟩, h1, r', h2, he⟩ := he
  simp only at h1 h2 he
  cases he
  generalize hm : (if m = Md.mov then Md.mov else Md.val) = m' at h1
  have hm' : m' ≠ .bor := by rw [← hm]; split <;> decide
  have good := evs_good _ _ _ _ _ hm' h1
  refine ⟨_, pe_tup (h m'), S, H0, P, cs, ts, rs, env, rfl, o, h1, ?_, fun xs H' cs' tl hv hs t1 t2 o' same => ?_⟩
  · rcases hq with hq | hq
    · exact .inl (by simpa only [quiet] using hq)
    · exact .inr ⟨hq, hm'⟩
  have hlen := len_of t1
  have hlr : rs.length = tl.length := by rw [← t2]; simp
  unfold tupR at h2
  split at h2
  · cases h2
  rename_i hb
  have hsz : xs.length ≤ 100000 := by
    have : szOk rs.length = true := by
      cases q : szOk rs.length with
      | true => rfl
      | false => simp [q] at hb
    have : rs.length ≤ 100000 := by simpa [szOk] using this
    omega
  refine ⟨Nat.le_trans hsz line_big, fun p hp => ?_⟩
  have sm := same_upd (o := HO.tup xs) hp
  have o1 := o'.same sm
  have fin : ∀ f, Ok X.K S H0 P (upd H' p (.tup xs)) (cs' ++ ts ++ [⟨some (.ref p), r0, f⟩]) → Q (.ref p) (upd H' p (.tup xs)) := fun f of => k (.ref p) _ cs' f hv hs of fun hh => (same (by simpa only [quiet] using hh)).trans sm
  cases h2
  by_cases hd : rs.all (·.isDp) = true
  · rw [if_pos hd] at fin
    have alld : ∀ c ∈ tl, c.s.isDp = true := tl_all (p := fun r => r.isDp = true) t2 fun r hr => List.all_eq_true.mp hd r hr
    have rp := rps_dp alld (fun c hc => o1.cell c (by simp [hc])) t1
    rw [tl_d t2] at rp
    refine fin (fp tl) (Ok.absorb (q := []) (g := fp tl) o1 (Same.refl _) ⟨.ref p, rfl, ?_⟩ rfl (List.Sublist.refl _) (fun a ha => by simp at ha) (by simp) (fun a ha => by simp at ha) fun d => by simp)
    unfold Rp
    exact ⟨p, xs, rfl, upd_same, rp⟩
  · rw [if_neg hd] at fin
    have o2 := o1.demAll
    have gd : ∀ c ∈ tl, c.s.good = true := tl_all (p := fun r => r.good = true) t2 good
    obtain ⟨F, rp, av⟩ := rps_dem gd (fun c hc => o2.cell c (by simp [hc])) t1
    rw [tl_d t2] at rp
    have o3 := o2.drop (cs' := cs' ++ ts) (List.sublist_append_left _ _)
    refine fin [] (o3.add0 ⟨.ref p, F, rfl, ?_, fun a ha q => av a ha ?_, rfl⟩ rfl fun d => by simp)
    · unfold Rp
      exact ⟨p, xs, rfl, upd_same, rp⟩
    · rw [fp_append, ← List.append_assoc]
      exact List.mem_append_left _ q
theorem te_lst {es : List Expr} {ex : Exs} {m : Md} (h : ∀ m, PA X es (tEs X.K mf Φ m ex)) : PE X (.List es pos) (tE X.K mf Φ m (.lst ex)) := by
  refine PE.pull fun σ H Q q => ?_
  obtain ⟨S, H0, P, cs, ts, r0, env, rfl, o, he, hq, k⟩ := q
  unfold ev at he
  simp only [Option.bind_eq_bind, Option.bind_eq_some_iff] at he
  obtain ⟨⟨rs, e1⟩, h1, r', h2, he⟩ := he
  simp only at h1 h2 he
  cases he
  generalize hm : (if m = Md.mov then Md.mov else Md.val) = m' at h1
  have hm' : m' ≠ .bor := by rw [← hm]; split <;> decide
  have good := evs_good _ _ _ _ _ hm' h1
  refine ⟨_, pe_lst (h m'), S, H0, P, cs, ts, rs, env, rfl, o, h1, ?_, fun xs H' cs' tl hv hs t1 t2 o' same => ?_⟩
  · rcases hq with hq | hq
    · exact .inl (by simpa only [quiet] using hq)
    · exact .inr ⟨hq, hm'⟩
  have hlen := len_of t1
  have hlr : rs.length = tl.length := by rw [← t2]; simp
  unfold lstR at h2
  split at h2
  · cases h2
  rename_i hb
  have hsz : xs.length ≤ 100000 := by
    have : szOk rs.length = true := by
      cases q : szOk rs.length with
      | true => rfl
      | false => simp [q] at hb
    have : rs.length ≤ 100000 := by simpa [szOk] using this
    omega
  refine ⟨Nat.le_trans hsz line_big, fun p hp => ?_⟩
  have sm := same_upd (o := HO.lst xs) hp
  have fin : ∀ f, Ok X.K S H0 P (upd H' p (.lst xs)) (cs' ++ ts ++ [⟨some (.ref p), r0, f⟩]) → Q (.ref p) (upd H' p (.lst xs)) := fun f of => k (.ref p) _ cs' f hv hs of fun hh => (same (by simpa only [quiet] using hh)).trans sm
  have nq : ∀ a ∈ [p], H' a = none := fun a ha => by have : a = p := by simpa using ha
                                                     rw [this]; exact hp
  have mq : ∀ a ∈ [p], Mut (upd H' p (.lst xs) a) := fun a ha => by
    have : a = p := by simpa using ha
    rw [this, upd_same]; trivial
  cases h2
  by_cases hd : rs.all (·.isDp) = true
  · rw [if_pos hd] at fin
    have alld : ∀ c ∈ tl, c.s.isDp = true := tl_all (p := fun r => r.isDp = true) t2 fun r hr => List.all_eq_true.mp hd r hr
    have rp := rps_dp alld (fun c hc => o'.cell c (by simp [hc])) t1
    rw [tl_d t2] at rp
    have rp' := Rps.frame (.same sm) _ _ _ rp fun a _ h => by simp at h
    refine fin (p :: fp tl) (Ok.absorb (q := [p]) (g := fp tl) o' sm ⟨.ref p, rfl, ?_⟩ rfl (List.Sublist.refl _) nq (by simp) mq fun d => by simp)
    unfold Rp
    exact .inl ⟨p, xs, fp tl, rfl, .inl upd_same, rfl, rp'⟩
  · rw [if_neg hd] at fin
    have o2 := o'.demAll
    have gd : ∀ c ∈ tl, c.s.good = true := tl_all (p := fun r => r.good = true) t2 good
    obtain ⟨F, rp, av⟩ := rps_dem gd (fun c hc => o2.cell c (by simp [hc])) t1
    rw [tl_d t2] at rp
    have o3 := o2.drop (cs' := cs' ++ ts) (List.sublist_append_left _ _)
    have rp' := Rps.frame (.same sm) _ _ _ rp fun a _ h => by simp at h
    refine fin [p] (o3.push sm ⟨p, F, rfl, ?_, fun a ha q => ?_, rfl⟩ nq (by simp) mq fun d => by simp)
    · unfold Rp
      exact .inl ⟨p, xs, F, rfl, .inl upd_same, rfl, rp'⟩
    · rcases List.mem_append.mp q with q | q
      · refine av a ha ?_
        rw [fp_append, ← List.append_assoc]
        exact List.mem_append_left _ q
      · obtain ⟨u, hu⟩ := Rps.alive _ _ _ rp a ha
        exact Rd.some hu (nq a q)
theorem te_dnew {m : Md} : PE X (.Dict [] [] pos) (tE X.K mf Φ m (.dnew true)) := by
  refine weak pe_dnewT fun σ H Q q => ?_
  obtain ⟨S, H0, P, cs, ts, r0, env, rfl, o, he, hq, k⟩ := q
  unfold ev at he
  cases he
  intro p hp
  have sm := same_upd (o := HO.dT []) hp
  refine k (.ref p) _ cs [p] rfl rfl (o.push sm ⟨.ref p, rfl, ?_⟩ (fun a ha => ?_) (by simp) (fun a ha => ?_) fun d => by simp) fun _ => sm
  · unfold Rp
    exact ⟨p, [], [], rfl, .inl upd_same, rfl, by unfold Rpv; exact ⟨rfl, rfl⟩⟩
  · have : a = p := by simpa using ha
    rw [this]; exact hp
  · have : a = p := by simpa using ha
    rw [this, upd_same]; trivial
end
end Tv
set_option maxHeartbeats 1000000
/-! TvI: items and slices. -/
namespace Tv
open PySem PySem.Spec PyProof.Rows L2
section
variable {K : PySem.W.Frag} {S A A' : List Addr} {H0 H H' : Hp} {P M : List Addr} {cs tl l r ts : List Cell} {c : Cell}
/-- the items of what a cell that owns its top holds are shared -/
theorem Rp.top {ds : List D} {p : Addr} {F : List Addr} (h : Rp K H (.list ds) (.ref p) (p :: F)) : ∃ xs, SqL K H p xs ∧ Rps K H ds xs F := by
  unfold Rp at h
  rcases h with ⟨a, xs, G, e1, e2, e3, e4⟩ | ⟨a, xs, e1, e2, e3, e4⟩
  · cases e1
    obtain rfl : F = G := (List.cons.inj e3).2
    exact ⟨xs, .inl e2, e4⟩
  · cases e3
theorem Rp.topD {es : List (D × D)} {p : Addr} {F : List Addr} (h : Rp K H (.dict es) (.ref p) (p :: F)) : ∃ kvs, Rd H p (.dT kvs) ∧ Rpv K H es kvs F := by
  obtain ⟨a, kvs, G, e1, e2, e3, e4⟩ := Rp.dict h
  cases e1
  obtain rfl : F = G := (List.cons.inj e3).2
  exact ⟨kvs, e2, e4⟩
end
section
variable {X : Cx} {mf : Nat → Bool} {Φ : Nat → List D → Option (Sl × D)} {pos : Pos}
/-- what a temporary cell reads: borrowed, borrowed with its items shared, or shared (once it gives up its own) -/
def Av (c : Cell) (A : List Addr) (G : List Addr) : Prop := (∃ q, c.s = .vo q) ∨ (∃ t, c.s = .vt (.tuple t)) ∨ ∀ a ∈ G, a ∉ A
theorem mono_fp {S : List Addr} {cs tl : List Cell} (a : Addr) (q : a ∈ S ++ fp cs) : a ∈ S ++ fp (cs ++ tl) := by
  rw [fp_append, ← List.append_assoc]
  exact List.mem_append_left _ q
theorem open_any {S : List Addr} {H0 H' : Hp} {P : List Addr} {cs tl : List Cell} {c : Cell} {vx : V} (o : Ok X.K S H0 P H' (cs ++ c :: tl)) (ev : c.v = some vx) (hx : c.s.good = true ∨ c.s.isVo = true) :
    ∃ F, Rp X.K H' c.s.d vx F ∧ ((∃ q, c.s = .vo q) ∨ (∃ p F' q, c.s = .vt q ∧ F = p :: F' ∧ vx = .ref p ∧ ∀ a ∈ F', a ∉ S ++ fp cs) ∨ ∀ a ∈ F, a ∉ S ++ fp cs) := by
  have hc := o.cell c (by simp)
  have good : c.s.good = true → ∃ F, Rp X.K H' c.s.d vx F ∧ ∀ a ∈ F, a ∉ S ++ fp cs := fun gx => by
    have o1 := o.dem
    obtain ⟨w, F, e1, rx, av⟩ := (o1.cell c.dem (by simp)).dem_rp gx
    rw [ev] at e1
    cases e1
    exact ⟨F, rx, fun a ha q => av a ha (mono_fp a q)⟩
  rcases hx with gx | hv
  · obtain ⟨F, h1, h2⟩ := good gx
    exact ⟨F, h1, .inr (.inr h2)⟩
  · obtain ⟨cv, x, f⟩ := c
    have ev' : cv = some vx := ev
    cases x with
    | vo q =>
      obtain ⟨w, F, e1, rx, _⟩ := hc
      have e1' : cv = some w := e1
      rw [ev'] at e1'
      cases e1'
      exact ⟨F, rx, .inl ⟨q, rfl⟩⟩
    | vt q =>
      obtain ⟨p, F, e1, rx, av, _⟩ := hc
      have e1' : cv = some (V.ref p) := e1
      rw [ev'] at e1'
      cases e1'
      exact ⟨p :: F, rx, .inr (.inl ⟨p, F, q, rfl, rfl, rfl, fun a ha z => av a ha (mono_fp a z)⟩)⟩
    | _ => cases hv
theorem open_list {S : List Addr} {H0 H' : Hp} {P : List Addr} {cs tl : List Cell} {c : Cell} {vx : V} {ds : List D} (o : Ok X.K S H0 P H' (cs ++ c :: tl)) (ev : c.v = some vx) (hx : c.s.good = true ∨ c.s.isVo = true) (dx : c.s.d = .list ds) :
    ∃ p xs G, vx = .ref p ∧ SqL X.K H' p xs ∧ Rps X.K H' ds xs G ∧ Av c (S ++ fp cs) G := by
  obtain ⟨F, r, h⟩ := open_any o ev hx
  rw [dx] at r
  rcases h with h | ⟨p, F', q, e1, e2, e3, e4⟩ | h
  · obtain ⟨p, xs, G, a1, a2, a3, _⟩ := Rp.list r
    exact ⟨p, xs, G, a1, a2, a3, .inl h⟩
  · subst e2 e3
    obtain ⟨xs, a2, a3⟩ := Rp.top r
    exact ⟨p, xs, F', rfl, a2, a3, .inr (.inr e4)⟩
  · obtain ⟨p, xs, G, a1, a2, a3, a4⟩ := Rp.list r
    exact ⟨p, xs, G, a1, a2, a3, .inr (.inr fun a ha => h a (a4 a ha))⟩
theorem open_tup {S : List Addr} {H0 H' : Hp} {P : List Addr} {cs tl : List Cell} {c : Cell} {vx : V} {ds : List D} (o : Ok X.K S H0 P H' (cs ++ c :: tl)) (ev : c.v = some vx) (hx : c.s.good = true ∨ c.s.isVo = true) (dx : c.s.d = .tuple ds) :
    ∃ p xs G, vx = .ref p ∧ H' p = some (.tup xs) ∧ Rps X.K H' ds xs G ∧ Av c (S ++ fp cs) G := by
  obtain ⟨F, r, h⟩ := open_any o ev hx
  rw [dx] at r
  obtain ⟨p, xs, a1, a2, a3⟩ := Rp.tuple r
  rcases h with h | ⟨p', F', q, e1, e2, e3, e4⟩ | h
  · exact ⟨p, xs, F, a1, a2, a3, .inl h⟩
  · exact ⟨p, xs, F, a1, a2, a3, .inr (.inl ⟨ds, by rw [e1]; rw [e1] at dx; exact congrArg Sl.vt dx⟩)⟩
  · exact ⟨p, xs, F, a1, a2, a3, .inr (.inr h)⟩
theorem open_dict {S : List Addr} {H0 H' : Hp} {P : List Addr} {cs tl : List Cell} {c : Cell} {vx : V} {es : List (D × D)} (o : Ok X.K S H0 P H' (cs ++ c :: tl)) (ev : c.v = some vx) (hx : c.s.good = true ∨ c.s.isVo = true) (dx : c.s.d = .dict es) :
    ∃ p kvs G, vx = .ref p ∧ Rd H' p (.dT kvs) ∧ Rpv X.K H' es kvs G ∧ Av c (S ++ fp cs) G := by
  obtain ⟨F, r, h⟩ := open_any o ev hx
  rw [dx] at r
  rcases h with h | ⟨p, F', q, e1, e2, e3, e4⟩ | h
  · obtain ⟨p, xs, G, a1, a2, a3, a4⟩ := Rp.dict r
    exact ⟨p, xs, G, a1, a2, a4, .inl h⟩
  · subst e2 e3
    obtain ⟨xs, a2, a3⟩ := Rp.topD r
    exact ⟨p, xs, F', rfl, a2, a3, .inr (.inr e4)⟩
  · obtain ⟨p, xs, G, a1, a2, a3, a4⟩ := Rp.dict r
    exact ⟨p, xs, G, a1, a2, a4, .inr (.inr fun a ha => h a (by rw [a3]; exact List.mem_cons_of_mem _ ha))⟩
/-- the item d (as v) of what a temporary holds takes the temporaries' place -/
theorem item_fin {S : List Addr} {H0 H' : Hp} {P : List Addr} {cs tl : List Cell} {c : Cell} {v : V} {r0 : Sl} {d : D} {m : Md} {G : List Addr}
    (o : Ok X.K S H0 P H' (cs ++ c :: tl)) (hr : itemRes m c.s d = some r0) (rg : Rp X.K H' d v G) (av : Av c (S ++ fp cs) G) : ∃ f', Ok X.K S H0 P H' (cs ++ [⟨some v, r0, f'⟩]) := by
  have ob : Ok X.K S H0 P H' cs := o.drop (List.sublist_append_left _ _)
  unfold itemRes at hr
  split at hr
  · rename_i hi
    cases hr
    have := Rp.imm d v G hi rg
    subst this
    exact ⟨[], ob.addI (Rp.nar _ _ _ hi rg)⟩
  · split at hr
    · split at hr
      · cases hr
        exact ⟨[], ob.add0 ⟨v, G, rfl, rg, rfl⟩ rfl fun _ => by simp⟩
      · cases hr
    · cases hr
    · rename_i n1 n2
      cases hr
      refine ⟨[], ob.add0 ⟨v, G, rfl, rg, ?_, rfl⟩ rfl fun _ => by simp⟩
      rcases av with ⟨q, e⟩ | ⟨t, e⟩ | h
      · exact absurd e (n1 q)
      · exact absurd e (n2 t)
      · exact h
theorem Av.sub {c : Cell} {A G G' : List Addr} (h : Av c A G) (s : ∀ a ∈ G', a ∈ G) : Av c A G' := by
  rcases h with h | h | h
  · exact .inl h
  · exact .inr (.inl h)
  · exact .inr (.inr fun a ha => h a (s a ha))
theorem te_idx {a i : Expr} {ea ei : Ex} {m : Md} (hu : X.A.units + 64 < cLine) (hi : PlainIx i) (ha : ∀ m, PE X a (tE X.K mf Φ m ea)) (hb : ∀ m, PE X i (tE X.K mf Φ m ei)) : PE X (.Subscript a i pos) (tE X.K mf Φ m (.idx ea ei)) := by
  refine PE.pull fun σ H Q q => ?_
  obtain ⟨S, H0, P, cs, ts, r0, env, rfl, o, he, hq, k⟩ := q
  unfold ev at he
  simp only [Option.bind_eq_bind, Option.bind_eq_some_iff] at he
  obtain ⟨⟨x, e1⟩, h1, he⟩ := he
  simp only at h1 he
  split at he
  · cases he
  rename_i hvq
  simp only [Option.bind_eq_some_iff] at he
  obtain ⟨⟨y, e2⟩, h2, d, hd, r', hr, he⟩ := he
  simp only at h2 hd hr he
  cases he
  have hq' : (quiet mf ea && quiet mf ei) = true ∨ noVo ts := by simpa only [quiet] using hq
  have hb' : quiet mf ei = true ∨ x.isVo = false := by
    cases q1 : quiet mf ei with
    | true => exact .inl rfl
    | false =>
      right
      cases q2 : x.isVo with
      | false => rfl
      | true => rw [q1, q2] at hvq; exact absurd rfl hvq
  have gx := ev_nu _ _ _ _ _ h1
  have uy := noUn h2
  have fin : ∀ {vx vy v : V} {H' : Hp} {cs' : List Cell} {f g G : List Addr}, cs'.map (·.v) = cs.map (·.v) → cs'.map (·.s) = env → Ok X.K S H0 P H' (cs' ++ ts ++ [⟨some vx, x, f⟩, ⟨some vy, y, g⟩]) → ((quiet mf ea && quiet mf ei) = true → Same H H') →
      Rp X.K H' d v G → Av ⟨some vx, x, f⟩ (S ++ fp (cs' ++ ts)) G → Q v H' := fun {vx vy v H' cs' f g G} hv hs o' same rg av => by
    obtain ⟨f', of⟩ := item_fin o' hr rg av
    exact k v H' cs' f' hv hs of (by simpa only [quiet] using same)
  have gety : ∀ {vx vy : V} {H' : Hp} {cs' : List Cell} {f g : List Addr}, Ok X.K S H0 P H' (cs' ++ ts ++ [⟨some vx, x, f⟩, ⟨some vy, y, g⟩]) → ∃ G, Rp X.K H' y.d vy G := fun {vx vy H' cs' f g} o' => by
    obtain ⟨vy', G, e2, ry⟩ := (o'.cell ⟨some vy, y, g⟩ (by simp)).rp uy
    cases e2
    exact ⟨G, ry⟩
  cases dx : x.d with
  | list ds =>
    cases dy : y.d with
    | int i' =>
      rw [dx, dy] at hd
      have hd' : (L2.ixN ds.length i').bind (fun j => ds[j]?) = some d := hd
      obtain ⟨j, hj, hjd⟩ := Option.bind_eq_some_iff.mp hd'
      refine ⟨_, pe_ix ix_list (ha .bor) (hb .val) hi, two o h1 h2 hq' hb' fun vx vy H' cs' f g hv hs o' same => ?_⟩
      obtain ⟨G, ry⟩ := gety o'
      obtain ⟨p, xs, G', ep, sl, rl, av⟩ := open_list (c := ⟨some vx, x, f⟩) o' rfl gx dx
      obtain ⟨v, Gv, hvj, rv, subv⟩ := rl.get hjd
      refine ⟨p, xs, i', v, ep, Rp.int_eq (by rw [← dy]; exact ry), sl, ?_, fin hv hs o' same rv (av.sub subv)⟩
      show (L2.ixN xs.length i').bind (fun j => xs[j]?) = some v
      rw [rl.length, hj]
      exact hvj
    | _ => rw [dx, dy] at hd; cases hd
  | tuple ds =>
    cases dy : y.d with
    | int i' =>
      rw [dx, dy] at hd
      have hd' : (L2.ixN ds.length i').bind (fun j => ds[j]?) = some d := hd
      obtain ⟨j, hj, hjd⟩ := Option.bind_eq_some_iff.mp hd'
      refine ⟨_, pe_ix ix_tup (ha .bor) (hb .val) hi, two o h1 h2 hq' hb' fun vx vy H' cs' f g hv hs o' same => ?_⟩
      obtain ⟨G, ry⟩ := gety o'
      obtain ⟨p, xs, G', ep, sl, rl, av⟩ := open_tup (c := ⟨some vx, x, f⟩) o' rfl gx dx
      obtain ⟨v, Gv, hvj, rv, subv⟩ := rl.get hjd
      refine ⟨p, xs, i', v, ep, Rp.int_eq (by rw [← dy]; exact ry), SqT.of sl, ?_, fin hv hs o' same rv (av.sub subv)⟩
      show (L2.ixN xs.length i').bind (fun j => xs[j]?) = some v
      rw [rl.length, hj]
      exact hvj
    | _ => rw [dx, dy] at hd; cases hd
  | dict es =>
    rw [dx] at hd
    have hd' : (if isTKey y.d = true then getD' es y.d else none) = some d := hd
    split at hd'
    · rename_i hk
      obtain ⟨kk, ek⟩ := tkey_of hk
      refine ⟨_, pe_dget (by omega) (ha .bor) (hb .val) hi, two o h1 h2 hq' hb' fun vx vy H' cs' f g hv hs o' same => ?_⟩
      obtain ⟨G, ry⟩ := gety o'
      obtain ⟨bk, ebk, hbk⟩ := Rp.tkey (k := kk) (by rw [← ek]; exact ry)
      obtain ⟨p, kvs, G', ep, sl, rl, av⟩ := open_dict (c := ⟨some vx, x, f⟩) o' rfl gx dx
      obtain ⟨v, Gv, hvv, rv, subv⟩ := (Rpv.val (k := kk) rl).2 d (by rw [← ek]; exact hd')
      exact ⟨p, v, ep, .inr ⟨kvs, kk, bk, sl, ebk, hbk, hvv.symm⟩, fin hv hs o' same rv (av.sub subv)⟩
    · cases hd'
  | _ => rw [dx] at hd; cases dy : y.d <;> (rw [dy] at hd; cases hd)
end
end Tv
set_option maxHeartbeats 1000000
/-! TvJ: slices, isinstance, built-in functions. -/
namespace Tv
open PySem PySem.Spec PyProof.Rows L2
def partD : D → Option Int
  | .int i => some i
  | _ => none
section
variable (K : PySem.W.Frag) (mf : Nat → Bool) (Φ : Nat → List D → Option (Sl × D))
/-- a slice's end -/
def tO (e : Ex) : TO := fun σ H Q => ∃ S H0 P cs ts r env, σ = cs.map (·.v) ∧ Ok K S H0 P H (cs ++ ts) ∧ ev mf Φ .val e (cs.map (·.s)) = some (r, env) ∧ (isNoneEx e || isIntD r.d) = true ∧
  (quiet mf e = true ∨ noVo ts) ∧ ∀ H' cs', cs'.map (·.v) = cs.map (·.v) → cs'.map (·.s) = env → Ok K S H0 P H' (cs' ++ ts) → (quiet mf e = true → Same H H') → Q (partD r.d) H'
end
section
variable {X : Cx} {mf : Nat → Bool} {Φ : Nat → List D → Option (Sl × D)} {pos : Pos}
theorem weakO {e : Option Expr} {t t' : TO} (h : PO X e t) (w : ∀ σ H Q, t' σ H Q → t σ H Q) : PO X e t' := ⟨fun pins s σ H Q I q => h.run pins s σ H Q I (w σ H Q q)⟩
theorem to_none {e : Ex} (h : isNoneEx e = true) : PO X none (tO X.K mf Φ e) := by
  refine weakO po_none fun σ H Q q => ?_
  obtain ⟨S, H0, P, cs, ts, r, env, rfl, o, he, _, hq, k⟩ := q
  unfold isNoneEx at h
  split at h
  · unfold ev at he
    simp only [imm, if_true] at he
    cases he
    exact k H cs rfl rfl o fun _ => Same.refl H
  · cases h
theorem to_some {x : Expr} {e : Ex} (h : isNoneEx e = false) (hx : ∀ m, PE X x (tE X.K mf Φ m e)) : PO X (some x) (tO X.K mf Φ e) := by
  refine weakO (po_some (hx .val)) fun σ H Q q => ?_
  obtain ⟨S, H0, P, cs, ts, r, env, rfl, o, he, hi, hq, k⟩ := q
  rw [h, Bool.false_or] at hi
  refine one o he hq fun vx H' cs' f hv hs o' same => ?_
  obtain ⟨w, F, e1, rr⟩ := (o'.cell ⟨some vx, r, f⟩ (by simp)).rp (noUn he)
  cases e1
  have kk := k H' cs' hv hs (o'.drop (List.sublist_append_left _ _)) same
  cases dr : r.d with
  | int i =>
    rw [dr] at kk
    exact ⟨i, Rp.int_eq (by rw [← dr]; exact rr), kk⟩
  | _ => rw [dr] at hi; cases hi
theorem sliceEnd_ok {n dflt : Nat} {d : D} {a : Nat} (h : sliceEnd n dflt d = some a) : HT.sIx n dflt (partD d) = a := by
  cases d with
  | none => exact Option.some.inj h
  | int i => exact Option.some.inj h
  | _ => cases h
theorem imms_take : ∀ {ds : List D} {n : Nat}, imms ds = true → imms (ds.take n) = true
  | [], n, _ => by simp [imms]
  | d :: ds, 0, _ => by simp [imms]
  | d :: ds, n + 1, h => by
    have h' : imm d = true ∧ imms ds = true := by simpa [imms] using h
    rw [List.take_succ_cons, imms, h'.1, imms_take h'.2]; rfl
/-- a new list of items that a temporary lent: the items are shared, or know no list -/
theorem newList_fin {S : List Addr} {H0 H' : Hp} {P : List Addr} {cs tl : List Cell} {c : Cell} {xs : List V} {ds : List D} {G : List Addr} {p : Addr}
    (o : Ok X.K S H0 P H' (cs ++ c :: tl)) (hp : H' p = none) (rg : Rps X.K H' ds xs G) (av : imms ds = true ∨ ∀ a ∈ G, a ∉ S ++ fp cs) : Ok X.K S H0 P (upd H' p (.lst xs)) (cs ++ [⟨some (.ref p), mkList ds, [p]⟩]) := by
  have ob : Ok X.K S H0 P H' cs := o.drop (List.sublist_append_left _ _)
  refine mkList_ok ob hp rg ?_
  rcases av with h | h
  · rw [Rps.imm ds xs G h rg]
    intro a ha
    simp at ha
  · exact h
theorem te_slc {a : Expr} {lo hi : Option Expr} {ea el eh : Ex} {m : Md} {p2 : Pos} (ha : ∀ m, PE X a (tE X.K mf Φ m ea)) (hl : PO X lo (tO X.K mf Φ el)) (hh : PO X hi (tO X.K mf Φ eh)) : PE X (.Subscript a (.Slice lo hi none p2) pos) (tE X.K mf Φ m (.slc ea el eh)) := by
  refine PE.pull fun σ H Q q => ?_
  obtain ⟨S, H0, P, cs, ts, r0, env, rfl, o, he, hq, k⟩ := q
  unfold ev at he
  simp only [Option.bind_eq_bind, Option.bind_eq_some_iff] at he
  obtain ⟨⟨x, e1⟩, h1, he⟩ := he
  simp only at h1 he
  split at he
  · cases he
  rename_i hvq
  simp only [Option.bind_eq_some_iff] at he
  obtain ⟨⟨y, e2⟩, h2, ⟨z, e3⟩, h3, he⟩ := he
  simp only at h2 h3 he
  split at he
  · cases he
  rename_i hpart
  simp only [Option.bind_eq_some_iff] at he
  obtain ⟨⟨l, ds⟩, hd, r', hr, he⟩ := he
  simp only at hd hr he
  cases he
  have gx := ev_nu _ _ _ _ _ h1
  have hq' : ((quiet mf ea && quiet mf el) && quiet mf eh) = true ∨ noVo ts := by simpa only [quiet] using hq
  obtain ⟨qal, qh⟩ := q2 hq'
  obtain ⟨qa, ql⟩ := q2 qal
  have pl : (isNoneEx el || isIntD y.d) = true := by
    cases w1 : isNoneEx el <;> cases w2 : isIntD y.d <;> first | rfl | exact absurd (by simp [w1, w2]) hpart
  have ph : (isNoneEx eh || isIntD z.d) = true := by
    cases w1 : isNoneEx eh <;> cases w2 : isIntD z.d <;> first | rfl | exact absurd (by simp [w1, w2]) hpart
  have novx : (quiet mf el = true ∧ quiet mf eh = true) ∨ x.isVo = false := by
    cases w : x.isVo with
    | false => exact .inr rfl
    | true =>
      rw [w, Bool.true_and] at hvq
      cases w1 : quiet mf el <;> cases w2 : quiet mf eh <;> first | exact .inl ⟨rfl, rfl⟩ | exact absurd (by simp [w1, w2]) hvq
  have qq : quiet mf (.slc ea el eh) = true → quiet mf ea = true ∧ quiet mf el = true ∧ quiet mf eh = true := fun w => by
    have w' : ((quiet mf ea && quiet mf el) && quiet mf eh) = true := by simpa only [quiet] using w
    obtain ⟨c1, c2⟩ := Bool.and_eq_true_iff.mp w'
    obtain ⟨c3, c4⟩ := Bool.and_eq_true_iff.mp c1
    exact ⟨c3, c4, c2⟩
  -- the three parts in a row
  have run : ∀ {r : V → Option Int → Option Int → Hp → VK → Prop}, SlR X r → (∀ vx H' cs' f, cs'.map (·.v) = cs.map (·.v) → cs'.map (·.s) = env → Ok X.K S H0 P H' (cs' ++ ts ++ [⟨some vx, x, f⟩]) → (quiet mf (.slc ea el eh) = true → Same H H') → r vx (partD y.d) (partD z.d) H' Q) →
      ∃ t', PE X (.Subscript a (.Slice lo hi none p2) pos) t' ∧ t' (cs.map (·.v)) H Q := fun {r} hs kk => by
    refine ⟨_, pe_slice hs (ha .bor) hl hh, one o h1 qa fun vx H1 cs1 f hv1 hs1 o1 same1 => ?_⟩
    have nvt : noVo ts → x.isVo = false → noVo (ts ++ [⟨some vx, x, f⟩]) := fun w1 w2 => noVo_app w1 (noVo_one w2)
    subst hs1
    refine ⟨S, H0, P, cs1, ts ++ [⟨some vx, x, f⟩], y, e2, hv1.symm, by simpa using o1, h2, pl, ?_, fun H2 cs2 hv2 hs2 o2 same2 => ?_⟩
    · rcases novx with w | w
      · exact .inl w.1
      · exact ql.imp id fun w1 => nvt w1 w
    subst hs2
    refine ⟨S, H0, P, cs2, ts ++ [⟨some vx, x, f⟩], z, env, (hv2.trans hv1).symm, o2, h3, ph, ?_, fun H3 cs3 hv3 hs3 o3 same3 => ?_⟩
    · rcases novx with w | w
      · exact .inl w.2
      · exact qh.imp id fun w1 => nvt w1 w
    exact kk vx H3 cs3 f (hv3.trans (hv2.trans hv1)) hs3 (by simpa using o3) fun w => (same1 (qq w).1).trans ((same2 (qq w).2.1).trans (same3 (qq w).2.2))
  cases dx : x.d with
  | list es =>
    rw [dx] at hd
    unfold sliceD at hd
    simp only [Option.bind_eq_bind, Option.bind_eq_some_iff] at hd
    obtain ⟨na, hna, nb, hnb, hd⟩ := hd
    cases hd
    refine run sl_list fun vx H' cs' f hv hs o' same => ?_
    obtain ⟨p, xs, G, ep, sl, rl, av⟩ := open_list (c := ⟨some vx, x, f⟩) (tl := []) o' rfl gx dx
    obtain ⟨G1, r1, s1⟩ := rl.drop na
    obtain ⟨G2, r2, s2⟩ := r1.take (nb - na)
    refine ⟨p, xs, ep, sl, fun pn hpn => ?_⟩
    have ecut : cutV xs (partD y.d) (partD z.d) = (xs.drop na).take (nb - na) := by
      unfold cutV
      rw [rl.length, sliceEnd_ok hna, sliceEnd_ok hnb]
    rw [ecut]
    have sm := same_upd (o := HO.lst ((xs.drop na).take (nb - na))) hpn
    unfold sliceRes at hr
    have er : r0 = mkList ((es.drop na).take (nb - na)) ∧ (imms ((es.drop na).take (nb - na)) = true ∨ ∀ a ∈ G2, a ∉ S ++ fp (cs' ++ ts)) := by
      unfold mkList
      split at hr
      · rename_i hi
        cases hr
        exact ⟨by rw [if_pos hi]; rfl, .inl hi⟩
      · rename_i hi
        split at hr
        · cases hr
        · cases hr
        · rename_i n1 n2
          cases hr
          refine ⟨by rw [if_neg hi]; rfl, .inr fun a ha => ?_⟩
          rcases av with ⟨q, e⟩ | ⟨t, e⟩ | h
          · exact absurd e (n1 q)
          · exact absurd e (n2 t)
          · exact h a (s1 a (s2 a ha))
    have on := newList_fin (c := ⟨some vx, x, f⟩) (tl := []) o' hpn r2 er.2
    exact k (.ref pn) _ cs' [pn] hv hs (by rw [er.1]; exact on) fun w => (same w).trans sm
  | tuple es =>
    rw [dx] at hd
    unfold sliceD at hd
    simp only [Option.bind_eq_bind, Option.bind_eq_some_iff] at hd
    obtain ⟨na, hna, nb, hnb, hd⟩ := hd
    cases hd
    refine run sl_tupA fun vx H' cs' f hv hs o' same => ?_
    have ob : Ok X.K S H0 P H' (cs' ++ ts) := o'.drop (List.sublist_append_left _ _)
    obtain ⟨p, xs, G, ep, sl, rl, av⟩ := open_tup (c := ⟨some vx, x, f⟩) (tl := []) o' rfl gx dx
    obtain ⟨G1, r1, s1⟩ := rl.drop na
    obtain ⟨G2, r2, s2⟩ := r1.take (nb - na)
    have ecut : cutV xs (partD y.d) (partD z.d) = (xs.drop na).take (nb - na) := by
      unfold cutV
      rw [rl.length, sliceEnd_ok hna, sliceEnd_ok hnb]
    -- the tuple of these items at v
    have fin : ∀ (v : V) (H2 : Hp), Same H' H2 → Rp X.K H2 (.tuple ((es.drop na).take (nb - na))) v G2 → Q v H2 := fun v H2 sm rp => by
      have o2 := ob.same sm
      unfold sliceRes at hr
      split at hr
      · rename_i hi
        cases hr
        have eg := Rps.imm _ _ _ hi r2
        subst eg
        exact k v H2 cs' [] hv hs (o2.addI (Rp.nar _ _ _ (by simpa [imm] using hi) rp)) fun w => (same w).trans sm
      · split at hr
        · cases hr
        · cases hr
        · rename_i n1 n2
          cases hr
          refine k v H2 cs' [] hv hs (o2.add0 ⟨v, G2, rfl, rp, fun a ha => ?_, rfl⟩ rfl fun _ => by simp) fun w => (same w).trans sm
          rcases av with ⟨q, e⟩ | ⟨t, e⟩ | h
          · exact absurd e (n1 q)
          · exact absurd e (n2 t)
          · exact h a (s1 a (s2 a ha))
    refine ⟨p, xs, ep, SqT.of sl, fun hw => ?_, fun _ pn hpn => ?_⟩
    · rw [rl.length, sliceEnd_ok hna, sliceEnd_ok hnb] at hw
      refine fin (.ref p) H' (Same.refl H') ?_
      have exs : (xs.drop na).take (nb - na) = xs := by
        rw [hw.1, List.drop_zero, hw.2, Nat.sub_zero, ← rl.length, List.take_length]
      rw [exs] at r2
      unfold Rp
      exact ⟨p, xs, rfl, sl, r2⟩
    · rw [ecut]
      have sm := same_upd (o := HO.tup ((xs.drop na).take (nb - na))) hpn
      refine fin (.ref pn) _ sm ?_
      unfold Rp
      exact ⟨pn, _, rfl, upd_same, Rps.frame (.same sm) _ _ _ r2 fun a _ h => by simp at h⟩
  | _ => rw [dx] at hd; simp [sliceD] at hd
end
end Tv
set_option maxHeartbeats 1000000
/-! TvK: isinstance, built-in functions and methods. -/
namespace Tv
open PySem PySem.Spec PyProof.Rows L2
def Ty.nm : Ty → String
  | .int => "int"
  | .bool => "bool"
  | .tuple => "tuple"
  | .list => "list"
  | .str => "str"
  | .dict => "dict"
inductive Kd where
  | non | bl | int | str | lst | tup
def Kd.nm : Kd → String
  | .non => "NoneType"
  | .bl => "bool"
  | .int => "int"
  | .str => "str"
  | .lst => "list"
  | .tup => "tuple"
def Kd.is : Ty → Kd → Bool
  | .int, .int => true
  | .int, .bl => true
  | .bool, .bl => true
  | .tuple, .tup => true
  | .list, .lst => true
  | .str, .str => true
  | _, _ => false
theorem kit_kd (k : Kd) (t : Ty) : kitB k.nm t.nm = some (Kd.is t k) := by
  cases k <;> cases t <;> decide +kernel
def kdOf : D → Kd
  | .none => .non
  | .bool _ => .bl
  | .int _ => .int
  | .str _ => .str
  | .list _ => .lst
  | .tuple _ => .tup
  | .dict _ => .non
theorem kd_is {d : D} (h : isDictD d = false) (t : Ty) : Kd.is t (kdOf d) = t.is d := by
  cases d <;> cases t <;> first | rfl | cases h
theorem Rp.tyx {K : PySem.W.Frag} {H : Hp} {d : D} {v : V} {F : List Addr} (r : Rp K H d v F) (h : isDictD d = false) : TyX K H v (.type (kdOf d).nm) := by
  cases d with
  | none => rw [Rp.none_eq r]; exact .base .non
  | bool b => rw [Rp.bool_eq r]; exact .base (.bl b)
  | int i => rw [Rp.int_eq r]; exact .base (.int i)
  | str x => unfold Rp at r; rw [r.1]; exact .base (.str x)
  | list ds =>
    unfold Rp at r
    rcases r with ⟨a, xs, G, e1, e2, _, _⟩ | ⟨a, xs, e1, ⟨o, its, n, e2, e3, _⟩, _⟩
    · rw [e1]
      rcases e2 with e2 | ⟨ob, e2⟩
      · exact .base (.lst e2)
      · exact .base (.frz e2)
    · rw [e1]; exact .kList e2 e3
  | tuple ds =>
    obtain ⟨a, xs, e1, e2, _⟩ := Rp.tuple r
    rw [e1]; exact .base (.tup e2)
  | dict _ => cases h
section
variable {X : Cx} {mf : Nat → Bool} {Φ : Nat → List D → Option (Sl × D)} {pos : Pos}
theorem te_isi {a : Expr} {ea : Ex} {t : Ty} {m : Md} {fx tx : Str} {p p2 : Pos} (ha : ∀ m, PE X a (tE X.K mf Φ m ea)) (hs : starEach [a, .Name tx p2] X.env = (false, eval a X.env) :: starEach [.Name tx p2] X.env) (hpl : (backTo pos (starEach [.Name tx p2] X.env)).any (·.1) = false)
    (g1 : Gl X "isinstance") (m1 : X.mg "isinstance" = none) (ht : PE X (.Name tx p2) (tC (.ty t.nm))) : PE X (.Call (.Name "isinstance" p) [a, .Name tx p2] [] pos) (tE X.K mf Φ m (.isi ea t)) := by
  refine weak (pe_callB call_isi g1 m1 PyProof.Rows.boot_isinstance (pa_cons (ha .bor) (pa_cons ht pa_nil) hs) (he := hs) (hpl := hpl)) fun σ H Q q => ?_
  obtain ⟨S, H0, P, cs, ts, r0, env, rfl, o, he, hq, k⟩ := q
  unfold ev at he
  simp only [Option.bind_eq_bind, Option.bind_eq_some_iff] at he
  obtain ⟨⟨x, e1⟩, h1, he⟩ := he
  simp only at h1 he
  split at he
  · cases he
  rename_i hd
  cases he
  have hd' : isDictD x.d = false := by simpa using hd
  refine one o h1 (by simpa only [quiet] using hq) fun vx H' cs' f hv hs' o' same => ?_
  obtain ⟨w, F, e1, rr⟩ := (o'.cell ⟨some vx, x, f⟩ (by simp)).rp (noUn h1)
  cases e1
  refine ⟨vx, .ty t.nm, _, _, t.is x.d, rfl, .ty _, Rp.tyx rr hd', ?_, k (.bl _) H' cs' [] hv hs' (o'.res (tl := [_]) (Rp.mk_bool _)) (by simpa only [quiet] using same)⟩
  exact kit_ty (by rw [kit_kd, kd_is hd'])
/-! built-in functions -/
def Blt.val : Blt → Value
  | .len => .builtin "len"
  | .min2 => .builtin "min"
  | .max2 => .builtin "max"
  | .min1 => .builtin "min"
  | .max1 => .builtin "max"
  | .sum => .builtin "sum"
  | .sorted => .builtin "sorted"
  | .int => .type "int"
  | .repr => .builtin "repr"
  | .dict => .type "dict"
  | .list => .type "list"
  | .tuple => .type "tuple"
  | .abs => .builtin "abs"
theorem sumD_ok : ∀ {ns : List Int} {i : Int}, sumD (ns.map PyData.int) = some i → ns.sum = i
  | [], i, h => Option.some.inj h
  | n :: ns, i, h => by
    have h' : (sumD (ns.map PyData.int)).map (n + ·) = some i := h
    cases e : sumD (ns.map PyData.int) with
    | none => rw [e] at h'; cases h'
    | some j =>
      rw [e] at h'
      rw [List.sum_cons, sumD_ok e]
      exact Option.some.inj h'
theorem sumD_ints : ∀ {ds : List D} {i : Int}, sumD ds = some i → ds.all isIntD = true
  | [], _, _ => rfl
  | d :: ds, i, h => by
    cases d with
    | int n =>
      have h' : (sumD ds).map (n + ·) = some i := h
      cases e : sumD ds with
      | none => rw [e] at h'; cases h'
      | some j => simp [isIntD, sumD_ints e]
    | _ => cases h
/-- sorted(xs), as data -/
def rSrtD (K : PySem.W.Frag) : List V → Hp → VK → Prop := fun vs H Q => ∃ (a : Addr) (bs : List (V × D)), vs = [.ref a] ∧ SqL K H a (bs.map (·.1)) ∧ DpAll K H (bs.map (·.1)) (bs.map (·.2)) ∧ sortable (bs.map (·.2)) = true ∧
  ∀ p, H p = none → Q (.ref p) (upd H p (.lst ((bs.mergeSort (PySem.W.dataLe false (·.2))).map (·.1))))
theorem each_vals {bs : List (V × D)} : ∀ {us : List Value}, Vals (bs.map (·.1)) us → PySem.W.EachIs (fun (u : Value) (b : V × D) => RelV b.1 u) us bs := by
  induction bs with
  | nil => intro us h; cases h; exact .nil
  | cons b bs ih =>
    intro us h
    cases h with
    | cons h1 h2 => exact .cons h1 (ih h2)
theorem vals_each : ∀ {bs : List (V × D)} {us : List Value}, PySem.W.EachIs (fun (u : Value) (b : V × D) => RelV b.1 u) us bs → Vals (bs.map (·.1)) us
  | _, _, .nil => .nil
  | _, _, .cons h1 h2 => .cons h1 (vals_each h2)
theorem each_reads {pins : List (Addr × Obj)} {σ : L2.St} {H : Hp} {s : Shared} (I : Inv X pins σ H s) : ∀ {bs : List (V × D)} {us : List Value}, Vals (bs.map (·.1)) us → DpAll X.K H (bs.map (·.1)) (bs.map (·.2)) → PySem.W.EachIs (fun (u : Value) (b : V × D) => ∃ as, Reads s.heap u b.2 as) us bs
  | [], us, h, _ => by cases h; exact .nil
  | b :: bs, us, h, hd => by
    have hd' : DpAll X.K H (b.1 :: bs.map (·.1)) (b.2 :: bs.map (·.2)) := hd
    cases h with
    | cons h1 h2 =>
      cases hd' with
      | cons d1 d2 => exact .cons (Dp.reads I b.2 b.1 _ d1 h1) (each_reads I h2 d2)
theorem sortable_iff {ds : List D} (h : sortable ds = true) : ds.length ≤ 100000 ∧ PySem.W.AllAlike ds ∧ PySem.W.Sortable ds ∧ ∀ d ∈ ds, d.depth ≤ 50 := by
  unfold sortable at h
  simp only [Bool.and_eq_true, List.all_eq_true, decide_eq_true_eq] at h
  obtain ⟨⟨⟨h1, h2⟩, h3⟩, h4⟩ := h
  refine ⟨by simpa [szOk] using h1, fun d hd e he => h2 d hd e he, ?_, h4⟩
  rcases Bool.or_eq_true_iff.mp h3 with h3 | h3
  · refine .inl fun d hd => ?_
    have := List.all_eq_true.mp h3 d hd
    cases d with
    | tuple xs =>
      cases xs with
      | nil => cases this
      | cons x r => exact ⟨x, r, rfl⟩
    | _ => cases this
  · refine .inr fun d hd => ?_
    have := List.all_eq_true.mp h3 d hd
    obtain ⟨a1, a2⟩ := Bool.and_eq_true_iff.mp this
    constructor
    · intro e
      subst e
      cases a1
    · intro xs e
      subst e
      cases a2
theorem cr_srtD (hu : X.A.units + 64 < cLine) : CallR X (.builtin "sorted") (rSrtD X.K) := by
  intro pins s σ H vs us Q I r h
  obtain ⟨a, bs, rfl, hs, hd, hk, q⟩ := h
  obtain ⟨its, rv, hl, hz⟩ := I.list hs
  rw [Vals.ref1 r]
  obtain ⟨k1, k2, k3, k4⟩ := sortable_iff hk
  refine PySem.W.sorted_data (enc := fun b : V × D => b.2) (bs := bs) (vs := its) hl.isList (each_vals rv) (each_reads I rv hd) k2 k3 ?_ (fun b hb => ?_) fun out hlen hout => ?_
  · rw [List.length_map] at k1
    exact Nat.le_trans k1 line_big
  · have := k4 b.2 (List.mem_map.mpr ⟨b, hb, rfl⟩)
    omega
  · obtain ⟨ep, he'⟩ := PyProof.Rows.sortedAll_at s.heap its out.toArray
    have rel := vals_each hout
    have hl2 : ((bs.mergeSort (PySem.W.dataLe false fun b : V × D => b.2)).map (·.1)).length ≤ sizeLine := by
      rw [List.length_map, List.length_mergeSort]
      rw [List.length_map] at k1
      exact Nat.le_trans k1 line_big
    exact ⟨.ref _, upd H (s.heap.objs.size + 1) (.lst ((bs.mergeSort (PySem.W.dataLe false fun b : V × D => b.2)).map (·.1))), I.laid (t' := s.toks) (fun _ _ => PyProof.Rows.sortedAll_old) (Nat.le_succ _) ⟨hl2, out, ep, rel, he'⟩, rfl, q _ (I.hok.fresh (Nat.le_succ _))⟩
/-- repr(x) of data -/
theorem cr_reprD (hu : X.A.units + 64 < cLine) (hg : X.A.guards = some []) : CallR X (.builtin "repr") (fun vs H Q => ∃ x d, vs = [x] ∧ Dp X.K H x d ∧ PyData.showable d = true ∧ PyData.hasDict d = false ∧ PyData.depth d ≤ 50 ∧ (PyData.shown d).length ≤ 1000000 ∧ Q (.str (PyData.shown d)) H) := by
  intro pins s σ H vs us Q I r h
  obtain ⟨x, d, rfl, hd, h1, h2, h3, h4, q⟩ := h
  obtain ⟨u, rfl, ru⟩ := vals1 r
  obtain ⟨as, hr⟩ := Dp.reads I d x u hd ru
  have hz : (PyData.shown d).length ≤ sizeLine := Nat.le_trans h4 (by decide)
  have fin : ∀ {tk : Nat} {h' : Heap} {t : Tok}, (∀ b o, s.heap.get? b = some o → h'.get? b = some o) → EP X pins σ Q (.str (PyData.shown d) t) { s with heap := h', toks := tk } := fun {tk h' t} kp => ⟨.str _, H, I.kept kp, ⟨_, rfl⟩, q⟩
  cases hr with
  | none => exact PySem.P.repr_of_none (by simp only [PyData.shown] at fin; exact fin fun _ _ e => e)
  | bool b => exact PySem.P.repr_of_bool (by simp only [PyData.shown] at fin; exact fin fun _ _ e => e)
  | int i t => exact PySem.P.repr_of_int (by simpa [PyData.showable] using h1) (by simp only [PyData.shown] at fin; exact fin fun _ _ e => e)
  | str y t => exact PySem.P.repr_of_str (by simp only [PyData.shown] at fin; exact fin fun _ _ e => e) (by simpa only [PyData.shown] using hz)
  | list a1 a2 a3 a4 => exact repr_of_reads' (.list a1 a2 a3 a4) h1 (PyData.noDict_hsm h2) hg (by omega) (fun _ _ e => e) (fun h' u tk kp => fin kp) hz
  | tuple a1 a2 a3 a4 => exact repr_of_reads' (.tuple a1 a2 a3 a4) h1 (PyData.noDict_hsm h2) hg (by omega) (fun _ _ e => e) (fun h' u tk kp => fin kp) hz
  | dict a1 a2 a3 a4 a5 => simp [PyData.hasDict] at h2
end
end Tv
set_option maxHeartbeats 1000000
/-! TvL: calls of built-in functions and methods. -/
namespace Tv
open PySem PySem.Spec PyProof.Rows L2
section
variable {K : PySem.W.Frag} {H : Hp}
theorem Rps.pairs : ∀ {ds : List D} {xs : List V} {G : List Addr}, Rps K H ds xs G → ∃ bs : List (V × D), bs.map (·.1) = xs ∧ bs.map (·.2) = ds ∧ ∀ b ∈ bs, ∃ G', Rp K H b.2 b.1 G' ∧ ∀ a ∈ G', a ∈ G
  | [], xs, G, h => ⟨[], by rw [h.1]; rfl, rfl, by simp⟩
  | d :: ds, xs, G, h => by
    unfold Rps at h
    obtain ⟨x, r, F1, F2, e1, e2, e3, e4⟩ := h
    subst e1 e2
    obtain ⟨bs, q1, q2, q3⟩ := Rps.pairs e4
    refine ⟨(x, d) :: bs, by rw [← q1]; rfl, by rw [← q2]; rfl, fun b hb => ?_⟩
    rcases List.mem_cons.mp hb with rfl | hb
    · exact ⟨F1, e3, fun a ha => List.mem_append_left _ ha⟩
    · obtain ⟨G', w1, w2⟩ := q3 b hb
      exact ⟨G', w1, fun a ha => List.mem_append_right _ (w2 a ha)⟩
theorem Rps.of : ∀ {bs : List (V × D)} {G : List Addr}, (∀ b ∈ bs, ∃ G', Rp K H b.2 b.1 G' ∧ ∀ a ∈ G', a ∈ G) → ∃ F, Rps K H (bs.map (·.2)) (bs.map (·.1)) F ∧ ∀ a ∈ F, a ∈ G
  | [], G, _ => ⟨[], Rps.nil, by simp⟩
  | b :: bs, G, h => by
    obtain ⟨G1, w1, w2⟩ := h b (by simp)
    obtain ⟨F, q1, q2⟩ := Rps.of (bs := bs) fun c hc => h c (by simp [hc])
    refine ⟨G1 ++ F, Rps.cons w1 q1, fun a ha => ?_⟩
    rcases List.mem_append.mp ha with ha | ha
    · exact w2 a ha
    · exact q2 a ha
theorem le_trans (a b c : D) (h1 : PySem.W.dataLe false (fun d => d) a b = true) (h2 : PySem.W.dataLe false (fun d => d) b c = true) : PySem.W.dataLe false (fun d => d) a c = true := by
  unfold PySem.W.dataLe PySem.W.sortLe at *
  simp only [cond_false, Bool.not_eq_true'] at *
  cases q : PyProof.Rows.KeyOrd.blt (PyProof.Rows.listOrd PyProof.Rows.itemOrd) (PySem.W.keyToks c) (PySem.W.keyToks a) with
  | false => exact q
  | true =>
    rcases PyProof.Rows.KeyOrd.negTrans _ _ (PySem.W.keyToks b) _ q with h | h
    · have h' : PyProof.Rows.lexLt PyProof.Rows.itemOrd (PySem.W.keyToks c) (PySem.W.keyToks b) = true := h
      rw [h2] at h'; cases h'
    · have h' : PyProof.Rows.lexLt PyProof.Rows.itemOrd (PySem.W.keyToks b) (PySem.W.keyToks a) = true := h
      rw [h1] at h'; cases h'
theorem le_total (a b : D) : (PySem.W.dataLe false (fun d => d) a b || PySem.W.dataLe false (fun d => d) b a) = true := by
  have key : ∀ x y : D, PySem.W.dataLe false (fun d => d) x y = !PyProof.Rows.KeyOrd.blt (PyProof.Rows.listOrd PyProof.Rows.itemOrd) (PySem.W.keyToks y) (PySem.W.keyToks x) := fun _ _ => rfl
  rw [key, key]
  cases h1 : PyProof.Rows.KeyOrd.blt (PyProof.Rows.listOrd PyProof.Rows.itemOrd) (PySem.W.keyToks b) (PySem.W.keyToks a) with
  | false => rfl
  | true =>
    cases h2 : PyProof.Rows.KeyOrd.blt (PyProof.Rows.listOrd PyProof.Rows.itemOrd) (PySem.W.keyToks a) (PySem.W.keyToks b) with
    | false => rfl
    | true =>
      have := PyProof.Rows.KeyOrd.trans _ _ _ _ h1 h2
      rw [PyProof.Rows.KeyOrd.irrefl] at this
      cases this
theorem insD_at {a : D} : ∀ {l1 l2 : List D}, (∀ b ∈ l1, (!PySem.W.dataLe false (fun d => d) a b) = true) → (∀ b ∈ l2, PySem.W.dataLe false (fun d => d) a b = true) → insD a (l1 ++ l2) = l1 ++ a :: l2
  | [], [], _, _ => rfl
  | [], b :: l2, _, h2 => by
    show (if _ then _ else _) = _
    rw [if_pos (h2 b (by simp))]
    rfl
  | b :: l1, l2, h1, h2 => by
    show (if _ then _ else _) = _
    have := h1 b (by simp)
    rw [if_neg (by simpa using this)]
    show b :: insD a (l1 ++ l2) = _
    rw [insD_at (fun c hc => h1 c (by simp [hc])) h2]
    rfl
theorem sortD_ms : ∀ ds : List D, sortD ds = ds.mergeSort (PySem.W.dataLe false fun d => d)
  | [] => by simp [sortD]
  | a :: l => by
    obtain ⟨l1, l2, e1, e2, e3⟩ := List.mergeSort_cons (le := PySem.W.dataLe false fun d => d) le_trans le_total a l
    have hs := List.pairwise_mergeSort (le := PySem.W.dataLe false fun d => d) le_trans le_total (a :: l)
    rw [e1] at hs ⊢
    have ha : ∀ b ∈ l2, PySem.W.dataLe false (fun d => d) a b = true := (List.pairwise_cons.mp (List.pairwise_append.mp hs).2.1).1
    show insD a (sortD l) = _
    rw [sortD_ms l, e2]
    exact insD_at e3 ha
theorem sortD_pairs (bs : List (V × D)) : sortD (bs.map (·.2)) = (bs.mergeSort (PySem.W.dataLe false (·.2))).map (·.2) := (sortD_ms _).trans <|
  (PySem.W.sort_maps (r := PySem.W.dataLe false fun b : V × D => b.2) (s := PySem.W.dataLe false fun d => d) (fun b : V × D => b.2) (l := bs) fun _ _ _ _ => rfl).symm
end
theorem imms_iff : ∀ {ds : List D}, imms ds = true ↔ ∀ d ∈ ds, imm d = true
  | [] => by simp [imms]
  | d :: ds => by simp [imms, imms_iff]
theorem imms_perm {ds es : List D} (h : ds.Perm es) (w : imms ds = true) : imms es = true := imms_iff.mpr fun d hd => imms_iff.mp w d (h.mem_iff.mpr hd)
section
variable {X : Cx} {mf : Nat → Bool} {Φ : Nat → List D → Option (Sl × D)} {pos : Pos}
/-- dict(d), keys tuples -/
def rDictT (P : Program) (w : World) : List V → Hp → VK → Prop := fun vs H Q => ∃ (a : Addr) (kvs : List (List Key × V)), vs = [.ref a] ∧ Rd H a (.dT kvs) ∧ (kvs.map fun p => tupleKeyHash (mixKind P w) p.1).Nodup ∧ ∀ p, H p = none → Q (.ref p) (upd H p (.dT kvs))
theorem hash_key {P : Program} {w : World} : ∀ {k : List Key}, (k.map keyD).all isIntD = true → k.map (mixKind P w).hash = (k.map keyD).map hashI
  | [], _ => rfl
  | x :: xs, h => by
    have h' : isIntD (keyD x) = true ∧ (xs.map keyD).all isIntD = true := by simpa using h
    rw [List.map_cons, List.map_cons, List.map_cons, hash_key h'.2]
    cases x with
    | inl i => rfl
    | inr z => cases h'.1
theorem Rpv.apart {K : PySem.W.Frag} {H : Hp} {P : Program} {w : World} : ∀ {es : List (D × D)} {kvs : List (List Key × V)} {F : List Addr}, Rpv K H es kvs F → (es.map (·.1)).all isIntTup = true → (es.map (·.1)).map hashTD = kvs.map fun p => tupleKeyHash (mixKind P w) p.1
  | [], kvs, F, h, _ => by rw [h.1]; rfl
  | (k, d) :: es, kvs, F, h, ha => by
    unfold Rpv at h
    obtain ⟨kk, x, r, F1, F2, e0, e1, e2, e3, e4⟩ := h
    subst e0 e1 e2
    simp only [List.map_cons, List.all_cons, Bool.and_eq_true] at ha ⊢
    rw [Rpv.apart e4 ha.2]
    refine congrArg (· :: _) ?_
    show reduceHash (Builtin.Tuple.tupleHashOf ((kk.map keyD).map hashI)) = reduceHash (Builtin.Tuple.tupleHashOf (kk.map (mixKind P w).hash))
    rw [hash_key (P := P) (w := w) (k := kk) ha.1]
theorem imms_vals : ∀ {es : List (D × D)} {K : PySem.W.Frag} {H : Hp} {kvs : List (List Key × V)} {F : List Addr}, imms (es.map (·.2)) = true → Rpv K H es kvs F → F = []
  | [], K, H, kvs, F, _, h => h.2
  | (k, d) :: es, K, H, kvs, F, hi, h => by
    unfold Rpv at h
    obtain ⟨kk, x, r, F1, F2, e0, e1, e2, e3, e4⟩ := h
    have hi' : imm d = true ∧ imms (es.map (·.2)) = true := by simpa [imms] using hi
    rw [e2, Rp.imm d x F1 hi'.1 e3, imms_vals hi'.2 e4]; rfl
theorem te_blt {b : Blt} {es : List Expr} {ex : Exs} {m : Md} {ast : Expr} (hu : X.A.units + 64 < cLine) (hc : X.calm = true) (hg : X.A.guards = some []) (hdict : CallR X (.type "dict") (rDictT X.prog X.w))
    (call : ∀ r t, CallR X b.val r → PA X es t → PE X ast (tCB r t)) (h : ∀ m, PA X es (tEs X.K mf Φ m ex)) : PE X ast (tE X.K mf Φ m (.blt b ex)) := by
  refine PE.pull fun σ H Q q => ?_
  obtain ⟨S, H0, P, cs, ts, r0, env, rfl, o, he, hq, k⟩ := q
  unfold ev at he
  simp only [Option.bind_eq_bind, Option.bind_eq_some_iff] at he
  obtain ⟨⟨rs, e1⟩, h1, r', h2, he⟩ := he
  simp only at h1 h2 he
  cases he
  generalize hm : (if quiets mf ex = true then Md.bor else Md.val) = m' at h1
  generalize hown : (rs.all fun r => match r with | .vo _ => false | _ => true) = own at h2
  have nu := evs_nu _ _ _ _ _ h1
  have gv : ∀ r ∈ rs, r.good = true ∨ r.isVo = true := evs_gv _ _ _ _ _ h1
  have hq' : quiets mf ex = true ∨ (noVo ts ∧ m' ≠ .bor) := by
    by_cases w : quiets mf ex = true
    · exact .inl w
    · rw [if_neg w] at hm
      subst hm
      rcases hq with hq | hq
      · exact absurd (by simpa only [quiet] using hq) w
      · exact .inr ⟨hq, by decide⟩
  -- run the arguments
  have run : ∀ {r : List V → Hp → VK → Prop}, CallR X b.val r → (∀ xs H' cs' tl, cs'.map (·.v) = cs.map (·.v) → cs'.map (·.s) = env → tl.map (·.v) = xs.map some → tl.map (·.s) = rs → Ok X.K S H0 P H' (cs' ++ ts ++ tl) → (quiet mf (.blt b ex) = true → Same H H') → r xs H' Q) → ∃ t', PE X ast t' ∧ t' (cs.map (·.v)) H Q := fun {r} hr kk =>
    ⟨_, call r _ hr (h m'), S, H0, P, cs, ts, rs, env, rfl, o, h1, hq', fun xs H' cs' tl hv hs t1 t2 o' same => kk xs H' cs' tl hv hs t1 t2 o' (by simpa only [quiet] using same)⟩
  -- one argument
  have arg1 : ∀ {d : D} {xs : List V} {tl : List Cell}, rs.map (·.d) = [d] → tl.map (·.v) = xs.map some → tl.map (·.s) = rs → ∃ c vx, tl = [c] ∧ xs = [vx] ∧ c.v = some vx ∧ c.s.d = d ∧ (c.s.good = true ∨ c.s.isVo = true) ∧ rs = [c.s] := fun {d xs tl} hd t1 t2 => by
    subst t2
    cases tl with
    | nil => simp at hd
    | cons c tl =>
      cases tl with
      | cons _ _ => simp at hd
      | nil =>
        cases xs with
        | nil => simp at t1
        | cons x xs =>
          cases xs with
          | cons _ _ => simp at t1
          | nil => exact ⟨c, x, rfl, rfl, by simpa using t1, by simpa using hd, gv c.s (by simp), rfl⟩
  have arg2 : ∀ {i j : Int} {xs : List V} {tl : List Cell} {H' : Hp} {cs' : List Cell}, rs.map (·.d) = [.int i, .int j] → tl.map (·.v) = xs.map some → tl.map (·.s) = rs → Ok X.K S H0 P H' (cs' ++ ts ++ tl) → xs = [.int i, .int j] := fun {i j xs tl H' cs'} hd t1 t2 o' => by
    subst t2
    cases tl with
    | nil => simp at hd
    | cons c tl =>
      cases tl with
      | nil => simp at hd
      | cons c2 tl =>
        cases tl with
        | cons _ _ => simp at hd
        | nil =>
          have hd' : c.s.d = .int i ∧ c2.s.d = .int j := by simpa using hd
          cases xs with
          | nil => simp at t1
          | cons x xs =>
            cases xs with
            | nil => simp at t1
            | cons x2 xs =>
              cases xs with
              | cons _ _ => simp at t1
              | nil =>
                have t1' : c.v = some x ∧ c2.v = some x2 := by simpa using t1
                obtain ⟨w, F, q1, r1⟩ := (o'.cell c (by simp)).rp (nu c.s (by simp))
                obtain ⟨w2, F2, q2, r2⟩ := (o'.cell c2 (by simp)).rp (nu c2.s (by simp))
                rw [t1'.1] at q1
                rw [t1'.2] at q2
                cases q1; cases q2
                rw [hd'.1] at r1
                rw [hd'.2] at r2
                rw [Rp.int_eq r1, Rp.int_eq r2]
  have fin : ∀ {d : D} {x : V} {H' : Hp} {cs' tl : List Cell}, r0 = .dp d → cs'.map (·.v) = cs.map (·.v) → cs'.map (·.s) = env → Ok X.K S H0 P H' (cs' ++ ts ++ tl) → (quiet mf (.blt b ex) = true → Same H H') → (∀ K H, Rp K H d x []) → Q x H' := fun {d x H' cs' tl} er hv hs o' same rp => by
    subst er
    exact k x H' cs' [] hv hs (o'.res (rp _ _)) same
  -- a new list of items that the argument lent
  have lend : ∀ {c : Cell} {ds es : List D} {xs : List V} {G : List Addr} {p : Addr} {H' : Hp} {cs' : List Cell}, rs = [c.s] → (own || imms ds) = true → c.s.d = .list ds → r0 = mkList es → (imms ds = true → imms es = true) → cs'.map (·.v) = cs.map (·.v) → cs'.map (·.s) = env → Ok X.K S H0 P H' (cs' ++ ts ++ [c]) → (quiet mf (.blt b ex) = true → Same H H') →
      H' p = none → Rps X.K H' es xs G → Av c (S ++ fp (cs' ++ ts)) G → Q (.ref p) (upd H' p (.lst xs)) := fun {c ds es xs G p H' cs'} er ho dd e0 hi hv hs o' same hp rg av => by
    have sm := same_upd (o := HO.lst xs) hp
    have on := newList_fin (c := c) (tl := []) o' hp rg (by
      by_cases w : imms ds = true
      · exact .inl (hi w)
      · right
        have wo : own = true := by
          rcases Bool.or_eq_true_iff.mp ho with z | z
          · exact z
          · exact absurd z w
        rcases av with ⟨q, e⟩ | ⟨t, e⟩ | z
        · rw [er, e] at hown
          rw [wo] at hown
          simp at hown
        · rw [e] at dd
          cases dd
        · exact z)
    exact k (.ref p) _ cs' [p] hv hs (by rw [e0]; exact on) fun w => (same w).trans sm
  cases b with
  | len =>
    cases hd : rs.map (·.d) with
    | nil => rw [hd] at h2; cases h2
    | cons d1 l =>
      cases l with
      | cons _ _ => rw [hd] at h2; cases d1 <;> cases h2
      | nil =>
        rw [hd] at h2
        cases d1 with
        | list ds =>
          refine run call_len_seq fun xs H' cs' tl hv hs t1 t2 o' same => ?_
          obtain ⟨c, vx, rfl, rfl, ev, dd, hx, er⟩ := arg1 hd t1 t2
          obtain ⟨p, vs, G, ep, sl, rl, av⟩ := open_list (c := c) (tl := []) o' ev hx dd
          exact ⟨p, vs, by rw [ep], .inl sl, fin (Option.some.inj h2).symm hv hs o' same fun _ _ => by rw [rl.length]; exact Rp.mk_int _⟩
        | tuple ds =>
          refine run call_len_seq fun xs H' cs' tl hv hs t1 t2 o' same => ?_
          obtain ⟨c, vx, rfl, rfl, ev, dd, hx, er⟩ := arg1 hd t1 t2
          obtain ⟨p, vs, G, ep, sl, rl, av⟩ := open_tup (c := c) (tl := []) o' ev hx dd
          exact ⟨p, vs, by rw [ep], .inr (SqT.of sl), fin (Option.some.inj h2).symm hv hs o' same fun _ _ => by rw [rl.length]; exact Rp.mk_int _⟩
        | _ => cases h2
  | min2 =>
    cases hd : rs.map (·.d) with
    | nil => rw [hd] at h2; cases h2
    | cons d1 l =>
      cases l with
      | nil => rw [hd] at h2; cases d1 <;> cases h2
      | cons d2 l =>
        cases l with
        | cons _ _ => rw [hd] at h2; cases d1 <;> cases d2 <;> cases h2
        | nil =>
          rw [hd] at h2
          cases d1 with
          | int i =>
            cases d2 with
            | int j =>
              refine run (call_min2 hc) fun xs H' cs' tl hv hs t1 t2 o' same => ?_
              exact ⟨i, j, arg2 hd t1 t2 o', fin (Option.some.inj h2).symm hv hs o' same fun _ _ => Rp.mk_int _⟩
            | _ => cases h2
          | _ => cases d2 <;> cases h2
  | max2 =>
    cases hd : rs.map (·.d) with
    | nil => rw [hd] at h2; cases h2
    | cons d1 l =>
      cases l with
      | nil => rw [hd] at h2; cases d1 <;> cases h2
      | cons d2 l =>
        cases l with
        | cons _ _ => rw [hd] at h2; cases d1 <;> cases d2 <;> cases h2
        | nil =>
          rw [hd] at h2
          cases d1 with
          | int i =>
            cases d2 with
            | int j =>
              refine run (call_max2 hc) fun xs H' cs' tl hv hs t1 t2 o' same => ?_
              exact ⟨i, j, arg2 hd t1 t2 o', fin (Option.some.inj h2).symm hv hs o' same fun _ _ => Rp.mk_int _⟩
            | _ => cases h2
          | _ => cases d2 <;> cases h2
  | sum =>
    cases hd : rs.map (·.d) with
    | nil => rw [hd] at h2; cases h2
    | cons d1 l =>
      cases l with
      | cons _ _ => rw [hd] at h2; cases d1 <;> cases h2
      | nil =>
        rw [hd] at h2
        cases d1 with
        | list ds =>
          have h2' : (sumD ds).map (fun i => Sl.dp (.int i)) = some r0 := h2
          cases es : sumD ds with
          | none => rw [es] at h2'; cases h2'
          | some i =>
            rw [es] at h2'
            refine run (cr_sum hc) fun xs H' cs' tl hv hs t1 t2 o' same => ?_
            obtain ⟨c, vx, rfl, rfl, ev, dd, hx, er⟩ := arg1 hd t1 t2
            obtain ⟨p, vs, G, ep, sl, rl, av⟩ := open_list (c := c) (tl := []) o' ev hx dd
            obtain ⟨ns, n1, n2⟩ := rl.ints (sumD_ints es)
            subst n1 n2
            exact ⟨p, ns, by rw [ep], sl, fin (Option.some.inj h2').symm hv hs o' same fun _ _ => by rw [sumD_ok es]; exact Rp.mk_int _⟩
        | _ => cases h2
  | int =>
    cases hd : rs.map (·.d) with
    | nil => rw [hd] at h2; cases h2
    | cons d1 l =>
      cases l with
      | cons _ _ => rw [hd] at h2; cases d1 <;> cases h2
      | nil =>
        rw [hd] at h2
        cases d1 with
        | int i =>
          refine run call_int1 fun xs H' cs' tl hv hs t1 t2 o' same => ?_
          obtain ⟨c, vx, rfl, rfl, ev, dd, hx, er⟩ := arg1 hd t1 t2
          obtain ⟨w, F, q1, rr⟩ := (o'.cell c (by simp)).rp (nu c.s (by rw [er]; simp))
          rw [ev] at q1
          cases q1
          rw [dd] at rr
          exact .inl ⟨i, by rw [Rp.int_eq rr], fin (Option.some.inj h2).symm hv hs o' same fun _ _ => Rp.mk_int _⟩
        | bool b =>
          refine run call_int1 fun xs H' cs' tl hv hs t1 t2 o' same => ?_
          obtain ⟨c, vx, rfl, rfl, ev, dd, hx, er⟩ := arg1 hd t1 t2
          obtain ⟨w, F, q1, rr⟩ := (o'.cell c (by simp)).rp (nu c.s (by rw [er]; simp))
          rw [ev] at q1
          cases q1
          rw [dd] at rr
          exact .inr ⟨b, by rw [Rp.bool_eq rr], fin (Option.some.inj h2).symm hv hs o' same fun _ _ => Rp.mk_int _⟩
        | _ => cases h2
  | repr =>
    cases hd : rs.map (·.d) with
    | nil => rw [hd] at h2; cases h2
    | cons d1 l =>
      cases l with
      | cons _ _ => rw [hd] at h2; cases d1 <;> cases h2
      | nil =>
        rw [hd] at h2
        unfold bltD at h2
        simp only at h2
        split at h2
        · rename_i hcond
          simp only [Bool.and_eq_true, Bool.not_eq_true', decide_eq_true_eq] at hcond
          obtain ⟨⟨⟨c1, c2⟩, c3⟩, c4⟩ := hcond
          refine run (cr_reprD hu hg) fun xs H' cs' tl hv hs t1 t2 o' same => ?_
          obtain ⟨c, vx, rfl, rfl, ev, dd, hx, er⟩ := arg1 hd t1 t2
          obtain ⟨w, F, q1, rr⟩ := (o'.cell c (by simp)).rp (nu c.s (by rw [er]; simp))
          rw [ev] at q1
          cases q1
          rw [dd] at rr
          exact ⟨vx, d1, rfl, Rp.dp _ _ _ c2 rr, c1, c2, c3, c4, fin (Option.some.inj h2).symm hv hs o' same fun _ _ => Rp.mk_str _⟩
        · cases h2
  | sorted =>
    cases hd : rs.map (·.d) with
    | nil => rw [hd] at h2; cases h2
    | cons d1 l =>
      cases l with
      | cons _ _ => rw [hd] at h2; cases d1 <;> cases h2
      | nil =>
        rw [hd] at h2
        cases d1 with
        | list ds =>
          have h2' : (if sortable ds && !PyData.hasDictAll ds && (own || imms ds) then some (mkList (sortD ds)) else none) = some r0 := h2
          split at h2'
          · rename_i hcond
            obtain ⟨hcd, ho⟩ := Bool.and_eq_true_iff.mp hcond
            obtain ⟨hk, hnd⟩ := Bool.and_eq_true_iff.mp hcd
            refine run (cr_srtD hu) fun xs H' cs' tl hv hs t1 t2 o' same => ?_
            obtain ⟨c, vx, rfl, rfl, ev, dd, hx, er⟩ := arg1 hd t1 t2
            obtain ⟨p, vs, G, ep, sl, rl, av⟩ := open_list (c := c) (tl := []) o' ev hx dd
            have dall := Rps.dp _ _ _ (by simpa using hnd) rl
            obtain ⟨bs, b1, b2, b3⟩ := rl.pairs
            subst b1 b2
            refine ⟨p, bs, by rw [ep], sl, dall, hk, fun pn hpn => ?_⟩
            obtain ⟨F, f1, f2⟩ := Rps.of (bs := bs.mergeSort (PySem.W.dataLe false (·.2))) (G := G) fun b hb => b3 b (List.mem_mergeSort.mp hb)
            rw [← sortD_pairs] at f1
            refine lend er ho dd (Option.some.inj h2').symm (fun w => ?_) hv hs o' same hpn f1 (av.sub f2)
            exact imms_perm (by rw [sortD_ms]; exact (List.mergeSort_perm _ _).symm) w
          · cases h2'
        | _ => cases h2
  | list =>
    cases hd : rs.map (·.d) with
    | nil => rw [hd] at h2; cases h2
    | cons d1 l =>
      cases l with
      | cons _ _ => rw [hd] at h2; cases d1 <;> cases h2
      | nil =>
        rw [hd] at h2
        cases d1 with
        | list ds =>
          have h2' : (if own || imms ds then some (mkList ds) else none) = some r0 := h2
          split at h2'
          · rename_i ho
            refine run call_list_of fun xs H' cs' tl hv hs t1 t2 o' same => ?_
            obtain ⟨c, vx, rfl, rfl, ev, dd, hx, er⟩ := arg1 hd t1 t2
            obtain ⟨p, vs, G, ep, sl, rl, av⟩ := open_list (c := c) (tl := []) o' ev hx dd
            exact ⟨p, vs, by rw [ep], .inl sl, fun pn hpn => lend er ho dd (Option.some.inj h2').symm id hv hs o' same hpn rl av⟩
          · cases h2'
        | _ => cases h2
  | dict =>
    cases hd : rs.map (·.d) with
    | nil => rw [hd] at h2; cases h2
    | cons d1 l =>
      cases l with
      | cons _ _ => rw [hd] at h2; cases d1 <;> cases h2
      | nil =>
        rw [hd] at h2
        cases d1 with
        | dict es =>
          have h2' : (if imms (es.map (·.2)) && keysApartD (es.map (·.1)) && szOk es.length then some (Sl.dp (.dict es)) else none) = some r0 := h2
          split at h2'
          · rename_i hcond
            obtain ⟨hc1, hsz⟩ := Bool.and_eq_true_iff.mp hcond
            obtain ⟨hi, hka⟩ := Bool.and_eq_true_iff.mp hc1
            obtain ⟨k1, k2⟩ := Bool.and_eq_true_iff.mp (show ((es.map (·.1)).all isIntTup && decide (((es.map (·.1)).map hashTD).Nodup)) = true from hka)
            refine run hdict fun xs H' cs' tl hv hs t1 t2 o' same => ?_
            obtain ⟨c, vx, rfl, rfl, ev, dd, hx, er⟩ := arg1 hd t1 t2
            obtain ⟨p, kvs, G, ep, sl, rl, av⟩ := open_dict (c := c) (tl := []) o' ev hx dd
            have eG := imms_vals hi rl
            subst eG
            refine ⟨p, kvs, by rw [ep], sl, ?_, fun pn hpn => ?_⟩
            · rw [← Rpv.apart rl k1]
              exact of_decide_eq_true k2
            · have sm := same_upd (o := HO.dT kvs) hpn
              have ob : Ok X.K S H0 P H' (cs' ++ ts) := o'.drop (List.sublist_append_left _ _)
              rw [← Option.some.inj h2'] at k
              refine k (.ref pn) _ cs' [pn] hv hs (ob.push sm ⟨.ref pn, rfl, ?_⟩ (fun a ha => ?_) (by simp) (fun a ha => ?_) fun d => by simp) fun w => (same w).trans sm
              · unfold Rp
                exact ⟨pn, kvs, [], rfl, .inl upd_same, rfl, Rpv.frame (.same sm) _ _ _ (Rpv.nar _ _ _ hi rl) fun a _ h => by simp at h⟩
              · have : a = pn := by simpa using ha
                rw [this]; exact hpn
              · have : a = pn := by simpa using ha
                rw [this, upd_same]; trivial
          · cases h2'
        | _ => cases h2
  | _ => cases hd : rs.map (·.d) <;> (rw [hd] at h2; simp [bltD] at h2)
end
end Tv
set_option maxHeartbeats 1000000
/-! TvM: methods that read; calls of the text's own defs. -/
namespace Tv
open PySem PySem.Spec PyProof.Rows L2
theorem indexD_ok : ∀ {ds : List D} {d : D} {j : Nat}, indexD ds d = some j → ∃ z, ds[j]? = some z ∧ PyData.eqv z d = true ∧ ∀ (m : Nat) (z' : D), m < j → ds[m]? = some z' → PyData.eqv z' d = false
  | [], d, j, h => by cases h
  | x :: xs, d, j, h => by
    unfold indexD at h
    split at h
    · rename_i he
      cases h
      exact ⟨x, rfl, he, fun m z' hm => absurd hm (Nat.not_lt_zero _)⟩
    · rename_i he
      cases e : indexD xs d with
      | none => rw [e] at h; cases h
      | some i =>
        rw [e] at h
        cases h
        obtain ⟨z, h1, h2, h3⟩ := indexD_ok e
        refine ⟨z, by simpa using h1, h2, fun m z' hm hz => ?_⟩
        cases m with
        | zero =>
          have : x = z' := by simpa using hz
          subst this
          exact Bool.eq_false_iff.mpr he
        | succ m => exact h3 m z' (by have : m + 1 < i + 1 := hm; omega) (by simpa using hz)
section
variable {X : Cx} {mf : Nat → Bool} {Φ : Nat → List D → Option (Sl × D)} {pos : Pos}
theorem te_bits {o : Expr} {eo : Ex} {m : Md} {apos : Pos} (ho : ∀ m, PE X o (tE X.K mf Φ m eo)) (hbase : attributeBase o "bit_length" X.env (eval o X.env) = eval o X.env) (hline : (apos.endLine == pos.line) = true) :
    PE X (.Call (.Attribute o "bit_length" apos) [] [] pos) (tE X.K mf Φ m (.mth .bitlen eo .nil)) := by
  refine PE.pull fun σ H Q q => ?_
  obtain ⟨S, H0, P, cs, ts, r0, env, rfl, ok, he, hq, k⟩ := q
  unfold ev at he
  simp only [Option.bind_eq_bind, Option.bind_eq_some_iff] at he
  obtain ⟨⟨x, e1⟩, h1, ⟨rs, e2⟩, h2, r', h3, he⟩ := he
  simp only at h1 h2 h3 he
  cases he
  unfold evs at h2
  cases h2
  refine ⟨_, pe_bits (ho _) hbase hline, one ok h1 ?_ fun vx H' cs' f hv hs o' same => ?_⟩
  · exact hq.imp (fun w => by simp only [quiet, Bool.and_eq_true] at w; exact w.1) id
  obtain ⟨w, F, q1, rr⟩ := (o'.cell ⟨some vx, x, f⟩ (by simp)).rp (noUn h1)
  cases q1
  cases dx : x.d with
  | int i =>
    rw [dx] at h3 rr
    have e0 : r0 = .dp (.int (Builtin.Int.intBits i : Nat)) := (Option.some.inj h3).symm
    subst e0
    exact ⟨i, Rp.int_eq rr, k (.int _) H' cs' [] hv hs (o'.res (tl := [_]) (Rp.mk_int _)) fun w => same (by simp only [quiet, Bool.and_eq_true] at w; exact w.1)⟩
  | _ => rw [dx] at h3; cases h3
theorem te_index {o e : Expr} {eo ee : Ex} {m : Md} {apos : Pos} (hu : X.A.units + 65 < cLine) (ho : ∀ m, PE X o (tE X.K mf Φ m eo)) (he : ∀ m, PE X e (tE X.K mf Φ m ee)) (hbase : attributeBase o "index" X.env (eval o X.env) = eval o X.env)
    (hfew : ((backTo pos (starEach (e :: []) X.env)).all (fun x => !x.1) && (backToKw pos (keywordEach [] X.env)).all (fun x => x.1.isSome)
      && decide ((e :: ([] : List Expr)).length + ([] : List Keyword).length + (if ([] : List Keyword).isEmpty then 0 else 1) < 30)) = true)
    (hline : (apos.endLine == pos.line) = true) (hs : starEach (e :: []) X.env = (false, eval e X.env) :: starEach [] X.env) (hplain : (backTo pos (starEach [] X.env)).any (·.1) = false) :
    PE X (.Call (.Attribute o "index" apos) [e] [] pos) (tE X.K mf Φ m (.mth .index eo (.cons ee .nil))) := by
  refine PE.pull fun σ H Q q => ?_
  obtain ⟨S, H0, P, cs, ts, r0, env, rfl, ok, hev, hq, k⟩ := q
  unfold ev at hev
  simp only [Option.bind_eq_bind, Option.bind_eq_some_iff] at hev
  obtain ⟨⟨x, e1⟩, h1, ⟨rs, e2⟩, h2, r', h3, hev⟩ := hev
  simp only at h1 h2 h3 hev
  cases hev
  generalize hm : (if quiets mf (.cons ee .nil) = true then Md.bor else Md.val) = m' at h1 h2
  unfold evs at h2
  simp only [Option.bind_eq_bind, Option.bind_eq_some_iff] at h2
  obtain ⟨⟨y, e3⟩, h4, ⟨ys, e4⟩, h5, h2⟩ := h2
  simp only at h4 h5 h2
  unfold evs at h5
  cases h5
  cases h2
  have hq' : (quiet mf eo && quiet mf ee) = true ∨ noVo ts := by simpa [quiet, quiets] using hq
  have hb' : quiet mf ee = true ∨ x.isVo = false := by
    by_cases w : quiet mf ee = true
    · exact .inl w
    · rw [if_neg (by simpa [quiets] using w)] at hm
      subst hm
      exact .inr (good_noVo (ev_noVo _ _ _ _ _ (by decide) h1))
  have gx := ev_nu _ _ _ _ _ h1
  cases dx : x.d with
  | list ds =>
    have h3' : (if SeqAt.shaped (.list ds) && SeqAt.shaped y.d && okD (.list ds) && okD y.d then (indexD ds y.d).map fun j => Sl.dp (.int j) else none) = some r0 := by rw [dx] at h3; exact h3
    split at h3'
    · rename_i hcond
      simp only [Bool.and_eq_true] at hcond
      obtain ⟨⟨⟨c1, c2⟩, c3⟩, c4⟩ := hcond
      cases ei : indexD ds y.d with
      | none => rw [ei] at h3'; cases h3'
      | some j =>
        rw [ei] at h3'
        have e0 : r0 = .dp (.int (j : Nat)) := (Option.some.inj h3').symm
        subst e0
        obtain ⟨z, i1, i2, i3⟩ := indexD_ok ei
        refine ⟨_, pe_bm PySem.F.plainAttrs_list PySem.F.slot_list_index PySem.F.type_list_index (mt_indexD hu) (ho m') (pa_cons (he m') pa_nil hs) hbase hfew hline hs hplain, ?_⟩
        refine one ok h1 (q2 hq').1 fun vx H1 cs1 f hv1 hs1 o1 same1 => ?_
        obtain ⟨p, xs, G, ep, sl, rl, av⟩ := open_list (c := ⟨some vx, x, f⟩) (tl := []) o1 rfl gx dx
        subst ep
        refine ⟨.inl ⟨rfl, xs, sl⟩, ?_⟩
        rw [← hv1]
        subst hs1
        have o1' : Ok X.K S H0 P H1 (cs1 ++ (ts ++ [⟨some (.ref p), x, f⟩])) := by simpa using o1
        refine one o1' h4 ?_ fun vy H2 cs2 g hv2 hs2 o2 same2 => ?_
        · rcases hb' with w | w
          · exact .inl w
          · exact (q2 hq').2.imp id fun v => noVo_app v (noVo_one w)
        have o3 : Ok X.K S H0 P H2 ((cs2 ++ ts) ++ ⟨some (.ref p), x, f⟩ :: [⟨some vy, y, g⟩]) := by simpa using o2
        obtain ⟨w, F, q1, rr⟩ := (o3.cell ⟨some vy, y, g⟩ (by simp)).rp (noUn h4)
        cases q1
        obtain ⟨p2, xs2, G2, ep2, sl2, rl2, av2⟩ := open_list (c := ⟨some (.ref p), x, f⟩) o3 rfl gx dx
        cases ep2
        refine ⟨p, vy, y.d, ds, j, z, rfl, rfl, .lst sl2 (Rps.dp _ _ _ (by simpa [PyData.hasDict] using (okD_iff c3).1) rl2), Rp.dp _ _ _ (okD_iff c4).1 rr, c1, c2, i1, i2, i3, ?_⟩
        refine k (.int (j : Nat)) H2 cs2 [] (hv2.trans hv1) hs2 (Ok.res (tl := [⟨some (.ref p), x, f⟩, ⟨some vy, y, g⟩]) o3 (Rp.mk_int _)) fun w => ?_
        have w' : quiet mf eo = true ∧ quiet mf ee = true := by simpa [quiet, quiets] using w
        exact (same1 w'.1).trans (same2 w'.2)
    · cases h3'
  | _ => rw [dx] at h3; cases h3
end
/-! ### calls -/
/-- a def's promise, asked where no text of a container is being made -/
structure FnG (P : Program) (w : World) (K : PySem.W.Frag) (mg : Str → Option Value) (base : Heap) (k : Nat) (f : Addr) (fd : FuncData) (ps : List Str) (sp : Sp) : Prop where
  len : ∀ vs H Q E, sp vs H Q E → vs.length = ps.length
  run : ∀ (A : Around) (outer : List Env) (s : Shared) (H : Hp) (args : Args) (us : List Value) (vs : List V) (Q : VK) (E : XK), Room k A → A.guards = some [] → Env0 P w K mg base A outer s H → BindsTo s fd args (ps.zip us) → Vals vs us → sp vs H Q E →
    codeAny (model P w) A (.call (.ref f) args) (CR CX0 outer P w H s Q E) s
theorem FnG.mono {P : Program} {w : World} {K : PySem.W.Frag} {mg : Str → Option Value} {base : Heap} {j k : Nat} {f : Addr} {fd : FuncData} {ps : List Str} {sp : Sp} (F : FnG P w K mg base j f fd ps sp) (h : j ≤ k) : FnG P w K mg base k f fd ps sp :=
  ⟨F.len, fun A outer s H args us vs Q E hr => F.run A outer s H args us vs Q E (hr.mono h)⟩
section
variable {X : Cx} {mf : Nat → Bool} {Φ : Nat → List D → Option (Sl × D)} {pos : Pos} {k : Nat} {f : Addr} {fd : FuncData} {ps : List Str} {sp : Sp} {x : Str} {p : Pos} {e : Expr} {es : List Expr} {t : TA}
theorem run_fnG {pins : List (Addr × Obj)} {σ : L2.St} {H : Hp} {s : Shared} {Q : VK} {us : List Value} {vs : List V} (F : FnG X.prog X.w X.K X.mg X.base k f fd ps sp) (hr : Room k X.A) (hg : X.A.guards = some []) (hb : Binds X.K fd ps [])
    (I : Inv X pins σ H s) (r : Vals vs us) (h : sp vs H Q E0) : wpAny (model X.prog X.w) X.A (PySem.call (.ref f) us) (EP X pins σ Q) X.xe s := by
  have hl : (us ++ ([] : List Value)).length = ps.length := by rw [List.append_nil, ← r.length]; exact F.len _ _ _ _ h
  have bt := hb s us I.kIn hl
  rw [List.append_nil] at bt
  refine wpAny_call (codeAny_mono (F.run X.A X.stack s H ⟨us, []⟩ us vs Q E0 hr hg I.env0 bt r h) fun res s' hq => ?_)
  cases res with
  | error e => exact (hq : False).elim
  | ok fl =>
    cases fl with
    | ret u => exact I.after hq
    | next => exact (hq : False).elim
    | brk => exact (hq : False).elim
    | cont => exact (hq : False).elim
theorem pe_callG (F : FnG X.prog X.w X.K X.mg X.base k f fd ps sp) (hr : Room k X.A) (hg : X.A.guards = some []) (hgl : Gl X x) (hm : X.mg x = some (.ref f)) (hk : PySem.W.keepIn X.K (.ref f) = true) (hb : Binds X.K fd ps [])
    (ha : PA X (e :: es) t) (hdb : (x == ("__debug__" : Str)) = false) (he : starEach (e :: es) X.env = (false, eval e X.env) :: starEach es X.env) (hpl : (backTo pos (starEach es X.env)).any (·.1) = false) :
    PE X (.Call (.Name x p) (e :: es) [] pos) (tCall sp [] E0 t) := by
  refine ⟨fun pins s σ H Q I h => ?_⟩
  refine wpAny_Call_Name_kw (ld_glob I hgl hm ?_ hdb)
  refine PySem.W.callWith_K (h₀ := X.base) I.ok.mod.kin hk (thn (ha.run pos pins s σ H _ I h) fun us s1 ⟨vs, H1, I1, r, q⟩ => ⟨I1.kIn, ?_⟩) he hpl
  have q' : sp vs H1 Q E0 := by simpa using q
  exact run_fnG F hr hg hb I1 r q'
end
/-- what a def that is the text's promises: its answer by the evaluator -/
def spT (K : PySem.W.Frag) (mu : Bool) (run : List D → Option (Sl × D)) : Sp := fun vs H Q _ => match mu with
  | true => ∃ (S : List Addr) (p : Addr) (d0 : List D) (vs' : List V) (ds : List D) (F : List Addr) (r : Sl) (d1 : List D), vs = .ref p :: vs' ∧ Rp K H (.list d0) (.ref p) [p] ∧ imms d0 = true ∧ Mut (H p) ∧ (∀ a ∈ S, H a ≠ none) ∧ p ∈ S ∧ Rps K H ds vs' F ∧ (∀ a ∈ F, a ∉ S) ∧
      run (.list d0 :: ds) = some (r, .list d1) ∧ imms d1 = true ∧ ∀ x H' f, (∀ a u, H a = some u → a ≠ p → H' a = some u) → Rp K H' (.list d1) (.ref p) [p] → Mut (H' p) → CellOk K (S ++ f) H' ⟨some x, r, f⟩ → f.Nodup → (∀ a ∈ f, H a = none ∧ Mut (H' a)) → Q x H'
  | false => ∃ (S : List Addr) (ds : List D) (F : List Addr) (r : Sl) (d' : D), (∀ a ∈ S, H a ≠ none) ∧ Rps K H ds vs F ∧ (∀ a ∈ F, a ∉ S) ∧
      run ds = some (r, d') ∧ ∀ x H' f, Same H H' → CellOk K (S ++ f) H' ⟨some x, r, f⟩ → f.Nodup → (∀ a ∈ f, H a = none ∧ Mut (H' a)) → Q x H'
end Tv
set_option maxHeartbeats 1000000
/-! TvN: changes of what a slot owns; calls of defs. -/
namespace Tv
open PySem PySem.Spec PyProof.Rows L2
section
variable {K : PySem.W.Frag} {S A A' : List Addr} {H0 H H' : Hp} {P M : List Addr} {cs tl l r ts nw : List Cell} {c c' : Cell}
theorem CellOk.move2 (h : CellOk K A H c) (z : Fz M H H') (hA : ∀ a ∈ M, a ∈ A) (hc : ∀ a ∈ M, a ∉ c.f) (hv : c.s.isVo = false ∨ M = []) (hs : ∀ a ∈ A', a ∈ A ∨ H a = none) : CellOk K A' H' c := by
  have h' : CellOk K A H' c := h.move z hA hc hv fun _ q => q
  have nw : ∀ F : List Addr, (∀ a ∈ F, H a ≠ none) → (∀ a ∈ F, a ∉ A) → ∀ a ∈ F, a ∉ A' := fun F h1 h2 a ha q => by
    rcases hs a q with q | q
    · exact h2 a ha q
    · exact h1 a ha q
  obtain ⟨v, s, f⟩ := c
  cases s with
  | sh d =>
    obtain ⟨x, F, e1, e2, e3, e4⟩ := h
    refine ⟨x, F, e1, Rp.frame z d x F e2 fun a ha hm => e3 a ha (hA a hm), nw F (fun a ha => ?_) e3, e4⟩
    obtain ⟨u, hu⟩ := Rp.alive _ _ _ e2 a ha
    exact Rd.some hu
  | ow d =>
    obtain ⟨p, F, e1, e2, e3, e4⟩ := h
    have e4' : f = [p] := e4
    refine ⟨p, F, e1, Rp.frame z d _ _ e2 fun a ha hm => ?_, nw F (fun a ha => ?_) e3, e4⟩
    · rcases List.mem_cons.mp ha with rfl | ha
      · exact hc _ hm (by rw [e4']; simp)
      · exact e3 a ha (hA a hm)
    · obtain ⟨u, hu⟩ := Rp.alive _ _ _ e2 a (by simp [ha])
      exact Rd.some hu
  | vt d =>
    obtain ⟨p, F, e1, e2, e3, e4⟩ := h
    rcases hv with hv | hv
    · simp [Sl.isVo] at hv
    · subst hv
      refine ⟨p, F, e1, Rp.frame z d _ _ e2 fun a _ hm => by simp at hm, nw F (fun a ha => ?_) e3, e4⟩
      obtain ⟨u, hu⟩ := Rp.alive _ _ _ e2 a (by simp [ha])
      exact Rd.some hu
  | un => exact h'
  | vo d => exact h'
  | dp d => exact h'
  | bw d => exact h'
/-- what one slot owns is changed; the last temporaries go, new ones come -/
theorem Ok.step (o : Ok K S H0 P H (l ++ c :: (r ++ tl))) (hvl : noVo l) (hvr : noVo r) (z : ∀ a u, H a = some u → a ∉ c.f → H' a = some u)
    (hc : CellOk K (S ++ fp (l ++ c' :: (r ++ nw))) H' c') (hw : ∀ e ∈ nw, CellOk K (S ++ fp (l ++ c' :: (r ++ nw))) H' e) (hnd : (c'.f ++ fp nw).Nodup)
    (ho : ∀ a ∈ c'.f ++ fp nw, a ∈ c.f ∨ a ∈ fp tl ∨ H a = none) (hm : ∀ a ∈ c'.f ++ fp nw, Mut (H' a)) (hb : ∀ d, c'.s = .bw d → ∀ a ∈ c'.f, a ∈ P) (hbw : ∀ e ∈ nw, ∀ d, e.s ≠ .bw d) : Ok K S H0 P H' (l ++ c' :: (r ++ nw)) := by
  have feo : fp (l ++ c :: (r ++ tl)) = fp l ++ (c.f ++ (fp r ++ fp tl)) := by rw [fp_mid, fp_append]
  have fen : fp (l ++ c' :: (r ++ nw)) = fp l ++ (c'.f ++ (fp r ++ fp nw)) := by rw [fp_mid, fp_append]
  have nd := o.nd
  rw [feo] at nd
  obtain ⟨n1, n2, n3⟩ := List.nodup_append.mp nd
  obtain ⟨n4, n5, n6⟩ := List.nodup_append.mp n2
  obtain ⟨n7, n8, n9⟩ := List.nodup_append.mp n5
  have cmem : ∀ a ∈ c.f, a ∈ fp (l ++ c :: (r ++ tl)) := fun a ha => by rw [feo]; simp [ha]
  have lmem : ∀ a ∈ fp l, a ∈ fp (l ++ c :: (r ++ tl)) := fun a ha => by rw [feo]; simp [ha]
  have rmem : ∀ a ∈ fp r, a ∈ fp (l ++ c :: (r ++ tl)) := fun a ha => by rw [feo]; simp [ha]
  have tmem : ∀ a ∈ fp tl, a ∈ fp (l ++ c :: (r ++ tl)) := fun a ha => by rw [feo]; simp [ha]
  have new : ∀ a ∈ fp (l ++ c' :: (r ++ nw)), a ∈ fp l ∨ a ∈ fp r ∨ a ∈ c'.f ++ fp nw := fun a ha => by
    rw [fen] at ha
    simp only [List.mem_append] at ha ⊢
    rcases ha with h | h | h | h
    · exact .inl h
    · exact .inr (.inr (.inl h))
    · exact .inr (.inl h)
    · exact .inr (.inr (.inr h))
  have newo : ∀ a ∈ fp (l ++ c' :: (r ++ nw)), a ∈ fp (l ++ c :: (r ++ tl)) ∨ H a = none := fun a ha => by
    rcases new a ha with h | h | h
    · exact .inl (lmem a h)
    · exact .inl (rmem a h)
    · rcases ho a h with h | h | h
      · exact .inl (cmem a h)
      · exact .inl (tmem a h)
      · exact .inr h
  have fz : Fz c.f H H' := by
    refine ⟨fun a u h hn _ => ?_, fun a xs h => z a _ h fun hn => Mut.notTup (o.mu a (cmem a hn)) xs h⟩
    rcases h with h | ⟨q, h⟩
    · exact .inl (z a _ h hn)
    · exact .inr ⟨q, z a _ h hn⟩
  have lc : ∀ a ∈ fp l, a ∉ c.f := fun a ha hn => n3 a ha a (List.mem_append_left _ hn) rfl
  have rc : ∀ a ∈ fp r, a ∉ c.f := fun a ha hn => n6 a hn a (List.mem_append_left _ ha) rfl
  have old : ∀ e, e ∈ l ∨ e ∈ r → CellOk K (S ++ fp (l ++ c' :: (r ++ nw))) H' e := fun e he => by
    refine (o.cell e (by rcases he with h | h <;> simp [h])).move2 fz (fun a ha => List.mem_append_right _ (cmem a ha)) (fun a ha hn => ?_) (.inl (he.elim (hvl e) (hvr e))) fun a ha => ?_
    · rcases he with h | h
      · exact lc a (fp_mem h hn) ha
      · exact rc a (fp_mem h hn) ha
    · rcases List.mem_append.mp ha with h | h
      · exact .inl (List.mem_append_left _ h)
      · exact (newo a h).imp (List.mem_append_right _) id
  have keep : ∀ a, H a ≠ none → a ∉ c.f → H' a = H a := fun a h1 h2 => by
    cases e : H a with
    | none => exact absurd e h1
    | some u => exact z a u e h2
  refine ⟨fun e he => ?_, ?_, fun a ha => ?_, fun a ha h => ?_, fun a ha => ?_, fun a u h hp => ?_, fun a ha => ?_, fun e he d hd => ?_⟩
  · rcases List.mem_append.mp he with h | h
    · exact old e (.inl h)
    · rcases List.mem_cons.mp h with rfl | h
      · exact hc
      · rcases List.mem_append.mp h with h | h
        · exact old e (.inr h)
        · exact hw e h
  · obtain ⟨m1, m2, m3⟩ := List.nodup_append.mp hnd
    have fresh : ∀ a ∈ c'.f ++ fp nw, ∀ b, b ∈ fp l ∨ b ∈ fp r → a ≠ b := fun a ha b hb e => by
      subst e
      have hbm : a ∈ fp (l ++ c :: (r ++ tl)) := hb.elim (lmem a) (rmem a)
      rcases ho a ha with h | h | h
      · rcases hb with q | q
        · exact lc a q h
        · exact rc a q h
      · rcases hb with q | q
        · exact n3 a q a (List.mem_append_right _ (List.mem_append_right _ h)) rfl
        · exact n9 a q a h rfl
      · exact Mut.some (o.mu a hbm) h
    rw [fen]
    refine List.nodup_append.mpr ⟨n1, List.nodup_append.mpr ⟨m1, List.nodup_append.mpr ⟨n7, m2, fun a ha b hb e => fresh b (List.mem_append_right _ hb) a (.inr ha) e.symm⟩, fun a ha b hb e => ?_⟩, fun a ha b hb e => ?_⟩
    · rcases List.mem_append.mp hb with hb | hb
      · exact fresh a (List.mem_append_left _ ha) b (.inr hb) e
      · exact m3 a ha b hb e
    · simp only [List.mem_append] at hb
      rcases hb with hb | hb | hb
      · exact fresh b (List.mem_append_left _ hb) a (.inl ha) e.symm
      · exact n3 a ha b (List.mem_append_right _ (List.mem_append_left _ hb)) e
      · exact fresh b (List.mem_append_right _ hb) a (.inl ha) e.symm
  · rcases new a ha with h | h | h
    · rw [keep a (Mut.some (o.mu a (lmem a h))) (lc a h)]; exact o.mu a (lmem a h)
    · rw [keep a (Mut.some (o.mu a (rmem a h))) (rc a h)]; exact o.mu a (rmem a h)
    · exact hm a h
  · rcases newo a h with q | q
    · exact o.dj a ha q
    · exact o.al a ha q
  · have h1 := o.al a ha
    rw [keep a h1 fun hn => o.dj a ha (cmem a hn)]
    exact h1
  · refine z a u (o.ext a u h hp) fun hn => ?_
    rcases o.fr a (cmem a hn) with q | q
    · exact hp q
    · rw [h] at q; cases q
  · rcases newo a ha with h | e
    · exact o.fr a h
    · by_cases hp : a ∈ P
      · exact .inl hp
      · right
        cases q : H0 a with
        | none => rfl
        | some u => rw [o.ext a u q hp] at e; cases e
  · rcases List.mem_append.mp he with h | h
    · exact o.bw e (by simp [h]) d hd
    · rcases List.mem_cons.mp h with rfl | h
      · exact hb d hd
      · rcases List.mem_append.mp h with h | h
        · exact o.bw e (by simp [h]) d hd
        · exact absurd hd (hbw e h d)
/-- the data of temporaries that hold one -/
theorem rps_any {R : Sl → Prop} (hR : ∀ s, R s → s ≠ .un) : ∀ {tl : List Cell} {xs : List V}, (∀ c ∈ tl, R c.s) → (∀ c ∈ tl, CellOk K A H c) → tl.map (·.v) = xs.map some → ∃ F, Rps K H (tl.map fun c => c.s.d) xs F
  | [], xs, _, _, hv => by
    have : xs = [] := by cases xs <;> simp at hv ⊢
    subst this
    exact ⟨[], Rps.nil⟩
  | c :: tl, xs, hg, hc, hv => by
    cases xs with
    | nil => simp at hv
    | cons x xs =>
      have hv' : c.v = some x ∧ tl.map (·.v) = xs.map some := by simpa using hv
      obtain ⟨F, r⟩ := rps_any hR (fun d hd => hg d (by simp [hd])) (fun d hd => hc d (by simp [hd])) hv'.2
      obtain ⟨y, G, e1, e2⟩ := (hc c (by simp)).rp (hR _ (hg c (by simp)))
      have : x = y := Option.some.inj (hv'.1.symm.trans e1)
      subst this
      exact ⟨G ++ F, Rps.cons e2 r⟩
theorem own_list {L : PySem.W.Frag} {ns : List D} {v : V} {F : List Addr} (h : Rp K H (.list ns) v F) (hF : F ≠ []) (hi : imms ns = true) : ∃ p xs, v = .ref p ∧ F = [p] ∧ Rd H p (.lst xs) ∧ Rps L H ns xs [] := by
  unfold Rp at h
  rcases h with ⟨a, xs, G, e1, e2, e3, e4⟩ | ⟨a, xs, e1, e2, e3, e4⟩
  · have eG := Rps.imm ns xs G hi e4
    subst eG
    exact ⟨a, xs, e1, e3, e2, Rps.nar _ _ _ hi e4⟩
  · exact absurd e3 hF
theorem own_list0 {ns : List D} {v : V} {F : List Addr} (h : Rp [] H (.list ns) v F) : ∃ p xs G, v = .ref p ∧ F = p :: G ∧ Rd H p (.lst xs) ∧ Rps [] H ns xs G := by
  unfold Rp at h
  rcases h with ⟨a, xs, G, e1, e2, e3, e4⟩ | ⟨a, xs, e1, ⟨o, its, n, q, _⟩, _⟩
  · exact ⟨a, xs, G, e1, e3, e2, e4⟩
  · cases q
end
section
variable {X : Cx} {mf : Nat → Bool} {Φ : Nat → List D → Option (Sl × D)} {pos : Pos} {k : Nat} {f : Addr} {fd : FuncData} {ps : List Str} {x : Str} {p : Pos} {e : Expr} {es : List Expr}
theorem ev_call_f {f : Nat} {m : Md} {exs : Exs} {env : Ev} (hmf : mf f = false) : ev mf Φ m (.call f exs) env = (do
    let (rs, e1) ← evs mf Φ (if quiets mf exs then .bor else .val) exs env
    let (r, _) ← Φ f (rs.map (·.d))
    if r.isDp || (!rs.any (·.isVo) && r.good) then some (r, e1) else none) := by
  unfold ev
  rw [if_neg (by rw [hmf]; decide)]
/-- a call of a def that changes nothing -/
theorem te_call {id : Nat} {ex : Exs} {m : Md} (F : FnG X.prog X.w X.K X.mg X.base k f fd ps (spT X.K false (Φ id))) (hmf : mf id = false) (hr : Room k X.A) (hg : X.A.guards = some []) (hgl : Gl X x) (hm : X.mg x = some (.ref f)) (hk : PySem.W.keepIn X.K (.ref f) = true) (hb : Binds X.K fd ps [])
    (hdb : (x == ("__debug__" : Str)) = false) (he : starEach (e :: es) X.env = (false, eval e X.env) :: starEach es X.env) (hpl : (backTo pos (starEach es X.env)).any (·.1) = false) (ha : ∀ m, PA X (e :: es) (tEs X.K mf Φ m ex)) :
    PE X (.Call (.Name x p) (e :: es) [] pos) (tE X.K mf Φ m (.call id ex)) := by
  refine PE.pull fun σ H Q q => ?_
  obtain ⟨S, H0, P, cs, ts, r0, env, rfl, o, hev, hq, kk⟩ := q
  rw [ev_call_f hmf] at hev
  simp only [Option.bind_eq_bind, Option.bind_eq_some_iff] at hev
  obtain ⟨⟨rs, e1⟩, h1, ⟨r, d'⟩, h2, hev⟩ := hev
  simp only at h1 h2 hev
  split at hev
  · rename_i hcond
    cases hev
    generalize hmm : (if quiets mf ex = true then Md.bor else Md.val) = m' at h1
    have hqq : quiet mf (.call id ex) = quiets mf ex := by simp [quiet, hmf]
    rw [hqq] at hq kk
    refine ⟨_, pe_callG F hr hg hgl hm hk hb (ha m') hdb he hpl, S, H0, P, cs, ts, rs, env, rfl, o, h1, ?_, fun xs H' cs' tl hv hs t1 t2 o' same => ?_⟩
    · by_cases w : quiets mf ex = true
      · exact .inl w
      · rw [if_neg w] at hmm
        subst hmm
        exact .inr ⟨hq.resolve_left w, by decide⟩
    have e0 : xs ++ [] = xs := List.append_nil xs
    simp only [e0]
    by_cases hd : r0.isDp = true
    · obtain ⟨F, rp⟩ := rps_any (R := fun s => s ≠ .un) (fun _ h => h) (tl_all (p := fun r => r ≠ .un) t2 (evs_nu _ _ _ _ _ h1)) (fun c hc => o'.cell c (by simp [hc])) t1
      rw [tl_d t2] at rp
      refine ⟨[], rs.map (·.d), F, r0, d', fun a h => by simp at h, rp, fun a _ h => by simp at h, h2, fun v H'' f sm hc hnd hf => ?_⟩
      have ob : Ok X.K S H0 P H' (cs' ++ ts) := o'.drop (List.sublist_append_left _ _)
      cases r0 with
      | dp d =>
        refine kk v H'' cs' f hv hs (ob.push sm hc (fun a ha => (hf a ha).1) hnd (fun a ha => (hf a ha).2) fun d => by simp) fun w => (same w).trans sm
      | _ => cases hd
    · have hc2 : rs.any (·.isVo) = false ∧ r0.good = true := by
        simp only [Bool.not_eq_true] at hd
        simpa [hd] using hcond
      have gd : ∀ r ∈ rs, r.good = true := fun r hr => by
        rcases evs_gv _ _ _ _ _ h1 r hr with h | h
        · exact h
        · have := List.any_eq_false.mp hc2.1 r hr
          exact absurd h this
      have o2 := o'.demAll
      obtain ⟨F, rp, av⟩ := rps_dem (tl_all (p := fun r => r.good = true) t2 gd) (fun c hc => o2.cell c (by simp [hc])) t1
      rw [tl_d t2] at rp
      have ob : Ok X.K S H0 P H' (cs' ++ ts) := o'.drop (List.sublist_append_left _ _)
      refine ⟨S ++ fp (cs' ++ ts), rs.map (·.d), F, r0, d', fun a h => ?_, rp, fun a ha h => av a ha ?_, h2, fun v H'' f sm hc hnd hf => ?_⟩
      · rcases List.mem_append.mp h with h | h
        · exact ob.al a h
        · exact Mut.some (ob.mu a h)
      · rw [fp_append, ← List.append_assoc]
        exact List.mem_append_left _ h
      · refine kk v H'' cs' f hv hs (ob.push sm hc (fun a ha => (hf a ha).1) hnd (fun a ha => (hf a ha).2) fun d e => ?_) fun w => (same w).trans sm
        have hg := hc2.2
        rw [show r0 = .bw d from e] at hg
        cases hg
  · cases hev
/-- a call of a def that changes its first argument, a list of the caller's own -/
theorem te_callM {id i : Nat} {ex : Exs} {m : Md} (F : FnG X.prog X.w X.K X.mg X.base k f fd ps (spT X.K true (Φ id))) (hmf : mf id = true) (hr : Room k X.A) (hg : X.A.guards = some []) (hgl : Gl X x) (hm : X.mg x = some (.ref f)) (hk : PySem.W.keepIn X.K (.ref f) = true) (hb : Binds X.K fd ps [])
    (hdb : (x == ("__debug__" : Str)) = false) (he : starEach (e :: es) X.env = (false, eval e X.env) :: starEach es X.env) (hpl : (backTo pos (starEach es X.env)).any (·.1) = false) (h0 : PE X e (tVar i)) (ha : ∀ m, PA X es (tEs X.K mf Φ m ex)) :
    PE X (.Call (.Name x p) (e :: es) [] pos) (tE X.K mf Φ m (.call id (.cons (.var i) ex))) := by
  refine weak (pe_callG F hr hg hgl hm hk hb (pa_cons h0 (ha .val) he) hdb he hpl) fun σ H Q q => ?_
  obtain ⟨S, H0, P, cs, ts, r0, env, rfl, o, hev, hq, kk⟩ := q
  have hqq : quiet mf (.call id (.cons (.var i) ex)) = false := by simp [quiet, hmf]
  rw [hqq] at hq kk
  have nvt : noVo ts := hq.resolve_left (by decide)
  unfold ev at hev
  rw [if_pos hmf] at hev
  simp only [Option.bind_eq_bind, Option.bind_eq_some_iff] at hev
  obtain ⟨⟨rs, e1⟩, h1, hev⟩ := hev
  simp only at h1 hev
  split at hev
  · cases hev
  rename_i hnvu
  have hnv : ¬(List.any e1 fun x => x.isVo) = true := fun q => hnvu (by rw [q]; rfl)
  have hun : unS (cs.map (·.s)) i = false := by
    cases q : unS (cs.map (·.s)) i with
    | false => rfl
    | true => exact absurd (by rw [q]; simp) hnvu
  have hval : ∃ v, (cs.map (·.v))[i]? = some (some v) := by
    unfold unS at hun
    cases hi : (cs.map (·.s))[i]? with
    | none => rw [hi] at hun; cases hun
    | some sl =>
      obtain ⟨l, c, r, e1, e2, e3⟩ := env_at hi
      have hcell := o.cell c (by rw [e1]; simp)
      have hne : c.s ≠ .un := fun q => by
        rw [hi] at hun
        rw [← e3, q] at hun
        cases hun
      obtain ⟨v, _, q, _⟩ := hcell.rp hne
      exact ⟨v, by rw [e1, List.getElem?_map, get_mid e2]; simp [q]⟩
  -- the slot that is changed
  have go : ∀ (w : D → Sl) (ns : List D), e1[i]? = some (w (.list ns)) → ((∀ d, w d = .bw d) ∨ (∀ d, w d = .dp d)) → imms ns = true →
      (∃ d', Φ id (.list ns :: rs.map (·.d)) = some (r0, d') ∧ ∃ ns', d' = .list ns' ∧ imms ns' = true ∧ r0.good = true ∧ env = e1.set i (w (.list ns'))) →
      tCall (spT X.K true (Φ id)) [] E0 (tCons (tVar i) (tEs X.K mf Φ .val ex)) (cs.map (·.v)) H Q := fun w ns hi hw hns hfi => by
    obtain ⟨d', h2, ns', rfl, hi', hgood, rfl⟩ := hfi
    cases hvi : (cs.map (·.v))[i]? with
    | none => obtain ⟨v, q⟩ := hval; rw [hvi] at q; cases q
    | some ov =>
      -- the slots after the arguments: i holds a list
      have body : ∀ xs H' cs' tl, cs'.map (·.v) = cs.map (·.v) → cs'.map (·.s) = e1 → tl.map (·.v) = xs.map some → tl.map (·.s) = rs → Ok X.K S H0 P H' (cs' ++ ts ++ tl) → ∃ v, ov = some v ∧ spT X.K true (Φ id) (v :: xs ++ []) H' Q E0 := fun xs H' cs' tl hv hs t1 t2 o' => by
        have hci : (cs'.map (·.s))[i]? = some (w (.list ns)) := by rw [hs]; exact hi
        obtain ⟨l, c, r, ec, el, es'⟩ := env_at hci
        have o2 : Ok X.K S H0 P H' (cs' ++ ts ++ tl.map Cell.dem) := o'.demAll
        have gd := evs_good _ _ _ _ _ (by decide) h1
        obtain ⟨Fa, rp, av⟩ := rps_dem (tl_all (p := fun r => r.good = true) t2 gd) (fun c hc => o2.cell c (by simp [hc])) t1
        rw [tl_d t2] at rp
        have fdem : fp (tl.map Cell.dem) = [] := fp_dem (tl_all (p := fun r => r.good = true) t2 gd) fun c hc => o'.cell c (by simp [hc])
        subst ec
        have hcell := o2.cell c (by simp)
        have hcv : ov = c.v := by
          have q : ((l ++ c :: r).map (·.v))[i]? = some c.v := by rw [List.getElem?_map, get_mid el]; rfl
          rw [hv, hvi] at q
          exact Option.some.inj q
        have hown : ∃ p xs0, c.v = some (.ref p) ∧ c.f = [p] ∧ Rd H' p (.lst xs0) ∧ (∀ L, Rps L H' ns xs0 []) ∧ ((∀ d, w d = .bw d) → p ∈ P) := by
          obtain ⟨cv, csl, cf⟩ := c
          have es'' : csl = w (.list ns) := es'
          rcases hw with hw | hw
          · rw [hw] at es''
            subst es''
            obtain ⟨p, q1, q2, q3⟩ := hcell
            obtain ⟨p', xs0, b1, b2, b3, b4⟩ := own_list (L := []) q2 (by simp) hns
            cases b1
            have hP := o2.bw ⟨cv, .bw (.list ns), cf⟩ (by simp) _ rfl
            have q3' : cf = [p] := q3
            exact ⟨p, xs0, q1, q3, b3, fun L => Rps.nar _ _ _ hns b4, fun _ => hP p (by show p ∈ cf; rw [q3']; simp)⟩
          · rw [hw] at es''
            subst es''
            obtain ⟨v, q1, q2⟩ := hcell
            obtain ⟨p', xs0, G, b1, b2, b3, b4⟩ := own_list0 q2
            have eG := Rps.imm ns xs0 G hns b4
            subst eG
            subst b1
            exact ⟨p', xs0, q1, b2, b3, fun L => Rps.nar _ _ _ hns b4, fun h => absurd (h .none) (by rw [hw]; intro q; cases q)⟩
        obtain ⟨p, xs0, b1, b2, b3, b4, b5⟩ := hown
        have hpf : p ∈ fp (l ++ c :: r ++ ts ++ tl.map Cell.dem) := fp_mem (c := c) (by simp) (by rw [b2]; simp)
        have hrp : ∀ L, Rp L H' (.list ns) (.ref p) [p] := fun L => by unfold Rp; exact .inl ⟨p, xs0, [], rfl, b3, rfl, b4 L⟩
        refine ⟨.ref p, by rw [hcv, b1], ?_⟩
        have e0 : (V.ref p :: xs) ++ [] = V.ref p :: xs := List.append_nil _
        rw [e0]
        refine ⟨S ++ fp (l ++ c :: r ++ ts ++ tl.map Cell.dem), p, ns, xs, rs.map (·.d), Fa, r0, ns', rfl, hrp _, hns, o2.mu p hpf, fun a h => ?_, List.mem_append_right _ hpf, rp, av, h2, hi', fun v H'' f hkeep hrp1 hmp hcell1 hnd hf => ?_⟩
        · rcases List.mem_append.mp h with h | h
          · exact o2.al a h
          · exact Mut.some (o2.mu a h)
        have on : Ok X.K S H0 P H'' (l ++ (⟨some (.ref p), w (.list ns'), [p]⟩ : Cell) :: ((r ++ ts) ++ [⟨some v, r0, f⟩])) := by
          have hnb : ∀ d, r0 ≠ .bw d := fun d e => by rw [e] at hgood; cases hgood
          have nve : noVo (l ++ c :: r) := fun c' hc' => by
            have : c'.s ∈ e1 := by rw [← hs]; exact List.mem_map.mpr ⟨c', hc', rfl⟩
            cases q : c'.s.isVo with
            | false => rfl
            | true => exact absurd (List.any_eq_true.mpr ⟨_, this, q⟩) hnv
          have o3 : Ok X.K S H0 P H' (l ++ c :: ((r ++ ts) ++ tl.map Cell.dem)) := by simpa using o2
          have hfd : p ∉ f := fun h => (hf p h).1 |> fun q => Mut.some (o2.mu p hpf) q
          refine o3.step (c' := ⟨some (.ref p), w (.list ns'), [p]⟩) (nw := [⟨some v, r0, f⟩]) (fun c' hc' => nve c' (by simp [hc'])) (noVo_app (fun c' hc' => nve c' (by simp [hc'])) nvt) (fun a u h hn => hkeep a u h fun e => hn (by rw [b2, e]; simp)) ?_ (fun e he => ?_) ?_ (fun a ha => ?_) (fun a ha => ?_) (fun d hd => ?_) fun e he d hd => ?_
          · rcases hw with hw | hw
            · rw [hw]; exact ⟨p, rfl, hrp1, rfl⟩
            · rw [hw]
              obtain ⟨p', xs1, d1, d2, d3, d4⟩ := own_list (L := []) hrp1 (by simp) hi'
              cases d1
              refine ⟨.ref p, rfl, ?_⟩
              unfold Rp
              exact .inl ⟨p, xs1, [], rfl, d3, rfl, d4⟩
          · have : e = ⟨some v, r0, f⟩ := by simpa using he
            subst this
            refine hcell1.less fun a ha => ?_
            have fe1 : fp (l ++ c :: r ++ ts ++ tl.map Cell.dem) = fp l ++ ([p] ++ (fp r ++ fp ts)) := by simp [fp_append, fp_cons, fp_nil, b2, fdem]
            have fe2 : fp (l ++ (⟨some (.ref p), w (.list ns'), [p]⟩ : Cell) :: ((r ++ ts) ++ [⟨some v, r0, f⟩])) = fp l ++ ([p] ++ (fp r ++ (fp ts ++ f))) := by simp [fp_append, fp_cons, fp_nil]
            rw [fe2] at ha
            rw [fe1]
            simp only [List.mem_append] at ha ⊢
            rcases ha with h | h | h | h | h | h
            · exact .inl (.inl h)
            · exact .inl (.inr (.inl h))
            · exact .inl (.inr (.inr (.inl h)))
            · exact .inl (.inr (.inr (.inr (.inl h))))
            · exact .inl (.inr (.inr (.inr (.inr h))))
            · exact .inr h
          · rw [fp_cons, fp_nil, List.append_nil]
            exact List.nodup_append.mpr ⟨by simp, hnd, fun a ha b hb e => by
              have : a = p := by simpa using ha
              subst this
              exact hfd (e ▸ hb)⟩
          · rw [fp_cons, fp_nil, List.append_nil] at ha
            rcases List.mem_append.mp ha with h | h
            · exact .inl (by rw [b2]; exact h)
            · exact .inr (.inr (hf a h).1)
          · rw [fp_cons, fp_nil, List.append_nil] at ha
            rcases List.mem_append.mp ha with h | h
            · have : a = p := by simpa using h
              rw [this]; exact hmp
            · exact (hf a h).2
          · rcases hw with hw | hw
            · intro a ha
              have : a = p := by simpa using ha
              rw [this]; exact b5 hw
            · rw [hw] at hd; cases hd
          · have : e = ⟨some v, r0, f⟩ := by simpa using he
            subst this
            exact hnb d hd
        refine kk v H'' (l ++ ⟨some (.ref p), w (.list ns'), [p]⟩ :: r) f ?_ ?_ (by simpa using on) (fun q => by cases q)
        · rw [← hv]; simp [b1]
        · rw [← hs]
          simp only [List.map_append, List.map_cons]
          rw [set_mid (by simpa using el)]
      obtain ⟨v, hov⟩ : ∃ v, ov = some v := by
        obtain ⟨v, q⟩ := hval
        rw [hvi] at q
        exact ⟨v, Option.some.inj q⟩
      subst hov
      refine ⟨v, hvi, S, H0, P, cs, ts, rs, e1, rfl, o, h1, .inr ⟨nvt, by decide⟩, fun xs H' cs' tl hv hs t1 t2 o' _ => ?_⟩
      obtain ⟨v', q, r⟩ := body xs H' cs' tl hv hs t1 t2 o'
      cases q
      exact r
  split at hev
  · rename_i ns hi
    split at hev
    · cases hev
    rename_i hns
    simp only [Option.bind_eq_some_iff] at hev
    obtain ⟨⟨r, d'⟩, h2, hev⟩ := hev
    simp only at hev
    split at hev
    · split at hev
      · cases hev
      · rename_i ns' hcnd
        cases hev
        have h3 : imms ns' = true ∧ r0.good = true := by
          simp only [Bool.or_eq_true, Bool.not_eq_true', not_or, Bool.not_eq_false] at hcnd
          exact hcnd
        exact go .bw ns hi (.inl fun _ => rfl) (by simpa using hns) ⟨_, h2, ns', rfl, h3.1, h3.2, rfl⟩
    · cases hev
  · rename_i ns hi
    split at hev
    · cases hev
    rename_i hns
    simp only [Option.bind_eq_some_iff] at hev
    obtain ⟨⟨r, d'⟩, h2, hev⟩ := hev
    simp only at hev
    split at hev
    · split at hev
      · cases hev
      · rename_i ns' hcnd
        cases hev
        have h3 : imms ns' = true ∧ r0.good = true := by
          simp only [Bool.or_eq_true, Bool.not_eq_true', not_or, Bool.not_eq_false] at hcnd
          exact hcnd
        exact go .dp ns hi (.inr fun _ => rfl) (by simpa using hns) ⟨_, h2, ns', rfl, h3.1, h3.2, rfl⟩
    · cases hev
  · cases hev
/-- a call of a def that changes its only argument, a new list -/
theorem te_callM1 {id : Nat} {ee : Ex} {m : Md} (F : FnG X.prog X.w X.K X.mg X.base k f fd ps (spT X.K true (Φ id))) (hmf : mf id = true) (hr : Room k X.A) (hg : X.A.guards = some []) (hgl : Gl X x) (hm : X.mg x = some (.ref f)) (hk : PySem.W.keepIn X.K (.ref f) = true) (hb : Binds X.K fd ps [])
    (hdb : (x == ("__debug__" : Str)) = false) (he : starEach (e :: es) X.env = (false, eval e X.env) :: starEach es X.env) (hpl : (backTo pos (starEach es X.env)).any (·.1) = false) (hvar : ∀ i, ee ≠ .var i) (ha : ∀ m, PA X (e :: es) (tEs X.K mf Φ m (.cons ee .nil))) :
    PE X (.Call (.Name x p) (e :: es) [] pos) (tE X.K mf Φ m (.call id (.cons ee .nil))) := by
  refine PE.pull fun σ H Q q => ?_
  obtain ⟨S, H0, P, cs, ts, r0, env, rfl, o, hev, hq, kk⟩ := q
  have hqq : quiet mf (.call id (.cons ee .nil)) = false := by simp [quiet, hmf]
  rw [hqq] at hq kk
  have nvt : noVo ts := hq.resolve_left (by decide)
  unfold ev at hev
  rw [if_pos hmf] at hev
  split at hev
  · rename_i i rest hc
    cases hc
    exact absurd rfl (hvar i)
  · rename_i e' hne hc
    cases hc
    simp only [Option.bind_eq_bind, Option.bind_eq_some_iff] at hev
    obtain ⟨⟨sl, e1⟩, h1, hev⟩ := hev
    simp only at h1 hev
    split at hev
    · cases hev
    rename_i hnv
    split at hev
    · rename_i ns
      split at hev
      · cases hev
      rename_i hns
      have hns' : imms ns = true := by simpa using hns
      simp only [Option.bind_eq_some_iff] at hev
      obtain ⟨⟨r, d'⟩, h2, hev⟩ := hev
      simp only at h2 hev
      split at hev
      · rename_i ns'
        split at hev
        · cases hev
        rename_i hcnd
        cases hev
        have h3 : imms ns' = true ∧ r0.good = true := by
          simp only [Bool.or_eq_true, Bool.not_eq_true', not_or, Bool.not_eq_false] at hcnd
          exact hcnd
        have hes : evs mf Φ .val (.cons ee .nil) (cs.map (·.s)) = some ([.dp (.list ns)], env) := by
          unfold evs
          simp only [Option.bind_eq_bind, h1, Option.bind_some]
          unfold evs
          rfl
        refine ⟨_, pe_callG F hr hg hgl hm hk hb (ha .val) hdb he hpl, S, H0, P, cs, ts, [.dp (.list ns)], env, rfl, o, hes, .inr ⟨nvt, by decide⟩, fun xs H' cs' tl hv hs t1 t2 o' _ => ?_⟩
        obtain ⟨c, hc⟩ : ∃ c, tl = [c] := by
          have := congrArg List.length t2
          match tl, this with
          | [c], _ => exact ⟨c, rfl⟩
        subst hc
        obtain ⟨cv, csl, cf⟩ := c
        have ecs : csl = .dp (.list ns) := by simpa using t2
        subst ecs
        obtain ⟨v, q1, q2⟩ := o'.cell ⟨cv, .dp (.list ns), cf⟩ (by simp)
        obtain ⟨p', xs0, G, b1, b2, b3, b4⟩ := own_list0 q2
        have eG := Rps.imm ns xs0 G hns' b4
        subst eG
        subst b1
        subst b2
        have q1' : cv = some (.ref p') := q1
        subst q1'
        have exs : xs = [.ref p'] := by
          cases xs with
          | nil => simp at t1
          | cons z zs =>
            cases zs with
            | nil =>
              have : some (V.ref p') = some z := by simpa using t1
              cases this
              rfl
            | cons z2 zs => simp at t1
        subst exs
        have hrp : ∀ L, Rp L H' (.list ns) (.ref p') [p'] := fun L => by unfold Rp; exact .inl ⟨p', xs0, [], rfl, b3, rfl, Rps.nar _ _ _ hns' b4⟩
        have hpf : p' ∈ fp (cs' ++ ts ++ [⟨some (.ref p'), .dp (.list ns), [p']⟩]) := fp_mem (c := ⟨some (.ref p'), .dp (.list ns), [p']⟩) (by simp) (by simp)
        show spT X.K true (Φ id) [.ref p'] H' Q E0
        refine ⟨S ++ fp (cs' ++ ts ++ [⟨some (.ref p'), .dp (.list ns), [p']⟩]), p', ns, [], [], [], r0, ns', rfl, hrp _, hns', o'.mu p' hpf, fun a h => ?_, List.mem_append_right _ hpf, Rps.nil, fun a h => by simp at h, h2, h3.1, fun v H'' f hkeep hrp1 hmp hcell1 hnd hf => ?_⟩
        · rcases List.mem_append.mp h with h | h
          · exact o'.al a h
          · exact Mut.some (o'.mu a h)
        have nve : noVo cs' := fun c' hc' => by
          have : c'.s ∈ env := by rw [← hs]; exact List.mem_map.mpr ⟨c', hc', rfl⟩
          cases q : c'.s.isVo with
          | false => rfl
          | true => exact absurd (List.any_eq_true.mpr ⟨_, this, q⟩) hnv
        have hnb : ∀ d, r0 ≠ .bw d := fun d e => by
          have := h3.2
          rw [e] at this
          cases this
        have o3 : Ok X.K S H0 P H' ((cs' ++ ts) ++ (⟨some (.ref p'), .dp (.list ns), [p']⟩ : Cell) :: ([] ++ [])) := by simpa using o'
        have hfd : p' ∉ f := fun h => Mut.some (o'.mu p' hpf) (hf p' h).1
        have on : Ok X.K S H0 P H'' ((cs' ++ ts) ++ (⟨some (.ref p'), .dp (.list ns'), [p']⟩ : Cell) :: ([] ++ [⟨some v, r0, f⟩])) := by
          refine o3.step (noVo_app nve nvt) (fun c' hc' => by simp at hc') (fun a u h hn => hkeep a u h fun e => hn (by rw [e]; simp)) ?_ (fun e he => ?_) ?_ (fun a ha => ?_) (fun a ha => ?_) (fun d hd => by cases hd) fun e he d hd => ?_
          · obtain ⟨p2, xs1, d1, d2, d3, d4⟩ := own_list (L := []) hrp1 (by simp) h3.1
            cases d1
            refine ⟨.ref p', rfl, ?_⟩
            unfold Rp
            exact .inl ⟨p', xs1, [], rfl, d3, rfl, d4⟩
          · have : e = ⟨some v, r0, f⟩ := by simpa using he
            subst this
            refine hcell1.less fun a ha => ?_
            have fe1 : fp (cs' ++ ts ++ [(⟨some (.ref p'), .dp (.list ns), [p']⟩ : Cell)]) = fp cs' ++ (fp ts ++ [p']) := by simp [fp_append, fp_cons, fp_nil]
            have fe2 : fp ((cs' ++ ts) ++ (⟨some (.ref p'), .dp (.list ns'), [p']⟩ : Cell) :: ([] ++ [⟨some v, r0, f⟩])) = fp cs' ++ (fp ts ++ ([p'] ++ f)) := by simp [fp_append, fp_cons, fp_nil]
            rw [fe2] at ha
            rw [fe1]
            simp only [List.mem_append] at ha ⊢
            rcases ha with h | h | h | h | h
            · exact .inl (.inl h)
            · exact .inl (.inr (.inl h))
            · exact .inl (.inr (.inr (.inl h)))
            · exact .inl (.inr (.inr (.inr h)))
            · exact .inr h
          · rw [fp_cons, fp_nil, List.append_nil]
            exact List.nodup_append.mpr ⟨by simp, hnd, fun a ha b hb e => by
              have : a = p' := by simpa using ha
              subst this
              exact hfd (e ▸ hb)⟩
          · rw [fp_cons, fp_nil, List.append_nil] at ha
            rcases List.mem_append.mp ha with h | h
            · exact .inl h
            · exact .inr (.inr (hf a h).1)
          · rw [fp_cons, fp_nil, List.append_nil] at ha
            rcases List.mem_append.mp ha with h | h
            · have : a = p' := by simpa using h
              rw [this]; exact hmp
            · exact (hf a h).2
          · have : e = ⟨some v, r0, f⟩ := by simpa using he
            subst this
            exact hnb d hd
        refine kk v H'' cs' f hv hs ?_ (fun q => by cases q)
        refine on.drop ?_
        simp only [List.append_assoc, List.nil_append]
        exact (List.Sublist.refl cs').append ((List.Sublist.refl ts).append (List.sublist_cons_self _ _))
      · cases hev
    · cases hev
  · cases hev
end
end Tv
set_option maxHeartbeats 1000000
/-! TvO: targets. -/
namespace Tv
open PySem PySem.Spec PyProof.Rows L2
mutual
/-- the slots that a target names -/
def tgIx : Tg → List Nat
  | .nm i => [i]
  | .tup ts => tgsIx ts
  | .sub _ _ => []
def tgsIx : Tgs → List Nat
  | .nil => []
  | .cons t ts => tgIx t ++ tgsIx ts
def tgsLen : Tgs → Nat
  | .nil => 0
  | .cons _ ts => tgsLen ts + 1
end
section
variable {K : PySem.W.Frag} {S A A' : List Addr} {H0 H H' : Hp} {P M : List Addr} {cs tl l r ts nw a b : List Cell} {c c' : Cell}
theorem Ok.swap (o : Ok K S H0 P H (a ++ [c])) (hf : fp tl = c.f) (hc : ∀ e ∈ tl, CellOk K (S ++ fp (a ++ [c])) H e) (hb : ∀ e ∈ tl, ∀ d, e.s ≠ .bw d) : Ok K S H0 P H (a ++ tl) := by
  have fe : fp (a ++ tl) = fp (a ++ [c]) := by rw [fp_append, fp_append, hf, fp_cons, fp_nil, List.append_nil]
  refine o.sub (by rw [fe]; exact o.nd) (fun x hx => by rw [← fe]; exact hx) (fun e he => ?_) fun e he d hd => ?_
  · rw [fe]
    rcases List.mem_append.mp he with h | h
    · exact o.cell e (by simp [h])
    · exact hc e h
  · rcases List.mem_append.mp he with h | h
    · exact o.bw e (by simp [h]) d hd
    · exact absurd hd (hb e h d)
/-- the last temporary goes into a slot -/
theorem Ok.intoSlot (o : Ok K S H0 P H (l ++ c :: r ++ ts ++ [c'])) : Ok K S H0 P H (l ++ c' :: r ++ ts) := by
  have o1 : Ok K S H0 P H (l ++ r ++ ts ++ [c']) := o.drop (by
    have h1 : (l ++ r).Sublist (l ++ c :: r) := (List.append_sublist_append_left _).mpr (List.sublist_cons_self _ _)
    exact (h1.append_right ts).append_right [c'])
  refine o1.perm ?_ fun e he => .inl ?_
  · simp only [fp_append, fp_cons, fp_nil, List.append_nil, List.append_assoc]
    refine List.Perm.append_left _ ?_
    rw [← List.append_assoc (fp r) (fp ts) c'.f]
    exact List.perm_append_comm
  · simp only [List.mem_append, List.mem_cons, List.not_mem_nil, or_false] at he ⊢
    rcases he with (h | h | h) | h
    · exact .inl (.inl (.inl h))
    · exact .inr h
    · exact .inl (.inl (.inr h))
    · exact .inl (.inr h)
theorem split_dp : ∀ {ds : List D} {xs : List V} {F : List Addr}, Rps [] H ds xs F → ∃ tl : List Cell, tl.map (·.v) = xs.map some ∧ tl.map (·.s) = ds.map Sl.dp ∧ fp tl = F ∧ ∀ e ∈ tl, CellOk K A H e
  | [], xs, F, h => by
    rw [h.1, h.2]
    exact ⟨[], rfl, rfl, rfl, fun e he => by simp at he⟩
  | d :: ds, xs, F, h => by
    unfold Rps at h
    obtain ⟨x, r, F1, F2, e1, e2, e3, e4⟩ := h
    obtain ⟨tl, h1, h2, h3, h4⟩ := split_dp e4
    subst e1 e2
    refine ⟨⟨some x, .dp d, F1⟩ :: tl, by simp [h1], by simp [h2], by rw [fp_cons, h3], fun e he => ?_⟩
    rcases List.mem_cons.mp he with rfl | he
    · exact ⟨x, rfl, e3⟩
    · exact h4 e he
theorem shN_cell {d : D} {x : V} {F : List Addr} (h : Rp K H d x F) (ha : ∀ a ∈ F, a ∉ A) : CellOk K A H ⟨some x, shN d, []⟩ := by
  unfold shN
  by_cases hi : imm d = true
  · rw [if_pos hi]
    have := Rp.imm d x F hi h
    subst this
    exact ⟨x, rfl, Rp.nar _ _ _ hi h⟩
  · rw [if_neg hi]
    exact ⟨x, F, rfl, h, ha, rfl⟩
theorem shN_nbw (d e : D) : shN d ≠ .bw e := by unfold shN; split <;> (intro q; cases q)
theorem shN_nvo (d : D) : (shN d).isVo = false := by unfold shN; split <;> rfl
theorem split_sh : ∀ {ds : List D} {xs : List V} {F : List Addr}, Rps K H ds xs F → (∀ a ∈ F, a ∉ A) → ∃ tl : List Cell, tl.map (·.v) = xs.map some ∧ tl.map (·.s) = ds.map shN ∧ fp tl = [] ∧ ∀ e ∈ tl, CellOk K A H e
  | [], xs, F, h, _ => by
    rw [h.1]
    exact ⟨[], rfl, rfl, rfl, fun e he => by simp at he⟩
  | d :: ds, xs, F, h, ha => by
    unfold Rps at h
    obtain ⟨x, r, F1, F2, e1, e2, e3, e4⟩ := h
    subst e1 e2
    obtain ⟨tl, h1, h2, h3, h4⟩ := split_sh e4 fun a q => ha a (List.mem_append_right _ q)
    refine ⟨⟨some x, shN d, []⟩ :: tl, by simp [h1], by simp [h2], by rw [fp_cons, h3]; rfl, fun e he => ?_⟩
    rcases List.mem_cons.mp he with rfl | he
    · exact shN_cell e3 fun a q => ha a (List.mem_append_left _ q)
    · exact h4 e he
end
section
variable (K : PySem.W.Frag) (mf : Nat → Bool) (Φ : Nat → List D → Option (Sl × D))
def GPost (S : List Addr) (H0 : Hp) (P : List Addr) (cs ts : List Cell) (env : Ev) (ix : List Nat) (Q : L2.St → Hp → Prop) : Prop :=
  ∀ H' cs', cs'.map (·.s) = env → cs'.length = cs.length → (∀ j, j ∉ ix → (cs'.map (·.v))[j]? = (cs.map (·.v))[j]?) → Ok K S H0 P H' (cs' ++ ts) → Q (cs'.map (·.v)) H'
def gT (tg : Tg) : TG := fun v σ H Q => ∃ S H0 P cs ts x f env, σ = cs.map (·.v) ∧ Ok K S H0 P H (cs ++ ts ++ [⟨some v, x, f⟩]) ∧ noVo ts ∧ bindG mf Φ tg x (cs.map (·.s)) = some env ∧ GPost K S H0 P cs ts env (tgIx tg) Q
def gTs (tgs : Tgs) : TGs := fun vs σ H Q => ∃ S H0 P cs ts tl env, σ = cs.map (·.v) ∧ tl.map (·.v) = vs.map some ∧ Ok K S H0 P H (cs ++ ts ++ tl) ∧ noVo ts ∧ noVo tl ∧ bindGs mf Φ tgs (tl.map (·.s)) (cs.map (·.s)) = some env ∧ GPost K S H0 P cs ts env (tgsIx tgs) Q
end
theorem weakG {X : Cx} {e : Expr} {t t' : TG} (h : PG X e t) (w : ∀ v σ H Q, t' v σ H Q → t v σ H Q) : PG X e t' := ⟨fun pins s σ H v u Q I r q => h.run pins s σ H v u Q I r (w v σ H Q q)⟩
theorem weakGs {X : Cx} {e : List Expr} {t t' : TGs} (h : PGs X e t) (w : ∀ v σ H Q, t' v σ H Q → t v σ H Q) : PGs X e t' := ⟨fun pins s σ H v u Q I r q => h.run pins s σ H v u Q I r (w v σ H Q q)⟩
section
variable {X : Cx} {mf : Nat → Bool} {Φ : Nat → List D → Option (Sl × D)} {pos : Pos}
theorem gT_nm {i : Nat} {v : V} {σ : L2.St} {H : Hp} {Q : L2.St → Hp → Prop} (q : gT X.K mf Φ (.nm i) v σ H Q) : gName i v σ H Q := by
  obtain ⟨S, H0, P, cs, ts, x, f, env, rfl, o, nv, hb, k⟩ := q
  unfold bindG at hb
  split at hb
  · cases hb
  rename_i hx
  unfold setS at hb
  split at hb
  · cases hb
  · rename_i sl hsl
    cases hb
    obtain ⟨l, c, r, e1, e2, e3⟩ := env_at hsl
    subst e1
    show Q _ H
    have ev : ((l ++ c :: r).map (·.v)).set i (some v) = (l ++ (⟨some v, x, f⟩ : Cell) :: r).map (·.v) := by
      simp only [List.map_append, List.map_cons]
      rw [set_mid (by simpa using e2)]
    rw [ev]
    refine k H _ ?_ (by simp) (fun j hj => ?_) o.intoSlot
    · simp only [List.map_append, List.map_cons]
      rw [set_mid (by simpa using e2)]
    · rw [← ev, List.getElem?_set_ne]
      intro q
      exact hj (by simp [tgIx, q])
  · cases hb
theorem gt_nm {i : Nat} {e : Expr} (h : PG X e (gName i)) : PG X e (gT X.K mf Φ (.nm i)) := weakG h fun _ _ _ _ q => gT_nm q
theorem gts_nil : PGs X [] (gTs X.K mf Φ .nil) := by
  refine weakGs pgs_nil fun vs σ H Q q => ?_
  obtain ⟨S, H0, P, cs, ts, tl, env, rfl, hv, o, nv, nt, hb, k⟩ := q
  cases tl with
  | nil =>
    have : vs = [] := by cases vs <;> simp at hv ⊢
    subst this
    unfold bindGs at hb
    cases hb
    exact ⟨rfl, k H cs rfl rfl (fun _ _ => rfl) (by simpa using o)⟩
  | cons c tl => unfold bindGs at hb; cases hb
theorem gts_cons {e : Expr} {es : List Expr} {t : Tg} {ts : Tgs} (h1 : PG X e (gT X.K mf Φ t)) (h2 : PGs X es (gTs X.K mf Φ ts)) (hs : (assignEach (e :: es) X.env).map (·.2) = assign e X.env :: (assignEach es X.env).map (·.2)) : PGs X (e :: es) (gTs X.K mf Φ (.cons t ts)) := by
  refine weakGs (pgs_cons h1 h2 hs) fun vs σ H Q q => ?_
  obtain ⟨S, H0, P, cs, tz, tl, env, rfl, hv, o, nv, nt, hb, k⟩ := q
  cases tl with
  | nil => simp only [List.map_nil] at hb; unfold bindGs at hb; cases hb
  | cons c tl =>
    cases vs with
    | nil => simp at hv
    | cons v vs =>
      have hv' : c.v = some v ∧ tl.map (·.v) = vs.map some := by simpa using hv
      simp only [List.map_cons] at hb
      unfold bindGs at hb
      simp only [Option.bind_eq_some_iff] at hb
      obtain ⟨e1, b1, b2⟩ := hb
      have o1 : Ok X.K S H0 P H (cs ++ (tz ++ tl) ++ [⟨some v, c.s, c.f⟩]) := by
        have ec : (⟨some v, c.s, c.f⟩ : Cell) = c := by rw [← hv'.1]
        rw [ec]
        refine o.perm ?_ fun e he => .inl ?_
        · simp only [fp_append, fp_cons, fp_nil, List.append_nil, List.append_assoc]
          exact List.Perm.append_left _ (List.Perm.append_left _ List.perm_append_comm)
        · simp only [List.mem_append, List.mem_cons, List.not_mem_nil, or_false] at he ⊢
          rcases he with (h | h | h) | h
          · exact .inl (.inl h)
          · exact .inl (.inr h)
          · exact .inr (.inr h)
          · exact .inr (.inl h)
      refine ⟨v, vs, rfl, S, H0, P, cs, tz ++ tl, c.s, c.f, e1, rfl, o1, noVo_app nv fun e he => nt e (by simp [he]), b1, fun H1 cs1 hs1 hl1 hj1 ok1 => ?_⟩
      refine ⟨S, H0, P, cs1, tz, tl, env, rfl, hv'.2, by simpa using ok1, nv, fun e he => nt e (by simp [he]), by rw [hs1]; exact b2, fun H2 cs2 hs2 hl2 hj2 ok2 => ?_⟩
      refine k H2 cs2 hs2 (hl2.trans hl1) (fun j hj => ?_) ok2
      have hj' : j ∉ tgIx t ∧ j ∉ tgsIx ts := by simpa [tgsIx] using hj
      rw [hj2 j hj'.2, hj1 j hj'.1]
theorem gt_tup {es : List Expr} {ts : Tgs} {k n : Nat} (hc : X.calm = true) (h : PGs X es (gTs X.K mf Φ ts)) (hlen : tgsLen ts = n)
    (hn : (assignEach es X.env).length = n) (hst : (assignEach es X.env).findIdx? (·.1) = none) : PG X (.Tuple es k pos) (gT X.K mf Φ (.tup ts)) := by
  refine weakG (pg_tup hc h hn hst) fun v σ H Q q => ?_
  obtain ⟨S, H0, P, cs, tz, x, f, env, rfl, o, nv, hb, kk⟩ := q
  have blen : ∀ {xs : List Sl} {tgs : Tgs} {e e' : Ev}, bindGs mf Φ tgs xs e = some e' → xs.length = tgsLen tgs := by
    intro xs
    induction xs with
    | nil => intro tgs e e' h; cases tgs with
      | nil => rfl
      | cons t ts => unfold bindGs at h; cases h
    | cons x xs ih => intro tgs e e' h; cases tgs with
      | nil => unfold bindGs at h; cases h
      | cons t ts =>
        unfold bindGs at h
        simp only [Option.bind_eq_some_iff] at h
        obtain ⟨e1, _, b2⟩ := h
        simp [tgsLen, ih b2]
  have hcell := o.cell ⟨some v, x, f⟩ (by simp)
  cases x with
  | dp d =>
    cases d with
    | tuple ds =>
      simp only [bindG] at hb
      obtain ⟨w, e1, e2⟩ := hcell
      cases e1
      obtain ⟨a, xs, rfl, htup, rp⟩ := Rp.tuple e2
      obtain ⟨tl, h1, h2, h3, h4⟩ := split_dp (K := X.K) (A := S ++ fp (cs ++ tz ++ [⟨some (.ref a), .dp (.tuple ds), f⟩])) rp
      refine ⟨a, xs, rfl, SqT.of htup, ?_, S, H0, P, cs, tz, tl, env, rfl, h1, o.swap h3 h4 (fun e he d hd => ?_), nv, fun e he => ?_, by rw [h2]; exact hb, kk⟩
      · have := blen hb
        rw [← hlen, ← this, rp.length]; simp
      · have : e.s ∈ ds.map Sl.dp := by rw [← h2]; exact List.mem_map.mpr ⟨e, he, rfl⟩
        obtain ⟨d', _, q⟩ := List.mem_map.mp this
        rw [hd] at q; cases q
      · have : e.s ∈ ds.map Sl.dp := by rw [← h2]; exact List.mem_map.mpr ⟨e, he, rfl⟩
        obtain ⟨d', _, q⟩ := List.mem_map.mp this
        rw [← q]; rfl
    | _ => simp only [bindG] at hb; cases hb
  | sh d =>
    cases d with
    | tuple ds =>
      simp only [bindG] at hb
      obtain ⟨w, F, e1, e2, e3, e4⟩ := hcell
      cases e1
      obtain ⟨a, xs, rfl, htup, rp⟩ := Rp.tuple e2
      obtain ⟨tl, h1, h2, h3, h4⟩ := split_sh rp e3
      refine ⟨a, xs, rfl, SqT.of htup, ?_, S, H0, P, cs, tz, tl, env, rfl, h1, o.swap (h3.trans e4.symm) h4 (fun e he d hd => ?_), nv, fun e he => ?_, by rw [h2]; exact hb, kk⟩
      · have := blen hb
        rw [← hlen, ← this, rp.length]; simp
      · have : e.s ∈ ds.map shN := by rw [← h2]; exact List.mem_map.mpr ⟨e, he, rfl⟩
        obtain ⟨d', _, q⟩ := List.mem_map.mp this
        exact shN_nbw d' d (q.trans hd)
      · have : e.s ∈ ds.map shN := by rw [← h2]; exact List.mem_map.mpr ⟨e, he, rfl⟩
        obtain ⟨d', _, q⟩ := List.mem_map.mp this
        rw [← q]; exact shN_nvo d'
    | _ => simp only [bindG] at hb; cases hb
  | _ => simp only [bindG] at hb; cases hb
end
end Tv
set_option maxHeartbeats 1000000
/-! TvP: stores, append. -/
namespace Tv
open PySem PySem.Spec PyProof.Rows L2
section
variable {K : PySem.W.Frag} {S A A' : List Addr} {H0 H H' : Hp} {P M : List Addr} {cs tl l r ts nw a b : List Cell} {c c' : Cell}
theorem rd_mut {p : Addr} {u : HO} (h : Rd H p u) (m : Mut (H p)) : H p = some u := by
  rcases h with h | ⟨o, h⟩
  · exact h
  · rw [h] at m; exact m.elim
theorem Rpv.mapPut {k : List Key} {d : D} {v : V} {Fv : List Addr} (hv : Rp K H d v Fv) : ∀ {es : List (D × D)} {kvs : List (List Key × V)} {F : List Addr}, Rpv K H es kvs F →
    ∃ G, Rpv K H (es.map fun e => if eqT e.1 (tkD k) then (e.1, d) else e) (kvs.map fun kv => if kv.1 = k then (kv.1, v) else kv) G ∧ ∀ a ∈ G, a ∈ F ∨ a ∈ Fv
  | [], kvs, F, h => by
    rw [h.1, h.2]
    exact ⟨[], by unfold Rpv; exact ⟨rfl, rfl⟩, fun a ha => by simp at ha⟩
  | (kd, d0) :: es, kvs, F, h => by
    unfold Rpv at h
    obtain ⟨kk, x, r, F1, F2, e0, e1, e2, e3, e4⟩ := h
    subst e0 e1 e2
    obtain ⟨G, h1, h2⟩ := Rpv.mapPut (k := k) hv e4
    by_cases hk : kk = k
    · subst hk
      have ht : eqT (tkD kk) (tkD kk) = true := by rw [eqT_key]; simp
      refine ⟨Fv ++ G, ?_, fun a ha => ?_⟩
      · simp only [List.map_cons, ht, if_true]
        unfold Rpv
        exact ⟨kk, v, _, Fv, G, rfl, rfl, rfl, hv, h1⟩
      · rcases List.mem_append.mp ha with ha | ha
        · exact .inr ha
        · exact (h2 a ha).imp (List.mem_append_right _) id
    · have ht : eqT (tkD kk) (tkD k) = false := by rw [eqT_key]; simp [hk]
      refine ⟨F1 ++ G, ?_, fun a ha => ?_⟩
      · simp only [List.map_cons, ht, if_neg hk, Bool.false_eq_true, if_false]
        unfold Rpv
        exact ⟨kk, x, _, F1, G, rfl, rfl, rfl, e3, h1⟩
      · rcases List.mem_append.mp ha with ha | ha
        · exact .inl (List.mem_append_left _ ha)
        · exact (h2 a ha).imp (List.mem_append_right _) id
theorem Rpv.append : ∀ {es es' : List (D × D)} {kvs kvs' : List (List Key × V)} {F F' : List Addr}, Rpv K H es kvs F → Rpv K H es' kvs' F' → Rpv K H (es ++ es') (kvs ++ kvs') (F ++ F')
  | [], _, _, _, _, _, h, h2 => by rw [h.1, h.2]; exact h2
  | (kd, d0) :: es, es', kvs, kvs', F, F', h, h2 => by
    unfold Rpv at h
    obtain ⟨kk, x, r, F1, F2, e0, e1, e2, e3, e4⟩ := h
    subst e0 e1 e2
    show Rpv K H ((tkD kk, d0) :: (es ++ es')) _ _
    unfold Rpv
    exact ⟨kk, x, r ++ kvs', F1, F2 ++ F', rfl, rfl, by simp, e3, Rpv.append e4 h2⟩
theorem Rpv.put {k : List Key} {d : D} {v : V} {Fv : List Addr} (hv : Rp K H d v Fv) {es : List (D × D)} {kvs : List (List Key × V)} {F : List Addr} (h : Rpv K H es kvs F) :
    ∃ G, Rpv K H (putD es (tkD k) d) (putK kvs k v) G ∧ ∀ a ∈ G, a ∈ F ∨ a ∈ Fv := by
  have e1 : (es.any fun e => eqT e.1 (tkD k)) = kvs.any fun kv => decide (kv.1 = k) := by rw [(Rpv.val (k := k) h).1, valV_any]
  unfold putD putK
  rw [e1]
  split
  · exact Rpv.mapPut hv h
  · refine ⟨F ++ (Fv ++ []), Rpv.append h (by unfold Rpv; exact ⟨k, v, [], Fv, [], rfl, rfl, rfl, hv, by unfold Rpv; exact ⟨rfl, rfl⟩⟩), fun a ha => ?_⟩
    rw [List.append_nil] at ha
    exact List.mem_append.mp ha
theorem Rpv.len : ∀ {es : List (D × D)} {kvs : List (List Key × V)} {F : List Addr}, Rpv K H es kvs F → kvs.length = es.length
  | [], _, _, h => by rw [h.1]; rfl
  | (k, d) :: es, kvs, F, h => by
    unfold Rpv at h
    obtain ⟨kk, x, r, F1, F2, e0, e1, e2, e3, e4⟩ := h
    rw [e0]
    simp [Rpv.len e4]
theorem Rps.setAt : ∀ {ds : List D} {vs : List V} {j : Nat} {d : D} {v : V}, Rps K H ds vs [] → Rp K H d v [] → Rps K H (ds.set j d) (vs.set j v) []
  | [], _, _, _, _, h, _ => by rw [h.1]; exact Rps.nil
  | d0 :: ds, vs, j, d, v, h, hv => by
    unfold Rps at h
    obtain ⟨x, r, F1, F2, e1, e2, e3, e4⟩ := h
    have e2' := List.append_eq_nil_iff.mp e2.symm
    rw [e2'.1] at e3
    rw [e2'.2] at e4
    subst e1
    cases j with
    | zero => exact Rps.cons (F := []) (G := []) hv e4
    | succ j => exact Rps.cons (F := []) (G := []) e3 (Rps.setAt e4 hv)
/-- what is avoided when the slot owns p alone -/
theorem fp_p {v : Option V} {s : Sl} {p : Addr} : fp (l ++ (⟨v, s, [p]⟩ : Cell) :: r) = fp l ++ p :: fp r := by rw [fp_mid]; rfl
theorem own_av (o : Ok K S H0 P H (l ++ c :: r)) {p : Addr} {G : List Addr} (hf : c.f = p :: G) : ∀ a ∈ G, a ∉ S ++ (fp l ++ p :: fp r) := fun a ha q => by
  have nd := o.nd
  rw [fp_mid, hf] at nd
  obtain ⟨n1, n2, n3⟩ := List.nodup_append.mp nd
  obtain ⟨n4, n5, n6⟩ := List.nodup_append.mp n2
  have n4' := List.nodup_cons.mp n4
  rcases List.mem_append.mp q with q | q
  · exact o.dj a q (by rw [fp_mid, hf]; simp [ha])
  · rcases List.mem_append.mp q with q | q
    · exact n3 a q a (by simp [ha]) rfl
    · rcases List.mem_cons.mp q with q | q
      · subst q; exact n4'.1 ha
      · exact n6 a (by simp [ha]) a q rfl
theorem own_dict (o : Ok K S H0 P H (l ++ c :: r)) {es : List (D × D)} (h : c.s = .dp (.dict es) ∨ c.s = .ow (.dict es)) :
    ∃ p kvs G, c.v = some (.ref p) ∧ H p = some (.dT kvs) ∧ p ∈ c.f ∧ Rpv K H es kvs G ∧ (∀ a ∈ G, a ∉ S ++ (fp l ++ p :: fp r)) ∧ (c.s = .dp (.dict es) → imms (es.map (·.2)) = true → Rpv [] H es kvs [] ∧ c.f = [p]) := by
  have hc := o.cell c (by simp)
  have hm := o.mu
  obtain ⟨v, s, f⟩ := c
  rcases h with h | h
  · have h' : s = .dp (.dict es) := h
    subst h'
    obtain ⟨x, e1, e2⟩ := hc
    obtain ⟨p, kvs, G, rfl, q1, q2, q3⟩ := Rp.dict e2
    have hp : p ∈ f := by show p ∈ f; rw [show f = p :: G from q2]; simp
    refine ⟨p, kvs, G, e1, rd_mut q1 (hm p (fp_mem (c := ⟨v, .dp (.dict es), f⟩) (by simp) hp)), hp, Rpv.wid _ _ _ q3, own_av o q2, fun _ hi => ?_⟩
    have eG := imms_vals hi q3
    subst eG
    exact ⟨q3, q2⟩
  · have h' : s = .ow (.dict es) := h
    subst h'
    obtain ⟨p, F, e1, e2, e3, e4⟩ := hc
    obtain ⟨kvs, q1, q3⟩ := Rp.topD e2
    have e4' : f = [p] := e4
    have hp : p ∈ f := by rw [e4']; simp
    refine ⟨p, kvs, F, e1, rd_mut q1 (hm p (fp_mem (c := ⟨v, .ow (.dict es), f⟩) (by simp) hp)), hp, q3, fun a ha q => e3 a ha ?_, fun z => by cases z⟩
    rw [fp_mid, e4']
    exact q
theorem own_lst (o : Ok K S H0 P H (l ++ c :: r)) {ds : List D} (h : c.s = .dp (.list ds) ∨ c.s = .ow (.list ds)) :
    ∃ p xs G, c.v = some (.ref p) ∧ H p = some (.lst xs) ∧ p ∈ c.f ∧ Rps K H ds xs G ∧ (∀ a ∈ G, a ∉ S ++ (fp l ++ p :: fp r)) ∧ (c.s = .dp (.list ds) → Rps [] H ds xs G ∧ c.f = p :: G) ∧ (c.s = .ow (.list ds) → c.f = [p]) := by
  have hc := o.cell c (by simp)
  have hm := o.mu
  obtain ⟨v, s, f⟩ := c
  rcases h with h | h
  · have h' : s = .dp (.list ds) := h
    subst h'
    obtain ⟨x, e1, e2⟩ := hc
    obtain ⟨p, xs, G, rfl, q2, q1, q3⟩ := own_list0 e2
    have hp : p ∈ f := by show p ∈ f; rw [show f = p :: G from q2]; simp
    refine ⟨p, xs, G, e1, rd_mut q1 (hm p (fp_mem (c := ⟨v, .dp (.list ds), f⟩) (by simp) hp)), hp, Rps.wid _ _ _ q3, own_av o q2, ⟨fun _ => ⟨q3, q2⟩, fun z => by cases z⟩⟩
  · have h' : s = .ow (.list ds) := h
    subst h'
    obtain ⟨p, F, e1, e2, e3, e4⟩ := hc
    have e4' : f = [p] := e4
    have hp : p ∈ f := by rw [e4']; simp
    unfold Rp at e2
    rcases e2 with ⟨a, xs, G, z1, z2, z3, z4⟩ | ⟨a, xs, z1, z2, z3, z4⟩
    · cases z1
      cases z3
      refine ⟨p, xs, F, e1, rd_mut z2 (hm p (fp_mem (c := ⟨v, .ow (.list ds), f⟩) (by simp) hp)), hp, z4, fun a ha q => e3 a ha ?_, ⟨fun z => (by cases z), fun _ => e4'⟩⟩
      rw [fp_mid, e4']
      exact q
    · cases z3
/-- the heap with one object written -/
theorem keep_upd {p : Addr} {u : HO} {f : List Addr} (hp : p ∈ f) : ∀ a o, H a = some o → a ∉ f → (upd H p u) a = some o := fun a o h hn => by
  rw [upd_ne fun e => hn (by rw [e]; exact hp)]; exact h
theorem fz_upd {p : Addr} {u w : HO} (hp : H p = some w) (hm : Mut (H p)) : Fz [p] H (upd H p u) := Fz.upd fun xs e => Mut.notTup hm xs e
end
theorem good_one {c : Cell} (h : c.s.good = true) : noVo [c] := noVo_one (good_noVo h)
theorem pset_or {X : Cx} {t u : TSet} (h1 : PSet X t) (h2 : PSet X u) : PSet X (fun o i v H Q => t o i v H Q ∨ u o i v H Q) := fun pins s σ H o i v ov iv uv Q I ro ri rv q =>
  q.elim (h1 pins s σ H o i v ov iv uv Q I ro ri rv) (h2 pins s σ H o i v ov iv uv Q I ro ri rv)
theorem weakS {X : Cx} {e : Stmt} {t t' : TS} (h : PS X e t) (w : ∀ D σ H, t' D σ H → t D σ H) : PS X e t' := ⟨fun pins s σ H D I q => h.run pins s σ H D I (w D σ H q)⟩
section
variable {X : Cx} {mf : Nat → Bool} {Φ : Nat → List D → Option (Sl × D)} {pos : Pos}
theorem slot_val {S : List Addr} {H0 H : Hp} {P : List Addr} {cs ts : List Cell} {i : Nat} (o : Ok X.K S H0 P H (cs ++ ts)) (hun : unS (cs.map (·.s)) i = false) : ∃ v, (cs.map (·.v))[i]? = some (some v) := by
  unfold unS at hun
  cases hi : (cs.map (·.s))[i]? with
  | none => rw [hi] at hun; cases hun
  | some sl =>
    obtain ⟨l, c, r, e1, e2, e3⟩ := env_at hi
    have hcell := o.cell c (by rw [e1]; simp)
    have hne : c.s ≠ .un := fun q => by
      rw [hi, ← e3, q] at hun
      cases hun
    obtain ⟨v, _, q, _⟩ := hcell.rp hne
    exact ⟨v, by rw [e1, List.getElem?_map, get_mid e2]; simp [q]⟩
theorem env_nvo {cs : List Cell} {env : Ev} (h : cs.map (·.s) = env) (hn : ¬ (env.any fun x => x.isVo) = true) : noVo cs := fun c hc => by
  have : c.s ∈ env := by rw [← h]; exact List.mem_map.mpr ⟨c, hc, rfl⟩
  cases q : c.s.isVo with
  | false => rfl
  | true => exact absurd (List.any_eq_true.mpr ⟨_, this, q⟩) hn
theorem map_mid {α : Type} {g : Cell → α} {l r : List Cell} {c c' : Cell} : ((l ++ c :: r).map g).set l.length (g c') = (l ++ c' :: r).map g := by
  simp only [List.map_append, List.map_cons]
  rw [set_mid (by simp)]
/-- o[k] = v -/
theorem gt_sub {i : Nat} {o e : Expr} {ek : Ex} (hu : X.A.units + 1 < cLine) (h0 : PE X o (tVar i)) (hk : ∀ m, PE X e (tE X.K mf Φ m ek)) (ha : ∀ v, assign (.Subscript o e pos) X.env v = (do
      let ov ← holding [v] (eval o X.env)
      let iv ← holding [v, ov] (eval e X.env)
      standAt pos
      holding [v, ov, iv] (setItem ov iv v)
      release [v, ov, iv] [])) : PG X (.Subscript o e pos) (gT X.K mf Φ (.sub i ek)) := by
  refine weakG (pg_sub h0 (hk .val) (pset_or (set_dict hu) set_list) ha) fun v σ H Q q => ?_
  obtain ⟨S, H0, P, cs, ts, x, f, env, rfl, ok, nv, hb, k⟩ := q
  unfold bindG at hb
  simp only [Option.bind_eq_bind, Option.bind_eq_some_iff] at hb
  obtain ⟨⟨y, e1⟩, h1, hb⟩ := hb
  simp only at h1 hb
  split at hb
  · cases hb
  rename_i hgd
  simp only [Option.bind_eq_some_iff] at hb
  obtain ⟨so, hso, so', hset, hb⟩ := hb
  cases hb
  have hun : unS (cs.map (·.s)) i = false := by
    cases q : unS (cs.map (·.s)) i with
    | false => rfl
    | true => rw [q] at hgd; exact absurd rfl hgd
  have hnv : ¬ (e1.any fun x => x.isVo) = true := fun q => hgd (by rw [q]; simp)
  have hxg : x.good = true := by
    unfold setItemS at hset
    cases q : x.good with
    | true => rfl
    | false =>
      rw [q] at hset
      split at hset
      · simp at hset
      · simp at hset
      · split at hset
        · simp at hset
        · cases hset
      · split at hset
        · simp at hset
        · cases hset
      · cases hset
  have ok' : Ok X.K S H0 P H (cs ++ (ts ++ [⟨some v, x, f⟩])) := by simpa using ok
  obtain ⟨w, hw⟩ := slot_val ok' hun
  refine ⟨w, hw, S, H0, P, cs, ts ++ [⟨some v, x, f⟩], y, e1, rfl, ok', h1, .inr (noVo_app nv (good_one hxg)), fun vy H' cs1 g hv1 hs1 ok1 _ => ?_⟩
  have hyg := ev_noVo _ _ _ _ _ (by decide) h1
  rw [← hs1] at hso
  obtain ⟨l, c, r, rfl, el, es'⟩ := env_at hso
  have hcw : c.v = some w := by
    have q : ((l ++ c :: r).map (·.v))[i]? = some c.v := by rw [List.getElem?_map, get_mid el]; rfl
    rw [hv1, hw] at q
    exact (Option.some.inj q).symm
  have nve := env_nvo hs1 hnv
  have ok2 : Ok X.K S H0 P H' (l ++ c :: (r ++ ts ++ [⟨some v, x, f⟩, ⟨some vy, y, g⟩])) := by simpa using ok1
  have ok3 : Ok X.K S H0 P H' ((l ++ c :: (r ++ ts)) ++ [(⟨some v, x, f⟩ : Cell).dem, (⟨some vy, y, g⟩ : Cell).dem]) := Ok.dem2 (by simpa using ok1)
  obtain ⟨zx, Fx, q1, rx, avx⟩ := (ok3.cell _ (by simp : (⟨some v, x, f⟩ : Cell).dem ∈ _)).dem_rp hxg
  cases q1
  obtain ⟨zy, Fy, q1, ry, avy⟩ := (ok3.cell _ (by simp : (⟨some vy, y, g⟩ : Cell).dem ∈ _)).dem_rp hyg
  cases q1
  have okb : Ok X.K S H0 P H' (l ++ c :: (r ++ ts)) := ok3.drop (List.sublist_append_left _ _)
  have avx' : ∀ a ∈ Fx, a ∉ S ++ fp (l ++ c :: (r ++ ts)) := fun a ha q => avx a ha (by
    rw [fp_append, ← List.append_assoc]
    exact List.mem_append_left _ q)
  have ok4 : Ok X.K S H0 P H' (l ++ c :: ((r ++ ts) ++ [])) := by simpa using okb
  have eix : i = l.length := el.symm
  -- the slot's new cell, the rest as it was
  have fin : ∀ {p : Addr} {u : HO} {w' : HO}, c.v = some (.ref p) → H' p = some w' → p ∈ c.f → Mut (some u) → CellOk X.K (S ++ (fp l ++ p :: fp (r ++ ts))) (upd H' p u) ⟨some (.ref p), so', [p]⟩ → (∀ d, so' = .bw d → p ∈ P) → Q ((cs.map (·.v))) (upd H' p u) := fun {p u w'} ec hp hpf hmu hcell hbw => by
    have on := ok4.step (H' := upd H' p u) (c' := ⟨some (.ref p), so', [p]⟩) (nw := []) (fun c' hc' => nve c' (by simp [hc'])) (noVo_app (fun c' hc' => nve c' (by simp [hc'])) nv) (keep_upd hpf)
      (by rw [List.append_nil, fp_p]; exact hcell) (fun e he => by simp at he) (by simp [fp_nil]) (fun a ha => by
        have : a = p := by simpa [fp_nil] using ha
        rw [this]; exact .inl hpf) (fun a ha => by
        have : a = p := by simpa [fp_nil] using ha
        rw [this, upd_same]; exact hmu) (fun d hd a ha => by
        have : a = p := by simpa using ha
        rw [this]; exact hbw d hd) (fun e he => by simp at he)
    have hvv : (l ++ (⟨some (.ref p), so', [p]⟩ : Cell) :: r).map (·.v) = cs.map (·.v) := by
      rw [← hv1]; simp [ec]
    rw [← hvv]
    refine k _ _ ?_ ?_ (fun j _ => by rw [hvv]) (by simpa using on)
    · rw [← hs1, eix]
      exact map_mid.symm
    · have := congrArg List.length hvv
      simpa using this
  have dictCase : ∀ es, (c.s = .dp (.dict es) ∨ c.s = .ow (.dict es)) → isTKey y.d = true → szOk (es.length + 1) = true → ((so' = .ow (.dict (putD es y.d x.d))) ∨ (c.s = .dp (.dict es) ∧ imms (es.map (·.2)) = true ∧ imm x.d = true ∧ so' = .dp (.dict (putD es y.d x.d)))) →
      (rSetD w vy v H' fun H3 => Q (cs.map (·.v)) H3) ∨ rSetL w vy v H' fun H3 => Q (cs.map (·.v)) H3 := fun es hc hkey hsz hso' => by
    obtain ⟨p, kvs, G, ec, hp, hpf, rv, avG, hdp⟩ := own_dict okb hc
    have hwp : w = .ref p := Option.some.inj (hcw.symm.trans ec)
    obtain ⟨kk, ek⟩ := tkey_of hkey
    obtain ⟨b, eb, hbk⟩ := Rp.tkey (k := kk) (by rw [← ek]; exact ry)
    have hlen : kvs.length < sizeLine := by
      have q : es.length + 1 ≤ 100000 := by simpa [szOk] using hsz
      have := line_big
      rw [rv.len]
      omega
    have mp : Mut (H' p) := okb.mu p (fp_mem (c := c) (by simp) hpf)
    subst eb
    refine .inl ⟨p, _, hwp, DPut.t hp hbk hlen, fin ec hp hpf trivial ?_ fun d e => ?_⟩
    · rcases hso' with e | ⟨hcd, hi, hix, e⟩
      · rw [e]
        obtain ⟨G', rv', sub'⟩ := Rpv.put (k := kk) rx rv
        have avG' : ∀ a ∈ G', a ∉ S ++ (fp l ++ p :: fp (r ++ ts)) := fun a ha => by
          rcases sub' a ha with h | h
          · exact avG a h
          · refine fun q => avx' a h ?_
            rw [fp_mid]
            rcases List.mem_append.mp q with q | q
            · simp [q]
            · rcases List.mem_append.mp q with q | q
              · simp [q]
              · rcases List.mem_cons.mp q with q | q
                · rw [q]; simp [hpf]
                · simp [q]
        refine ⟨p, G', rfl, ?_, avG', rfl⟩
        rw [ek]
        unfold Rp
        exact ⟨p, _, G', rfl, .inl upd_same, rfl, Rpv.frame (fz_upd hp mp) _ _ _ rv' fun a ha q => avG' a ha (by
          have : a = p := by simpa using q
          rw [this]; simp)⟩
      · rw [e]
        obtain ⟨rv0, hf⟩ := hdp hcd hi
        have eF := Rp.imm _ _ _ hix rx
        subst eF
        obtain ⟨G', rv', sub'⟩ := Rpv.put (k := kk) (Rp.nar (L := []) _ _ _ hix rx) rv0
        have eG' : G' = [] := List.eq_nil_iff_forall_not_mem.mpr fun a ha => by
          rcases sub' a ha with h | h <;> simp at h
        subst eG'
        refine ⟨.ref p, rfl, ?_⟩
        rw [ek]
        unfold Rp
        exact ⟨p, _, [], rfl, .inl upd_same, rfl, Rpv.frame (fz_upd hp mp) _ _ _ rv' fun a ha q => by simp at ha⟩
    · rcases hso' with e' | ⟨_, _, _, e'⟩ <;> rw [e'] at e <;> cases e
  have listCase : ∀ (ds : List D) (wr : D → Sl), (c.s = wr (.list ds)) → ((∀ d, wr d = .dp d) ∨ (∀ d, wr d = .bw d)) → imms ds = true → imm x.d = true → (∃ j0 j, y.d = .int j0 ∧ ixD ds.length j0 = some j ∧ so' = wr (.list (ds.set j x.d))) →
      (rSetD w vy v H' fun H3 => Q (cs.map (·.v)) H3) ∨ rSetL w vy v H' fun H3 => Q (cs.map (·.v)) H3 := fun ds wr hc hwr hi hix ⟨j0, j, ej0, ej, eso⟩ => by
    have hcell := okb.cell c (by simp)
    have hown : ∃ p xs0, c.v = some (.ref p) ∧ c.f = [p] ∧ Rd H' p (.lst xs0) ∧ Rps [] H' ds xs0 [] ∧ ((∀ d, wr d = .bw d) → p ∈ P) := by
      have hbwP := okb.bw c (by simp)
      obtain ⟨cv, csl, cf⟩ := c
      have es'' : csl = wr (.list ds) := hc
      rcases hwr with hw' | hw'
      · rw [hw'] at es''
        subst es''
        obtain ⟨v0, q1, q2⟩ := hcell
        obtain ⟨p', xs0, G, b1, b2, b3, b4⟩ := own_list0 q2
        have eG := Rps.imm ds xs0 G hi b4
        subst eG
        subst b1
        exact ⟨p', xs0, q1, b2, b3, b4, fun h => absurd (h .none) (by rw [hw']; intro q; cases q)⟩
      · rw [hw'] at es''
        subst es''
        obtain ⟨p, q1, q2, q3⟩ := hcell
        obtain ⟨p', xs0, b1, b2, b3, b4⟩ := own_list (L := []) q2 (by simp) hi
        cases b1
        have q3' : cf = [p] := q3
        refine ⟨p, xs0, q1, q3, b3, b4, fun _ => ?_⟩
        exact hbwP _ rfl p (by show p ∈ cf; rw [q3']; simp)
    obtain ⟨p, xs0, ec, hcf, hrd, rl, hP⟩ := hown
    have hpf : p ∈ c.f := by rw [hcf]; simp
    have mp : Mut (H' p) := okb.mu p (fp_mem (c := c) (by simp) hpf)
    have hp := rd_mut hrd mp
    have hwp : w = .ref p := Option.some.inj (hcw.symm.trans ec)
    have eyv : vy = .int j0 := Rp.int_eq (by rw [← ej0]; exact ry)
    have eF := Rp.imm _ _ _ hix rx
    subst eF
    have rset := Rps.setAt (j := j) rl (Rp.nar (L := []) _ _ _ hix rx)
    have rset' := Rps.frame (fz_upd (u := .lst (xs0.set j v)) hp mp) _ _ _ rset fun a ha q => by simp at ha
    have rnew : ∀ L, Rp L (upd H' p (.lst (xs0.set j v))) (.list (ds.set j x.d)) (.ref p) [p] := fun L => by
      unfold Rp
      exact .inl ⟨p, _, [], rfl, .inl upd_same, rfl, by cases L with
        | nil => exact rset'
        | cons a b => exact Rps.wid _ _ _ rset'⟩
    refine .inr ⟨p, xs0, j0, j, hwp, eyv, hp, ?_, fin ec hp hpf trivial ?_ fun d e => ?_⟩
    · rw [rl.length]; exact ej
    · rw [eso]
      rcases hwr with hw' | hw'
      · rw [hw']; exact ⟨.ref p, rfl, rnew []⟩
      · rw [hw']; exact ⟨p, rfl, rnew _, rfl⟩
    · rcases hwr with hw' | hw'
      · rw [eso, hw'] at e; cases e
      · exact hP hw'
  have ecs : c.s = so := es'
  unfold setItemS at hset
  split at hset
  · rename_i es
    split at hset
    · cases hset
    · rename_i hcond
      simp only [Bool.or_eq_true, Bool.not_eq_true', not_or, Bool.not_eq_false] at hcond
      cases hset
      by_cases hd : (x.isDp && imms (es.map (·.2)) && imm x.d) = true
      · simp only [Bool.and_eq_true] at hd
        exact dictCase es (.inl ecs) hcond.1.1 hcond.2 (.inr ⟨ecs, hd.1.2, hd.2, by simp [hd.1.1, hd.1.2, hd.2]⟩)
      · exact dictCase es (.inl ecs) hcond.1.1 hcond.2 (.inl (by rw [if_neg hd]))
  · rename_i es
    split at hset
    · cases hset
    · rename_i hcond
      simp only [Bool.or_eq_true, Bool.not_eq_true', not_or, Bool.not_eq_false] at hcond
      cases hset
      exact dictCase es (.inr ecs) hcond.1.1 hcond.2 (.inl rfl)
  · rename_i ds
    split at hset
    · rename_i j0 hj0
      split at hset
      · cases hset
      · rename_i hcond
        simp only [Bool.or_eq_true, Bool.not_eq_true', not_or, Bool.not_eq_false] at hcond
        obtain ⟨j, ej, e2⟩ := Option.map_eq_some_iff.mp hset
        exact listCase ds .dp ecs (.inl fun _ => rfl) hcond.1.1 hcond.1.2 ⟨j0, j, hj0, ej, e2.symm⟩
    · cases hset
  · rename_i ds
    split at hset
    · rename_i j0 hj0
      split at hset
      · cases hset
      · rename_i hcond
        simp only [Bool.or_eq_true, Bool.not_eq_true', not_or, Bool.not_eq_false] at hcond
        obtain ⟨j, ej, e2⟩ := Option.map_eq_some_iff.mp hset
        exact listCase ds .bw ecs (.inr fun _ => rfl) hcond.1.1 hcond.1.2 ⟨j0, j, hj0, ej, e2.symm⟩
    · cases hset
  · cases hset
end
end Tv
set_option maxHeartbeats 1000000
/-! TvQ: d.pop(k) of a key that is there; append. -/
namespace Tv
open PySem PySem.Spec PyProof.Rows L2
section
variable {K : Type} [DecidableEq K] {prog : Program} {w : World} {knd : HeapKind prog w K}
/-- dict.pop with one argument, the key being there -/
theorem popThere {d b : Addr} {k : K} : MeetsIn prog w (Builtin.«dict.pop» ⟨[.ref d, .ref b], []⟩)
    (fun A R s => ∃ xs p, knd.room A.in1 ∧ knd.is s.heap k b ∧ s.heap.DictOfH knd d xs ∧ xs.length ≤ sizeLine ∧ atKey xs k = some p ∧
      ∀ h' tk, h'.DictOfH knd d (DT.dropH xs k) → Heap.SameBut d s.heap h' → R (.ok (.ret p.2)) { s with heap := h', toks := tk }) :=
  .of_wp fun A R s ⟨xs, p, hu, hkey, hm, hsz, hp, hsome⟩ => by
    obtain ⟨o, es, ep, ho, hc, hdat, he, his, hn⟩ := id hm
    have hes : es.size = xs.length := size_of_entries he
    have hpart : (keyPart (Value.ref b)).isSome = false := rfl
    unfold Builtin.«dict.pop»
    refine wpAny_bind ?_
    unfold Builtin.Dict.keyAndDefault
    refine wpAny_bind (wpAny_notOrdered_dict hm.typeIs ?_)
    show wpAny _ _ (pure (d, Value.ref b, none)) _ _ s
    refine wpAny_pure ?_
    simp only [hpart, Bool.false_eq_true, if_false]
    refine wpAny_bind (wpAny_dictEntries ho hdat (wpAny_bind (wpAny_pure ?_)))
    cases hem : es.isEmpty with
    | true =>
      have h0 : xs = [] := by
        have z : es.size = 0 := by simpa using hem
        exact List.length_eq_zero_iff.mp (by omega)
      rw [h0] at hp
      cases hp
    | false =>
      simp only [Bool.false_eq_true, if_false]
      refine wpAny_bind (DT.takeH hu hkey hm hsz (fun hno => ?_) fun p' e hp' hev h' hm' hs' => ?_)
      · rw [hno] at hp
        cases hp
      · have ep' : p' = p := Option.some.inj (hp'.symm.trans hp)
        subst ep'
        simp only [Option.isNone_some, Bool.false_eq_true, if_false]
        refine wpAny_bind (wpAny_letGo (wpAny_pure ⟨e.val, rfl, ?_⟩))
        rw [hev]
        exact hsome h' _ hm' hs'
end
section
variable {X : Cx} {mf : Nat → Bool} {Φ : Nat → List D → Option (Sl × D)} {pos : Pos}
open L2.DX in
/-- d.pop(k), the key being there -/
theorem mt_popThere (hu : X.A.units + 1 < cLine) : MtR X "dict.pop" (fun x xs H Q => ∃ (a : Addr) (kvs : List (List L2.Key × V)) (k : List L2.Key) (b : Addr) (v : V),
    x = .ref a ∧ xs = [.ref b] ∧ H a = some (.dT kvs) ∧ H b = some (.tup (k.map kV)) ∧ valV kvs k = some v ∧ Q v (upd H a (.dT (dropK kvs k)))) := by
  intro pins s σ H x xs v us Q I rx rxs h
  obtain ⟨a, kvs, k, b, v0, rfl, rfl, ha, hb, ev, q1⟩ := h
  cases rx
  obtain ⟨u1, rfl, r1⟩ := vals1 rxs
  cases r1
  obtain ⟨z, hd, xs', rel, dd⟩ := dt_of I.hok ha
  have hz : xs'.length ≤ sizeLine := by
    have := Paired.length rel
    omega
  have r := rel.val k
  rw [ev] at r
  cases hp : atKey xs' k with
  | none => rw [hp] at r; exact (show False from r).elim
  | some p =>
    rw [hp] at r
    refine call_meetsIn PySem.F.slot_dict_pop dd.typeIs PySem.F.entry_dict_pop (PySem.F.args_dict_pop_2 _ _) (popThere (knd := tupleKind (mixKind X.prog X.w)) (k := k))
      ⟨xs', p, tupleKind_room_in1 hu, key_of I.hok hb, dd, hz, hp, fun h' tk dd' hs => ?_⟩
    obtain ⟨o, es, ep, hq, h2, h3, h4, _, h5⟩ := dd'
    have hle : (dropK kvs k).length ≤ sizeLine := Nat.le_trans (dropK_le kvs k) z
    have hkt := (KT_drop k rel).keeps (H' := upd H a (.dT (dropK kvs k))) (fun c ys ec => by
      rw [upd_ne (ne_of ec ha (fun z => nomatch z))]; exact ec)
    exact ⟨v0, _, d_write (ob := .dT (dropK kvs k)) I (by rw [ha]; trivial) hs ⟨o, hq⟩ ⟨hle, hd, _, hkt, o, es, ep, hq, h2, h3, h4, h5⟩, r, q1⟩
end
end Tv
set_option maxHeartbeats 1000000
/-! TvR: statements. -/
namespace Tv
open PySem PySem.Spec PyProof.Rows L2
section
variable (K : PySem.W.Frag) (mf : Nat → Bool) (Φ : Nat → List D → Option (Sl × D)) (wf : Nat)
/-- what is wanted behind a statement that ends so -/
def SPost (S : List Addr) (H0 : Hp) (P : List Addr) (ts : List Cell) (env : Ev) (D : Ends) : Fl → Prop
  | .nx => ∀ H' cs', cs'.map (·.s) = env → Ok K S H0 P H' (cs' ++ ts) → D.nx (cs'.map (·.v)) H'
  | .rt r => ∀ x H' cs' f, cs'.map (·.s) = env → Ok K S H0 P H' (cs' ++ ts ++ [⟨some x, r, f⟩]) → D.rt x H'
  | .bk => ∀ H' cs', cs'.map (·.s) = env → Ok K S H0 P H' (cs' ++ ts) → D.bk (cs'.map (·.v)) H'
  | .ct => ∀ H' cs', cs'.map (·.s) = env → Ok K S H0 P H' (cs' ++ ts) → D.ct (cs'.map (·.v)) H'
def tS (st : St) : TS := fun D σ H => ∃ S H0 P cs ts fl env, σ = cs.map (·.v) ∧ Ok K S H0 P H (cs ++ ts) ∧ noVo ts ∧ exS mf Φ wf st (cs.map (·.s)) = some (fl, env) ∧ SPost K S H0 P ts env D fl
end
section
variable {X : Cx} {mf : Nat → Bool} {Φ : Nat → List D → Option (Sl × D)} {wf : Nat} {pos : Pos}
theorem weakSs {X : Cx} {e : List Stmt} {t t' : TS} (h : PSs X e t) (w : ∀ D σ H, t' D σ H → t D σ H) : PSs X e t' := ⟨fun pins s σ H D I q => h.run pins s σ H D I (w D σ H q)⟩
theorem tss_nil : PSs X [] (tS X.K mf Φ wf .nop) := by
  refine weakSs pss_nil fun D σ H q => ?_
  obtain ⟨S, H0, P, cs, ts, fl, env, rfl, o, nv, he, k⟩ := q
  unfold exS at he
  cases he
  exact k H cs rfl o
theorem ts_nop {st : Stmt} (h : PS X st tNext) : PS X st (tS X.K mf Φ wf .nop) := by
  refine weakS h fun D σ H q => ?_
  obtain ⟨S, H0, P, cs, ts, fl, env, rfl, o, nv, he, k⟩ := q
  unfold exS at he
  cases he
  exact k H cs rfl o
theorem tS_seq {a b : St} {D : Ends} {σ : L2.St} {H : Hp} (q : tS X.K mf Φ wf (.seq a b) D σ H) : tSeq (tS X.K mf Φ wf a) (tS X.K mf Φ wf b) D σ H := by
  obtain ⟨S, H0, P, cs, ts, fl, env, rfl, o, nv, he, k⟩ := q
  unfold exS at he
  simp only [Option.bind_eq_bind, Option.bind_eq_some_iff] at he
  obtain ⟨⟨f1, e1⟩, h1, he⟩ := he
  refine ⟨S, H0, P, cs, ts, f1, e1, rfl, o, nv, h1, ?_⟩
  cases f1 with
  | nx => exact fun H' cs' hs o' => ⟨S, H0, P, cs', ts, fl, env, rfl, o', nv, by rw [hs]; exact he, k⟩
  | rt r => cases he; exact k
  | bk => cases he; exact k
  | ct => cases he; exact k
theorem tss_cons {st : Stmt} {rest : List Stmt} {a b : St} (h1 : PS X st (tS X.K mf Φ wf a)) (h2 : PSs X rest (tS X.K mf Φ wf b)) : PSs X (st :: rest) (tS X.K mf Φ wf (.seq a b)) :=
  weakSs (pss_cons h1 h2) fun _ _ _ q => tS_seq q
theorem ts_eff {e : Expr} {ex : Ex} (he : ∀ m, PE X e (tE X.K mf Φ m ex)) (hs : swapsWith e none pos.line X.env = pure false) : PS X (.Expr e pos) (tS X.K mf Φ wf (.eff ex)) := by
  refine weakS (ps_expr (he .val) hs) fun D σ H q => ?_
  obtain ⟨S, H0, P, cs, ts, fl, env, rfl, o, nv, hev, k⟩ := q
  unfold exS at hev
  simp only [Option.bind_eq_bind, Option.bind_eq_some_iff] at hev
  obtain ⟨⟨x, e1⟩, h1, hev⟩ := hev
  cases hev
  refine ⟨S, H0, P, cs, ts, x, e1, rfl, o, h1, .inr nv, fun v H' cs' f hv hs' o' _ => ?_⟩
  rw [← hv]
  exact k H' cs' hs' (o'.drop (List.sublist_append_left _ _))
theorem ts_ret {e : Expr} {ex : Ex} (he : ∀ m, PE X e (tE X.K mf Φ m ex)) : PS X (.Return (some e) pos) (tS X.K mf Φ wf (.ret ex)) := by
  refine weakS (ps_ret (he .mov)) fun D σ H q => ?_
  obtain ⟨S, H0, P, cs, ts, fl, env, rfl, o, nv, hev, k⟩ := q
  unfold exS at hev
  simp only [Option.bind_eq_bind, Option.bind_eq_some_iff] at hev
  obtain ⟨⟨x, e1⟩, h1, hev⟩ := hev
  simp only at hev
  split at hev
  · cases hev
  cases hev
  exact ⟨S, H0, P, cs, ts, x, env, rfl, o, h1, .inr nv, fun v H' cs' f hv hs' o' _ => k v H' cs' f hs' o'⟩
theorem ts_halt {st : Stmt} : PS X st (tS X.K mf Φ wf .halt) := by
  refine weakS ps_never fun D σ H q => ?_
  obtain ⟨S, H0, P, cs, ts, fl, env, rfl, o, nv, hev, k⟩ := q
  unfold exS at hev
  cases hev
theorem ts_brk : PS X (.Break pos) (tS X.K mf Φ wf .brk) := by
  refine weakS ps_break fun D σ H q => ?_
  obtain ⟨S, H0, P, cs, ts, fl, env, rfl, o, nv, hev, k⟩ := q
  unfold exS at hev
  cases hev
  exact k H cs rfl o
theorem ts_cont : PS X (.Continue pos) (tS X.K mf Φ wf .cont) := by
  refine weakS ps_continue fun D σ H q => ?_
  obtain ⟨S, H0, P, cs, ts, fl, env, rfl, o, nv, hev, k⟩ := q
  unfold exS at hev
  cases hev
  exact k H cs rfl o
theorem ts_if {c : Expr} {a b : List Stmt} {ec : Ex} {sa sb : St} (hc : PT X c (tT X.K mf Φ ec)) (ha : PSs X a (tS X.K mf Φ wf sa)) (hb : PSs X b (tS X.K mf Φ wf sb)) : PS X (.If c a b pos) (tS X.K mf Φ wf (.ifs ec sa sb)) := by
  refine weakS (ps_if hc ha hb) fun D σ H q => ?_
  obtain ⟨S, H0, P, cs, ts, fl, env, rfl, o, nv, hev, k⟩ := q
  unfold exS at hev
  simp only [Option.bind_eq_bind, Option.bind_eq_some_iff] at hev
  obtain ⟨⟨x, e1⟩, h1, hev⟩ := hev
  simp only at hev
  split at hev
  · rename_i hx
    refine ⟨S, H0, P, cs, ts, x, true, e1, rfl, o, h1, hx, .inr nv, fun H' cs' hv hs' o' _ => ?_⟩
    show tS X.K mf Φ wf sa D (cs.map (·.v)) H'
    rw [← hv]
    exact ⟨S, H0, P, cs', ts, fl, env, rfl, o', nv, by rw [hs']; exact hev, k⟩
  · rename_i hx
    refine ⟨S, H0, P, cs, ts, x, false, e1, rfl, o, h1, hx, .inr nv, fun H' cs' hv hs' o' _ => ?_⟩
    show tS X.K mf Φ wf sb D (cs.map (·.v)) H'
    rw [← hv]
    exact ⟨S, H0, P, cs', ts, fl, env, rfl, o', nv, by rw [hs']; exact hev, k⟩
  · cases hev
/-- target = e -/
theorem tS_asg {tg : Tg} {ex : Ex} {D : Ends} {σ : L2.St} {H : Hp} (q : tS X.K mf Φ wf (.asg tg ex) D σ H) : tAsg (tE X.K mf Φ (asgMode tg ex) ex) (gT X.K mf Φ tg) D σ H := by
  obtain ⟨S, H0, P, cs, ts, fl, env, rfl, o, nv, hev, k⟩ := q
  unfold exS at hev
  simp only [Option.bind_eq_bind, Option.bind_eq_some_iff] at hev
  obtain ⟨⟨x, e1⟩, h1, e2, h2, hev⟩ := hev
  cases hev
  refine ⟨S, H0, P, cs, ts, x, e1, rfl, o, h1, .inr nv, fun v H' cs' f hv hs' o' _ => ?_⟩
  rw [← hv]
  exact ⟨S, H0, P, cs', ts, x, f, env, rfl, o', nv, by rw [hs']; exact h2, fun H2 cs2 hs2 _ _ o2 => k H2 cs2 hs2 o2⟩
theorem ts_asg {t e : Expr} {tg : Tg} {ex : Ex} (he : ∀ m, PE X e (tE X.K mf Φ m ex)) (hg : PG X t (gT X.K mf Φ tg)) (hs : swapsWithSole [t] e pos.line X.env = pure false) (hw : swappedStores [t] e X.env = pure none)
    (h1 : (assignEach [t] X.env).map (·.2) = [assign t X.env]) : PS X (.Assign [t] e pos) (tS X.K mf Φ wf (.asg tg ex)) :=
  weakS (ps_asg (he _) hg hs hw h1) fun _ _ _ q => tS_asg q
end
/-! ### append -/
section
variable {X : Cx} {mf : Nat → Bool} {Φ : Nat → List D → Option (Sl × D)} {wf : Nat} {pos : Pos}
theorem isL_slot {S : List Addr} {H0 H : Hp} {P : List Addr} {cs ts : List Cell} {i : Nat} (o : Ok X.K S H0 P H (cs ++ ts)) (hl : isListS (cs.map (·.s)) i = true) : ∃ p xs, (cs.map (·.v))[i]? = some (some (.ref p)) ∧ SqL X.K H p xs := by
  unfold isListS at hl
  cases hi : (cs.map (·.s))[i]? with
  | none => rw [hi] at hl; cases hl
  | some sl =>
    rw [hi] at hl
    simp only at hl
    cases hd : sl.d with
    | list ds =>
      obtain ⟨l, c, r, e1, e2, e3⟩ := env_at hi
      have hcell := o.cell c (by rw [e1]; simp)
      have hne : c.s ≠ .un := fun q => by
        rw [← e3, q] at hd
        cases hd
      obtain ⟨v, F, q, rp⟩ := hcell.rp hne
      rw [e3, hd] at rp
      obtain ⟨p, xs, G, rfl, q2, _, _⟩ := Rp.list rp
      exact ⟨p, xs, by rw [e1, List.getElem?_map, get_mid e2]; simp [q], q2⟩
    | _ => rw [hd] at hl; cases hl
theorem ts_app {o e : Expr} {ex : Ex} {i : Nat} {apos cpos : Pos} (h0 : PE X o (tVar i)) (he : ∀ m, PE X e (tE X.K mf Φ m ex)) (hbase : attributeBase o "append" X.env (eval o X.env) = eval o X.env)
    (hfew : ((backTo cpos (starEach (e :: []) X.env)).all (fun x => !x.1) && (backToKw cpos (keywordEach [] X.env)).all (fun x => x.1.isSome)
      && decide ((e :: ([] : List Expr)).length + ([] : List Keyword).length + (if ([] : List Keyword).isEmpty then 0 else 1) < 30)) = true)
    (hline : (apos.endLine == cpos.line) = true) (hs : starEach (e :: []) X.env = (false, eval e X.env) :: starEach [] X.env) (hplain : (backTo cpos (starEach [] X.env)).any (·.1) = false)
    (hsw : swapsWith (.Call (.Attribute o "append" apos) [e] [] cpos) none pos.line X.env = pure false) : PS X (.Expr (.Call (.Attribute o "append" apos) [e] [] cpos) pos) (tS X.K mf Φ wf (.app i ex)) := by
  refine weakS (ps_expr (pe_bm PySem.F.plainAttrs_list PySem.F.slot_list_append PySem.F.type_list_append mt_append h0 (pa_cons (he .val) pa_nil hs) hbase hfew hline hs hplain) hsw) fun D σ H q => ?_
  obtain ⟨S, H0, P, cs, ts, fl, env, rfl, ok, nv, hev, k⟩ := q
  unfold exS at hev
  simp only [Option.bind_eq_bind, Option.bind_eq_some_iff] at hev
  obtain ⟨⟨y, e1⟩, h1, hev⟩ := hev
  simp only at hev
  split at hev
  · cases hev
  rename_i hgd
  simp only [Option.bind_eq_some_iff] at hev
  obtain ⟨so, hso, so', hadd, hev⟩ := hev
  cases hev
  simp only [Bool.or_eq_true, Bool.not_eq_true', not_or, Bool.not_eq_false] at hgd
  obtain ⟨p0, xs0, hv0, sq0⟩ := isL_slot ok hgd.1
  refine ⟨_, hv0, .inl ⟨rfl, xs0, sq0⟩, S, H0, P, cs, ts, y, e1, rfl, ok, h1, .inr nv, fun vy H' cs1 g hv1 hs1 ok1 _ => ?_⟩
  have hyg := ev_noVo _ _ _ _ _ (by decide) h1
  have nve := env_nvo hs1 hgd.2
  rw [← hs1] at hso
  obtain ⟨l, c, r, rfl, el, es'⟩ := env_at hso
  have hcw : c.v = some (.ref p0) := by
    have q : ((l ++ c :: r).map (·.v))[i]? = some c.v := by rw [List.getElem?_map, get_mid el]; rfl
    rw [hv1, hv0] at q
    exact (Option.some.inj q).symm
  have eix : i = l.length := el.symm
  have oka : Ok X.K S H0 P H' (l ++ c :: ((r ++ ts) ++ [⟨some vy, y, g⟩])) := by simpa using ok1
  have okb : Ok X.K S H0 P H' (l ++ c :: (r ++ ts)) := by
    have h : Ok X.K S H0 P H' ((l ++ c :: (r ++ ts)) ++ [⟨some vy, y, g⟩]) := by simpa using ok1
    exact h.drop (List.sublist_append_left _ _)
  have ok3 : Ok X.K S H0 P H' ((l ++ c :: (r ++ ts)) ++ [(⟨some vy, y, g⟩ : Cell).dem]) := by
    have h : Ok X.K S H0 P H' ((l ++ c :: (r ++ ts)) ++ [⟨some vy, y, g⟩]) := by simpa using ok1
    simpa using h.demAll
  obtain ⟨zy, Fy, q1, ry, avy⟩ := (ok3.cell _ (by simp : (⟨some vy, y, g⟩ : Cell).dem ∈ _)).dem_rp hyg
  cases q1
  have avy' : ∀ a ∈ Fy, a ∉ S ++ fp (l ++ c :: (r ++ ts)) := fun a ha q => avy a ha (by
    rw [fp_append, ← List.append_assoc]
    exact List.mem_append_left _ q)
  have ecs : c.s = so := es'
  -- the slot's list has one more item
  have fin : ∀ {p : Addr} {u : HO} {w' : HO} {f : List Addr}, c.v = some (.ref p) → H' p = some w' → p ∈ c.f → Mut (some u) → CellOk X.K (S ++ (fp l ++ (f ++ fp (r ++ ts)))) (upd H' p u) ⟨some (.ref p), so', f⟩ → f.Nodup → (∀ a ∈ f, a ∈ c.f ∨ a ∈ g) → (∀ d, so' ≠ .bw d) → D.nx (cs.map (·.v)) (upd H' p u) := fun {p u w' f} ec hp hpf hmu hcell hnd hof hbw => by
    have mto : ∀ a ∈ f, Mut ((upd H' p u) a) := fun a ha => by
      by_cases e : a = p
      · rw [e, upd_same]; exact hmu
      · rw [upd_ne e]
        rcases hof a ha with h | h
        · exact oka.mu a (fp_mem (c := c) (by simp) h)
        · exact oka.mu a (fp_mem (c := ⟨some vy, y, g⟩) (by simp) h)
    have on := oka.step (H' := upd H' p u) (c' := ⟨some (.ref p), so', f⟩) (nw := []) (fun c' hc' => nve c' (by simp [hc'])) (noVo_app (fun c' hc' => nve c' (by simp [hc'])) nv) (keep_upd hpf)
      (by rw [List.append_nil, fp_mid]; exact hcell) (fun e he => by simp at he) (by simpa [fp_nil] using hnd) (fun a ha => by
        have : a ∈ f := by simpa [fp_nil] using ha
        rcases hof a this with h | h
        · exact .inl h
        · exact .inr (.inl (by simpa [fp_cons, fp_nil] using h))) (fun a ha => mto a (by simpa [fp_nil] using ha)) (fun d hd => absurd hd (hbw d)) (fun e he => by simp at he)
    have hvv : (l ++ (⟨some (.ref p), so', f⟩ : Cell) :: r).map (·.v) = cs.map (·.v) := by
      rw [← hv1]; simp [ec]
    rw [← hvv]
    refine k _ _ ?_ (by simpa using on)
    rw [← hs1, eix]
    exact map_mid.symm
  have listCase : ∀ ds, (c.s = .dp (.list ds) ∨ c.s = .ow (.list ds)) → szOk (ds.length + 1) = true → (so' = .ow (.list (ds ++ [y.d])) ∨ (c.s = .dp (.list ds) ∧ y.isDp = true ∧ so' = .dp (.list (ds ++ [y.d])))) →
      rAppend (.ref p0) [vy] H' fun _ H3 => D.nx (cs.map (·.v)) H3 := fun ds hc hsz hso' => by
    obtain ⟨p, xs, G, ec, hp, hpf, rl, avG, hdp, how⟩ := own_lst okb hc
    have hwp : p0 = p := by
      have := hcw.symm.trans ec
      cases this; rfl
    subst hwp
    have hlen : xs.length < sizeLine := by
      have q : ds.length + 1 ≤ 100000 := by simpa [szOk] using hsz
      have := line_big
      rw [rl.length]
      omega
    have mp : Mut (H' p0) := okb.mu p0 (fp_mem (c := c) (by simp) hpf)
    refine ⟨p0, xs, vy, rfl, rfl, hp, hlen, ?_⟩
    rcases hso' with e | ⟨hcd, hyd, e⟩
    · refine fin (f := [p0]) ec hp hpf trivial ?_ (by simp) (fun a ha => ?_) fun d q => by rw [e] at q; cases q
      · rw [e]
        have avA : ∀ a ∈ G ++ Fy, a ∉ S ++ (fp l ++ p0 :: fp (r ++ ts)) := fun a ha => by
          rcases List.mem_append.mp ha with h | h
          · exact avG a h
          · refine fun q => avy' a h ?_
            rw [fp_mid]
            rcases List.mem_append.mp q with q | q
            · simp [q]
            · rcases List.mem_append.mp q with q | q
              · simp [q]
              · rcases List.mem_cons.mp q with q | q
                · rw [q]; simp [hpf]
                · simp [q]
        refine ⟨p0, G ++ Fy, rfl, ?_, avA, rfl⟩
        unfold Rp
        exact .inl ⟨p0, _, G ++ Fy, rfl, .inl upd_same, rfl, Rps.frame (fz_upd hp mp) _ _ _ (Rps.append rl (Rps.one ry)) fun a ha q => avA a ha (by
          have : a = p0 := by simpa using q
          rw [this]; simp)⟩
      · have : a = p0 := by simpa using ha
        rw [this]; exact .inl hpf
    · obtain ⟨rl0, hcf⟩ := hdp hcd
      have hycell := oka.cell ⟨some vy, y, g⟩ (by simp)
      have nd := oka.nd
      rw [fp_mid, hcf, fp_append] at nd
      have nd2 := (List.nodup_append.mp nd).2.1
      obtain ⟨n1, n2, n3⟩ := List.nodup_append.mp nd2
      obtain ⟨n4, n5, n6⟩ := List.nodup_append.mp n2
      have eg : fp [(⟨some vy, y, g⟩ : Cell)] = g := by simp [fp_cons, fp_nil]
      rw [eg] at n5 n6 n3
      cases y with
      | dp d =>
        obtain ⟨vy', ev', ry0⟩ := hycell
        cases ev'
        have hpn : p0 ∉ G ++ g := fun h => by
          rcases List.mem_append.mp h with h | h
          · exact (List.nodup_cons.mp n1).1 h
          · exact n3 p0 (by simp) p0 (by simp [h]) rfl
        refine fin (f := p0 :: (G ++ g)) ec hp hpf trivial ?_ ?_ (fun a ha => ?_) fun d' q => by rw [e] at q; cases q
        · rw [e]
          refine ⟨.ref p0, rfl, ?_⟩
          unfold Rp
          exact .inl ⟨p0, _, G ++ g, rfl, .inl upd_same, rfl, Rps.frame (fz_upd hp mp) _ _ _ (Rps.append rl0 (Rps.one ry0)) fun a ha q => by
            have : a = p0 := by simpa using q
            rw [this] at ha
            exact hpn ha⟩
        · refine List.nodup_cons.mpr ⟨hpn, List.nodup_append.mpr ⟨(List.nodup_cons.mp n1).2, n5, fun a ha b hb => n3 a (by simp [ha]) b (by simp [hb])⟩⟩
        · rcases List.mem_cons.mp ha with h | h
          · exact .inl (by rw [h]; exact hpf)
          · rcases List.mem_append.mp h with h | h
            · exact .inl (by rw [hcf]; simp [h])
            · exact .inr h
      | _ => cases hyd
  unfold addItem at hadd
  split at hadd
  · rename_i ds
    split at hadd
    · cases hadd
    · rename_i hcond
      simp only [Bool.or_eq_true, Bool.not_eq_true', not_or, Bool.not_eq_false] at hcond
      cases hadd
      by_cases hd : y.isDp = true
      · exact listCase ds (.inl ecs) hcond.1 (.inr ⟨ecs, hd, by rw [if_pos hd]⟩)
      · exact listCase ds (.inl ecs) hcond.1 (.inl (by rw [if_neg hd]))
  · rename_i ds
    split at hadd
    · cases hadd
    · rename_i hcond
      simp only [Bool.or_eq_true, Bool.not_eq_true', not_or, Bool.not_eq_false] at hcond
      cases hadd
      exact listCase ds (.inr ecs) hcond.1 (.inl rfl)
  · cases hadd
end
end Tv
set_option maxHeartbeats 1000000
/-! TvS: d.pop(k), t[0][1].append(c), pairs of names. -/
namespace Tv
open PySem PySem.Spec PyProof.Rows L2
section
variable {K : PySem.W.Frag} {S A A' : List Addr} {H0 H H' : Hp} {P M : List Addr} {cs tl l r ts nw a b : List Cell} {c c' : Cell}
theorem Rpv.drop {k : List Key} : ∀ {es : List (D × D)} {kvs : List (List Key × V)} {F : List Addr}, Rpv K H es kvs F → ∃ G, Rpv K H (dropD es (tkD k)) (dropK kvs k) G ∧ ∀ a ∈ G, a ∈ F
  | [], kvs, F, h => by
    rw [h.1, h.2]
    exact ⟨[], by unfold dropD dropK Rpv; exact ⟨rfl, rfl⟩, fun a ha => ha⟩
  | (kd, d0) :: es, kvs, F, h => by
    unfold Rpv at h
    obtain ⟨kk, x, r, F1, F2, e0, e1, e2, e3, e4⟩ := h
    subst e0 e1 e2
    obtain ⟨G, h1, h2⟩ := Rpv.drop (k := k) e4
    by_cases hk : kk = k
    · subst hk
      have ht : eqT (tkD kk) (tkD kk) = true := by rw [eqT_key]; simp
      refine ⟨G, ?_, fun a ha => List.mem_append_right _ (h2 a ha)⟩
      have z1 : dropD ((tkD kk, d0) :: es) (tkD kk) = dropD es (tkD kk) := List.filter_cons_of_neg (by simp [ht])
      have z2 : dropK ((kk, x) :: r) kk = dropK r kk := List.filter_cons_of_neg (by simp)
      rw [z1, z2]
      exact h1
    · have ht : eqT (tkD kk) (tkD k) = false := by rw [eqT_key]; simp [hk]
      refine ⟨F1 ++ G, ?_, fun a ha => ?_⟩
      · have z1 : dropD ((tkD kk, d0) :: es) (tkD k) = (tkD kk, d0) :: dropD es (tkD k) := List.filter_cons_of_pos (by simp [ht])
        have z2 : dropK ((kk, x) :: r) k = (kk, x) :: dropK r k := List.filter_cons_of_pos (by simp [hk])
        rw [z1, z2]
        unfold Rpv
        exact ⟨kk, x, _, F1, G, rfl, rfl, rfl, e3, h1⟩
      · rcases List.mem_append.mp ha with ha | ha
        · exact List.mem_append_left _ ha
        · exact List.mem_append_right _ (h2 a ha)
/-! ### a list deep within -/
def PAt (K : PySem.W.Frag) (H : Hp) : V → List Nat → V → Prop
  | v, [], x => x = v
  | v, j :: p, x => ∃ a xs y, v = .ref a ∧ (SqL K H a xs ∨ SqT K H a xs) ∧ xs[j]? = some y ∧ PAt K H y p x
theorem PAt.mono {L : PySem.W.Frag} : ∀ {p : List Nat} {v x : V}, PAt [] H v p x → PAt L H v p x
  | [], v, x, h => h
  | k :: p, v, x, h => by
    obtain ⟨a, ys, z, e1, e2, e3, e4⟩ := h
    refine ⟨a, ys, z, e1, ?_, e3, PAt.mono e4⟩
    rcases e2 with (e | ⟨o, its, n, q, _⟩) | e
    · exact .inl (.inl e)
    · cases q
    · rcases e with e | ⟨o, its, n, q, _⟩
      · exact .inr (.inl e)
      · cases q
theorem PAt.snoc {j : Nat} {y : V} {q : Addr} {xs : List V} : ∀ {p : List Nat} {v : V}, PAt K H v p (.ref q) → (SqL K H q xs ∨ SqT K H q xs) → xs[j]? = some y → PAt K H v (p ++ [j]) y
  | [], v, h, hs, hx => ⟨q, xs, y, h.symm, hs, hx, rfl⟩
  | k :: p, v, h, hs, hx => by
    obtain ⟨a, ys, z, e1, e2, e3, e4⟩ := h
    exact ⟨a, ys, z, e1, e2, e3, PAt.snoc e4 hs hx⟩
theorem PAt.split {j : Nat} {x : V} : ∀ {p : List Nat} {v : V}, PAt K H v (p ++ [j]) x → ∃ q xs, PAt K H v p (.ref q) ∧ (SqL K H q xs ∨ SqT K H q xs) ∧ xs[j]? = some x
  | [], v, h => by
    obtain ⟨a, ys, z, e1, e2, e3, e4⟩ := h
    exact ⟨a, ys, e1.symm, e2, by rw [e3]; exact congrArg some e4.symm⟩
  | k :: p, v, h => by
    obtain ⟨a, ys, z, e1, e2, e3, e4⟩ := h
    obtain ⟨q, xs, h1, h2, h3⟩ := PAt.split e4
    exact ⟨q, xs, ⟨a, ys, z, e1, e2, e3, h1⟩, h2, h3⟩
theorem Rps.splitAt : ∀ {ds : List D} {vs : List V} {F : List Addr} {j : Nat} {d : D}, Rps K H ds vs F → ds[j]? = some d →
    ∃ x G1 Gx G2, vs[j]? = some x ∧ F = G1 ++ (Gx ++ G2) ∧ Rp K H d x Gx ∧ ∀ H' d' q, q ∉ G1 → q ∉ G2 → Fz [q] H H' → Rp K H' d' x Gx → Rps K H' (ds.set j d') vs F
  | [], _, _, _, _, _, e => by simp at e
  | d0 :: ds, vs, F, 0, d, h, e => by
    unfold Rps at h
    obtain ⟨x, r, F1, F2, e1, e2, e3, e4⟩ := h
    have : d0 = d := by simpa using e
    subst this
    subst e1 e2
    refine ⟨x, [], F1, F2, rfl, rfl, e3, fun H' d' q h1 h2 z hr => ?_⟩
    exact Rps.cons hr (Rps.frame z _ _ _ e4 fun a ha hm => by
      have : a = q := by simpa using hm
      exact h2 (this ▸ ha))
  | d0 :: ds, vs, F, j + 1, d, h, e => by
    unfold Rps at h
    obtain ⟨x, r, F1, F2, e1, e2, e3, e4⟩ := h
    subst e1 e2
    obtain ⟨y, G1, Gx, G2, q1, q2, q3, q4⟩ := Rps.splitAt (j := j) (d := d) e4 (by simpa using e)
    refine ⟨y, F1 ++ G1, Gx, G2, by simpa using q1, by rw [q2, List.append_assoc], q3, fun H' d' q h1 h2 z hr => ?_⟩
    have h1' : q ∉ F1 ∧ q ∉ G1 := by simpa using h1
    refine Rps.cons (Rp.frame z _ _ _ e3 fun a ha hm => ?_) (q4 H' d' q h1'.2 h2 z hr)
    have : a = q := by simpa using hm
    exact h1'.1 (this ▸ ha)
theorem poke_ok {y : D} {vy : V} : ∀ {path : List Nat} {d d' : D} {v : V} {F : List Addr}, pokeD y path d = some d' → Rp [] H d v F → F.Nodup → Rp [] H y vy [] →
    ∃ q xs, PAt K H v path (.ref q) ∧ Rd H q (.lst xs) ∧ q ∈ F ∧ xs.length < sizeLine ∧ ∀ H', Rd H' q (.lst (xs ++ [vy])) → Fz [q] H H' → Rp [] H' d' v F
  | [], .list ds, d', v, F, h, r, nd, ry => by
    unfold pokeD at h
    split at h
    · rename_i hsz
      cases h
      obtain ⟨p, xs, G, e1, e2, e3, e4⟩ := own_list0 r
      subst e1 e2
      refine ⟨p, xs, rfl, e3, by simp, ?_, fun H' h1 z => ?_⟩
      · have q : ds.length + 1 ≤ 100000 := by simpa [szOk] using hsz
        have := line_big
        rw [e4.length]
        omega
      · have rr := Rps.append (Rps.frame z _ _ _ e4 fun a ha hm => by
          have : a = p := by simpa using hm
          exact (List.nodup_cons.mp nd).1 (this ▸ ha)) (Rps.one (Rp.frame z _ _ _ ry fun a ha hm => by simp at ha))
        rw [List.append_nil] at rr
        unfold Rp
        exact .inl ⟨p, _, G, rfl, h1, rfl, rr⟩
    · cases h
  | j :: p, .list ds, d', v, F, h, r, nd, ry => by
    unfold pokeD at h
    simp only [Option.bind_eq_bind, Option.bind_eq_some_iff] at h
    obtain ⟨x, hx, x', hx', h⟩ := h
    cases h
    obtain ⟨a, xs, G, e1, e2, e3, e4⟩ := own_list0 r
    subst e1 e2
    obtain ⟨vx, G1, Gx, G2, q1, q2, q3, q4⟩ := Rps.splitAt e4 hx
    subst q2
    have nd' := List.nodup_cons.mp nd
    obtain ⟨m1, m2, m3⟩ := List.nodup_append.mp nd'.2
    obtain ⟨m4, m5, m6⟩ := List.nodup_append.mp m2
    obtain ⟨q, ys, w1, w2, w3, w4, w5⟩ := poke_ok hx' q3 m4 ry
    have hqa : a ≠ q := fun e => nd'.1 (by rw [e]; simp [w3])
    refine ⟨q, ys, ⟨a, xs, vx, rfl, .inl (SqL.ofRd e3), q1, w1⟩, w2, by simp [w3], w4, fun H' h1 z => ?_⟩
    have rr := q4 H' x' q (fun hm => m3 q hm q (List.mem_append_left _ w3) rfl) (fun hm => m6 q w3 q hm rfl) z (w5 H' h1 z)
    unfold Rp
    exact .inl ⟨a, xs, _, rfl, z.rd _ _ e3 (by simpa using hqa) trivial, rfl, rr⟩
  | j :: p, .tuple ds, d', v, F, h, r, nd, ry => by
    unfold pokeD at h
    simp only [Option.bind_eq_bind, Option.bind_eq_some_iff] at h
    obtain ⟨x, hx, x', hx', h⟩ := h
    cases h
    obtain ⟨a, xs, e1, e2, e4⟩ := Rp.tuple r
    subst e1
    obtain ⟨vx, G1, Gx, G2, q1, q2, q3, q4⟩ := Rps.splitAt e4 hx
    subst q2
    obtain ⟨m1, m2, m3⟩ := List.nodup_append.mp nd
    obtain ⟨m4, m5, m6⟩ := List.nodup_append.mp m2
    obtain ⟨q, ys, w1, w2, w3, w4, w5⟩ := poke_ok hx' q3 m4 ry
    refine ⟨q, ys, ⟨a, xs, vx, rfl, .inr (SqT.of e2), q1, w1⟩, w2, by simp [w3], w4, fun H' h1 z => ?_⟩
    have rr := q4 H' x' q (fun hm => m3 q hm q (List.mem_append_left _ w3) rfl) (fun hm => m6 q w3 q hm rfl) z (w5 H' h1 z)
    unfold Rp
    exact ⟨a, xs, rfl, z.tp _ _ e2, rr⟩
end
def tP (K : PySem.W.Frag) (i : Nat) (p : List Nat) : TE := fun σ H Q => ∃ v x, σ[i]? = some (some v) ∧ PAt K H v p x ∧ Q x H
section
variable {X : Cx} {mf : Nat → Bool} {Φ : Nat → List D → Option (Sl × D)} {wf : Nat} {pos : Pos}
theorem tp_var {i : Nat} {o : Expr} (h : PE X o (tVar i)) : PE X o (tP X.K i []) := by
  refine weak h fun σ H Q q => ?_
  obtain ⟨v, x, h1, h2, h3⟩ := q
  have h2' : x = v := h2
  subst h2'
  exact ⟨x, h1, h3⟩
theorem tp_idx {i j k : Nat} {p : List Nat} {o : Expr} {ip : Pos} (h : PE X o (tP X.K i p)) (hi : PlainIx (.Constant (.int (j : Int)) k ip)) : PE X (.Subscript o (.Constant (.int (j : Int)) k ip) pos) (tP X.K i (p ++ [j])) := by
  refine weak (pe_ix (ix_list.or ix_tup) h pe_int hi) fun σ H Q q => ?_
  obtain ⟨v, x, h1, h2, h3⟩ := q
  obtain ⟨a, xs, w1, w2, w3⟩ := PAt.split h2
  have hjl : j < xs.length := (List.getElem?_eq_some_iff.mp w3).1
  have hat : atI xs (j : Int) = some x := by
    have hix : ixN xs.length (j : Int) = some j := by
      unfold ixN
      rw [if_pos (by omega), if_pos (by omega)]
      simp
    unfold atI
    rw [hix]
    exact w3
  refine ⟨v, .ref a, h1, w1, ?_⟩
  rcases w2 with w2 | w2
  · exact .inl ⟨a, xs, (j : Int), x, rfl, rfl, w2, hat, h3⟩
  · exact .inr ⟨a, xs, (j : Int), x, rfl, rfl, w2, hat, h3⟩
end
end Tv
set_option maxHeartbeats 1000000
/-! TvT: the statements d.pop(k), t[0][1].append(c), a, b = x, y. -/
namespace Tv
open PySem PySem.Spec PyProof.Rows L2
section
variable {X : Cx} {mf : Nat → Bool} {Φ : Nat → List D → Option (Sl × D)} {wf : Nat} {pos : Pos}
theorem ts_poke {o e : Expr} {c : D} {vc : V} {i : Nat} {path : List Nat} {apos cpos : Pos} (h0 : PE X o (tP X.K i path)) (he : PE X e (tC vc)) (hvc : ∀ H, Rp [] H c vc []) (hbase : attributeBase o "append" X.env (eval o X.env) = eval o X.env)
    (hfew : ((backTo cpos (starEach (e :: []) X.env)).all (fun x => !x.1) && (backToKw cpos (keywordEach [] X.env)).all (fun x => x.1.isSome)
      && decide ((e :: ([] : List Expr)).length + ([] : List Keyword).length + (if ([] : List Keyword).isEmpty then 0 else 1) < 30)) = true)
    (hline : (apos.endLine == cpos.line) = true) (hs : starEach (e :: []) X.env = (false, eval e X.env) :: starEach [] X.env) (hplain : (backTo cpos (starEach [] X.env)).any (·.1) = false)
    (hsw : swapsWith (.Call (.Attribute o "append" apos) [e] [] cpos) none pos.line X.env = pure false) : PS X (.Expr (.Call (.Attribute o "append" apos) [e] [] cpos) pos) (tS X.K mf Φ wf (.poke i path (.cst c))) := by
  refine weakS (ps_expr (pe_bm PySem.F.plainAttrs_list PySem.F.slot_list_append PySem.F.type_list_append mt_append h0 (pa_cons he pa_nil hs) hbase hfew hline hs hplain) hsw) fun D σ H q => ?_
  obtain ⟨S, H0, P, cs, ts, fl, env, rfl, ok, nv, hev, k⟩ := q
  unfold exS at hev
  simp only [Option.bind_eq_bind, Option.bind_eq_some_iff] at hev
  obtain ⟨⟨y, e1⟩, h1, hev⟩ := hev
  simp only at hev
  split at hev
  · cases hev
  rename_i hgd
  unfold ev at h1
  split at h1
  · rename_i hic
    cases h1
    split at hev
    · rename_i d hslot
      split at hev
      · cases hev
      · simp only [Option.bind_eq_some_iff] at hev
        obtain ⟨d', hpk, hev⟩ := hev
        cases hev
        have hnv : ¬ (List.any (cs.map (·.s)) fun x => x.isVo) = true := fun q => hgd (by rw [q]; simp)
        have nve := env_nvo rfl hnv
        obtain ⟨l, cl, r, rfl, el, es'⟩ := env_at hslot
        obtain ⟨cv, csl, cf⟩ := cl
        have es'' : csl = .dp d := es'
        subst es''
        have oka : Ok X.K S H0 P H (l ++ ⟨cv, .dp d, cf⟩ :: ((r ++ ts) ++ [])) := by simpa using ok
        obtain ⟨v, e2, rp⟩ := oka.cell ⟨cv, .dp d, cf⟩ (by simp)
        have e2' : cv = some v := e2
        subst e2'
        have nd := oka.nd
        rw [fp_mid] at nd
        have ndf : cf.Nodup := (List.nodup_append.mp (List.nodup_append.mp nd).2.1).1
        obtain ⟨q, xs, w1, w2, w3, w4, w5⟩ := poke_ok hpk rp ndf (hvc H)
        have hqf : q ∈ fp (l ++ (⟨some v, .dp d, cf⟩ : Cell) :: ((r ++ ts) ++ [])) := fp_mem (c := ⟨some v, .dp d, cf⟩) (by simp) w3
        have mq : Mut (H q) := oka.mu q hqf
        have hq := rd_mut w2 mq
        have w1' : PAt X.K H v path (.ref q) := w1.mono
        refine ⟨v, .ref q, ?_, w1', .inl ⟨rfl, xs, SqL.ofRd w2⟩, ?_⟩
        · rw [List.getElem?_map, get_mid el]; rfl
        refine ⟨q, xs, vc, rfl, rfl, hq, w4, ?_⟩
        have z := fz_upd (u := .lst (xs ++ [vc])) hq mq
        have rp' := w5 _ (.inl upd_same) z
        have on := oka.step (H' := upd H q (.lst (xs ++ [vc]))) (c' := ⟨some v, .dp d', cf⟩) (nw := []) (fun c' hc' => nve c' (by simp [hc'])) (noVo_app (fun c' hc' => nve c' (by simp [hc'])) nv) (keep_upd w3)
          ⟨v, rfl, rp'⟩ (fun e he => by simp at he) (by simpa [fp_nil] using ndf) (fun a ha => .inl (by simpa [fp_nil] using ha)) (fun a ha => by
            have ha' : a ∈ cf := by simpa [fp_nil] using ha
            by_cases e : a = q
            · rw [e, upd_same]; trivial
            · rw [upd_ne e]
              exact oka.mu a (fp_mem (c := ⟨some v, .dp d, cf⟩) (by simp) ha')) (fun d q => by cases q) (fun e he => by simp at he)
        have hvv : (l ++ (⟨some v, .dp d', cf⟩ : Cell) :: r).map (·.v) = (l ++ (⟨some v, .dp d, cf⟩ : Cell) :: r).map (·.v) := by simp
        show D.nx ((l ++ (⟨some v, .dp d, cf⟩ : Cell) :: r).map (·.v)) _
        rw [← hvv]
        refine k _ _ ?_ (by simpa using on)
        rw [show i = l.length from el.symm]
        exact (map_mid (g := fun c => c.s)).symm
    · cases hev
  · cases h1
theorem ts_pop {o e : Expr} {ex : Ex} {i : Nat} {apos cpos : Pos} (hu : X.A.units + 1 < cLine) (h0 : PE X o (tVar i)) (he : ∀ m, PE X e (tE X.K mf Φ m ex)) (hbase : attributeBase o "pop" X.env (eval o X.env) = eval o X.env)
    (hfew : ((backTo cpos (starEach (e :: []) X.env)).all (fun x => !x.1) && (backToKw cpos (keywordEach [] X.env)).all (fun x => x.1.isSome)
      && decide ((e :: ([] : List Expr)).length + ([] : List Keyword).length + (if ([] : List Keyword).isEmpty then 0 else 1) < 30)) = true)
    (hline : (apos.endLine == cpos.line) = true) (hs : starEach (e :: []) X.env = (false, eval e X.env) :: starEach [] X.env) (hplain : (backTo cpos (starEach [] X.env)).any (·.1) = false)
    (hsw : swapsWith (.Call (.Attribute o "pop" apos) [e] [] cpos) none pos.line X.env = pure false) : PS X (.Expr (.Call (.Attribute o "pop" apos) [e] [] cpos) pos) (tS X.K mf Φ wf (.pop i ex)) := by
  refine weakS (ps_expr (pe_bm PySem.F.plainAttrs_dict PySem.F.slot_dict_pop PySem.F.type_dict_pop (mt_popThere hu) h0 (pa_cons (he .val) pa_nil hs) hbase hfew hline hs hplain) hsw) fun D σ H q => ?_
  obtain ⟨S, H0, P, cs, ts, fl, env, rfl, ok, nv, hev, k⟩ := q
  unfold exS at hev
  simp only [Option.bind_eq_bind, Option.bind_eq_some_iff] at hev
  obtain ⟨⟨y, e1⟩, h1, hev⟩ := hev
  simp only at hev
  split at hev
  · cases hev
  rename_i hgd
  simp only [Bool.or_eq_true, Bool.not_eq_true', not_or, Bool.not_eq_false] at hgd
  obtain ⟨⟨hkey, hisd⟩, hnv⟩ := hgd
  -- the slot before
  have hdict : ∃ p kvs, (cs.map (·.v))[i]? = some (some (.ref p)) ∧ H p = some (.dT kvs) := by
    unfold isDictS at hisd
    have go : ∀ es (sl : Sl), (cs.map (·.s))[i]? = some sl → (sl = .dp (.dict es) ∨ sl = .ow (.dict es)) → ∃ p kvs, (cs.map (·.v))[i]? = some (some (.ref p)) ∧ H p = some (.dT kvs) := fun es sl hi hd => by
      obtain ⟨l, c, r, e1, e2, e3⟩ := env_at hi
      subst e1
      have ok' : Ok X.K S H0 P H (l ++ c :: (r ++ ts)) := by simpa using ok
      obtain ⟨p, kvs, G, w1, w2, _⟩ := own_dict ok' (es := es) (by rw [e3]; exact hd)
      exact ⟨p, kvs, by rw [List.getElem?_map, get_mid e2]; simp [w1], w2⟩
    split at hisd
    · rename_i es hi; exact go es _ hi (.inl rfl)
    · rename_i es hi; exact go es _ hi (.inr rfl)
    · cases hisd
  obtain ⟨p0, kvs0, hv0, hp0⟩ := hdict
  refine ⟨_, hv0, .inr (.inr (.inl ⟨rfl, .inr ⟨kvs0, hp0⟩⟩)), S, H0, P, cs, ts, y, e1, rfl, ok, h1, .inr nv, fun vy H' cs1 g hv1 hs1 ok1 _ => ?_⟩
  have hyg := ev_noVo _ _ _ _ _ (by decide) h1
  have nve := env_nvo hs1 hnv
  -- one road for both kinds of slot
  have go : ∀ es (so : Sl) (so' : Sl), e1[i]? = some so → (so = .dp (.dict es) ∨ so = .ow (.dict es)) → (es.any fun z => eqT z.1 y.d) = true → (so' = .ow (.dict (dropD es y.d)) ∨ (so = .dp (.dict es) ∧ imms (es.map (·.2)) = true ∧ so' = .dp (.dict (dropD es y.d)))) →
      (∀ H2 cs2, cs2.map (·.s) = e1.set i so' → Ok X.K S H0 P H2 (cs2 ++ ts) → D.nx (cs2.map (·.v)) H2) →
      ∃ (a : Addr) (kvs : List (List L2.Key × V)) (kk : List L2.Key) (b : Addr) (v : V), V.ref p0 = .ref a ∧ [vy] = [.ref b] ∧ H' a = some (.dT kvs) ∧ H' b = some (.tup (kk.map kV)) ∧ valV kvs kk = some v ∧ D.nx (cs.map (·.v)) (upd H' a (.dT (dropK kvs kk))) := fun es so so' hso hsod hany hso' kf => by
    rw [← hs1] at hso
    obtain ⟨l, c, r, rfl, el, es'⟩ := env_at hso
    have hcw : c.v = some (.ref p0) := by
      have q : ((l ++ c :: r).map (·.v))[i]? = some c.v := by rw [List.getElem?_map, get_mid el]; rfl
      rw [hv1, hv0] at q
      exact (Option.some.inj q).symm
    have okb : Ok X.K S H0 P H' (l ++ c :: (r ++ ts)) := by
      have h : Ok X.K S H0 P H' ((l ++ c :: (r ++ ts)) ++ [⟨some vy, y, g⟩]) := by simpa using ok1
      exact h.drop (List.sublist_append_left _ _)
    have ecs : c.s = so := es'
    obtain ⟨p, kvs, G, ec, hp, hpf, rv, avG, hdp⟩ := own_dict okb (es := es) (by rw [ecs]; exact hsod)
    have hwp : p0 = p := by
      have := hcw.symm.trans ec
      cases this; rfl
    subst hwp
    obtain ⟨kk, ek⟩ := tkey_of hkey
    obtain ⟨vy', Fy, q1, ry⟩ := (ok1.cell ⟨some vy, y, g⟩ (by simp)).rp (good_nu hyg)
    cases q1
    obtain ⟨b, eb, hbk⟩ := Rp.tkey (k := kk) (by rw [← ek]; exact ry)
    subst eb
    have hsome : (valV kvs kk).isSome = true := by
      rw [← (Rpv.val (k := kk) rv).1, ← ek]
      exact hany
    obtain ⟨v, hv⟩ := Option.isSome_iff_exists.mp hsome
    refine ⟨p0, kvs, kk, b, v, rfl, rfl, hp, hbk, hv, ?_⟩
    have mp : Mut (H' p0) := okb.mu p0 (fp_mem (c := c) (by simp) hpf)
    have oka : Ok X.K S H0 P H' (l ++ c :: ((r ++ ts) ++ [])) := by simpa using okb
    have hcell : CellOk X.K (S ++ (fp l ++ p0 :: fp (r ++ ts))) (upd H' p0 (.dT (dropK kvs kk))) ⟨some (.ref p0), so', [p0]⟩ := by
      rcases hso' with e | ⟨hcd, hi, e⟩
      · rw [e]
        obtain ⟨G', rv', sub'⟩ := Rpv.drop (k := kk) rv
        refine ⟨p0, G', rfl, ?_, fun a ha => avG a (sub' a ha), rfl⟩
        rw [ek]
        unfold Rp
        exact ⟨p0, _, G', rfl, .inl upd_same, rfl, Rpv.frame (fz_upd hp mp) _ _ _ rv' fun a ha q => avG a (sub' a ha) (by
          have : a = p0 := by simpa using q
          rw [this]; simp)⟩
      · rw [e]
        obtain ⟨rv0, hf⟩ := hdp (by rw [ecs]; exact hcd) hi
        obtain ⟨G', rv', sub'⟩ := Rpv.drop (k := kk) rv0
        have eG' : G' = [] := List.eq_nil_iff_forall_not_mem.mpr fun a ha => by simpa using sub' a ha
        subst eG'
        refine ⟨.ref p0, rfl, ?_⟩
        rw [ek]
        unfold Rp
        exact ⟨p0, _, [], rfl, .inl upd_same, rfl, Rpv.frame (fz_upd hp mp) _ _ _ rv' fun a ha q => by simp at ha⟩
    have on := oka.step (H' := upd H' p0 (.dT (dropK kvs kk))) (c' := ⟨some (.ref p0), so', [p0]⟩) (nw := []) (fun c' hc' => nve c' (by simp [hc'])) (noVo_app (fun c' hc' => nve c' (by simp [hc'])) nv) (keep_upd hpf)
      (by rw [List.append_nil, fp_p]; exact hcell) (fun e he => by simp at he) (by simp [fp_nil]) (fun a ha => by
        have : a = p0 := by simpa [fp_nil] using ha
        rw [this]; exact .inl hpf) (fun a ha => by
        have : a = p0 := by simpa [fp_nil] using ha
        rw [this, upd_same]; trivial) (fun d hd => by rcases hso' with e | ⟨_, _, e⟩ <;> (have hd' : so' = .bw d := hd; rw [e] at hd'; cases hd')) (fun e he => by simp at he)
    have hvv : (l ++ (⟨some (.ref p0), so', [p0]⟩ : Cell) :: r).map (·.v) = cs.map (·.v) := by
      rw [← hv1]; simp [ec]
    rw [← hvv]
    refine kf _ _ ?_ (by simpa using on)
    rw [← hs1, show i = l.length from el.symm]
    exact (map_mid (g := fun c => c.s)).symm
  split at hev
  · rename_i es hso
    split at hev
    · rename_i hc
      simp only [Bool.and_eq_true] at hc
      cases hev
      exact go es _ _ hso (.inl rfl) hc.2 (.inr ⟨rfl, hc.1, rfl⟩) k
    · cases hev
  · rename_i es hso
    split at hev
    · rename_i hc
      cases hev
      exact go es _ _ hso (.inr rfl) hc (.inl rfl) k
    · cases hev
  · cases hev
/-! ### pairs of names -/
theorem setS_ok {S : List Addr} {H0 H : Hp} {P : List Addr} {cs ts tl : List Cell} {c : Cell} {i : Nat} {env : Ev} (o : Ok X.K S H0 P H (cs ++ ts ++ c :: tl)) (h : setS (cs.map (·.s)) i c.s = some env) :
    ∃ cs', Ok X.K S H0 P H (cs' ++ ts ++ tl) ∧ cs'.map (·.s) = env ∧ cs'.map (·.v) = (cs.map (·.v)).set i c.v := by
  unfold setS at h
  split at h
  · cases h
  · rename_i sl hsl
    cases h
    obtain ⟨l, c0, r, e1, e2, e3⟩ := env_at hsl
    subst e1
    have o1 : Ok X.K S H0 P H (l ++ c0 :: r ++ (ts ++ tl) ++ [c]) := by
      refine o.perm ?_ fun e he => .inl ?_
      · simp only [fp_append, fp_cons, fp_nil, List.append_nil, List.append_assoc]
        refine List.Perm.append_left _ (List.Perm.append_left _ (List.Perm.append_left _ (List.Perm.append_left _ List.perm_append_comm)))
      · simp only [List.mem_append, List.mem_cons, List.not_mem_nil, or_false] at he ⊢
        rcases he with ((h | h | h) | h | h) | h
        · exact .inl (.inl (.inl h))
        · exact .inl (.inl (.inr (.inl h)))
        · exact .inl (.inl (.inr (.inr h)))
        · exact .inl (.inr h)
        · exact .inr (.inr h)
        · exact .inr (.inl h)
    refine ⟨l ++ c :: r, by simpa using o1.intoSlot, ?_, ?_⟩
    · rw [show i = l.length from e2.symm]
      exact (map_mid (g := fun c => c.s)).symm
    · rw [show i = l.length from e2.symm]
      exact (map_mid (g := fun c => c.v)).symm
  · cases h
/-- the parts of a tuple display that is taken apart at once -/
theorem parts_ok {S : List Addr} {H0 H : Hp} {P : List Addr} {cs tl : List Cell} {rs : List Sl} {ds : List D} {tgs : Tgs} {r : Sl} {env env' : Ev} {vs : List V} (o : Ok X.K S H0 P H (cs ++ tl)) (hv : tl.map (·.v) = vs.map some) (hs : tl.map (·.s) = rs) (hg : ∀ r ∈ rs, r.good = true)
    (ht : tupR rs = some r) (hb : bindG mf Φ (.tup tgs) r env = some env') : ∃ tl', Ok X.K S H0 P H (cs ++ tl') ∧ tl'.map (·.v) = vs.map some ∧ noVo tl' ∧ bindGs mf Φ tgs (tl'.map (·.s)) env = some env' := by
  have gd := tl_all (p := fun r => r.good = true) hs hg
  unfold tupR at ht
  split at ht
  · cases ht
  cases ht
  by_cases hd : rs.all (·.isDp) = true
  · rw [if_pos hd] at hb
    simp only [bindG] at hb
    refine ⟨tl, o, hv, fun c hc => good_noVo (gd c hc), ?_⟩
    have e : (rs.map (·.d)).map Sl.dp = tl.map (·.s) := by
      rw [hs]
      have : ∀ r ∈ rs, Sl.dp r.d = r := fun r hr => by
        have := List.all_eq_true.mp hd r hr
        cases r <;> first | rfl | cases this
      rw [List.map_map]
      exact (List.map_congr_left this).trans (List.map_id' rs)
    rw [← e]
    exact hb
  · rw [if_neg hd] at hb
    simp only [bindG] at hb
    have o2 := o.demAll
    obtain ⟨F, rp, av⟩ := rps_dem gd (fun c hc => o2.cell c (by simp [hc])) hv
    rw [tl_d hs] at rp
    obtain ⟨tl', w1, w2, w3, w4⟩ := split_sh rp av
    have fd := fp_dem gd fun c hc => o.cell c (by simp [hc])
    have fe : fp (cs ++ tl') = fp (cs ++ tl.map Cell.dem) := by rw [fp_append, fp_append, w3, fd]
    refine ⟨tl', o2.sub (by rw [fe]; exact o2.nd) (fun a ha => by rw [← fe]; exact ha) (fun c hc => ?_) (fun c hc d hd => ?_), w1, fun c hc => ?_, by rw [w2]; exact hb⟩
    · rw [fe]
      rcases List.mem_append.mp hc with h | h
      · exact o2.cell c (by simp [h])
      · exact w4 c h
    · rcases List.mem_append.mp hc with h | h
      · exact o2.bw c (by simp [h]) d hd
      · have : c.s ∈ (rs.map (·.d)).map shN := by rw [← w2]; exact List.mem_map.mpr ⟨c, h, rfl⟩
        obtain ⟨d', _, q⟩ := List.mem_map.mp this
        exact absurd (q.trans hd) (shN_nbw d' d)
    · have : c.s ∈ (rs.map (·.d)).map shN := by rw [← w2]; exact List.mem_map.mpr ⟨c, hc, rfl⟩
      obtain ⟨d', _, q⟩ := List.mem_map.mp this
      rw [← q]; exact shN_nvo d'
theorem bindG_nm {i : Nat} {x : Sl} {env env' : Ev} (h : bindG mf Φ (.nm i) x env = some env') : setS env i x = some env' := by
  unfold bindG at h
  split at h
  · cases h
  · exact h
/-- i, j = x, y -/
theorem tS_par2 {i j : Nat} {es : Exs} {D : Ends} {σ : L2.St} {H : Hp} (q : tS X.K mf Φ wf (.asg (.tup (.cons (.nm i) (.cons (.nm j) .nil))) (.tup es)) D σ H) : tPar i j (tEs X.K mf Φ .val es) D σ H := by
  obtain ⟨S, H0, P, cs, ts, fl, env, rfl, o, nv, hev, k⟩ := q
  unfold exS at hev
  simp only [Option.bind_eq_bind, Option.bind_eq_some_iff] at hev
  obtain ⟨⟨x, e1⟩, h1, e2, h2, hev⟩ := hev
  cases hev
  simp only [asgMode] at h1
  unfold ev at h1
  simp only [Option.bind_eq_bind, Option.bind_eq_some_iff] at h1
  obtain ⟨⟨rs, e3⟩, h3, r, h4, h1⟩ := h1
  cases h1
  have h3' : evs mf Φ .val es (cs.map (·.s)) = some (rs, e3) := h3
  refine ⟨S, H0, P, cs, ts, rs, e3, rfl, o, h3', .inr ⟨nv, by decide⟩, fun xs H' cs' tl hv hs t1 t2 o' _ => ?_⟩
  obtain ⟨tl', o2, w1, w2, w3⟩ := parts_ok (ds := []) o' t1 t2 (evs_good _ _ _ _ _ (by decide) h3') h4 h2
  match tl', xs, w1, w2, w3, o2 with
  | [a, b], [x1, x2], w1, w2, w3, o2 =>
    simp only [List.map_cons, List.map_nil, bindGs, Option.bind_eq_some_iff] at w3
    obtain ⟨ea, b1, eb, b2, b3⟩ := w3
    cases b3
    have ev2 : a.v = some x1 ∧ b.v = some x2 := by simpa using w1
    rw [← hs] at b1
    obtain ⟨c1, p1, p2, p3⟩ := setS_ok o2 (bindG_nm b1)
    rw [← p2] at b2
    obtain ⟨c2, q1, q2, q3⟩ := setS_ok p1 (bindG_nm b2)
    refine ⟨x1, x2, rfl, ?_⟩
    have := k H' c2 q2 (by simpa using q1)
    rw [q3, p3, hv, ev2.1, ev2.2] at this
    exact this
  | [], xs, w1, w2, w3, o2 => simp [bindGs] at w3
  | [a], xs, w1, w2, w3, o2 => simp [bindGs, Option.bind_eq_some_iff] at w3
  | a :: b :: c :: t, xs, w1, w2, w3, o2 => simp [bindGs, Option.bind_eq_some_iff] at w3
  | [a, b], [], w1, w2, w3, o2 => simp at w1
  | [a, b], [_], w1, w2, w3, o2 => simp at w1
  | [a, b], _ :: _ :: _ :: _, w1, w2, w3, o2 => simp at w1
theorem tS_par3 {i j l : Nat} {es : Exs} {D : Ends} {σ : L2.St} {H : Hp} (q : tS X.K mf Φ wf (.asg (.tup (.cons (.nm i) (.cons (.nm j) (.cons (.nm l) .nil)))) (.tup es)) D σ H) : tPar3 i j l (tEs X.K mf Φ .val es) D σ H := by
  obtain ⟨S, H0, P, cs, ts, fl, env, rfl, o, nv, hev, k⟩ := q
  unfold exS at hev
  simp only [Option.bind_eq_bind, Option.bind_eq_some_iff] at hev
  obtain ⟨⟨x, e1⟩, h1, e2, h2, hev⟩ := hev
  cases hev
  simp only [asgMode] at h1
  unfold ev at h1
  simp only [Option.bind_eq_bind, Option.bind_eq_some_iff] at h1
  obtain ⟨⟨rs, e3⟩, h3, r, h4, h1⟩ := h1
  cases h1
  have h3' : evs mf Φ .val es (cs.map (·.s)) = some (rs, e3) := h3
  refine ⟨S, H0, P, cs, ts, rs, e3, rfl, o, h3', .inr ⟨nv, by decide⟩, fun xs H' cs' tl hv hs t1 t2 o' _ => ?_⟩
  obtain ⟨tl', o2, w1, w2, w3⟩ := parts_ok (ds := []) o' t1 t2 (evs_good _ _ _ _ _ (by decide) h3') h4 h2
  match tl', xs, w1, w2, w3, o2 with
  | [a, b, c], [x1, x2, x3], w1, w2, w3, o2 =>
    simp only [List.map_cons, List.map_nil, bindGs, Option.bind_eq_some_iff] at w3
    obtain ⟨ea, b1, eb, b2, ec, b3, b4⟩ := w3
    cases b4
    have ev2 : a.v = some x1 ∧ b.v = some x2 ∧ c.v = some x3 := by simpa using w1
    rw [← hs] at b1
    obtain ⟨c1, p1, p2, p3⟩ := setS_ok o2 (bindG_nm b1)
    rw [← p2] at b2
    obtain ⟨c2, q1, q2, q3⟩ := setS_ok p1 (bindG_nm b2)
    rw [← q2] at b3
    obtain ⟨c3, r1, r2, r3⟩ := setS_ok q1 (bindG_nm b3)
    refine ⟨x1, x2, x3, rfl, ?_⟩
    have := k H' c3 r2 (by simpa using r1)
    rw [r3, q3, p3, hv, ev2.1, ev2.2.1, ev2.2.2] at this
    exact this
  | [], xs, w1, w2, w3, o2 => simp [bindGs] at w3
  | [a], xs, w1, w2, w3, o2 => simp [bindGs, Option.bind_eq_some_iff] at w3
  | [a, b], xs, w1, w2, w3, o2 => simp [bindGs, Option.bind_eq_some_iff] at w3
  | a :: b :: c :: d :: t, xs, w1, w2, w3, o2 => simp [bindGs, Option.bind_eq_some_iff] at w3
  | [a, b, c], [], w1, w2, w3, o2 => simp at w1
  | [a, b, c], [_], w1, w2, w3, o2 => simp at w1
  | [a, b, c], [_, _], w1, w2, w3, o2 => simp at w1
  | [a, b, c], _ :: _ :: _ :: _ :: _, w1, w2, w3, o2 => simp at w1
end
end Tv
set_option maxHeartbeats 1000000
/-! TvU: what is walked; for. -/
namespace Tv
open PySem PySem.Spec PyProof.Rows L2
/-- the iterator yields these data, as long as the temporaries tl are there -/
def WalkOk (K : PySem.W.Frag) (S : List Addr) (H0 : Hp) (P : List Addr) (J : It) (tl : List Cell) (ds : List D) : Prop := ∀ H cs, Ok K S H0 P H (cs ++ tl) →
  (∀ i d, ds[i]? = some d → J.go i H ∧ ∀ x H', J.yld i H x H' → Same H H' ∧ ∃ G, Rp K H' d x G ∧ ∀ a ∈ G, a ∉ S ++ fp (cs ++ tl)) ∧ J.stop ds.length H
section
variable (K : PySem.W.Frag) (mf : Nat → Bool) (Φ : Nat → List D → Option (Sl × D))
def tI (k : ItK) (src : Exs) : TI := fun σ H R => ∃ S H0 P cs ts rs env ds, σ = cs.map (·.v) ∧ Ok K S H0 P H (cs ++ ts) ∧ noVo ts ∧ evs mf Φ .val src (cs.map (·.s)) = some (rs, env) ∧ iterD k (rs.map (·.d)) = some ds ∧ (∀ es, rs.map (·.d) ≠ [.dict es]) ∧
  ∀ J H' cs' tl, cs'.map (·.v) = cs.map (·.v) → cs'.map (·.s) = env → Ok K S H0 P H' (cs' ++ (ts ++ tl)) → noVo tl → WalkOk K S H0 P J tl ds → R J H'
end
theorem weakI {X : Cx} {tg e : Expr} {t t' : TI} (h : PI X tg e t) (w : ∀ σ H R, t' σ H R → t σ H R) : PI X tg e t' := ⟨fun pins s σ H R I q => h.run pins s σ H R I (w σ H R q)⟩
theorem PI.pull {X : Cx} {tg e : Expr} {t : TI} (h : ∀ σ H R, t σ H R → ∃ t', PI X tg e t' ∧ t' σ H R) : PI X tg e t :=
  ⟨fun pins s σ H R I q => let ⟨_, h1, h2⟩ := h σ H R q; h1.run pins s σ H R I h2⟩
section
variable {X : Cx} {tg : Expr} {mf : Nat → Bool} {Φ : Nat → List D → Option (Sl × D)} {wf : Nat} {pos : Pos}
theorem dem_nvo {c : Cell} (h : c.s.good = true) : c.dem.s.isVo = false := by
  obtain ⟨v, s, f⟩ := c
  cases s <;> first | rfl | cases h
theorem dem_v {c : Cell} : c.dem.v = c.v := by
  obtain ⟨v, s, f⟩ := c
  cases s <;> rfl
/-- a list among the temporaries, read later -/
theorem tmp_list {S : List Addr} {H0 H : Hp} {P : List Addr} {cs : List Cell} {c : Cell} {d : D} {a : Addr} {ds : List D} (o : Ok X.K S H0 P H cs) (hm : c.dem ∈ cs) (hg : c.s.good = true) (hv : c.v = some (.ref a)) (hd : c.s.d = .list ds) :
    ∃ xs G, SqL X.K H a xs ∧ Rps X.K H ds xs G ∧ ∀ b ∈ G, b ∉ S ++ fp cs := by
  obtain ⟨x, F, e1, rp, av⟩ := (o.cell _ hm).dem_rp hg
  rw [hv] at e1
  cases e1
  rw [hd] at rp
  obtain ⟨a', xs, G, e2, e3, e4, e5⟩ := Rp.list rp
  cases e2
  exact ⟨xs, G, e3, e4, fun b hb => av b (e5 b hb)⟩
theorem tmp_tup {S : List Addr} {H0 H : Hp} {P : List Addr} {cs : List Cell} {c : Cell} {d : D} {a : Addr} {ds : List D} (o : Ok X.K S H0 P H cs) (hm : c.dem ∈ cs) (hg : c.s.good = true) (hv : c.v = some (.ref a)) (hd : c.s.d = .tuple ds) :
    ∃ xs G, SqT X.K H a xs ∧ Rps X.K H ds xs G ∧ ∀ b ∈ G, b ∉ S ++ fp cs := by
  obtain ⟨x, F, e1, rp, av⟩ := (o.cell _ hm).dem_rp hg
  rw [hv] at e1
  cases e1
  rw [hd] at rp
  obtain ⟨a', xs, e2, e3, e4⟩ := Rp.tuple rp
  cases e2
  exact ⟨xs, F, SqT.of e3, e4, av⟩
theorem walk_list {S : List Addr} {H0 : Hp} {P : List Addr} {c : Cell} {a : Addr} {ds : List D} (hg : c.s.good = true) (hv : c.v = some (.ref a)) (hd : c.s.d = .list ds) : WalkOk X.K S H0 P (Itl X.K a) [c.dem] ds := fun H cs o => by
  obtain ⟨xs, G, sl, rl, av⟩ := tmp_list (d := .none) o (by simp) hg hv hd
  refine ⟨fun i d hi => ?_, xs, sl, Nat.le_of_eq rl.length⟩
  obtain ⟨x, Gx, e1, e2, e3⟩ := rl.get hi
  refine ⟨⟨xs, x, sl, e1⟩, fun y H' hy => ?_⟩
  obtain ⟨rfl, hy⟩ := hy
  have : x = y := Option.some.inj (e1.symm.trans (hy xs sl))
  subst this
  exact ⟨Same.refl _, Gx, e2, fun b hb => av b (e3 b hb)⟩
theorem walk_tup {S : List Addr} {H0 : Hp} {P : List Addr} {c : Cell} {a : Addr} {ds : List D} (hg : c.s.good = true) (hv : c.v = some (.ref a)) (hd : c.s.d = .tuple ds) : WalkOk X.K S H0 P (Itt X.K a) [c.dem] ds := fun H cs o => by
  obtain ⟨xs, G, sl, rl, av⟩ := tmp_tup (d := .none) o (by simp) hg hv hd
  refine ⟨fun i d hi => ?_, xs, sl, Nat.le_of_eq rl.length⟩
  obtain ⟨x, Gx, e1, e2, e3⟩ := rl.get hi
  refine ⟨⟨xs, x, sl, e1⟩, fun y H' hy => ?_⟩
  obtain ⟨rfl, hy⟩ := hy
  have : x = y := Option.some.inj (e1.symm.trans (hy xs sl))
  subst this
  exact ⟨Same.refl _, Gx, e2, fun b hb => av b (e3 b hb)⟩
theorem rngD_len : ∀ (lo : Int) (n : Nat), (rngD lo n).length = n
  | _, 0 => rfl
  | lo, n + 1 => by simp [rngD, rngD_len (lo + 1) n]
theorem rngD_get : ∀ (lo : Int) (n i : Nat) (d : D), (rngD lo n)[i]? = some d → i < n ∧ d = .int (lo + i)
  | lo, 0, i, d, h => by simp [rngD] at h
  | lo, n + 1, 0, d, h => by
    have : PyData.int lo = d := by simpa [rngD] using h
    exact ⟨by omega, by rw [← this]; simp⟩
  | lo, n + 1, i + 1, d, h => by
    obtain ⟨h1, h2⟩ := rngD_get (lo + 1) n i d (by simpa [rngD] using h)
    refine ⟨by omega, ?_⟩
    rw [h2]
    congr 1
    omega
theorem walk_rng {S : List Addr} {H0 : Hp} {P : List Addr} {lo : Int} {n : Nat} : WalkOk X.K S H0 P (Itr lo n) [] (rngD lo n) := fun H cs o => by
  refine ⟨fun i d hi => ?_, Nat.le_of_eq (rngD_len lo n).symm⟩
  obtain ⟨h1, h2⟩ := rngD_get lo n i d hi
  refine ⟨h1, fun y H' hy => ?_⟩
  obtain ⟨rfl, hy⟩ := hy
  subst hy h2
  exact ⟨Same.refl _, [], Rp.mk_int _, fun b hb => by simp at hb⟩
theorem zipD_len : ∀ (xs ys : List D), (zipD xs ys).length = min xs.length ys.length
  | [], _ => by simp [zipD]
  | _ :: _, [] => by simp [zipD]
  | x :: xs, y :: ys => by simp [zipD, zipD_len xs ys]
theorem zipD_get : ∀ (xs ys : List D) (i : Nat) (d : D), (zipD xs ys)[i]? = some d → ∃ x y, xs[i]? = some x ∧ ys[i]? = some y ∧ d = .tuple [x, y]
  | [], _, i, d, h => by simp [zipD] at h
  | _ :: _, [], i, d, h => by simp [zipD] at h
  | x :: xs, y :: ys, 0, d, h => by
    have : PyData.tuple [x, y] = d := by simpa [zipD] using h
    exact ⟨x, y, rfl, rfl, this.symm⟩
  | x :: xs, y :: ys, i + 1, d, h => by
    obtain ⟨a, b, h1, h2, h3⟩ := zipD_get xs ys i d (by simpa [zipD] using h)
    exact ⟨a, b, by simpa using h1, by simpa using h2, h3⟩
theorem enumD_len : ∀ (k : Int) (xs : List D), (enumD k xs).length = xs.length
  | _, [] => rfl
  | k, x :: xs => by simp [enumD, enumD_len (k + 1) xs]
theorem enumD_get : ∀ (k : Int) (xs : List D) (i : Nat) (d : D), (enumD k xs)[i]? = some d → ∃ x, xs[i]? = some x ∧ d = .tuple [.int (k + i), x]
  | _, [], i, d, h => by simp [enumD] at h
  | k, x :: xs, 0, d, h => by
    have : PyData.tuple [.int k, x] = d := by simpa [enumD] using h
    exact ⟨x, rfl, by rw [← this]; simp⟩
  | k, x :: xs, i + 1, d, h => by
    obtain ⟨y, h1, h2⟩ := enumD_get (k + 1) xs i d (by simpa [enumD] using h)
    refine ⟨y, by simpa using h1, ?_⟩
    rw [h2]
    have : k + 1 + (i : Int) = k + ((i + 1 : Nat) : Int) := by omega
    rw [this]
theorem rp_pair {H : Hp} {T : Addr} {x y : V} {d e : D} {F G : List Addr} (hx : Rp X.K H d x F) (hy : Rp X.K H e y G) (hT : H T = none) : Rp X.K (upd H T (.tup [x, y])) (.tuple [d, e]) (.ref T) (F ++ (G ++ [])) := by
  have sm := same_upd (o := HO.tup [x, y]) hT
  unfold Rp
  exact ⟨T, [x, y], rfl, upd_same, Rps.cons (Rp.frame (.same sm) _ _ _ hx fun a _ h => by simp at h) (Rps.one (Rp.frame (.same sm) _ _ _ hy fun a _ h => by simp at h) |> fun z => by simpa using z)⟩
theorem walk_zip {S : List Addr} {H0 : Hp} {P : List Addr} {c1 c2 : Cell} {a b : Addr} {ds es : List D} (hg1 : c1.s.good = true) (hv1 : c1.v = some (.ref a)) (hd1 : c1.s.d = .list ds) (hg2 : c2.s.good = true) (hv2 : c2.v = some (.ref b)) (hd2 : c2.s.d = .list es) :
    WalkOk X.K S H0 P (Itz X.K a b) [c1.dem, c2.dem] (zipD ds es) := fun H cs o => by
  obtain ⟨xs, G, sl, rl, av⟩ := tmp_list (d := .none) o (by simp) hg1 hv1 hd1
  obtain ⟨ys, G', sl', rl', av'⟩ := tmp_list (d := .none) o (by simp) hg2 hv2 hd2
  refine ⟨fun i d hi => ?_, xs, ys, sl, sl', ?_⟩
  · obtain ⟨dx, dy, h1, h2, rfl⟩ := zipD_get ds es i d hi
    obtain ⟨x, Gx, e1, e2, e3⟩ := rl.get h1
    obtain ⟨y, Gy, f1, f2, f3⟩ := rl'.get h2
    refine ⟨⟨xs, ys, x, y, sl, sl', e1, f1⟩, fun v H' hy => ?_⟩
    obtain ⟨T, x', y', rfl, hT, rfl, q1, q2⟩ := hy
    have : x = x' := Option.some.inj (e1.symm.trans (q1 xs sl))
    subst this
    have : y = y' := Option.some.inj (f1.symm.trans (q2 ys sl'))
    subst this
    refine ⟨same_upd hT, _, rp_pair e2 f2 hT, fun q hq => ?_⟩
    rw [List.append_nil] at hq
    rcases List.mem_append.mp hq with h | h
    · exact av q (e3 q h)
    · exact av' q (f3 q h)
  · rw [zipD_len, rl.length, rl'.length]
    omega
theorem walk_enum {S : List Addr} {H0 : Hp} {P : List Addr} {c : Cell} {a : Addr} {ds : List D} (hg : c.s.good = true) (hv : c.v = some (.ref a)) (hd : c.s.d = .list ds) : WalkOk X.K S H0 P (Ite X.K a) [c.dem] (enumD 0 ds) := fun H cs o => by
  obtain ⟨xs, G, sl, rl, av⟩ := tmp_list (d := .none) o (by simp) hg hv hd
  refine ⟨fun i d hi => ?_, xs, sl, by rw [enumD_len]; exact Nat.le_of_eq rl.length⟩
  obtain ⟨dx, h1, rfl⟩ := enumD_get 0 ds i d hi
  obtain ⟨x, Gx, e1, e2, e3⟩ := rl.get h1
  refine ⟨⟨xs, x, sl, e1⟩, fun v H' hy => ?_⟩
  obtain ⟨T, x', rfl, hT, rfl, q1⟩ := hy
  have : x = x' := Option.some.inj (e1.symm.trans (q1 xs sl))
  subst this
  rw [Int.zero_add]
  refine ⟨same_upd hT, _, rp_pair (Rp.mk_int _) e2 hT, fun q hq => ?_⟩
  exact av q (e3 q (by simpa using hq))
/-! ### the walks' expressions -/
theorem tl1 {tl : List Cell} {xs : List V} {rs : List Sl} {d : D} (t1 : tl.map (·.v) = xs.map some) (t2 : tl.map (·.s) = rs) (hd : rs.map (·.d) = [d]) : ∃ c x, tl = [c] ∧ xs = [x] ∧ c.v = some x ∧ c.s.d = d := by
  subst t2
  match tl, xs, t1, hd with
  | [c], [x], t1, hd => exact ⟨c, x, rfl, rfl, by simpa using t1, by simpa using hd⟩
  | [], _, _, hd => simp at hd
  | _ :: _ :: _, _, _, hd => simp at hd
  | [c], [], t1, _ => simp at t1
  | [c], _ :: _ :: _, t1, _ => simp at t1
theorem tl2 {tl : List Cell} {xs : List V} {rs : List Sl} {d e : D} (t1 : tl.map (·.v) = xs.map some) (t2 : tl.map (·.s) = rs) (hd : rs.map (·.d) = [d, e]) : ∃ c b x y, tl = [c, b] ∧ xs = [x, y] ∧ c.v = some x ∧ b.v = some y ∧ c.s.d = d ∧ b.s.d = e := by
  subst t2
  match tl, xs, t1, hd with
  | [c, b], [x, y], t1, hd =>
    have t1' : c.v = some x ∧ b.v = some y := by simpa using t1
    have hd' : c.s.d = d ∧ b.s.d = e := by simpa using hd
    exact ⟨c, b, x, y, rfl, rfl, t1'.1, t1'.2, hd'.1, hd'.2⟩
  | [], _, _, hd => simp at hd
  | [_], _, _, hd => simp at hd
  | _ :: _ :: _ :: _, _, _, hd => simp at hd
  | [_, _], [], t1, _ => simp at t1
  | [_, _], [_], t1, _ => simp at t1
  | [_, _], _ :: _ :: _ :: _, t1, _ => simp at t1
theorem ref_list {S : List Addr} {H0 H : Hp} {P : List Addr} {cs : List Cell} {c : Cell} {x : V} {ds : List D} (o : Ok X.K S H0 P H cs) (hm : c ∈ cs) (hu : c.s ≠ .un) (hv : c.v = some x) (hd : c.s.d = .list ds) : ∃ a xs, x = .ref a ∧ SqL X.K H a xs := by
  obtain ⟨y, F, e1, rp⟩ := (o.cell c hm).rp hu
  rw [hv] at e1
  cases e1
  rw [hd] at rp
  obtain ⟨a, xs, G, e2, e3, _⟩ := Rp.list rp
  exact ⟨a, xs, e2, e3⟩
theorem ref_tup {S : List Addr} {H0 H : Hp} {P : List Addr} {cs : List Cell} {c : Cell} {x : V} {ds : List D} (o : Ok X.K S H0 P H cs) (hm : c ∈ cs) (hu : c.s ≠ .un) (hv : c.v = some x) (hd : c.s.d = .tuple ds) : ∃ a xs, x = .ref a ∧ SqT X.K H a xs := by
  obtain ⟨y, F, e1, rp⟩ := (o.cell c hm).rp hu
  rw [hv] at e1
  cases e1
  rw [hd] at rp
  obtain ⟨a, xs, e2, e3, _⟩ := Rp.tuple rp
  exact ⟨a, xs, e2, SqT.of e3⟩
theorem int_cell {S : List Addr} {H0 H : Hp} {P : List Addr} {cs : List Cell} {c : Cell} {x : V} {i : Int} (o : Ok X.K S H0 P H cs) (hm : c ∈ cs) (hu : c.s ≠ .un) (hv : c.v = some x) (hd : c.s.d = .int i) : x = .int i := by
  obtain ⟨y, F, e1, rp⟩ := (o.cell c hm).rp hu
  rw [hv] at e1
  cases e1
  rw [hd] at rp
  exact Rp.int_eq rp
/-- the source's values, then the walk -/
theorem tI_src {k : ItK} {src : Exs} {σ : L2.St} {H : Hp} {R : It → Hp → Prop} (q : tI X.K mf Φ k src σ H R) {B : List V → Hp → Prop}
    (hB : ∀ S H0 P (cs' ts : List Cell) rs ds xs H' tl, Ok X.K S H0 P H' (cs' ++ ts ++ tl) → tl.map (·.v) = xs.map some → tl.map (·.s) = rs → (∀ r ∈ rs, r.good = true) → iterD k (rs.map (·.d)) = some ds → (∀ es, rs.map (·.d) ≠ [.dict es]) →
      (∀ J tz, Ok X.K S H0 P H' (cs' ++ (ts ++ tz)) → noVo tz → WalkOk X.K S H0 P J tz ds → R J H') → B xs H') : tEs X.K mf Φ .val src σ H B := by
  obtain ⟨S, H0, P, cs, ts, rs, env, ds, rfl, o, nv, he, hi, hnd, k⟩ := q
  refine ⟨S, H0, P, cs, ts, rs, env, rfl, o, he, .inr ⟨nv, by decide⟩, fun xs H' cs' tl hv hs t1 t2 o' _ => ?_⟩
  exact hB S H0 P cs' ts rs ds xs H' tl o' t1 t2 (evs_good _ _ _ _ _ (by decide) he) hi hnd fun J tz o2 nz wk => k J H' cs' tz hv hs o2 nz wk
theorem dem_nvo2 {tl : List Cell} {rs : List Sl} (t2 : tl.map (·.s) = rs) (hg : ∀ r ∈ rs, r.good = true) : noVo (tl.map Cell.dem) := fun c hc => by
  obtain ⟨b, hb, rfl⟩ := List.mem_map.mp hc
  exact dem_nvo (tl_all (p := fun r => r.good = true) t2 hg b hb)
theorem good_ne {c : Cell} (h : c.s.good = true) : c.s ≠ .un := good_nu h
theorem it_rng1 {xs ds : List D} (h : iterD .rng1 xs = some ds) : ∃ j, xs = [.int j] ∧ (if small62 j then some (rngD 0 j.toNat) else none) = some ds := by
  cases xs with
  | nil => cases h
  | cons x t =>
    cases t with
    | nil =>
      cases x with
      | int j => exact ⟨j, rfl, h⟩
      | _ => cases h
    | cons y t => cases x <;> cases h
theorem it_rng2 {xs ds : List D} (h : iterD .rng2 xs = some ds) : ∃ i j, xs = [.int i, .int j] ∧ (if small62 i && small62 j then some (rngD i (j - i).toNat) else none) = some ds := by
  cases xs with
  | nil => cases h
  | cons x t =>
    cases t with
    | nil => cases x <;> cases h
    | cons y t =>
      cases t with
      | nil =>
        cases x with
        | int i =>
          cases y with
          | int j => exact ⟨i, j, rfl, h⟩
          | _ => cases h
        | _ => cases h
      | cons z t => cases x <;> first | (cases h; done) | (cases y <;> cases h)
theorem it_zip {xs ds : List D} (h : iterD .zip xs = some ds) : ∃ us vs, xs = [.list us, .list vs] ∧ ds = zipD us vs := by
  cases xs with
  | nil => cases h
  | cons x t =>
    cases t with
    | nil => cases x <;> cases h
    | cons y t =>
      cases t with
      | nil =>
        cases x with
        | list i =>
          cases y with
          | list j => exact ⟨i, j, rfl, (Option.some.inj (show some (zipD i j) = some ds from h)).symm⟩
          | _ => cases h
        | _ => cases h
      | cons z t => cases x <;> first | (cases h; done) | (cases y <;> cases h)
theorem it_zipS {xs ds : List D} (h : iterD .zipS xs = some ds) : ∃ us vs, xs = [.list us, .list vs] ∧ us.length = vs.length ∧ ds = zipD us vs := by
  cases xs with
  | nil => cases h
  | cons x t =>
    cases t with
    | nil => cases x <;> cases h
    | cons y t =>
      cases t with
      | nil =>
        cases x with
        | list i =>
          cases y with
          | list j =>
            have h' : (if i.length = j.length then some (zipD i j) else none) = some ds := h
            split at h'
            · rename_i e
              exact ⟨i, j, rfl, e, (Option.some.inj h').symm⟩
            · cases h'
          | _ => cases h
        | _ => cases h
      | cons z t => cases x <;> first | (cases h; done) | (cases y <;> cases h)
theorem it_enum {xs ds : List D} (h : iterD .enum xs = some ds) : ∃ us, xs = [.list us] ∧ ds = enumD 0 us := by
  cases xs with
  | nil => cases h
  | cons x t =>
    cases t with
    | nil =>
      cases x with
      | list j => exact ⟨j, rfl, (Option.some.inj (show some (enumD 0 j) = some ds from h)).symm⟩
      | _ => cases h
    | cons y t => cases x <;> cases h
theorem it_val {xs ds : List D} (h : iterD .val xs = some ds) : xs = [.list ds] ∨ xs = [.tuple ds] ∨ ∃ es, xs = [.dict es] := by
  cases xs with
  | nil => cases h
  | cons x t =>
    cases t with
    | nil =>
      cases x with
      | list j => left; rw [Option.some.inj (show some j = some ds from h)]
      | tuple j => right; left; rw [Option.some.inj (show some j = some ds from h)]
      | dict es => exact .inr (.inr ⟨es, rfl⟩)
      | _ => cases h
    | cons y t => cases x <;> cases h
theorem pi_rng1 {a : Expr} {src : Exs} {p : Pos} (hg : Gl X "range") (hm : X.mg "range" = none) (ha : ∀ m, PA X [a] (tEs X.K mf Φ m src)) (hs : starEach [a] X.env = [(false, eval a X.env)]) : PI X tg (.Call (.Name "range" p) [a] [] pos) (tI X.K mf Φ .rng1 src) := by
  refine weakI (pi_range1 hg hm (ha .val) hs) fun σ H R q => tI_src q fun S H0 P cs' ts rs ds xs H' tl o t1 t2 hgd hi hnd k => ?_
  obtain ⟨j, hrd, hi'⟩ := it_rng1 hi
  · split at hi'
    · rename_i hsm
      cases hi'
      obtain ⟨c, x, rfl, rfl, ev, ed⟩ := tl1 t1 t2 hrd
      have gc := tl_all (p := fun r => r.good = true) t2 hgd c (by simp)
      have hx := int_cell o (by simp) (good_ne gc) ev ed
      have hsm' : -(2 ^ 62) ≤ j ∧ j < 2 ^ 62 := by simpa [small62] using hsm
      refine ⟨j, by rw [hx], hsm'.1, hsm'.2, k _ [] ?_ (fun c hc => by simp at hc) walk_rng⟩
      simpa using o.drop (cs' := cs' ++ ts) (List.sublist_append_left _ _)
    · cases hi'
theorem pi_rng2 {a b : Expr} {src : Exs} {p : Pos} (hg : Gl X "range") (hm : X.mg "range" = none) (ha : ∀ m, PA X [a, b] (tEs X.K mf Φ m src)) (hs : starEach [a, b] X.env = [(false, eval a X.env), (false, eval b X.env)]) (hs2 : starEach [b] X.env = [(false, eval b X.env)]) : PI X tg (.Call (.Name "range" p) [a, b] [] pos) (tI X.K mf Φ .rng2 src) := by
  refine weakI (pi_range2 hg hm (ha .val) hs hs2) fun σ H R q => tI_src q fun S H0 P cs' ts rs ds xs H' tl o t1 t2 hgd hi hnd k => ?_
  obtain ⟨i, j, hrd, hi'⟩ := it_rng2 hi
  · split at hi'
    · rename_i hsm
      cases hi'
      obtain ⟨c, b, x, y, rfl, rfl, ev, ev2, ed, ed2⟩ := tl2 t1 t2 hrd
      have gc := tl_all (p := fun r => r.good = true) t2 hgd c (by simp)
      have gb := tl_all (p := fun r => r.good = true) t2 hgd b (by simp)
      have hx := int_cell o (by simp) (good_ne gc) ev ed
      have hy := int_cell o (by simp) (good_ne gb) ev2 ed2
      have hsm' : (-(2 ^ 62) ≤ i ∧ i < 2 ^ 62) ∧ (-(2 ^ 62) ≤ j ∧ j < 2 ^ 62) := by simpa [small62] using hsm
      refine ⟨i, j, by rw [hx, hy], ⟨hsm'.1.1, hsm'.1.2, hsm'.2.1, hsm'.2.2⟩, k _ [] ?_ (fun c hc => by simp at hc) walk_rng⟩
      simpa using o.drop (cs' := cs' ++ ts) (List.sublist_append_left _ _)
    · cases hi'
theorem pi_zip2 {a b : Expr} {src : Exs} {p tpos : Pos} {elts : List Expr} {kk : Nat} (hg : Gl X "zip") (hm : X.mg "zip" = none) (ha : ∀ m, PA X [a, b] (tEs X.K mf Φ m src)) (hs : starEach [a, b] X.env = (false, eval a X.env) :: starEach [b] X.env) (hpl : (backTo pos (starEach [b] X.env)).any (·.1) = false) :
    PI X (.Tuple elts kk tpos) (.Call (.Name "zip" p) [a, b] [] pos) (tI X.K mf Φ .zip src) := by
  refine weakI (pi_zip hg hm (ha .val) hs hpl) fun σ H R q => tI_src q fun S H0 P cs' ts rs ds xs H' tl o t1 t2 hgd hi hnd k => ?_
  obtain ⟨us, vs, hrd, rfl⟩ := it_zip hi
  · skip
    have nv := dem_nvo2 t2 hgd
    have o2 := o.demAll
    obtain ⟨c, b, x, y, rfl, rfl, ev, ev2, ed, ed2⟩ := tl2 t1 t2 hrd
    have gc := tl_all (p := fun r => r.good = true) t2 hgd c (by simp)
    have gb := tl_all (p := fun r => r.good = true) t2 hgd b (by simp)
    obtain ⟨p1, xs1, hx, s1⟩ := ref_list o (by simp) (good_ne gc) ev ed
    obtain ⟨p2, xs2, hy, s2⟩ := ref_list o (by simp) (good_ne gb) ev2 ed2
    subst hx hy
    exact ⟨p1, p2, xs1, xs2, rfl, s1, s2, k _ [c.dem, b.dem] (by simpa using o2) (by simpa using nv) (walk_zip gc ev ed gb ev2 ed2)⟩
theorem pi_enum1 {a : Expr} {src : Exs} {p tpos : Pos} {elts : List Expr} {kk : Nat} (hg : Gl X "enumerate") (hm : X.mg "enumerate" = none) (ha : ∀ m, PA X [a] (tEs X.K mf Φ m src)) (hs : starEach [a] X.env = [(false, eval a X.env)]) :
    PI X (.Tuple elts kk tpos) (.Call (.Name "enumerate" p) [a] [] pos) (tI X.K mf Φ .enum src) := by
  refine weakI (pi_enum hg hm (ha .val) hs) fun σ H R q => tI_src q fun S H0 P cs' ts rs ds xs H' tl o t1 t2 hgd hi hnd k => ?_
  obtain ⟨us, hrd, rfl⟩ := it_enum hi
  · skip
    have nv := dem_nvo2 t2 hgd
    have o2 := o.demAll
    obtain ⟨c, x, rfl, rfl, ev, ed⟩ := tl1 t1 t2 hrd
    have gc := tl_all (p := fun r => r.good = true) t2 hgd c (by simp)
    obtain ⟨p1, xs1, hx, s1⟩ := ref_list o (by simp) (good_ne gc) ev ed
    subst hx
    exact ⟨p1, xs1, rfl, s1, k _ [c.dem] (by simpa using o2) (by simpa using nv) (walk_enum gc ev ed)⟩
/-- one value by its argument list -/
theorem evs_one {e : Ex} {m : Md} {env env' : Ev} {rs : List Sl} (h : evs mf Φ m (.cons e .nil) env = some (rs, env')) : ∃ y, rs = [y] ∧ ev mf Φ m e env = some (y, env') := by
  unfold evs at h
  simp only [Option.bind_eq_bind, Option.bind_eq_some_iff] at h
  obtain ⟨⟨y, e1⟩, h1, ⟨ys, e2⟩, h2, h⟩ := h
  simp only at h1 h2 h
  unfold evs at h2
  cases h2
  cases h
  exact ⟨y, rfl, h1⟩
/-- a list or a tuple -/
theorem pi_seq {l : Expr} {e : Ex} (hl : ∀ m, PE X l (tE X.K mf Φ m e)) : PI X tg l (tI X.K mf Φ .val (.cons e .nil)) := by
  refine PI.pull fun σ H R q => ?_
  obtain ⟨S, H0, P, cs, ts, rs, env, ds, rfl, o, nv, he, hi, hnd, k⟩ := q
  obtain ⟨y, rfl, h1⟩ := evs_one he
  have gy := ev_noVo _ _ _ _ _ (by decide) h1
  rcases it_val hi with hd | hd | ⟨es, hd⟩
  · have hd' : y.d = .list ds := by simpa using hd
    refine ⟨_, pi_list (hl .val), S, H0, P, cs, ts, y, env, rfl, o, h1, .inr nv, fun v H' cs' f hv hs o' _ => ?_⟩
    have o2 : Ok X.K S H0 P H' ((cs' ++ ts) ++ [⟨some v, y, f⟩].map Cell.dem) := Ok.demAll o'
    obtain ⟨a, xs, rfl, sl⟩ := ref_list o' (c := ⟨some v, y, f⟩) (by simp) (good_ne gy) rfl hd'
    exact ⟨a, rfl, ⟨xs, sl⟩, k _ H' cs' [(⟨some (.ref a), y, f⟩ : Cell).dem] hv hs (by simpa using o2) (noVo_one (dem_nvo gy)) (walk_list (c := ⟨some (.ref a), y, f⟩) gy rfl hd')⟩
  · have hd' : y.d = .tuple ds := by simpa using hd
    refine ⟨_, pi_tup (hl .val), S, H0, P, cs, ts, y, env, rfl, o, h1, .inr nv, fun v H' cs' f hv hs o' _ => ?_⟩
    have o2 : Ok X.K S H0 P H' ((cs' ++ ts) ++ [⟨some v, y, f⟩].map Cell.dem) := Ok.demAll o'
    obtain ⟨a, xs, rfl, sl⟩ := ref_tup o' (c := ⟨some v, y, f⟩) (by simp) (good_ne gy) rfl hd'
    exact ⟨a, rfl, ⟨xs, sl⟩, k _ H' cs' [(⟨some (.ref a), y, f⟩ : Cell).dem] hv hs (by simpa using o2) (noVo_one (dem_nvo gy)) (walk_tup (c := ⟨some (.ref a), y, f⟩) gy rfl hd')⟩
  · exact absurd hd (hnd es)
/-! ### for -/
theorem bindT_inv {ts : Tgs} {x : Sl} {env env' : Ev} (h : bindT (.tup ts) x env = some env') : ∃ ds, (x = .dp (.tuple ds) ∧ bindTs ts (ds.map .dp) env = some env') ∨ (x = .sh (.tuple ds) ∧ bindTs ts (ds.map shN) env = some env') := by
  cases x with
  | dp d =>
    cases d with
    | tuple ds => simp only [bindT] at h; exact ⟨ds, .inl ⟨rfl, h⟩⟩
    | _ => simp only [bindT] at h; cases h
  | sh d =>
    cases d with
    | tuple ds => simp only [bindT] at h; exact ⟨ds, .inr ⟨rfl, h⟩⟩
    | _ => simp only [bindT] at h; cases h
  | _ => simp only [bindT] at h; cases h
mutual
theorem bindT_G : ∀ (t : Tg) (x : Sl) (env env' : Ev), bindT t x env = some env' → bindG mf Φ t x env = some env'
  | .nm i, x, env, env', h => by
    simp only [bindT] at h
    unfold bindG
    exact h
  | .tup ts, x, env, env', h => by
    obtain ⟨ds, ⟨rfl, h⟩ | ⟨rfl, h⟩⟩ := bindT_inv h
    · simp only [bindG]
      exact bindTs_G ts _ env env' h
    · simp only [bindG]
      exact bindTs_G ts _ env env' h
  | .sub i k, x, env, env', h => by
    simp only [bindT] at h
    cases h
theorem bindTs_G : ∀ (t : Tgs) (x : List Sl) (env env' : Ev), bindTs t x env = some env' → bindGs mf Φ t x env = some env'
  | .nil, [], env, env', h => by
    unfold bindTs at h
    unfold bindGs
    exact h
  | .nil, _ :: _, env, env', h => by unfold bindTs at h; cases h
  | .cons t ts, [], env, env', h => by unfold bindTs at h; cases h
  | .cons t ts, x :: xs, env, env', h => by
    unfold bindTs at h
    unfold bindGs
    simp only [Option.bind_eq_some_iff] at h ⊢
    obtain ⟨e1, h1, h2⟩ := h
    exact ⟨e1, bindT_G t x env e1 h1, bindTs_G ts xs e1 env' h2⟩
end
theorem for_core {S : List Addr} {H0 H : Hp} {P : List Addr} {cs ts tl : List Cell} {J : It} {ds : List D} {t : Tg} {b : St} {fl : Fl} {env : Ev} {D : Ends} (o : Ok X.K S H0 P H (cs ++ (ts ++ tl))) (nv : noVo ts) (nt : noVo tl) (w : WalkOk X.K S H0 P J tl ds)
    (h : loopF (fun x e => bindT t x e) (fun e => exS mf Φ wf b e) ds (cs.map (·.s)) = some (fl, env)) (k : SPost X.K S H0 P ts env D fl) :
    ∃ W : Nat → Nat → L2.St → Hp → Prop, (∃ m, W 0 m (cs.map (·.v)) H) ∧ ∀ i m σ H, W i m σ H →
      (J.stop i H ∧ D.nx σ H) ∨ (J.go i H ∧ ∃ N : L2.St → Hp → Prop, (∀ σ' H', N σ' H' → ∃ m', m' < m ∧ W (i + 1) m' σ' H') ∧ ∀ x H', J.yld i H x H' → gT X.K mf Φ t x σ H' fun σ2 H2 => tS X.K mf Φ wf b { D with nx := N, ct := N, bk := D.nx } σ2 H2) := by
  refine ⟨fun i m σ H => m = ds.length - i ∧ i ≤ ds.length ∧ ∃ cs, σ = cs.map (·.v) ∧ Ok X.K S H0 P H (cs ++ (ts ++ tl)) ∧ loopF (fun x e => bindT t x e) (fun e => exS mf Φ wf b e) (ds.drop i) (cs.map (·.s)) = some (fl, env), ⟨ds.length, by simp, by omega, cs, rfl, o, by simpa using h⟩, ?_⟩
  rintro i m σ H ⟨rfl, hi, cs, rfl, o, h⟩
  have dropT : ∀ {H' : Hp} {cs' : List Cell}, Ok X.K S H0 P H' (cs' ++ (ts ++ tl)) → Ok X.K S H0 P H' (cs' ++ ts) := fun {H' cs'} o' => by
    have o2 : Ok X.K S H0 P H' ((cs' ++ ts) ++ tl) := by simpa using o'
    exact o2.drop (List.sublist_append_left _ _)
  have wk := w H (cs ++ ts) (by simpa using o)
  by_cases hlt : i < ds.length
  · right
    have hget : ds[i]? = some ds[i] := List.getElem?_eq_getElem hlt
    rw [List.drop_eq_getElem_cons hlt] at h
    unfold loopF at h
    simp only [Option.bind_eq_bind, Option.bind_eq_some_iff] at h
    obtain ⟨e1, hb, ⟨f1, e2⟩, hx, h⟩ := h
    obtain ⟨hgo, hy⟩ := wk.1 i _ hget
    refine ⟨hgo, fun σ' H' => ∃ cs', σ' = cs'.map (·.v) ∧ Ok X.K S H0 P H' (cs' ++ (ts ++ tl)) ∧ loopF (fun x e => bindT t x e) (fun e => exS mf Φ wf b e) (ds.drop (i + 1)) (cs'.map (·.s)) = some (fl, env), fun σ' H' ⟨cs', q1, q2, q3⟩ => ⟨ds.length - (i + 1), by omega, rfl, hlt, cs', q1, q2, q3⟩, fun x H' hyl => ?_⟩
    obtain ⟨sm, G, rp, av⟩ := hy x H' hyl
    have o1 := o.same sm
    have o2 : Ok X.K S H0 P H' (cs ++ (ts ++ tl) ++ [⟨some x, shN ds[i], []⟩]) := o1.add0 (shN_cell rp fun a ha => by simpa using av a ha) rfl (shN_nbw _)
    refine ⟨S, H0, P, cs, ts ++ tl, shN ds[i], [], e1, rfl, o2, noVo_app nv nt, bindT_G _ _ _ _ hb, fun H2 cs2 hs2 _ _ o3 => ?_⟩
    refine ⟨S, H0, P, cs2, ts ++ tl, f1, e2, rfl, o3, noVo_app nv nt, by rw [hs2]; exact hx, ?_⟩
    cases f1 with
    | nx => exact fun H3 cs3 hs3 o4 => ⟨cs3, rfl, o4, by rw [hs3]; exact h⟩
    | ct => exact fun H3 cs3 hs3 o4 => ⟨cs3, rfl, o4, by rw [hs3]; exact h⟩
    | bk =>
      cases h
      exact fun H3 cs3 hs3 o4 => k H3 cs3 hs3 (dropT o4)
    | rt r =>
      cases h
      refine fun x3 H3 cs3 f3 hs3 o4 => k x3 H3 cs3 f3 hs3 ?_
      refine o4.drop ?_
      have h1 : (cs3 ++ ts).Sublist (cs3 ++ (ts ++ tl)) := (List.append_sublist_append_left _).mpr (List.sublist_append_left _ _)
      exact h1.append_right _
  · left
    have e : i = ds.length := by omega
    subst e
    rw [List.drop_length] at h
    unfold loopF at h
    cases h
    exact ⟨wk.2, k H cs rfl (dropT o)⟩
end
end Tv
set_option maxHeartbeats 1000000
/-! TvV: dicts walked; for, while as statements. -/
namespace Tv
open PySem PySem.Spec PyProof.Rows L2
section
variable {K : PySem.W.Frag} {S A A' : List Addr} {H0 H H' H2 H3 : Hp} {P M : List Addr} {cs cs2 tl l r ts nw a b : List Cell} {c c' : Cell} {p : Addr} {u w : HO}
/-- the thing at p stays as it is from here on -/
theorem Ok.pinL (o : Ok K S H0 P H cs) (hp : p ∉ fp cs) (e1 : H' p = some u) (e2 : ∀ a, a ≠ p → H' a = H a) (z : Fz [] H H') : Ok K S (upd H0 p u) (P.filter fun a => a != p) H' cs where
  cell := fun c hc => (o.cell c hc).move z (fun _ h => by simp at h) (fun _ h => by simp at h) (.inr rfl) fun _ h => h
  nd := o.nd
  mu := fun a ha => by rw [e2 a fun e => hp (e ▸ ha)]; exact o.mu a ha
  dj := o.dj
  al := fun a ha => by
    by_cases e : a = p
    · rw [e, e1]; simp
    · rw [e2 a e]; exact o.al a ha
  ext := fun a x h hn => by
    by_cases e : a = p
    · subst e
      rw [upd_same] at h
      rw [e1]; exact h
    · rw [upd_ne e] at h
      rw [e2 a e]
      exact o.ext a x h fun hm => hn (List.mem_filter.mpr ⟨hm, by simpa using e⟩)
  fr := fun a ha => by
    have e : a ≠ p := fun e => hp (e ▸ ha)
    rcases o.fr a ha with h | h
    · exact .inl (List.mem_filter.mpr ⟨h, by simpa using e⟩)
    · exact .inr (by rw [upd_ne e]; exact h)
  bw := fun c hc d hd a ha => List.mem_filter.mpr ⟨o.bw c hc d hd a ha, by
    have e : a ≠ p := fun e => hp (e ▸ fp_mem hc ha)
    simpa using e⟩
theorem Ok.pinned (o : Ok K S (upd H0 p u) (P.filter fun a => a != p) H2 cs2) : H2 p = some u := o.ext p u upd_same fun h => by
  have := (List.mem_filter.mp h).2
  simp at this
theorem Ok.unpin (o : Ok K S (upd H0 p u) (P.filter fun a => a != p) H2 cs2) (hs : ∀ x, H0 p = some x → p ∉ P → x = w) (e1 : H3 p = some w) (e2 : ∀ a, a ≠ p → H3 a = H2 a) (z : Fz [] H2 H3) : Ok K S H0 P H3 cs2 := by
  have ne : ∀ a ∈ fp cs2, a ≠ p := fun a ha e => by
    subst e
    rcases o.fr a ha with h | h
    · have := (List.mem_filter.mp h).2
      simp at this
    · rw [upd_same] at h; cases h
  refine ⟨fun c hc => (o.cell c hc).move z (fun _ h => by simp at h) (fun _ h => by simp at h) (.inr rfl) fun _ h => h, o.nd, fun a ha => ?_, o.dj, fun a ha => ?_, fun a x h hn => ?_, fun a ha => ?_, fun c hc d hd a ha => (List.mem_filter.mp (o.bw c hc d hd a ha)).1⟩
  · rw [e2 a (ne a ha)]; exact o.mu a ha
  · by_cases e : a = p
    · rw [e, e1]; simp
    · rw [e2 a e]; exact o.al a ha
  · by_cases e : a = p
    · subst e
      rw [e1, hs x h hn]
    · rw [e2 a e]
      exact o.ext a x (by rw [upd_ne e]; exact h) fun hm => hn (List.mem_filter.mp hm).1
  · rcases o.fr a ha with h | h
    · exact .inl (List.mem_filter.mp h).1
    · rw [upd_ne (ne a ha)] at h
      exact .inr h
/-- the lock and its end -/
theorem fz_lock {od : Obj} (h : H p = some u) (mu : Mut (some u)) : Fz [] H (upd H p (.frz od u)) := by
  refine ⟨fun a x hx _ mx => ?_, fun a xs hx => ?_⟩
  · by_cases e : a = p
    · subst e
      rcases hx with hx | ⟨o, hx⟩
      · rw [h] at hx
        cases hx
        exact .inr ⟨od, upd_same⟩
      · rw [h] at hx
        cases hx
        exact mu.elim
    · rcases hx with hx | ⟨o, hx⟩
      · exact .inl (by rw [upd_ne e]; exact hx)
      · exact .inr ⟨o, by rw [upd_ne e]; exact hx⟩
  · have e : a ≠ p := fun e => by
      subst e
      rw [h] at hx
      cases hx
      exact mu.elim
    rw [upd_ne e]; exact hx
theorem fz_unlock {od : Obj} (h : H p = some (.frz od u)) : Fz [] H (upd H p u) := by
  refine ⟨fun a x hx _ mx => ?_, fun a xs hx => ?_⟩
  · by_cases e : a = p
    · subst e
      rcases hx with hx | ⟨o, hx⟩
      · rw [h] at hx
        cases hx
        exact mx.elim
      · rw [h] at hx
        cases hx
        exact .inl upd_same
    · rcases hx with hx | ⟨o, hx⟩
      · exact .inl (by rw [upd_ne e]; exact hx)
      · exact .inr ⟨o, by rw [upd_ne e]; exact hx⟩
  · have e : a ≠ p := fun e => by
      subst e
      rw [h] at hx
      cases hx
    rw [upd_ne e]; exact hx
theorem Rp.key {H : Hp} : ∀ {k : List Key}, Rps K H (k.map keyD) (k.map kV) []
  | [] => Rps.nil
  | .inl i :: k => Rps.cons (F := []) (G := []) (Rp.mk_int i) Rp.key
  | .inr x :: k => Rps.cons (F := []) (G := []) (Rp.mk_str x) Rp.key
theorem Rpv.keyAt : ∀ {es : List (D × D)} {kvs : List (List Key × V)} {F : List Addr} {i : Nat} {d : D}, Rpv K H es kvs F → (es.map (·.1))[i]? = some d → ∃ k v, kvs[i]? = some (k, v) ∧ d = tkD k
  | [], _, _, _, _, _, e => by simp at e
  | (k0, d0) :: es, kvs, F, i, d, h, e => by
    unfold Rpv at h
    obtain ⟨kk, x, r, F1, F2, e0, e1, e2, e3, e4⟩ := h
    subst e0
    cases i with
    | zero =>
      have : k0 = d := by simpa using e
      exact ⟨kk, x, rfl, by rw [← this]; exact e1⟩
    | succ i =>
      obtain ⟨k, v, h1, h2⟩ := Rpv.keyAt (i := i) e4 (by simpa using e)
      exact ⟨k, v, by simpa using h1, h2⟩
end
section
variable {X : Cx} {tg : Expr} {mf : Nat → Bool} {Φ : Nat → List D → Option (Sl × D)} {wf : Nat} {pos : Pos}
theorem walk_keys {S : List Addr} {H0 : Hp} {P : List Addr} {d : Addr} {o : Obj} {es : List (D × D)} {kvs : List (List Key × V)} {F : List Addr} {H1 : Hp} (r : Rpv X.K H1 es kvs F) : WalkOk X.K S (upd H0 d (.frz o (.dT kvs))) (P.filter fun a => a != d) (Itkt d o kvs) [] (es.map (·.1)) := fun H cs ok => by
  have hd := ok.pinned
  have hl := r.len
  refine ⟨fun i x hi => ?_, hd, by rw [hl]; simp⟩
  obtain ⟨k, v, h1, h2⟩ := r.keyAt hi
  have hlt : i < kvs.length := (List.getElem?_eq_some_iff.mp h1).1
  refine ⟨⟨hd, hlt⟩, fun y H' hy => ?_⟩
  obtain ⟨rfl, k', v', q, q1, rfl, q2⟩ := hy
  rw [h1] at q1
  cases q1
  subst h2
  refine ⟨Same.refl _, [], ?_, fun a h => by simp at h⟩
  show Rp X.K H' (.tuple (k.map keyD)) (.ref q) []
  unfold Rp
  exact ⟨q, _, rfl, q2, Rp.key⟩
/-- a dict in a slot, shared from here on -/
theorem dict_start {S : List Addr} {H0 H : Hp} {P : List Addr} {cs ts : List Cell} {i : Nat} {y : Sl} {env : Ev} {es : List (D × D)} (o : Ok X.K S H0 P H (cs ++ ts)) (h : ev mf Φ .val (.var i) (cs.map (·.s)) = some (y, env)) (hy : y.d = .dict es) :
    ∃ d kvs F cs1, (cs.map (·.v))[i]? = some (some (.ref d)) ∧ cs1.map (·.v) = cs.map (·.v) ∧ cs1.map (·.s) = env ∧ Ok X.K S H0 P H (cs1 ++ ts) ∧ Rd H d (.dT kvs) ∧ Rpv X.K H es kvs F ∧ d ∉ fp (cs1 ++ ts) := by
  unfold ev at h
  cases hi : (cs.map (·.s))[i]? with
  | none => rw [hi] at h; cases h
  | some sl =>
    rw [hi] at h
    obtain ⟨l, c, r, e1, e2, e3⟩ := env_at hi
    subst e1
    have o1 : Ok X.K S H0 P H (l ++ c :: (r ++ ts)) := by simpa using o
    have o2 : Ok X.K S H0 P H (l ++ c.dem :: (r ++ ts)) := o1.dem
    have hvi : ((l ++ c :: r).map (·.v))[i]? = some c.v := by rw [List.getElem?_map, get_mid e2]; rfl
    -- the slot holds the dict, and is shared afterwards
    have go : c.s.good = true → c.s.d = .dict es → ((l ++ c.dem :: r).map (·.s) = env) → ∃ d kvs F cs1, ((l ++ c :: r).map (·.v))[i]? = some (some (.ref d)) ∧ cs1.map (·.v) = (l ++ c :: r).map (·.v) ∧ cs1.map (·.s) = env ∧ Ok X.K S H0 P H (cs1 ++ ts) ∧ Rd H d (.dT kvs) ∧ Rpv X.K H es kvs F ∧ d ∉ fp (cs1 ++ ts) := fun hg hd he => by
      have hcell := o2.cell c.dem (by simp)
      obtain ⟨x, F, q1, q2, q3⟩ := hcell.dem_rp hg
      rw [hd] at q2
      obtain ⟨d, kvs, G, rfl, w1, w2, w3⟩ := Rp.dict q2
      refine ⟨d, kvs, G, l ++ c.dem :: r, by rw [hvi, q1], by simp [dem_v], he, by simpa using o2, w1, w3, fun hm => ?_⟩
      refine q3 d (by rw [w2]; simp) (List.mem_append_right _ ?_)
      simpa using hm
    obtain ⟨cv, csl, cf⟩ := c
    have e3' : csl = sl := e3
    subst e3'
    have hset : ∀ s', (l ++ (⟨cv, s', []⟩ : Cell) :: r).map (·.s) = ((l ++ (⟨cv, csl, cf⟩ : Cell) :: r).map (·.s)).set i s' := fun s' => by
      rw [show i = l.length from e2.symm]
      exact (map_mid (g := fun c => c.s)).symm
    cases csl with
    | un => cases h
    | vo d => cases h
    | vt d => cases h
    | bw d => cases h
    | sh d =>
      cases h
      exact go rfl hy rfl
    | ow d =>
      cases h
      exact go rfl hy (hset (.sh d))
    | dp d =>
      by_cases hi : imm d = true
      · exfalso
        have h0 := h
        simp only [if_pos hi] at h0
        cases h0
        have hy' : d = .dict es := hy
        rw [hy'] at hi
        simp [imm] at hi
      · simp only [if_neg hi] at h
        cases h
        exact go rfl hy (hset (.sh d))
theorem PS.pull {st : Stmt} {t : TS} (h : ∀ D σ H, t D σ H → ∃ t', PS X st t' ∧ t' D σ H) : PS X st t :=
  ⟨fun pins s σ H D I q => let ⟨_, h1, h2⟩ := h D σ H q; h1.run pins s σ H D I h2⟩
/-- what is wanted behind, told at the unlocked heap -/
theorem SPost.unlock {S : List Addr} {H0 : Hp} {P : List Addr} {ts : List Cell} {env : Ev} {D D' : Ends} {fl : Fl} {p : Addr} {u w : HO} (k : SPost X.K S H0 P ts env D fl) (g : ∀ H cs, Ok X.K S (upd H0 p u) (P.filter fun a => a != p) H cs → Ok X.K S H0 P (upd H p w) cs)
    (hn : ∀ σ H, H p = some u → D.nx σ (upd H p w) → D'.nx σ H) (hr : ∀ x H, H p = some u → D.rt x (upd H p w) → D'.rt x H) (hb : ∀ σ H, H p = some u → D.bk σ (upd H p w) → D'.bk σ H) (hc : ∀ σ H, H p = some u → D.ct σ (upd H p w) → D'.ct σ H) : SPost X.K S (upd H0 p u) (P.filter fun a => a != p) ts env D' fl := by
  cases fl with
  | nx => exact fun H' cs' hs o => hn _ _ o.pinned (k _ cs' hs (g _ _ o))
  | rt r => exact fun x H' cs' f hs o => hr _ _ o.pinned (k x _ cs' f hs (g _ _ o))
  | bk => exact fun H' cs' hs o => hb _ _ o.pinned (k _ cs' hs (g _ _ o))
  | ct => exact fun H' cs' hs o => hc _ _ o.pinned (k _ cs' hs (g _ _ o))
theorem dictOk_var {src : Exs} {es : List (D × D)} (h : dictOk src [.dict es] = true) : ∃ i, src = .cons (.var i) .nil := by
  unfold dictOk at h
  cases src with
  | nil => cases h
  | cons e r =>
    cases e with
    | var i =>
      cases r with
      | nil => exact ⟨i, rfl⟩
      | cons _ _ => cases h
    | _ => cases h
theorem ts_for {iter : Expr} {body : List Stmt} {k : ItK} {src : Exs} {t : Tg} {b : St} (hp : PassesOwn (model X.prog X.w) X.A X.env X.xe) (hc : X.calm = true) (hi : PI X tg iter (tI X.K mf Φ k src)) (hv : ∀ i, src = .cons (.var i) .nil → k = .val → PE X iter (tVar i)) (hg : PG X tg (gT X.K mf Φ t)) (hb : PSs X body (tS X.K mf Φ wf b))
    (hs : ∀ x, foldedSetIterable iter X.env x = pure x) : PS X (.For tg iter body [] pos) (tS X.K mf Φ wf (.loop k src t b)) := by
  refine PS.pull fun D σ H q => ?_
  obtain ⟨S, H0, P, cs, ts, fl, env, rfl, o, nv, hev, kk⟩ := q
  unfold exS at hev
  simp only [Option.bind_eq_bind, Option.bind_eq_some_iff] at hev
  obtain ⟨⟨rs, e1⟩, h1, hev⟩ := hev
  simp only at h1 hev
  split at hev
  · cases hev
  rename_i hdk
  simp only [Option.bind_eq_some_iff] at hev
  obtain ⟨ds, hds, hev⟩ := hev
  by_cases hdict : ∃ es, rs.map (·.d) = [.dict es]
  · obtain ⟨es, hes⟩ := hdict
    have hdk' : dictOk src [.dict es] = true := by
      rw [hes] at hdk
      simpa using hdk
    obtain ⟨i, rfl⟩ := dictOk_var hdk'
    have hk : k = .val := by
      cases k with
      | val => rfl
      | _ => rw [hes] at hds; cases hds
    subst hk
    have hds' : ds = es.map (·.1) := by
      rw [hes] at hds
      exact (Option.some.inj (show some (es.map (·.1)) = some ds from hds)).symm
    subst hds'
    obtain ⟨y, rfl, hy1⟩ := evs_one h1
    have hyd : y.d = .dict es := by simpa using hes
    obtain ⟨d, kvs, F, cs1, hvd, hv1, hs1, o1, rd, rv, hnd⟩ := dict_start o hy1 hyd
    have hvd1 : (cs1.map (·.v))[i]? = some (some (.ref d)) := by rw [hv1]; exact hvd
    have base := ps_for (pos := pos) hp hc (pi_keys (tg := tg) (hv i rfl rfl)) hg hb hs
    -- the loop itself, the dict being frozen as u
    have loop : ∀ (ob : Obj) (H' : Hp) (D' : Ends), Ok X.K S (upd H0 d (.frz ob (.dT kvs))) (P.filter fun a => a != d) H' (cs1 ++ ts) → SPost X.K S (upd H0 d (.frz ob (.dT kvs))) (P.filter fun a => a != d) ts env D' fl →
        tFor (iKeys (tVar i)) (gT X.K mf Φ t) (tS X.K mf Φ wf b) D' (cs.map (·.v)) H' := fun ob H' D' o2 k2 => by
      refine ⟨.ref d, hvd, d, ob, rfl, .inr ⟨kvs, o2.pinned, ?_⟩⟩
      rw [← hv1]
      exact for_core (tl := []) (by simpa using o2) nv (fun c h => by simp at h) (walk_keys rv) (by rw [hs1]; exact hev) k2
    have hstart : ∀ w, H d = some w → ∀ x, H0 d = some x → d ∉ P → x = w := fun w hw x hx hn => by
      have := o1.ext d x hx hn
      rw [hw] at this
      exact (Option.some.inj this).symm
    rcases rd with rd | ⟨ob, rd⟩
    · refine ⟨_, ps_lock base, d, .dT kvs, rd, trivial, fun od => ?_⟩
      have o2 := o1.pinL (u := .frz od (.dT kvs)) hnd upd_same (fun a e => upd_ne e) (fz_lock rd trivial)
      refine loop od _ _ o2 (SPost.unlock (w := .dT kvs) kk (fun H2 cs2 o3 => ?_) (fun _ _ h q => ⟨h, q⟩) (fun _ _ h q => ⟨h, q⟩) (fun _ _ h q => ⟨h, q⟩) fun _ _ h q => ⟨h, q⟩)
      exact o3.unpin (hstart _ rd) upd_same (fun a e => upd_ne e) (fz_unlock o3.pinned)
    · have o2 := o1.pinL (u := .frz ob (.dT kvs)) hnd rd (fun a e => rfl) ⟨fun _ _ h _ _ => h, fun _ _ h => h⟩
      refine ⟨_, base, loop ob H D o2 ?_⟩
      have g : ∀ H2 cs2, Ok X.K S (upd H0 d (.frz ob (.dT kvs))) (P.filter fun a => a != d) H2 cs2 → Ok X.K S H0 P H2 cs2 := fun H2 cs2 o3 => o3.unpin (hstart _ rd) o3.pinned (fun a e => rfl) ⟨fun _ _ h _ _ => h, fun _ _ h => h⟩
      cases fl with
      | nx => exact fun H' cs' hs o => kk _ cs' hs (g _ _ o)
      | rt r => exact fun x H' cs' f hs o => kk x _ cs' f hs (g _ _ o)
      | bk => exact fun H' cs' hs o => kk _ cs' hs (g _ _ o)
      | ct => exact fun H' cs' hs o => kk _ cs' hs (g _ _ o)
  · refine ⟨_, ps_for hp hc hi hg hb hs, S, H0, P, cs, ts, rs, e1, ds, rfl, o, nv, h1, hds, fun es he => hdict ⟨es, he⟩, fun J H' cs' tl hv' hs' o' nt wk => ?_⟩
    rw [← hv']
    exact for_core o' nv nt wk (by rw [hs']; exact hev) kk
theorem ts_while {c : Expr} {body : List Stmt} {ec : Ex} {b : St} (hp : PassesOwn (model X.prog X.w) X.A X.env X.xe) (hc : PT X c (tT X.K mf Φ ec)) (hb : PSs X body (tS X.K mf Φ wf b)) : PS X (.While c body [] pos) (tS X.K mf Φ wf (.whl ec b)) := by
  refine weakS (ps_while hp hc hb) fun D σ H q => ?_
  obtain ⟨S, H0, P, cs, ts, fl, env, rfl, o, nv, hev, kk⟩ := q
  unfold exS at hev
  refine ⟨fun m σ H => ∃ cs, σ = cs.map (·.v) ∧ Ok X.K S H0 P H (cs ++ ts) ∧ whileF (fun env' => do
      let (x, e1) ← ev mf Φ .val ec env'
      match x.d with
      | .bool t => some (t, e1)
      | _ => none) (fun env' => exS mf Φ wf b env') m (cs.map (·.s)) = some (fl, env), ⟨wf, cs, rfl, o, hev⟩, ?_⟩
  rintro m σ H ⟨cs, rfl, o, h⟩
  cases m with
  | zero => unfold whileF at h; cases h
  | succ n =>
    unfold whileF at h
    simp only [Option.bind_eq_bind, Option.bind_eq_some_iff] at h
    obtain ⟨⟨bt, e1⟩, ⟨⟨x, e2⟩, h1, h2⟩, h⟩ := h
    simp only at h1 h2
    split at h2
    · rename_i t hx
      cases h2
      refine ⟨S, H0, P, cs, ts, x, bt, e1, rfl, o, h1, hx, .inr nv, fun H' cs' hv hs o' _ => ?_⟩
      cases bt with
      | true =>
        simp only [if_true, Option.bind_eq_some_iff] at h ⊢
        obtain ⟨⟨f1, e3⟩, h3, h⟩ := h
        refine ⟨fun σ' H' => ∃ cs', σ' = cs'.map (·.v) ∧ Ok X.K S H0 P H' (cs' ++ ts) ∧ whileF (fun env' => do
            let (x, e1) ← ev mf Φ .val ec env'
            match x.d with
            | .bool t => some (t, e1)
            | _ => none) (fun env' => exS mf Φ wf b env') n (cs'.map (·.s)) = some (fl, env), fun σ' H' h => ⟨n, by omega, h⟩, ?_⟩
        rw [← hv]
        refine ⟨S, H0, P, cs', ts, f1, e3, rfl, o', nv, by rw [hs]; exact h3, ?_⟩
        cases f1 with
        | nx => exact fun H3 cs3 hs3 o4 => ⟨cs3, rfl, o4, by rw [hs3]; exact h⟩
        | ct => exact fun H3 cs3 hs3 o4 => ⟨cs3, rfl, o4, by rw [hs3]; exact h⟩
        | bk => cases h; exact kk
        | rt r => cases h; exact kk
      | false =>
        simp only [Bool.false_eq_true, if_false] at h ⊢
        cases h
        rw [← hv]
        exact kk H' cs' hs o'
    · cases h2
end
end Tv
set_option maxHeartbeats 1000000
/-! TvW: list comprehensions. -/
namespace Tv
open PySem PySem.Spec PyProof.Rows L2
/-! ### several places of a list written -/
section
variable {α β : Type}
def putL (f : Nat → α) (l : List α) : List Nat → List α
  | [] => l
  | v :: vs => (putL f l vs).set v (f v)
theorem putL_len (f : Nat → α) (l : List α) : ∀ vs, (putL f l vs).length = l.length
  | [] => rfl
  | v :: vs => by unfold putL; rw [List.length_set, putL_len f l vs]
theorem putL_get (f : Nat → α) (l : List α) (j : Nat) : ∀ vs : List Nat, (putL f l vs)[j]? = if j ∈ vs then (l[j]?).map (fun _ => f j) else l[j]?
  | [] => by simp [putL]
  | v :: vs => by
    unfold putL
    rw [List.getElem?_set, putL_len, putL_get f l j vs]
    by_cases e : v = j
    · subst e
      by_cases h : v < l.length
      · simp [h]
      · simp [h]
    · have e' : ¬ j = v := fun q => e q.symm
      simp only [if_neg e, List.mem_cons, e', false_or]
theorem putL_map (g : α → β) (f : Nat → α) (l : List α) : ∀ vs, (putL f l vs).map g = putL (fun v => g (f v)) (l.map g) vs
  | [] => rfl
  | v :: vs => by unfold putL; rw [List.map_set, putL_map g f l vs]
end
theorem wipeS_put (env : Ev) : ∀ vs, wipeS env vs = putL (fun _ => .un) env vs
  | [] => rfl
  | v :: vs => by unfold wipeS putL; rw [wipeS_put env vs]
theorem restoreS_put (b env : Ev) : ∀ vs, restoreS b env vs = putL (fun v => b.getD v .un) env vs
  | [] => rfl
  | v :: vs => by unfold restoreS putL; rw [restoreS_put b env vs]
theorem wipe_put (σ : L2.St) : ∀ vs, L2.wipe σ vs = putL (fun _ => none) σ vs
  | [] => rfl
  | v :: vs => by unfold L2.wipe putL; rw [wipe_put σ vs]
def eCell : Cell := ⟨none, .un, []⟩
section
variable {K : PySem.W.Frag} {S A A' : List Addr} {H0 H H' H2 H3 : Hp} {P M : List Addr} {cs cs2 tl l r ts nw a b : List Cell} {c c' : Cell} {p : Addr} {u w : HO}
theorem fp_set : ∀ {l : List Cell} {v : Nat} {c : Cell}, (∀ d, l[v]? = some d → d.f = []) → (l.length ≤ v → c.f = []) → (fp (l.set v c)).Perm (fp l ++ c.f)
  | [], v, c, _, h2 => by
    rw [h2 (by simp)]
    simp [fp_nil]
  | d :: l, 0, c, h1, _ => by
    have e : d.f = [] := h1 d rfl
    rw [List.set_cons_zero, fp_cons, fp_cons, e, List.nil_append]
    exact List.perm_append_comm
  | d :: l, v + 1, c, h1, h2 => by
    rw [List.set_cons_succ, fp_cons, fp_cons, List.append_assoc]
    exact List.Perm.append_left _ (fp_set (fun e he => h1 e (by simpa using he)) fun hl => h2 (by simpa using hl))
theorem fp_put {g : Nat → Cell} : ∀ {vs : List Nat}, vs.Nodup → (∀ v ∈ vs, ∀ d, l[v]? = some d → d.f = []) → (∀ v ∈ vs, l.length ≤ v → (g v).f = []) → (fp (putL g l vs)).Perm (fp l ++ fp (vs.map g))
  | [], _, _, _ => by simp [putL, fp_nil]
  | v :: vs, nd, h1, h2 => by
    have nd' := List.nodup_cons.mp nd
    unfold putL
    have ih := fp_put nd'.2 (fun u hu => h1 u (by simp [hu])) fun u hu => h2 u (by simp [hu])
    have q : (putL g l vs)[v]? = l[v]? := by rw [putL_get, if_neg nd'.1]
    refine (fp_set (fun d hd => h1 v (by simp) d (by rw [← q]; exact hd)) fun hl => h2 v (by simp) (by rwa [putL_len] at hl)).trans ?_
    rw [List.map_cons, fp_cons]
    refine (ih.append_right _).trans ?_
    rw [List.append_assoc]
    exact List.Perm.append_left _ List.perm_append_comm
theorem putL_mem {α : Type} {f : Nat → α} {l : List α} {x : α} : ∀ {vs : List Nat}, x ∈ putL f l vs → x ∈ l ∨ ∃ v ∈ vs, x = f v
  | [], h => .inl h
  | v :: vs, h => by
    unfold putL at h
    rcases List.mem_or_eq_of_mem_set h with h | h
    · rcases putL_mem h with h | ⟨u, hu, e⟩
      · exact .inl h
      · exact .inr ⟨u, by simp [hu], e⟩
    · exact .inr ⟨v, by simp, h⟩
/-- slots wiped: what they own goes to temporaries -/
theorem put_self {cs : List Cell} {vs : List Nat} : putL (fun v => cs.getD v eCell) (putL (fun _ => eCell) cs vs) vs = cs := by
  apply List.ext_getElem?
  intro j
  rw [putL_get, putL_get]
  by_cases h : j ∈ vs
  · rw [if_pos h, if_pos h]
    cases e : cs[j]? with
    | none => rfl
    | some c => simp [List.getD_eq_getElem?_getD, e]
  · rw [if_neg h, if_neg h]
theorem wiped_f {cs : List Cell} {vs : List Nat} : ∀ v ∈ vs, ∀ d, (putL (fun _ => eCell) cs vs)[v]? = some d → d.f = [] := fun v hv d h => by
  rw [putL_get, if_pos hv] at h
  obtain ⟨c, _, e⟩ := Option.map_eq_some_iff.mp h
  rw [← e]; rfl
theorem getD_out {cs : List Cell} {v : Nat} (h : cs.length ≤ v) : (cs.getD v eCell).f = [] := by
  rw [List.getD_eq_getElem?_getD, List.getElem?_eq_none h]; rfl
theorem Ok.wipeIn {vs : List Nat} (o : Ok K S H0 P H (cs ++ ts)) (nd : vs.Nodup) : Ok K S H0 P H (putL (fun _ => eCell) cs vs ++ (ts ++ vs.map fun v => cs.getD v eCell)) := by
  have hp := fp_put (l := putL (fun _ => eCell) cs vs) (g := fun v => cs.getD v eCell) nd wiped_f fun v hv hl => getD_out (by rwa [putL_len] at hl)
  rw [put_self] at hp
  refine o.perm ?_ fun c hc => ?_
  · simp only [fp_append]
    refine (List.Perm.append_left _ List.perm_append_comm).trans ?_
    rw [← List.append_assoc]
    exact hp.symm.append_right _
  · rcases List.mem_append.mp hc with h | h
    · rcases putL_mem h with h | ⟨v, _, rfl⟩
      · exact .inl (by simp [h])
      · exact .inr ⟨rfl, rfl⟩
    · rcases List.mem_append.mp h with h | h
      · exact .inl (by simp [h])
      · obtain ⟨v, hv, rfl⟩ := List.mem_map.mp h
        rw [List.getD_eq_getElem?_getD]
        cases e : cs[v]? with
        | none => exact .inr ⟨rfl, rfl⟩
        | some c => exact .inl (List.mem_append_left _ (List.mem_of_getElem? e))
/-- and back -/
theorem Ok.wipeOut {bcs : List Cell} {vs : List Nat} (o : Ok K S H0 P H (bcs ++ (ts ++ vs.map fun v => cs.getD v eCell))) (nd : vs.Nodup) (hl : bcs.length = cs.length) (hf : ∀ v ∈ vs, ∀ d, bcs[v]? = some d → d.f = []) : Ok K S H0 P H (putL (fun v => cs.getD v eCell) bcs vs ++ ts) := by
  have hp := fp_put (l := bcs) (g := fun v => cs.getD v eCell) nd hf fun v hv h => getD_out (by rw [← hl]; exact h)
  refine o.perm ?_ fun c hc => ?_
  · simp only [fp_append]
    refine (hp.append_right _).trans ?_
    rw [List.append_assoc]
    exact List.Perm.append_left _ List.perm_append_comm
  · rcases List.mem_append.mp hc with h | h
    · rcases putL_mem h with h | ⟨v, hv, rfl⟩
      · exact .inl (by simp [h])
      · exact .inl (List.mem_append_right _ (List.mem_append_right _ (List.mem_map.mpr ⟨v, hv, rfl⟩)))
    · exact .inl (by simp [h])
/-- slots emptied -/
theorem Ok.wipeAway {vs : List Nat} (o : Ok K S H0 P H (cs ++ ts)) : Ok K S H0 P H (putL (fun _ => eCell) cs vs ++ ts) := by
  have hs : ∀ vs : List Nat, (fp (putL (fun _ => eCell) cs vs)).Sublist (fp cs) := fun vs => by
    have one : ∀ (l : List Cell) (v : Nat), (fp (l.set v eCell)).Sublist (fp l) := fun l => by
      induction l with
      | nil => intro v; simp
      | cons d l ih =>
        intro v
        cases v with
        | zero => rw [List.set_cons_zero, fp_cons, fp_cons]; exact List.sublist_append_right _ _
        | succ v => rw [List.set_cons_succ, fp_cons, fp_cons]; exact (List.append_sublist_append_left _).mpr (ih v)
    induction vs with
    | nil => exact List.Sublist.refl _
    | cons v vs ih => exact (one _ v).trans ih
  have hsub : (fp (putL (fun _ => eCell) cs vs ++ ts)).Sublist (fp (cs ++ ts)) := by
    rw [fp_append, fp_append]
    exact (hs vs).append_right _
  have cases_c : ∀ c ∈ putL (fun _ => eCell) cs vs ++ ts, c ∈ cs ++ ts ∨ c = eCell := fun c hc => by
    rcases List.mem_append.mp hc with h | h
    · rcases putL_mem h with h | ⟨v, _, rfl⟩
      · exact .inl (by simp [h])
      · exact .inr rfl
    · exact .inl (by simp [h])
  refine o.sub (o.nd.sublist hsub) (fun a ha => hsub.subset ha) (fun c hc => ?_) fun c hc d hd => ?_
  · rcases cases_c c hc with h | rfl
    · refine (o.cell c h).less fun a ha => ?_
      rcases List.mem_append.mp ha with h | h
      · exact List.mem_append_left _ h
      · exact List.mem_append_right _ (hsub.subset h)
    · rfl
  · rcases cases_c c hc with h | rfl
    · exact o.bw c h d hd
    · cases hd
/-- one more item for a list that is a slot's own -/
theorem app_cell {vy : V} {y so' : Sl} {g : List Addr} {p0 : Addr} (oka : Ok K S H0 P H (l ++ c :: (r ++ [⟨some vy, y, g⟩]))) (nvl : noVo l) (nvr : noVo r) (hyg : y.good = true) (hadd : addItem c.s y = some so') (hcw : c.v = some (.ref p0)) :
    ∃ xs f', H p0 = some (.lst xs) ∧ xs.length < sizeLine ∧ Ok K S H0 P (upd H p0 (.lst (xs ++ [vy]))) (l ++ ⟨some (.ref p0), so', f'⟩ :: r) := by
  have okb : Ok K S H0 P H (l ++ c :: r) := by
    have h : Ok K S H0 P H ((l ++ c :: r) ++ [⟨some vy, y, g⟩]) := by simpa using oka
    exact h.drop (List.sublist_append_left _ _)
  have ok3 : Ok K S H0 P H ((l ++ c :: r) ++ [(⟨some vy, y, g⟩ : Cell).dem]) := by
    have h : Ok K S H0 P H ((l ++ c :: r) ++ [⟨some vy, y, g⟩]) := by simpa using oka
    simpa using h.demAll
  obtain ⟨zy, Fy, q1, ry, avy⟩ := (ok3.cell _ (by simp : (⟨some vy, y, g⟩ : Cell).dem ∈ _)).dem_rp hyg
  cases q1
  have avy' : ∀ a ∈ Fy, a ∉ S ++ fp (l ++ c :: r) := fun a ha q => avy a ha (by
    rw [fp_append, ← List.append_assoc]
    exact List.mem_append_left _ q)
  have fin : ∀ {u : HO} {w' : HO} {f : List Addr}, H p0 = some w' → p0 ∈ c.f → Mut (some u) → CellOk K (S ++ (fp l ++ (f ++ fp r))) (upd H p0 u) ⟨some (.ref p0), so', f⟩ → f.Nodup → (∀ a ∈ f, a ∈ c.f ∨ a ∈ g) → (∀ d, so' ≠ .bw d) → Ok K S H0 P (upd H p0 u) (l ++ ⟨some (.ref p0), so', f⟩ :: r) := fun {u w' f} hp hpf hmu hcell hnd hof hbw => by
    have mto : ∀ a ∈ f, Mut ((upd H p0 u) a) := fun a ha => by
      by_cases e : a = p0
      · rw [e, upd_same]; exact hmu
      · rw [upd_ne e]
        rcases hof a ha with h | h
        · exact oka.mu a (fp_mem (c := c) (by simp) h)
        · exact oka.mu a (fp_mem (c := ⟨some vy, y, g⟩) (by simp) h)
    have on := oka.step (H' := upd H p0 u) (c' := ⟨some (.ref p0), so', f⟩) (nw := []) nvl nvr (keep_upd hpf)
      (by rw [List.append_nil, fp_mid]; exact hcell) (fun e he => by simp at he) (by simpa [fp_nil] using hnd) (fun a ha => by
        have : a ∈ f := by simpa [fp_nil] using ha
        rcases hof a this with h | h
        · exact .inl h
        · exact .inr (.inl (by simpa [fp_cons, fp_nil] using h))) (fun a ha => mto a (by simpa [fp_nil] using ha)) (fun d hd => absurd hd (hbw d)) (fun e he => by simp at he)
    simpa using on
  have listCase : ∀ ds, (c.s = .dp (.list ds) ∨ c.s = .ow (.list ds)) → szOk (ds.length + 1) = true → (so' = .ow (.list (ds ++ [y.d])) ∨ (c.s = .dp (.list ds) ∧ y.isDp = true ∧ so' = .dp (.list (ds ++ [y.d])))) →
      ∃ xs f', H p0 = some (.lst xs) ∧ xs.length < sizeLine ∧ Ok K S H0 P (upd H p0 (.lst (xs ++ [vy]))) (l ++ ⟨some (.ref p0), so', f'⟩ :: r) := fun ds hc hsz hso' => by
    obtain ⟨p, xs, G, ec, hp, hpf, rl, avG, hdp, how⟩ := own_lst okb hc
    have hwp : p0 = p := by
      have := hcw.symm.trans ec
      cases this; rfl
    subst hwp
    have hlen : xs.length < sizeLine := by
      have q : ds.length + 1 ≤ 100000 := by simpa [szOk] using hsz
      have := line_big
      rw [rl.length]
      omega
    have mp : Mut (H p0) := okb.mu p0 (fp_mem (c := c) (by simp) hpf)
    rcases hso' with e | ⟨hcd, hyd, e⟩
    · refine ⟨xs, [p0], hp, hlen, fin (f := [p0]) hp hpf trivial ?_ (by simp) (fun a ha => ?_) fun d q => by rw [e] at q; cases q⟩
      · rw [e]
        have avA : ∀ a ∈ G ++ Fy, a ∉ S ++ (fp l ++ p0 :: fp r) := fun a ha => by
          rcases List.mem_append.mp ha with h | h
          · exact avG a h
          · refine fun q => avy' a h ?_
            rw [fp_mid]
            rcases List.mem_append.mp q with q | q
            · simp [q]
            · rcases List.mem_append.mp q with q | q
              · simp [q]
              · rcases List.mem_cons.mp q with q | q
                · rw [q]; simp [hpf]
                · simp [q]
        refine ⟨p0, G ++ Fy, rfl, ?_, avA, rfl⟩
        unfold Rp
        exact .inl ⟨p0, _, G ++ Fy, rfl, .inl upd_same, rfl, Rps.frame (fz_upd hp mp) _ _ _ (Rps.append rl (Rps.one ry)) fun a ha q => avA a ha (by
          have : a = p0 := by simpa using q
          rw [this]; simp)⟩
      · have : a = p0 := by simpa using ha
        rw [this]; exact .inl hpf
    · obtain ⟨rl0, hcf⟩ := hdp hcd
      have hycell := oka.cell ⟨some vy, y, g⟩ (by simp)
      have nd := oka.nd
      rw [fp_mid, hcf, fp_append] at nd
      have nd2 := (List.nodup_append.mp nd).2.1
      obtain ⟨n1, n2, n3⟩ := List.nodup_append.mp nd2
      obtain ⟨n4, n5, n6⟩ := List.nodup_append.mp n2
      have eg : fp [(⟨some vy, y, g⟩ : Cell)] = g := by simp [fp_cons, fp_nil]
      rw [eg] at n5 n6 n3
      cases y with
      | dp d =>
        obtain ⟨vy', ev', ry0⟩ := hycell
        cases ev'
        have hpn : p0 ∉ G ++ g := fun h => by
          rcases List.mem_append.mp h with h | h
          · exact (List.nodup_cons.mp n1).1 h
          · exact n3 p0 (by simp) p0 (by simp [h]) rfl
        refine ⟨xs, p0 :: (G ++ g), hp, hlen, fin (f := p0 :: (G ++ g)) hp hpf trivial ?_ ?_ (fun a ha => ?_) fun d' q => by rw [e] at q; cases q⟩
        · rw [e]
          refine ⟨.ref p0, rfl, ?_⟩
          unfold Rp
          exact .inl ⟨p0, _, G ++ g, rfl, .inl upd_same, rfl, Rps.frame (fz_upd hp mp) _ _ _ (Rps.append rl0 (Rps.one ry0)) fun a ha q => by
            have : a = p0 := by simpa using q
            rw [this] at ha
            exact hpn ha⟩
        · refine List.nodup_cons.mpr ⟨hpn, List.nodup_append.mpr ⟨(List.nodup_cons.mp n1).2, n5, fun a ha b hb => n3 a (by simp [ha]) b (by simp [hb])⟩⟩
        · rcases List.mem_cons.mp ha with h | h
          · exact .inl (by rw [h]; exact hpf)
          · rcases List.mem_append.mp h with h | h
            · exact .inl (by rw [hcf]; simp [h])
            · exact .inr h
      | _ => cases hyd
  unfold addItem at hadd
  split at hadd
  · rename_i ds hcs
    split at hadd
    · cases hadd
    · rename_i hcond
      simp only [Bool.or_eq_true, Bool.not_eq_true', not_or, Bool.not_eq_false] at hcond
      cases hadd
      by_cases hd : y.isDp = true
      · exact listCase ds (.inl hcs) hcond.1 (.inr ⟨hcs, hd, by rw [if_pos hd]⟩)
      · exact listCase ds (.inl hcs) hcond.1 (.inl (by rw [if_neg hd]))
  · rename_i ds hcs
    split at hadd
    · cases hadd
    · rename_i hcond
      simp only [Bool.or_eq_true, Bool.not_eq_true', not_or, Bool.not_eq_false] at hcond
      cases hadd
      exact listCase ds (.inr hcs) hcond.1 (.inl rfl)
  · cases hadd
end
end Tv
set_option maxHeartbeats 1000000
/-! TvX: list comprehensions: the rule. -/
namespace Tv
open PySem PySem.Spec PyProof.Rows L2
section
variable (K : PySem.W.Frag) (mf : Nat → Bool) (Φ : Nat → List D → Option (Sl × D))
/-- a clause's tests -/
def tTs (cs : Exs) : TT := fun σ H Q => ∃ S H0 P cells ts b env, σ = cells.map (·.v) ∧ Ok K S H0 P H (cells ++ ts) ∧ noVo ts ∧ evt mf Φ cs (cells.map (·.s)) = some (b, env) ∧
  ∀ H' cs', cs'.map (·.v) = cells.map (·.v) → cs'.map (·.s) = env → Ok K S H0 P H' (cs' ++ ts) → Q b H'
end
section
variable {X : Cx} {mf : Nat → Bool} {Φ : Nat → List D → Option (Sl × D)} {wf : Nat} {pos : Pos}
theorem weakTs {e : List Expr} {t t' : TT} (h : PTs X e t) (w : ∀ σ H Q, t' σ H Q → t σ H Q) : PTs X e t' := ⟨fun pins s σ H Q I q => h.run pins s σ H Q I (w σ H Q q)⟩
theorem tts_nil : PTs X [] (tTs X.K mf Φ .nil) := by
  refine weakTs pts_nil fun σ H Q q => ?_
  obtain ⟨S, H0, P, cs, ts, b, env, rfl, o, nv, he, k⟩ := q
  unfold evt at he
  cases he
  exact k H cs rfl rfl o
theorem tts_one {c : Expr} {ec : Ex} (h : PT X c (tT X.K mf Φ ec)) : PTs X [c] (tTs X.K mf Φ (.cons ec .nil)) := by
  refine weakTs (pts_one h) fun σ H Q q => ?_
  obtain ⟨S, H0, P, cs, ts, b, env, rfl, o, nv, he, k⟩ := q
  unfold evt at he
  simp only [Option.bind_eq_bind, Option.bind_eq_some_iff] at he
  obtain ⟨⟨x, e1⟩, h1, he⟩ := he
  simp only at he
  split at he
  · rename_i bb hx
    cases he
    exact ⟨S, H0, P, cs, ts, x, b, _, rfl, o, h1, hx, .inr nv, fun H' cs' hv hs o' _ => k H' cs' hv hs o'⟩
  · cases he
theorem map_get {α : Type} {g : Cell → α} {a b : List Cell} {j : Nat} (h : a.map g = b.map g) : (a.map g)[j]? = (b.map g)[j]? := by rw [h]
theorem comp_core {S : List Addr} {H0 H1 : Hp} {P : List Addr} {cs ts tl : List Cell} {J : It} {ds : List D} {t : Tg} {conds : Exs} {e : Ex} {own : List Nat} {r : Sl} {e2 : Ev} {Q : VK} (o : Ok X.K S H0 P H1 (cs ++ (ts ++ tl))) (nv : noVo ts) (nt : noVo tl) (nc : noVo cs) (w : WalkOk X.K S H0 P J tl ds)
    (hnd : own.Nodup) (htg : ∀ j ∈ tgIx t, j ∈ own)
    (h : compL (fun x env' => bindT t x env') (fun env' => evt mf Φ conds env') (fun env' => ev mf Φ .val e env') own ds (.dp (.list [])) (cs.map (·.s)) = some (r, e2))
    (k : ∀ x H' cs' f, cs'.map (·.v) = cs.map (·.v) → cs'.map (·.s) = restoreS (cs.map (·.s)) e2 own → Ok X.K S H0 P H' (cs' ++ ts ++ [⟨some x, r, f⟩]) → Q x H') :
    ∀ L, H1 L = none → ∃ W : Nat → Nat → Hp → Prop, (∃ m, W 0 m (upd H1 L (.lst []))) ∧ ∀ i m H, W i m H →
      (J.stop i H ∧ Q (.ref L) H) ∨ (J.go i H ∧ ∃ Nx : Hp → Prop, (∀ H', Nx H' → ∃ m', m' < m ∧ W (i + 1) m' H') ∧ ∀ x H', J.yld i H x H' → gT X.K mf Φ t x (L2.wipe (cs.map (·.v)) own) H' fun σ2 H2 => L2.wipe σ2 own = L2.wipe (cs.map (·.v)) own ∧ tTs X.K mf Φ conds σ2 H2 fun b H3 =>
        if b = true then tE X.K mf Φ .val e σ2 H3 fun y H4 => ∃ acc, H4 L = some (.lst acc) ∧ acc.length < sizeLine ∧ Nx (upd H4 L (.lst (acc ++ [y]))) else Nx H3) := by
  intro L hL
  generalize hoc : (own.map fun v => cs.getD v eCell) = oc
  have noc : noVo oc := fun c hc => by
    rw [← hoc] at hc
    obtain ⟨v, _, rfl⟩ := List.mem_map.mp hc
    rw [List.getD_eq_getElem?_getD]
    cases q : cs[v]? with
    | none => rfl
    | some c => exact nc c (List.mem_of_getElem? q)
  -- the state at a turn
  let St : Nat → Hp → Prop := fun i H => i ≤ ds.length ∧ ∃ bcs acc f ei, bcs.map (·.v) = L2.wipe (cs.map (·.v)) own ∧ bcs.map (·.s) = wipeS ei own ∧ ei.length = cs.length ∧ acc.good = true ∧ (∀ v ∈ own, ∀ d, bcs[v]? = some d → d.f = []) ∧ Ok X.K S H0 P H (bcs ++ (ts ++ tl ++ oc ++ [⟨some (.ref L), acc, f⟩])) ∧
    compL (fun x env' => bindT t x env') (fun env' => evt mf Φ conds env') (fun env' => ev mf Φ .val e env') own (ds.drop i) acc ei = some (r, e2)
  have hwlen : ∀ bcs : List Cell, bcs.map (·.v) = L2.wipe (cs.map (·.v)) own → bcs.length = cs.length := fun bcs hb => by
    have := congrArg List.length hb
    rw [wipe_put, putL_len] at this
    simpa using this
  refine ⟨fun i m H => m = ds.length - i ∧ St i H, ⟨ds.length, by simp, by omega, ?_⟩, ?_⟩
  · -- the start
    have sm := same_upd (o := HO.lst []) hL
    have o1 : Ok X.K S H0 P (upd H1 L (.lst [])) (cs ++ (ts ++ tl) ++ [⟨some (.ref L), .dp (.list []), [L]⟩]) := o.push sm ⟨.ref L, rfl, by
      unfold Rp
      exact .inl ⟨L, [], [], rfl, .inl upd_same, rfl, Rps.nil⟩⟩ (fun a ha => by
        have : a = L := by simpa using ha
        rw [this]; exact hL) (by simp) (fun a ha => by
        have : a = L := by simpa using ha
        rw [this, upd_same]; trivial) fun d => by simp
    have o2 : Ok X.K S H0 P (upd H1 L (.lst [])) (cs ++ (ts ++ tl ++ [⟨some (.ref L), .dp (.list []), [L]⟩])) := by simpa using o1
    have o3 := o2.wipeIn (vs := own) hnd
    rw [hoc] at o3
    refine ⟨putL (fun _ => eCell) cs own, .dp (.list []), [L], cs.map (·.s), ?_, ?_, by simp, rfl, wiped_f, ?_, by simpa using h⟩
    · rw [putL_map, wipe_put]; rfl
    · rw [putL_map, wipeS_put]; rfl
    · refine o3.perm ?_ fun c hc => .inl ?_
      · simp only [fp_append, List.append_assoc]
        refine List.Perm.append_left _ (List.Perm.append_left _ (List.Perm.append_left _ List.perm_append_comm))
      · simp only [List.mem_append, List.append_assoc] at hc ⊢
        rcases hc with h | h | h | h | h
        · exact .inl h
        · exact .inr (.inl h)
        · exact .inr (.inr (.inl h))
        · exact .inr (.inr (.inr (.inr h)))
        · exact .inr (.inr (.inr (.inl h)))
  rintro i m H ⟨rfl, hi, bcs, acc, f, ei, hbv, hbs, hel, hag, hbf, ob, hc⟩
  generalize hacc : (⟨some (.ref L), acc, f⟩ : Cell) = ca at ob
  have nca : noVo [ca] := by rw [← hacc]; exact good_one hag
  have nall : noVo (ts ++ tl ++ oc ++ [ca]) := noVo_app (noVo_app (noVo_app nv nt) noc) nca
  -- the walk needs tl last
  have owk : Ok X.K S H0 P H ((bcs ++ (ts ++ oc ++ [ca])) ++ tl) := by
    refine ob.perm ?_ fun c hc => .inl ?_
    · simp only [fp_append, List.append_assoc]
      refine List.Perm.append_left _ (List.Perm.append_left _ ?_)
      rw [← List.append_assoc]
      exact List.perm_append_comm
    · simp only [List.mem_append, List.append_assoc] at hc ⊢
      rcases hc with h | h | h | h | h
      · exact .inl h
      · exact .inr (.inl h)
      · exact .inr (.inr (.inr (.inl h)))
      · exact .inr (.inr (.inr (.inr h)))
      · exact .inr (.inr (.inl h))
  have wk := w H _ owk
  by_cases hlt : i < ds.length
  · right
    have hget : ds[i]? = some ds[i] := List.getElem?_eq_getElem hlt
    rw [List.drop_eq_getElem_cons hlt] at hc
    unfold compL at hc
    simp only [Option.bind_eq_bind, Option.bind_eq_some_iff] at hc
    obtain ⟨ea, hb, ⟨tb, eb⟩, htst, hc⟩ := hc
    simp only at hb htst hc
    obtain ⟨hgo, hy⟩ := wk.1 i _ hget
    refine ⟨hgo, St (i + 1), fun H' hs => ⟨ds.length - (i + 1), by omega, rfl, hs⟩, fun x H' hyl => ?_⟩
    obtain ⟨sm, G, rp, av⟩ := hy x H' hyl
    have o1 := ob.same sm
    have o2 : Ok X.K S H0 P H' (bcs ++ (ts ++ tl ++ oc ++ [ca]) ++ [⟨some x, shN ds[i], []⟩]) := o1.add0 (shN_cell rp fun a ha q => av a ha (by
      simp only [fp_append, List.mem_append, List.append_assoc] at q ⊢
      rcases q with h | h | h | h | h | h
      · exact .inl h
      · exact .inr (.inl h)
      · exact .inr (.inr (.inl h))
      · exact .inr (.inr (.inr (.inr (.inr h))))
      · exact .inr (.inr (.inr (.inl h)))
      · exact .inr (.inr (.inr (.inr (.inl h)))))) rfl (shN_nbw _)
    rw [← hbv]
    refine ⟨S, H0, P, bcs, ts ++ tl ++ oc ++ [ca], shN ds[i], [], ea, rfl, o2, nall, by rw [hbs]; exact bindT_G _ _ _ _ hb, fun H2 cs2 hs2 hl2 hj2 o3 => ?_⟩
    have hw2 : L2.wipe (cs2.map (·.v)) own = L2.wipe (cs.map (·.v)) own := by
      rw [wipe_put, wipe_put]
      apply List.ext_getElem?
      intro j
      rw [putL_get, putL_get]
      by_cases hj : j ∈ own
      · rw [if_pos hj, if_pos hj]
        have hl : cs2.length = cs.length := hl2.trans (hwlen bcs hbv)
        by_cases hjl : j < cs.length
        · simp [hl, hjl]
        · simp [hl, hjl]
      · rw [if_neg hj, if_neg hj]
        have := hj2 j fun q => hj (htg j q)
        rw [this, hbv, wipe_put, putL_get, if_neg hj]
    rw [hbv]
    refine ⟨hw2, S, H0, P, cs2, ts ++ tl ++ oc ++ [ca], tb, eb, rfl, o3, nall, by rw [hs2]; exact htst, fun H3 cs3 hv3 hs3 o4 => ?_⟩
    -- the state behind the turn
    have nxt : ∀ H4 cs4 acc' f' e4, cs4.map (·.v) = cs2.map (·.v) → cs4.map (·.s) = e4 → acc'.good = true → Ok X.K S H0 P H4 (cs4 ++ (ts ++ tl ++ oc ++ [⟨some (.ref L), acc', f'⟩])) →
        compL (fun x env' => bindT t x env') (fun env' => evt mf Φ conds env') (fun env' => ev mf Φ .val e env') own (ds.drop (i + 1)) acc' e4 = some (r, e2) → St (i + 1) H4 := fun H4 cs4 acc' f' e4 hv4 hs4 hg4 o5 hc4 => by
      refine ⟨hlt, putL (fun _ => eCell) cs4 own, acc', f', e4, ?_, ?_, ?_, hg4, wiped_f, o5.wipeAway, hc4⟩
      · rw [putL_map, ← hw2, ← hv4, wipe_put]; rfl
      · rw [putL_map, hs4, wipeS_put]; rfl
      · rw [← hs4]
        have := congrArg List.length hv4
        simp only [List.length_map] at this ⊢
        rw [this, hl2, hwlen bcs hbv]
    show if tb = true then _ else _
    by_cases htb : tb = true
    · rw [if_pos htb]
      rw [if_pos htb] at hc
      simp only [Option.bind_eq_some_iff] at hc
      obtain ⟨⟨y, ec⟩, hel', hc⟩ := hc
      simp only at hc
      split at hc
      · cases hc
      rename_i hnvc
      simp only [Option.bind_eq_some_iff] at hc
      obtain ⟨acc', hadd, hc⟩ := hc
      rw [← hv3]
      refine ⟨S, H0, P, cs3, ts ++ tl ++ oc ++ [ca], y, ec, rfl, o4, by rw [hs3]; exact hel', .inr nall, fun vy H4 cs4 g hv4 hs4 o5 _ => ?_⟩
      have hyg := ev_noVo _ _ _ _ _ (by decide) hel'
      have oka : Ok X.K S H0 P H4 ((cs4 ++ (ts ++ tl ++ oc)) ++ ca :: ([] ++ [⟨some vy, y, g⟩])) := by simpa using o5
      obtain ⟨xs, f', q1, q2, q3⟩ := app_cell (p0 := L) (so' := acc') oka (noVo_app (env_nvo hs4 hnvc) (noVo_app (noVo_app nv nt) noc)) (fun c h => by simp at h) hyg (by rw [← hacc]; exact hadd) (by rw [← hacc])
      refine ⟨xs, q1, q2, nxt _ cs4 acc' f' ec (hv4.trans hv3) hs4 (addItem_noVo hadd) (by simpa using q3) hc⟩
    · rw [if_neg htb]
      rw [if_neg htb] at hc
      exact nxt H3 cs3 acc f eb hv3 hs3 hag (by rw [hacc]; exact o4) hc
  · left
    have e : i = ds.length := by omega
    subst e
    rw [List.drop_length] at hc
    unfold compL at hc
    cases hc
    refine ⟨wk.2, ?_⟩
    have ol : Ok X.K S H0 P H (bcs ++ ((ts ++ [ca] ++ tl) ++ own.map fun v => cs.getD v eCell)) := by
      rw [hoc]
      refine ob.perm ?_ fun c hc => .inl ?_
      · simp only [fp_append, List.append_assoc]
        refine List.Perm.append_left _ (List.Perm.append_left _ ?_)
        rw [← List.append_assoc (fp tl) (fp oc) (fp [ca])]
        exact List.perm_append_comm
      · simp only [List.mem_append, List.append_assoc] at hc ⊢
        rcases hc with h | h | h | h | h
        · exact .inl h
        · exact .inr (.inl h)
        · exact .inr (.inr (.inr (.inr h)))
        · exact .inr (.inr (.inl h))
        · exact .inr (.inr (.inr (.inl h)))
    have of := ol.wipeOut hnd (hwlen bcs hbv) hbf
    have og : Ok X.K S H0 P H ((putL (fun v => cs.getD v eCell) bcs own ++ ts ++ [ca]) ++ tl) := by simpa using of
    have oh := og.drop (List.sublist_append_left _ _)
    rw [← hacc] at oh
    refine k (.ref L) H _ f ?_ ?_ oh
    · rw [putL_map, hbv, wipe_put]
      apply List.ext_getElem?
      intro j
      rw [putL_get, putL_get]
      by_cases hj : j ∈ own
      · rw [if_pos hj, if_pos hj]
        cases q : cs[j]? with
        | none => simp [q]
        | some c => simp [q, List.getD_eq_getElem?_getD]
      · rw [if_neg hj, if_neg hj]
    · rw [putL_map, hbs, wipeS_put, restoreS_put]
      apply List.ext_getElem?
      intro j
      rw [putL_get, putL_get, putL_get]
      by_cases hj : j ∈ own
      · rw [if_pos hj, if_pos hj, if_pos hj]
        by_cases hjl : j < e2.length
        · have hjc : j < cs.length := by rw [← hel]; exact hjl
          simp [hjl, hjc, List.getD_eq_getElem?_getD]
        · simp [hjl]
      · rw [if_neg hj, if_neg hj, if_neg hj]
/-- how a comprehension is walked -/
theorem comp_road {own : List Nat} {k : ItK} {src : Exs} {t : Tg} {conds : Exs} {e : Ex} {m : Md} {σ : L2.St} {H : Hp} {Q : VK} (q : tE X.K mf Φ m (.comp k src t own conds e) σ H Q) (hnd : own.Nodup) (htg : ∀ j ∈ tgIx t, j ∈ own) :
    tLc (tI X.K mf Φ k src) (gT X.K mf Φ t) (tTs X.K mf Φ conds) (tE X.K mf Φ .val e) own σ H Q ∨ ∃ i, src = .cons (.var i) .nil ∧ k = .val ∧
      (tLc (iKeys (tVar i)) (gT X.K mf Φ t) (tTs X.K mf Φ conds) (tE X.K mf Φ .val e) own σ H Q ∨ tLockE (tLc (iKeys (tVar i)) (gT X.K mf Φ t) (tTs X.K mf Φ conds) (tE X.K mf Φ .val e) own) σ H Q) := by
  obtain ⟨S, H0, P, cs, ts, r0, env, rfl, o, hev, hq, kk⟩ := q
  have nv : noVo ts := hq.resolve_left (by simp [quiet])
  unfold ev at hev
  simp only [Option.bind_eq_bind, Option.bind_eq_some_iff] at hev
  obtain ⟨⟨rs, e1⟩, h1, hev⟩ := hev
  simp only at h1 hev
  split at hev
  · cases hev
  rename_i hgd
  simp only [Option.bind_eq_some_iff] at hev
  obtain ⟨ds, hds, ⟨r, e2⟩, hcl, hev⟩ := hev
  cases hev
  simp only [Bool.or_eq_true, Bool.not_eq_true', not_or, Bool.not_eq_false] at hgd
  obtain ⟨hdk, hnv⟩ := hgd
  have fin : ∀ {H' : Hp} {cs1 : List Cell}, cs1.map (·.v) = cs.map (·.v) → cs1.map (·.s) = e1 → ∀ x H2 cs' f, cs'.map (·.v) = cs1.map (·.v) → cs'.map (·.s) = restoreS (cs1.map (·.s)) e2 own → Ok X.K S H0 P H2 (cs' ++ ts ++ [⟨some x, r, f⟩]) → Q x H2 := fun {H' cs1} hv1 hs1 x H2 cs' f hv' hs' o' =>
    kk x H2 cs' f (hv'.trans hv1) (by rw [hs', hs1]) o' fun w => by simp [quiet] at w
  by_cases hdict : ∃ es, rs.map (·.d) = [.dict es]
  · obtain ⟨es, hes⟩ := hdict
    rw [hes] at hdk
    obtain ⟨i, rfl⟩ := dictOk_var hdk
    have hk : k = .val := by
      cases k with
      | val => rfl
      | _ => rw [hes] at hds; cases hds
    subst hk
    have hds' : ds = es.map (·.1) := by
      rw [hes] at hds
      exact (Option.some.inj (show some (es.map (·.1)) = some ds from hds)).symm
    subst hds'
    obtain ⟨y, rfl, hy1⟩ := evs_one h1
    have hyd : y.d = .dict es := by simpa using hes
    obtain ⟨d, kvs, F, cs1, hvd, hv1, hs1, o1, rd, rv, hndp⟩ := dict_start o hy1 hyd
    have loop : ∀ (ob : Obj) (H' : Hp) (Q' : VK), Ok X.K S (upd H0 d (.frz ob (.dT kvs))) (P.filter fun a => a != d) H' (cs1 ++ ts) →
        (∀ x H2 cs' f, cs'.map (·.v) = cs1.map (·.v) → cs'.map (·.s) = restoreS (cs1.map (·.s)) e2 own → Ok X.K S (upd H0 d (.frz ob (.dT kvs))) (P.filter fun a => a != d) H2 (cs' ++ ts ++ [⟨some x, r, f⟩]) → Q' x H2) →
        tLc (iKeys (tVar i)) (gT X.K mf Φ t) (tTs X.K mf Φ conds) (tE X.K mf Φ .val e) own (cs.map (·.v)) H' Q' := fun ob H' Q' o2 k2 => by
      refine ⟨.ref d, hvd, d, ob, rfl, .inr ⟨kvs, o2.pinned, ?_⟩⟩
      rw [← hv1]
      exact comp_core (tl := []) (by simpa using o2) nv (fun c h => by simp at h) (env_nvo hs1 hnv) (walk_keys rv) hnd htg (by rw [hs1]; exact hcl) k2
    have hstart : ∀ w, H d = some w → ∀ x, H0 d = some x → d ∉ P → x = w := fun w hw x hx hn => by
      have := o1.ext d x hx hn
      rw [hw] at this
      exact (Option.some.inj this).symm
    right
    refine ⟨i, rfl, rfl, ?_⟩
    rcases rd with rd | ⟨ob, rd⟩
    · right
      refine ⟨d, .dT kvs, rd, trivial, fun od => ?_⟩
      have o2 := o1.pinL (u := .frz od (.dT kvs)) hndp upd_same (fun a e => upd_ne e) (fz_lock rd trivial)
      refine loop od _ _ o2 fun x H2 cs' f hv' hs' o3 => ⟨o3.pinned, fin (H' := H) hv1 hs1 x _ cs' f hv' hs' ?_⟩
      exact o3.unpin (hstart _ rd) upd_same (fun a e => upd_ne e) (fz_unlock o3.pinned)
    · left
      have o2 := o1.pinL (u := .frz ob (.dT kvs)) hndp rd (fun a e => rfl) ⟨fun _ _ h _ _ => h, fun _ _ h => h⟩
      refine loop ob H _ o2 fun x H2 cs' f hv' hs' o3 => fin (H' := H) hv1 hs1 x _ cs' f hv' hs' ?_
      exact o3.unpin (hstart _ rd) o3.pinned (fun a e => rfl) ⟨fun _ _ h _ _ => h, fun _ _ h => h⟩
  · left
    refine ⟨S, H0, P, cs, ts, rs, e1, ds, rfl, o, nv, h1, hds, fun es he => hdict ⟨es, he⟩, fun J H' cs' tl hv' hs' o' nt wk => ?_⟩
    rw [← hv']
    exact comp_core o' nv nt (env_nvo hs' hnv) wk hnd htg (by rw [hs']; exact hcl) fun x H2 cs2 f hv2 hs2 o2 => fin (H' := H') hv' hs' x H2 cs2 f hv2 hs2 o2
/-- [e for t in iter if c] -/
theorem te_comp {elt iter tg : Expr} {ifs : List Expr} {scope : Scope} {own : List (Str × Nat)} {k : ItK} {src : Exs} {t : Tg} {conds : Exs} {e : Ex} {m : Md} (hc : X.calm = true) (hN : X.N.Nodup) (hi : PI X tg iter (tI X.K mf Φ k src)) (hv : ∀ i, src = .cons (.var i) .nil → k = .val → PE X iter (tVar i)) (ok : BlkOk X.N X.env.scope scope own)
    (hg : ∀ (s : Shared) (H : Hp) (C : Addr) (cl : List (Str × Addr)) (fp : List Addr), PG (X.blk s H scope (compEnvC scope cl C X.env) fp) tg (gT X.K mf Φ t))
    (ht : ∀ (s : Shared) (H : Hp) (C : Addr) (cl : List (Str × Addr)) (fp : List Addr), PTs (X.blk s H scope (compEnvC scope cl C X.env) fp) ifs (tTs X.K mf Φ conds))
    (he : ∀ (s : Shared) (H : Hp) (C : Addr) (cl : List (Str × Addr)) (fp : List Addr), PE (X.blk s H scope (compEnvC scope cl C X.env) fp) elt (tE X.K mf Φ .val e))
    (hs : ∀ x, foldedSetIterable iter X.env x = pure x) (hnd : (own.map (·.2)).Nodup) (htg : ∀ j ∈ tgIx t, j ∈ own.map (·.2)) : PE X (.ListComp elt [⟨tg, iter, ifs, 0⟩] scope pos) (tE X.K mf Φ m (.comp k src t (own.map (·.2)) conds e)) := by
  refine PE.pull fun σ H Q q => ?_
  rcases comp_road q hnd htg with q | ⟨i, h1, h2, q | q⟩
  · exact ⟨_, pe_lc hc hN hi ok hg ht he hs, q⟩
  · exact ⟨_, pe_lc hc hN (pi_keys (hv i h1 h2)) ok hg ht he hs, q⟩
  · exact ⟨_, pe_lock (pe_lc hc hN (pi_keys (hv i h1 h2)) ok hg ht he hs), q⟩
theorem tE_mono {m : Md} {e : Ex} {σ : L2.St} {H : Hp} {Q Q' : VK} (h : tE X.K mf Φ m e σ H Q) (w : ∀ v H, Q v H → Q' v H) : tE X.K mf Φ m e σ H Q' := by
  obtain ⟨S, H0, P, cs, ts, r0, env, rfl, o, hev, hq, kk⟩ := h
  exact ⟨S, H0, P, cs, ts, r0, env, rfl, o, hev, hq, fun x H' cs' f hv hs o' sm => w _ _ (kk x H' cs' f hv hs o' sm)⟩
/-- y = [e for t in iter if c], the name's place being used -/
theorem ts_setLc {i : Nat} {y : Str} {py : Pos} {spos : Pos} {elt iter tg : Expr} {ifs : List Expr} {scope : Scope} {own : List (Str × Nat)} {k : ItK} {src : Exs} {t : Tg} {conds : Exs} {e : Ex} (hc : X.calm = true) (hN : X.N.Nodup) (hy : X.N[i]? = some y) (hyl : X.env.scope.names.lookup y = some .local)
    (hsw : swapsWith (.ListComp elt [⟨tg, iter, ifs, 0⟩] scope pos) (some (.Name y py)) spos.line X.env = pure true)
    (hi : PI X tg iter (tI X.K mf Φ k src)) (hv : ∀ i, src = .cons (.var i) .nil → k = .val → PE X iter (tVar i)) (ok : BlkOk X.N X.env.scope scope own)
    (hg : ∀ (s : Shared) (H : Hp) (C : Addr) (cl : List (Str × Addr)) (fp : List Addr), PG (X.blk s H scope (compEnvC scope cl C X.env) fp) tg (gT X.K mf Φ t))
    (ht : ∀ (s : Shared) (H : Hp) (C : Addr) (cl : List (Str × Addr)) (fp : List Addr), PTs (X.blk s H scope (compEnvC scope cl C X.env) fp) ifs (tTs X.K mf Φ conds))
    (he : ∀ (s : Shared) (H : Hp) (C : Addr) (cl : List (Str × Addr)) (fp : List Addr), PE (X.blk s H scope (compEnvC scope cl C X.env) fp) elt (tE X.K mf Φ .val e))
    (hs : ∀ x, foldedSetIterable iter X.env x = pure x) (hnd : (own.map (·.2)).Nodup) (htg : ∀ j ∈ tgIx t, j ∈ own.map (·.2)) :
    PS X (.Assign [.Name y py] (.ListComp elt [⟨tg, iter, ifs, 0⟩] scope pos) spos) (tS X.K mf Φ wf (.asg (.nm i) (.comp k src t (own.map (·.2)) conds e))) := by
  refine PS.pull fun D σ H q => ?_
  have q1 : tE X.K mf Φ .val (.comp k src t (own.map (·.2)) conds e) σ H (fun x H1 => gName i x σ H1 D.nx) := tE_mono (tS_asg q) fun v H h => gT_nm h
  rcases comp_road q1 hnd htg with q | ⟨j, h1, h2, q | q⟩
  · exact ⟨_, ps_setLc hc hN hy hyl hsw hi ok hg ht he hs, q⟩
  · exact ⟨_, ps_setLc hc hN hy hyl hsw (pi_keys (hv j h1 h2)) ok hg ht he hs, q⟩
  · exact ⟨_, ps_lock (ps_setLc hc hN hy hyl hsw (pi_keys (hv j h1 h2)) ok hg ht he hs), q⟩
end
end Tv
set_option maxHeartbeats 1000000
/-! TvY: a def by its body. -/
namespace Tv
open PySem PySem.Spec PyProof.Rows L2
section
variable {K : PySem.W.Frag} {mf : Nat → Bool} {Φ : Nat → List D → Option (Sl × D)} {wf : Nat}
def ends0 (Q : VK) : Ends := { nx := fun _ H' => Q .non H', rt := Q }
theorem fp_rep (n : Nat) : fp (List.replicate n eCell) = [] := by
  induction n with
  | zero => rfl
  | succ n ih => rw [List.replicate_succ, fp_cons, ih]; rfl
theorem start_sh {N : List Str} {vs : List V} {ds : List D} {np ns : Nat} {tl : List Cell} (hn : N.length = ns) (hv : tl.map (·.v) = vs.map some) (hl : vs.length = np) : L2.start N vs = (tl ++ List.replicate (ns - np) eCell).map (·.v) := by
  unfold L2.start
  rw [List.map_append, hv, List.map_replicate, hn, hl]
  rfl
/-- the reading of a body, from the def's promise: nothing changed -/
theorem body_keep {d : FDef} {N : List Str} {vs : List V} {H : Hp} {Q : VK} (hmu : d.mu = false) (hn : N.length = d.ns) (q : spT K false (runF mf Φ wf d) vs H Q L2.E0) : tS K mf Φ wf d.body (ends0 Q) (L2.start N vs) H := by
  obtain ⟨S, ds, F, r, d', hS, rp, av, hrun, k⟩ := q
  unfold runF at hrun
  split at hrun
  · cases hrun
  rename_i hlen
  have hlen : ds.length = d.np := by simpa using hlen
  obtain ⟨tl, h1, h2, h3, h4⟩ := split_sh (A := S) rp av
  have hvl : vs.length = d.np := by rw [rp.length]; exact hlen
  have ef : fp (tl ++ List.replicate (d.ns - d.np) eCell) = [] := by rw [fp_append, h3, fp_rep]; rfl
  have hc : ∀ c ∈ tl ++ List.replicate (d.ns - d.np) eCell, CellOk K S H c := fun c hc => by
    rcases List.mem_append.mp hc with h | h
    · exact h4 c h
    · rw [List.eq_of_mem_replicate h]; rfl
  have nb : ∀ c ∈ tl ++ List.replicate (d.ns - d.np) eCell, ∀ e, c.s ≠ .bw e := fun c hc e he => by
    rcases List.mem_append.mp hc with h | h
    · have : c.s ∈ ds.map shN := by rw [← h2]; exact List.mem_map.mpr ⟨c, h, rfl⟩
      obtain ⟨d', _, q⟩ := List.mem_map.mp this
      exact shN_nbw d' e (q.trans he)
    · rw [List.eq_of_mem_replicate h] at he
      cases he
  have o : Ok K S H [] H (tl ++ List.replicate (d.ns - d.np) eCell) :=
    ⟨fun c hc' => by rw [ef, List.append_nil]; exact hc c hc', by rw [ef]; simp, fun a ha => by rw [ef] at ha; simp at ha, fun a _ ha => by rw [ef] at ha; simp at ha, hS, fun a o h _ => h, fun a ha => by rw [ef] at ha; simp at ha, fun c hc' e he => absurd he (nb c hc' e)⟩
  have henv : env0 d ds = (tl ++ List.replicate (d.ns - d.np) eCell).map (·.s) := by
    unfold env0
    rw [hmu, List.map_append, h2, List.map_replicate]
    rfl
  rw [start_sh (ds := ds) hn h1 hvl]
  rw [henv] at hrun
  have same : ∀ {H' : Hp} {cs' : List Cell}, Ok K S H [] H' cs' → Same H H' := fun o' b u e => o'.ext b u e (by simp)
  cases hex : exS mf Φ wf d.body ((tl ++ List.replicate (d.ns - d.np) eCell).map (·.s)) with
  | none => rw [hex] at hrun; cases hrun
  | some fe =>
    obtain ⟨fl, env⟩ := fe
    rw [hex] at hrun
    refine ⟨S, H, [], _, [], fl, env, rfl, by simpa using o, fun c h => by simp at h, hex, ?_⟩
    cases fl with
    | rt r' =>
      have hrun' : (if d.mu then (match List.head? env with
        | some (.bw d) => some (r', d)
        | _ => none) else some (r', PyData.none)) = some (r, d') := hrun
      rw [hmu] at hrun'
      cases hrun'
      refine fun x H' cs' f hs o' => ?_
      have o2 : Ok K S H [] H' (cs' ++ [⟨some x, r, f⟩]) := by simpa using o'
      have ff : ∀ a ∈ f, a ∈ fp (cs' ++ [(⟨some x, r, f⟩ : Cell)]) := fun a ha => fp_mem (c := ⟨some x, r, f⟩) (by simp) ha
      refine k x H' f (same o2) ((o2.cell _ (by simp)).less fun a ha => ?_) ?_ fun a ha => ⟨?_, o2.mu a (ff a ha)⟩
      · rcases List.mem_append.mp ha with h | h
        · exact List.mem_append_left _ h
        · exact List.mem_append_right _ (ff a h)
      · have nd := o2.nd
        rw [fp_append, fp_cons, fp_nil, List.append_nil] at nd
        exact (List.nodup_append.mp nd).2.1
      · rcases o2.fr a (ff a ha) with h | h
        · simp at h
        · exact h
    | nx =>
      have hrun' : (if d.mu then (match List.head? env with
        | some (.bw d) => some (Sl.dp .none, d)
        | _ => none) else some (Sl.dp .none, PyData.none)) = some (r, d') := hrun
      rw [hmu] at hrun'
      cases hrun'
      exact fun H' cs' hs o' => k .non H' [] (same o') ⟨.non, rfl, Rp.mk_none⟩ (by simp) fun a ha => by simp at ha
    | bk => cases hrun
    | ct => cases hrun
theorem body_mut {d : FDef} {N : List Str} {vs : List V} {H : Hp} {Q : VK} (hmu : d.mu = true) (hn : N.length = d.ns) (q : spT K true (runF mf Φ wf d) vs H Q L2.E0) : tS K mf Φ wf d.body (ends0 Q) (L2.start N vs) H := by
  obtain ⟨S, p, d0, vs', ds, F, r, d1, rfl, rp0, hi0, hmp, hS, hpS, rp, av, hrun, hi1, k⟩ := q
  unfold runF at hrun
  split at hrun
  · cases hrun
  rename_i hlen
  have hlen : (PyData.list d0 :: ds).length = d.np := by simpa using hlen
  obtain ⟨tl, h1, h2, h3, h4⟩ := split_sh (A := S) rp av
  have hvl : (V.ref p :: vs').length = d.np := by rw [← hlen, List.length_cons, List.length_cons, rp.length]
  generalize hc0 : (⟨some (.ref p), .bw (.list d0), [p]⟩ : Cell) = c0
  generalize hrep : List.replicate (d.ns - d.np) eCell = rep
  have erep : fp rep = [] := by rw [← hrep]; exact fp_rep _
  have ef : fp (c0 :: tl ++ rep) = [p] := by rw [fp_append, fp_cons, h3, erep, ← hc0]; rfl
  have inrep : ∀ c ∈ rep, c = eCell := fun c h => by rw [← hrep] at h; exact List.eq_of_mem_replicate h
  have mem3 : ∀ c ∈ c0 :: tl ++ rep, c = c0 ∨ c ∈ tl ∨ c = eCell := fun c hc => by
    rcases List.mem_append.mp hc with h | h
    · rcases List.mem_cons.mp h with h | h
      · exact .inl h
      · exact .inr (.inl h)
    · exact .inr (.inr (inrep c h))
  have hA : ∀ a ∈ S.filter (fun a => a != p) ++ [p], a ∈ S := fun a ha => by
    rcases List.mem_append.mp ha with h | h
    · exact (List.mem_filter.mp h).1
    · have : a = p := by simpa using h
      rw [this]; exact hpS
  have o : Ok K (S.filter fun a => a != p) H [p] H (c0 :: tl ++ rep) := by
    refine ⟨fun c hc => ?_, by rw [ef]; simp, fun a ha => ?_, fun a ha h => ?_, fun a ha => hS a (List.mem_filter.mp ha).1, fun a o h _ => h, fun a ha => ?_, fun c hc e he a ha => ?_⟩
    · rw [ef]
      rcases mem3 c hc with h | h | h
      · rw [h, ← hc0]
        exact ⟨p, rfl, rp0, rfl⟩
      · exact (h4 c h).less hA
      · rw [h]; rfl
    · rw [ef] at ha
      have : a = p := by simpa using ha
      rw [this]; exact hmp
    · rw [ef] at h
      have : a = p := by simpa using h
      have q := (List.mem_filter.mp ha).2
      rw [this] at q
      simp at q
    · rw [ef] at ha
      exact .inl ha
    · rw [← ef]
      exact fp_mem hc ha
  have henv : env0 d (.list d0 :: ds) = (c0 :: tl ++ rep).map (·.s) := by
    unfold env0
    rw [hmu, List.map_append, List.map_cons, h2, ← hrep, List.map_replicate, ← hc0]
    rfl
  have hst : L2.start N (.ref p :: vs') = (c0 :: tl ++ rep).map (·.v) := by
    rw [start_sh (ds := .list d0 :: ds) (tl := c0 :: tl) hn (by rw [List.map_cons, h1, ← hc0]; rfl) hvl, hrep]
  rw [hst]
  rw [henv] at hrun
  have keep : ∀ {H' : Hp} {cs' : List Cell}, Ok K (S.filter fun a => a != p) H [p] H' cs' → ∀ a u, H a = some u → a ≠ p → H' a = some u := fun o' a u e hne => o'.ext a u e (by simpa using hne)
  -- the parameter at the end
  have par : ∀ {H' : Hp} {cs' tz : List Cell} {env : Ev}, Ok K (S.filter fun a => a != p) H [p] H' (cs' ++ tz) → cs'.map (·.s) = env → (match List.head? env with
        | some (.bw d) => some (r, d)
        | _ => none) = some (r, .list d1) → Rp K H' (.list d1) (.ref p) [p] ∧ p ∈ fp cs' := fun {H' cs' tz env} o' hs hh => by
    subst hs
    cases cs' with
    | nil => cases hh
    | cons c rest =>
      obtain ⟨cv, csl, cf⟩ := c
      cases csl with
      | bw e =>
        have he : e = .list d1 := (Prod.mk.inj (Option.some.inj (show some (r, e) = some (r, PyData.list d1) from hh))).2
        subst he
        obtain ⟨p', q1, q2, q3⟩ := o'.cell ⟨cv, .bw (.list d1), cf⟩ (by simp)
        have q3' : cf = [p'] := q3
        have := o'.bw ⟨cv, .bw (.list d1), cf⟩ (by simp) _ rfl p' (by show p' ∈ cf; rw [q3']; simp)
        have e' : p' = p := by simpa using this
        subst e'
        exact ⟨q2, by rw [fp_cons, q3']; simp⟩
      | _ => cases hh
  cases hex : exS mf Φ wf d.body ((c0 :: tl ++ rep).map (·.s)) with
  | none => rw [hex] at hrun; cases hrun
  | some fe =>
    obtain ⟨fl, env⟩ := fe
    rw [hex] at hrun
    simp only [hmu, if_true] at hrun
    refine ⟨S.filter fun a => a != p, H, [p], _, [], fl, env, rfl, by simpa using o, fun c h => by simp at h, hex, ?_⟩
    -- what every end gives
    have fin : ∀ {H' : Hp} {cs' : List Cell} {x : V} {f : List Addr}, cs'.map (·.s) = env → Ok K (S.filter fun a => a != p) H [p] H' (cs' ++ [⟨some x, r, f⟩]) → (match List.head? env with
        | some (.bw d) => some (r, d)
        | _ => none) = some (r, .list d1) → Q x H' := fun {H' cs' x f} hs o2 hh => by
      have ff : ∀ a ∈ f, a ∈ fp (cs' ++ [(⟨some x, r, f⟩ : Cell)]) := fun a ha => fp_mem (c := ⟨some x, r, f⟩) (by simp) ha
      have nd := o2.nd
      rw [fp_append, fp_cons, fp_nil, List.append_nil] at nd
      obtain ⟨n1, n2, n3⟩ := List.nodup_append.mp nd
      obtain ⟨w1, w2⟩ := par (tz := [⟨some x, r, f⟩]) o2 hs hh
      refine k x H' f (keep o2) w1 (o2.mu p (by rw [fp_append]; exact List.mem_append_left _ w2)) ((o2.cell _ (by simp)).less fun a ha => ?_) n2 fun a ha => ⟨?_, o2.mu a (ff a ha)⟩
      · rcases List.mem_append.mp ha with h | h
        · by_cases e : a = p
          · rw [e, fp_append]
            exact List.mem_append_right _ (List.mem_append_left _ w2)
          · exact List.mem_append_left _ (List.mem_filter.mpr ⟨h, by simpa using e⟩)
        · exact List.mem_append_right _ (ff a h)
      · rcases o2.fr a (ff a ha) with h | h
        · have : a = p := by simpa using h
          exact absurd rfl (n3 p w2 a ha |> fun q => by rw [this] at q; exact q)
        · exact h
    cases fl with
    | rt r' =>
      have hrun' : (match List.head? env with
        | some (.bw d) => some (r', d)
        | _ => none) = some (r, .list d1) := hrun
      have er : r' = r := by
        split at hrun'
        · exact (Prod.mk.inj (Option.some.inj hrun')).1
        · cases hrun'
      subst er
      exact fun x H' cs' f hs o' => fin hs (by simpa using o') hrun'
    | nx =>
      have hrun' : (match List.head? env with
        | some (.bw d) => some (Sl.dp .none, d)
        | _ => none) = some (r, .list d1) := hrun
      have er : Sl.dp .none = r := by
        split at hrun'
        · exact (Prod.mk.inj (Option.some.inj hrun')).1
        · cases hrun'
      subst er
      exact fun H' cs' hs o' => fin (x := .non) (f := []) hs (Ok.addI (by simpa using o') Rp.mk_none) hrun'
    | bk => cases hrun
    | ct => cases hrun
end
end Tv
set_option maxHeartbeats 1000000
/-! TvZ: a def of the text keeps its promise; the law's call. -/
namespace Tv
open PySem PySem.Spec PyProof.Rows L2
section
variable {P : Program} {w : World} {K : PySem.W.Frag} {mg : Str → Option Value} {base : Heap} {mf : Nat → Bool} {Φ : Nat → List D → Option (Sl × D)} {wf : Nat}
/-- the context in which a def's body runs -/
abbrev bodyCx (P : Program) (w : World) (K : PySem.W.Frag) (mg : Str → Option Value) (base : Heap) (N : List Str) (x : Str) (st : Stmt) (f : Addr) (cdv : Value) (A : Around) (outer : List Env) (s : Shared) (H : Hp) : Cx :=
  (cxOf L2.CX0 P w K mg base N x (defScope st) f cdv A outer s H L2.E0).nox
theorem spT_len {d : FDef} {mu : Bool} {vs : List V} {H : Hp} {Q : VK} {E : XK} (h : spT K mu (runF mf Φ wf d) vs H Q E) : vs.length = d.np := by
  have run_len : ∀ {ds : List D} {r : Sl × D}, runF mf Φ wf d ds = some r → ds.length = d.np := fun {ds r} hr => by
    unfold runF at hr
    split at hr
    · cases hr
    · rename_i q
      simpa using q
  cases mu with
  | true =>
    obtain ⟨S, p, d0, vs', ds, F, r, d1, rfl, _, _, _, _, _, rp, _, hr, _⟩ := h
    have := run_len hr
    rw [List.length_cons] at this ⊢
    rw [rp.length]; exact this
  | false =>
    obtain ⟨S, ds, F, r, d', _, rp, _, hr, _⟩ := h
    rw [rp.length]; exact run_len hr
theorem fnG_of {x : Str} {st : Stmt} {f : Addr} {fd : FuncData} {N ps : List Str} {k : Nat} {d : FDef} (F : FunD K x x (defArgs st) (defBody st) (defScope st) [] [] f fd) (sc : FnScope N ps (defScope st)) (hnp : ps.length = d.np) (hns : N.length = d.ns)
    (hbody : ∀ (cdv : Value) (A : Around) (outer : List Env) (s : Shared) (H : Hp), Room k (A.deeper (envOfC x (defScope st) s.heap.objs.size f cdv)) → A.guards = some [] →
      PSs (bodyCx P w K mg base N x st f cdv A outer s H) (defBody st) (tS K mf Φ wf d.body)) : FnG P w K mg base (k + 1) f fd ps (spT K d.mu (runF mf Φ wf d)) := by
  obtain ⟨oc, od, dV, kV, doc, pm, an, cdv, ct, osl, efd, lk, hcd, _⟩ := F.ex
  subst efd
  constructor
  · intro vs H Q E h
    rw [spT_len h, hnp]
  intro A outer s H args us vs Q E room hg e0 hbind rv hsp
  have old : ∀ b o, base.get? b = some o → s.heap.get? b = some o := fun b o e => (e0.bs b o e).1
  have kin : K.In s.heap := e0.mod.kin.keeps old
  have hlen : vs.length = ps.length := by rw [spT_len hsp, hnp]
  have kinds : ∀ y ∈ ps.zip us, (defScope st).names.lookup y.1 = some .local ∨ ((defScope st).names.lookup y.1 = some .cell ∧ ((cellsFrom (s.heap.objs.size + 1) (defScope st).names []).lookup y.1).isSome = true) := by
    intro y hy
    rcases sc.par y.1 (List.of_mem_zip (a := y.1) (b := y.2) hy).1 with q | q
    · exact Or.inl q
    · exact Or.inr ⟨q, PySem.W.cellsFrom_some _ _ _ (.inl q)⟩
  refine codeAny_call_function room.depth (kin _ _ lk) rfl sc.co sc.gen rfl (PySem.W.codeRec_of kin hcd) (hbind _ _ _ _ ?_)
  refine wpAny_newFunctionEnv_cells sc.kind kinds fun env henv s1 x1 => ?_
  subst henv
  have lim : s1.heap.NoLimit := (e0.mod.nolimit.keeps old).keeps x1.toInCall.keep
  refine ⟨lim, codeAny_func ?_⟩
  have inv := inv_start (CX := L2.CX0) (E := L2.E0) sc room.hd e0 hlen rv x1
  have body := hbody cdv A outer s H (room.deeper _) hg
  have reading : tS K mf Φ wf d.body (ends0 Q) (L2.start N vs) H := by
    cases hmu : d.mu with
    | true => rw [hmu] at hsp; exact body_mut hmu hns hsp
    | false => rw [hmu] at hsp; exact body_keep hmu hns hsp
  refine wpAny_mono (body.nox.run [] s1 (L2.start N vs) H (ends0 Q) inv reading) (fun fl s' hs => ?_) fun e s' hs => hs
  cases fl with
  | next => obtain ⟨σ', H', J, q⟩ := hs; exact ⟨V.non, H', J.os, J.bare, J.base, J.hok, rfl, q⟩
  | ret u => obtain ⟨v, σ', H', J, rr, q⟩ := hs; exact ⟨v, H', J.os, J.bare, J.base, J.hok, rr, q⟩
  | brk => obtain ⟨_, _, _, q⟩ := hs; exact q.elim
  | cont => obtain ⟨_, _, _, q⟩ := hs; exact q.elim
end
end Tv
set_option maxHeartbeats 1000000
/-! TwA: a checker: that a text's row is told by a term of the small language. -/
namespace Tv
open PySem PySem.Spec PyProof.Rows L2
structure CC where
  N : List Str
  sc : Scope
  fn : Str → Bool
  fs : List (Str × Nat)
def isStar : Expr → Bool
  | .Starred .. => true
  | _ => false
theorem star_cons {e : Expr} {es : List Expr} {env : Env} (h : isStar e = false) : starEach (e :: es) env = (false, eval e env) :: starEach es env := by
  cases e <;> first | rfl | cases h
theorem plain_any {pos : Pos} {env : Env} : ∀ {es : List Expr}, es.all (fun e => !isStar e) = true → (backTo pos (starEach es env)).any (·.1) = false
  | [], _ => rfl
  | e :: es, h => by
    have h' : isStar e = false ∧ es.all (fun e => !isStar e) = true := by simpa using h
    rw [star_cons h'.1]
    have := plain_any (pos := pos) (env := env) h'.2
    simpa [backTo] using this
theorem few1 {pos : Pos} {e : Expr} {env : Env} (h : isStar e = false) : ((backTo pos (starEach (e :: []) env)).all (fun x => !x.1) && (backToKw pos (keywordEach [] env)).all (fun x => x.1.isSome)
      && decide ((e :: ([] : List Expr)).length + ([] : List Keyword).length + (if ([] : List Keyword).isEmpty then 0 else 1) < 30)) = true := by
  rw [star_cons h]
  rfl
def plainBase : Expr → Bool
  | .Name .. => true
  | .Subscript .. => true
  | .ListComp .. => true
  | _ => false
theorem base_of {o : Expr} {m : Str} {env : Env} (h : plainBase o = true) : attributeBase o m env (eval o env) = eval o env := by
  cases o <;> first | rfl | cases h
def isComp : Expr → Bool
  | .ListComp .. => true
  | .SetComp .. => true
  | .DictComp .. => true
  | _ => false
theorem sw_no {e : Expr} {t : Option Expr} {l : Nat} {env : Env} (h : isComp e = false) : swapsWith e t l env = pure false := by
  cases e <;> first | rfl | cases h
def isSlice : Expr → Bool
  | .Slice .. => true
  | _ => false
theorem plain_ix {i : Expr} (h : isSlice i = false) : PlainIx i := by
  intro o v
  cases i <;> first | rfl | cases h
def isSet : Expr → Bool
  | .Set .. => true
  | _ => false
theorem no_set {e : Expr} {env : Env} (h : isSet e = false) (x : Value) : foldedSetIterable e env x = pure x := by
  cases e <;> first | rfl | cases h
theorem no_marks {op : CmpOp} {e : Expr} (h : isSet e = false) : behindInMarks op e = false := by
  cases e <;> first | rfl | cases h
/-- the test of such an expression is the truth of its value -/
def isVal : Expr → Bool
  | .UnaryOp .Not _ _ => false
  | .BoolOp .. => false
  | .IfExp .. => false
  | .Compare .. => false
  | _ => true
theorem val_true {e : Expr} {env : Env} (h : isVal e = true) (whole : Sem Value) : isTrue e env whole = (do let v ← whole; standAt e.pos; holding [v] (truthy v)) := by
  cases e with
  | UnaryOp op x p => cases op <;> first | rfl | cases h
  | _ => first | rfl | cases h
/-- the context as a rule asks for it -/
structure CX (X : Cx) (c : CC) (mf : Nat → Bool) (Φ : Nat → List D → Option (Sl × D)) (k : Nat) : Prop where
  calm : X.calm = true
  nd : X.N.Nodup
  hN : X.N = c.N
  sc : X.env.scope = c.sc
  kind : c.sc.kind = .function
  fn : X.fn = c.fn
  room : Room k X.A
  hg : X.A.guards = some []
  xe : X.xe = fun _ _ => False
  blt : ∀ b ∈ (["isinstance", "len", "min", "max", "sum", "sorted", "repr", "range", "zip", "enumerate", "int", "bool", "tuple", "list", "str", "dict"] : List String), X.mg (Str.ofString b) = none
  fs : ∀ x id, c.fs.lookup x = some id → ∃ f fd ps, X.mg x = some (.ref f) ∧ PySem.W.keepIn X.K (.ref f) = true ∧ Binds X.K fd ps [] ∧ FnG X.prog X.w X.K X.mg X.base k f fd ps (spT X.K (mf id) (Φ id))
def CC.blk (c : CC) (scope : Scope) : CC := { c with sc := L2.relS scope c.sc, fn := fun x => scope.names.lookup x == some .cell }
section
variable {X : Cx} {c : CC} {mf : Nat → Bool} {Φ : Nat → List D → Option (Sl × D)} {k : Nat}
theorem CX.blk (h : CX X c mf Φ k) {scope : Scope} (hk : scope.kind = .function) (s : Shared) (H : Hp) (C : Addr) (cl : List (Str × Addr)) (fp : List Addr) : CX (X.blk s H scope (compEnvC scope cl C X.env) fp) (c.blk scope) mf Φ k :=
  ⟨h.calm, h.nd, h.hN, by
    show relabel scope X.env = L2.relS scope c.sc
    rw [← h.sc]
    rfl, hk, rfl, h.room, h.hg, rfl, h.blt, h.fs⟩
theorem CX.units (h : CX X c mf Φ k) : X.A.units + 65 < cLine := by have := h.room.un; omega
theorem CX.units1 (h : CX X c mf Φ k) : X.A.units + 64 < cLine := by have := h.room.un; omega
theorem CX.units2 (h : CX X c mf Φ k) : X.A.units + 1 < cLine := by have := h.room.un; omega
theorem CX.pass (h : CX X c mf Φ k) : PassesOwn (model X.prog X.w) X.A X.env X.xe := by rw [h.xe]; exact PassesOwn.never
def CC.vis (c : CC) (x : Str) : Bool := decide (c.sc.names.lookup x = some .local) || decide (c.sc.names.lookup x = some .cell) || decide (c.sc.names.lookup x = some .free)
def CC.nm (c : CC) (i : Nat) (x : Str) : Bool := decide (c.N[i]? = some x) && c.vis x && !(x == ("__debug__" : Str)) && !(x == ("__classdict__" : Str))
def CC.loc (c : CC) (i : Nat) (x : Str) : Bool := decide (c.N[i]? = some x) && (decide (c.sc.names.lookup x = some .local) || (decide (c.sc.names.lookup x = some .cell) && c.fn x))
def CC.gl (c : CC) (x : Str) : Bool := decide (c.sc.names.lookup x = some .globalImplicit)
theorem CX.nm (h : CX X c mf Φ k) {i : Nat} {x : Str} {pos : Pos} (q : c.nm i x = true) : PE X (.Name x pos) (tVar i) := by
  unfold CC.nm CC.vis at q
  simp only [Bool.and_eq_true, Bool.or_eq_true, decide_eq_true_eq, Bool.not_eq_true'] at q
  obtain ⟨⟨⟨h1, h2⟩, h3⟩, h4⟩ := q
  refine pe_var (by rw [h.hN]; exact h1) ?_ h3 h4
  rw [h.sc]
  rcases h2 with (h2 | h2) | h2
  · exact .inl h2
  · exact .inr (.inl h2)
  · exact .inr (.inr h2)
theorem CX.loc (h : CX X c mf Φ k) {i : Nat} {x : Str} {pos : Pos} (q : c.loc i x = true) : PG X (.Name x pos) (gName i) := by
  unfold CC.loc at q
  simp only [Bool.and_eq_true, Bool.or_eq_true, decide_eq_true_eq] at q
  obtain ⟨h1, h2⟩ := q
  have e1 : X.N[i]? = some x := by rw [h.hN]; exact h1
  rcases h2 with h2 | ⟨h2, h3⟩
  · exact pg_name h.nd e1 (.inl (by rw [h.sc]; exact h2)) (.inr (by rw [h.sc]; exact h2))
  · exact pg_name h.nd e1 (.inr (by rw [h.sc]; exact h2)) (.inl (by rw [h.fn]; exact h3))
theorem CX.gl (h : CX X c mf Φ k) {x : Str} (q : c.gl x = true) : Gl X x := by
  show X.env.scope.names.lookup x = _
  rw [h.sc]
  exact of_decide_eq_true q
end
/-! ### the checks -/
def chkBop : Bop → Operator → Bool
  | .add, .Add => true
  | .sub, .Sub => true
  | .mul, .Mult => true
  | .fdiv, .FloorDiv => true
  | .mod, .Mod => true
  | .pow, .Pow => true
  | _, _ => false
theorem chkBop_ok {o : Bop} {p : Operator} (h : chkBop o p = true) : p = o.op := by
  cases o <;> cases p <;> first | rfl | cases h
def chkCop : Cop → CmpOp → Bool
  | .eq, .Eq => true
  | .ne, .NotEq => true
  | .lt, .Lt => true
  | .le, .LtE => true
  | .gt, .Gt => true
  | .ge, .GtE => true
  | .isN, .Is => true
  | .notN, .IsNot => true
  | .inn, .In => true
  | .nin, .NotIn => true
  | _, _ => false
theorem chkCop_ok {o : Cop} {p : CmpOp} (h : chkCop o p = true) : p = o.op := by
  cases o <;> cases p <;> first | rfl | cases h
def chkCst : D → Const → Bool
  | .int i, .int j => decide (i = j)
  | .bool b, .bool d => decide (b = d)
  | .str x, .str y => decide (x = y)
  | .none, .none => true
  | _, _ => false
end Tv
set_option maxHeartbeats 4000000
/-! TwK: zip(xs, ys, strict=True). -/
namespace Tv.ZS
open PySem PySem.Spec PyProof.Rows
/-- a zip that asks for one length -/
abbrev IsZ (h : Heap) (z p q : Addr) (f : Value) : Prop :=
  h.get? z = some { cls := .type "zip", dict := none, data := .fields #[f, .bool false, .bool true, .ref p, .ref q], slots := #[] }
section
variable {prog : Program} {w : World} {A : Around} {E : Value → Shared → Prop} {s : Shared}
theorem draw_item {it l : Addr} {i : Nat} {xs : Array Value} {x : Value} {Q : Option Value → Shared → Prop} (hi : s.heap.IsListIter it l i) (hl : s.heap.IsList l xs) (hx : xs[i]? = some x)
    (k : ∀ h', h'.IsListIter it l (i + 1) → Heap.SameBut it s.heap h' → Q (some x) { s with heap := h' }) : wpAny (model prog w) A (Builtin.SmallTypes.nextOrEnd (.ref it)) Q E s := by
  unfold Builtin.SmallTypes.nextOrEnd
  refine wpAny_bind (wpAny_attempt (wpAny_nextOf_list_item hi hl hx fun h' a b => ?_))
  exact wpAny_pure (k h' a b)
theorem draw_end {it l : Addr} {i : Nat} {xs : Array Value} {Q : Option Value → Shared → Prop} (hh : A.handled = none) (hi : s.heap.IsListIter it l i) (hl : s.heap.IsList l xs) (hx : xs[i]? = none)
    (k : ∀ h', Heap.ExtBut it s.heap h' → Q none { s with heap := h' }) : wpAny (model prog w) A (Builtin.SmallTypes.nextOrEnd (.ref it)) Q E s := by
  unfold Builtin.SmallTypes.nextOrEnd
  refine wpAny_bind (wpAny_attempt (wpAny_nextOf_list_end hh hi hl hx fun h' e he hc => ?_))
  obtain ⟨o, ho, hcl⟩ := hc
  refine wpAny_bind (wpAny_isInstance (T := "StopIteration") (b := true) ⟨o, ho, hcl⟩ isSubtype_stop ?_)
  exact wpAny_pure (k h' he)
theorem stops {α : Type} {Q : α → Shared → Prop} (hh : A.handled = none) (k : ∀ h' e, (∀ b u, s.heap.get? b = some u → h'.get? b = some u) → (∃ o, h'.get? e = some o ∧ o.cls = .type "StopIteration") → E (.ref e) { s with heap := h' }) :
    wpAny (model prog w) A (Builtin.SmallTypes.stopIteration (α := α)) Q E s := by
  show wpAny _ _ (newExc (.type "StopIteration") [] >>= _) _ _ _
  refine wpAny_bind ?_
  simp only [newExc, newTuple]
  refine wpAny_bind (wpAny_newObj_type ?_ (by size_fits))
  refine wpAny_bind (m := firstArgMember _ _) (wpAny_of_eq (a := Value.none) (by simp only [firstArgMember]; rfl) ?_)
  refine wpAny_newObj_type ?_ (by size_fits)
  simp only [raiseNew]
  refine wpAny_bind (wpAny_handled ?_)
  rw [hh]
  refine wpAny_bind (wpAny_pure (wpAny_throw ?_))
  exact k _ _ (fun b u e => Heap.get?_push_of_some _ (Heap.get?_push_of_some _ e)) ⟨_, Heap.get?_push_size _ rfl, rfl⟩
theorem next_item {z p q i1 i2 l1 l2 : Addr} {n1 n2 : Nat} {xs ys : Array Value} {x y a b : Value} {Q : Value → Shared → Prop} (D : ZipApart z p q i1 i2 l1 l2) (hz : IsZ s.heap z p q .none) (hp : IsPair s.heap p (.ref i1) (.ref i2)) (hq : IsPair s.heap q a b)
    (h1 : s.heap.IsListIter i1 l1 n1) (h2 : s.heap.IsListIter i2 l2 n2) (hl1 : s.heap.IsList l1 xs) (hl2 : s.heap.IsList l2 ys) (hx : xs[n1]? = some x) (hy : ys[n2]? = some y)
    (k : ∀ h', IsZ h' z p q (rawInt s.heap.objs.size) → IsPair h' q x y → h'.IsListIter i1 l1 (n1 + 1) → h'.IsListIter i2 l2 (n2 + 1) → IsPair h' s.heap.objs.size x y → h'.objs.size = s.heap.objs.size + 1 →
      (∀ c o, c ≠ z → c ≠ q → c ≠ i1 → c ≠ i2 → s.heap.get? c = some o → h'.get? c = some o) → Q (.ref s.heap.objs.size) { s with heap := h' }) :
    wpAny (model prog w) A (Builtin.«zip.__next__» ⟨[.ref z], []⟩) (fun fin s' => ∃ v, fin = .done (.ret v) ∧ Q v s') E s := by
  show wpAny _ _ (field (.ref z) 2 >>= _) _ _ _
  refine wpAny_bind (wpAny_field hz rfl (x := .bool true) rfl ?_)
  show wpAny _ _ (field (.ref z) 3 >>= _) _ _ _
  refine wpAny_bind (wpAny_field hz rfl (x := .ref p) rfl ?_)
  refine wpAny_bind (wpAny_seqItems hp rfl ?_)
  show wpAny _ _ (Builtin.SmallTypes.ownedTupleIsFree (.ref z) >>= _) _ _ _
  refine wpAny_bind ?_
  unfold Builtin.SmallTypes.ownedTupleIsFree
  refine wpAny_bind (wpAny_field hz rfl (x := .none) rfl (wpAny_pure ?_))
  simp only [if_true]
  refine wpAny_bind (wpAny_rule ?_)
  refine wpAny_bind (wpAny_field hz rfl (x := .ref q) rfl ?_)
  refine wpAny_bind (wpAny_setField_rec hz (by simp) fun g1 z1 s1 => ?_)
  have z1' : IsZ g1 z p q .ellipsis := z1
  refine wpAny_bind ?_
  simp only [List.zipIdx_cons, List.zipIdx_nil, List.forIn_cons, List.forIn_nil]
  refine wpAny_bind (wpAny_bind (wpAny_onRaise ?_))
  show wpAny _ _ (Builtin.SmallTypes.nextOrEnd (.ref i1)) _ _ _
  refine draw_item (h1.extBut s1.extBut D.i1z) (hl1.extBut s1.extBut D.l1z) hx fun g2 i12 s2 => ?_
  have q2 : IsPair g2 q a b := s2.extBut _ _ D.TOi1 (s1.extBut _ _ D.TOz hq)
  refine wpAny_bind (wpAny_seqItems q2 rfl ?_)
  refine wpAny_bind (wpAny_updateSeq_pair q2 fun g3 q3 s3 => ?_)
  have q3' : IsPair g3 q x b := q3
  refine wpAny_bind (wpAny_letGo (wpAny_pure ?_))
  refine wpAny_bind (wpAny_bind (wpAny_onRaise ?_))
  show wpAny _ _ (Builtin.SmallTypes.nextOrEnd (.ref i2)) _ _ _
  have h2' := ((h2.extBut s1.extBut D.i2z).extBut s2.extBut D.i12.symm).extBut s3.extBut D.TOi2.symm
  have l2' := ((hl2.extBut s1.extBut D.l2z).extBut s2.extBut D.l2i1).extBut s3.extBut D.l2TO
  refine draw_item h2' l2' hy fun g4 i24 s4 => ?_
  have q4 : IsPair g4 q x b := s4.extBut _ _ D.TOi2 q3'
  refine wpAny_bind (wpAny_seqItems q4 rfl ?_)
  refine wpAny_bind (wpAny_updateSeq_pair q4 fun g5 q5 s5 => ?_)
  have q5' : IsPair g5 q x y := q5
  refine wpAny_bind (wpAny_letGo (wpAny_pure (wpAny_pure ?_)))
  refine wpAny_bind (wpAny_seqItems q5' rfl (wpAny_bind (wpAny_newTuple ?_)))
  have size5 : g5.objs.size = s.heap.objs.size := by rw [s5.1, s4.1, s3.1, s2.1, s1.1]
  have z5 : IsZ g5 z p q .ellipsis := by
    refine s5.extBut _ _ D.TOz.symm (s4.extBut _ _ D.i2z.symm ?_)
    exact s3.extBut _ _ D.TOz.symm (s2.extBut _ _ D.i1z.symm z1')
  have kept : ∀ c o, c ≠ z → c ≠ q → c ≠ i1 → c ≠ i2 → s.heap.get? c = some o → g5.get? c = some o := by
    intro c o n1 n2 n3 n4 e
    have e2 := s2.extBut _ _ n3 (s1.extBut _ _ n1 e)
    exact s5.extBut _ _ n2 (s4.extBut _ _ n4 (s3.extBut _ _ n2 e2))
  have it1 : g5.IsListIter i1 l1 (n1 + 1) := by
    have e3 := i12.extBut s3.extBut D.TOi1.symm
    exact (e3.extBut s4.extBut D.i12).extBut s5.extBut D.TOi1.symm
  have it2 : g5.IsListIter i2 l2 (n2 + 1) := i24.extBut s5.extBut D.TOi2.symm
  have zl : z < g5.objs.size := Heap.lt_size z5
  show wpAny _ _ (Builtin.SmallTypes.ownedTupleHandOut (.ref z) (.ref g5.objs.size) >>= _) _ _ _
  refine wpAny_bind ?_
  unfold Builtin.SmallTypes.ownedTupleHandOut
  have z6 : IsZ (g5.push { cls := .type "tuple", data := .seq #[x, y] }) z p q .ellipsis := Heap.get?_push_of_some _ z5
  refine wpAny_bind (wpAny_setField_rec z6 (by simp) fun g7 z7 s7 => ?_)
  have z7' : IsZ g7 z p q (rawInt g5.objs.size) := z7
  refine wpAny_setField_rec z7' (by simp) fun g8 z8 s8 => ?_
  have z8' : IsZ g8 z p q (rawInt g5.objs.size) := z8
  have lift : ∀ c o, c ≠ z → g5.get? c = some o → g8.get? c = some o := fun c o n e => s8.extBut _ _ n (s7.extBut _ _ n (Heap.get?_push_of_some _ e))
  have pair8 : IsPair g8 g5.objs.size x y := by
    refine s8.extBut _ _ (Nat.ne_of_gt zl) (s7.extBut _ _ (Nat.ne_of_gt zl) ?_)
    exact Heap.get?_push_size _ rfl
  have size8 : g8.objs.size = g5.objs.size + 1 := by rw [s8.1, s7.1, Heap.size_push]
  rw [size5] at z8' pair8 size8
  refine wpAny_pure ⟨_, rfl, ?_⟩
  show Q (.ref g5.objs.size) _
  rw [size5]
  exact k g8 z8' (lift _ _ D.TOz q5') (it1.at fun o e => lift _ o D.i1z e) (it2.at fun o e => lift _ o D.i2z e) pair8 size8 fun c o n1 n2 n3 n4 e => lift c o n1 (kept c o n1 n2 n3 n4 e)
/-- both have come to their end -/
theorem next_end {z p q i1 i2 l1 l2 : Addr} {n1 n2 : Nat} {xs ys : Array Value} {a b : Value} {Q : Fin → Shared → Prop} (hh : A.handled = none) (D : ZipApart z p q i1 i2 l1 l2) (hz : IsZ s.heap z p q .none) (hp : IsPair s.heap p (.ref i1) (.ref i2)) (hq : IsPair s.heap q a b)
    (h1 : s.heap.IsListIter i1 l1 n1) (h2 : s.heap.IsListIter i2 l2 n2) (hl1 : s.heap.IsList l1 xs) (hl2 : s.heap.IsList l2 ys) (hx : xs[n1]? = none) (hy : ys[n2]? = none)
    (kE : ∀ h' e, (∀ c o, c ≠ z → c ≠ q → c ≠ i1 → c ≠ i2 → s.heap.get? c = some o → h'.get? c = some o) → (∃ o, h'.get? e = some o ∧ o.cls = .type "StopIteration") → E (.ref e) { s with heap := h' }) :
    wpAny (model prog w) A (Builtin.«zip.__next__» ⟨[.ref z], []⟩) Q E s := by
  show wpAny _ _ (field (.ref z) 2 >>= _) _ _ _
  refine wpAny_bind (wpAny_field hz rfl (x := .bool true) rfl ?_)
  show wpAny _ _ (field (.ref z) 3 >>= _) _ _ _
  refine wpAny_bind (wpAny_field hz rfl (x := .ref p) rfl ?_)
  refine wpAny_bind (wpAny_seqItems hp rfl ?_)
  show wpAny _ _ (Builtin.SmallTypes.ownedTupleIsFree (.ref z) >>= _) _ _ _
  refine wpAny_bind ?_
  unfold Builtin.SmallTypes.ownedTupleIsFree
  refine wpAny_bind (wpAny_field hz rfl (x := .none) rfl (wpAny_pure ?_))
  simp only [if_true]
  refine wpAny_bind (wpAny_rule ?_)
  refine wpAny_bind (wpAny_field hz rfl (x := .ref q) rfl ?_)
  refine wpAny_bind (wpAny_setField_rec hz (by simp) fun g1 z1 s1 => ?_)
  have z1' : IsZ g1 z p q .ellipsis := z1
  refine wpAny_bind ?_
  simp only [List.zipIdx_cons, List.zipIdx_nil, List.forIn_cons, List.forIn_nil]
  refine wpAny_bind (wpAny_bind (wpAny_onRaise ?_))
  show wpAny _ _ (Builtin.SmallTypes.nextOrEnd (.ref i1)) _ _ _
  refine draw_end hh (h1.extBut s1.extBut D.i1z) (hl1.extBut s1.extBut D.l1z) hx fun g2 s2 => ?_
  have z2 : IsZ g2 z p q .ellipsis := s2 _ _ D.i1z.symm z1'
  refine wpAny_bind (wpAny_setField_rec z2 (by simp) fun g3 z3 s3 => ?_)
  refine wpAny_bind ?_
  show wpAny _ _ (_ >>= _) _ _ _
  refine wpAny_bind ?_
  simp only [List.drop_succ_cons, List.drop_zero, List.zipIdx_cons, List.zipIdx_nil, List.forIn_cons, List.forIn_nil]
  have h2' : g3.IsListIter i2 l2 n2 := h2.at fun o e => s3.extBut _ _ D.i2z (s2 _ _ D.i12.symm (s1.extBut _ _ D.i2z e))
  have l2' : g3.IsList l2 ys := hl2.at fun o e => s3.extBut _ _ D.l2z (s2 _ _ D.l2i1 (s1.extBut _ _ D.l2z e))
  refine wpAny_bind (wpAny_bind (draw_end hh h2' l2' hy fun g4 s4 => ?_))
  simp only [Option.isSome_none, Bool.false_eq_true, if_false]
  refine wpAny_pure (wpAny_pure ?_)
  refine wpAny_bind (wpAny_rule ?_)
  refine stops hh fun h' e kp he => ?_
  exact kE h' e (fun c o c1 c2 c3 c4 x => kp _ _ (s4 _ _ c4 (s3.extBut _ _ c1 (s2 _ _ c3 (s1.extBut _ _ c1 x))))) he
end
end Tv.ZS
set_option maxHeartbeats 4000000
/-! TwL: zip(xs, ys, strict=True): the walk. -/
namespace Tv.ZS
open PySem PySem.Spec PyProof.Rows
section
variable {prog : Program} {w : World} {A : Around} {E : Value → Shared → Prop} {s : Shared}
theorem py_item {z p q i1 i2 l1 l2 : Addr} {n1 n2 : Nat} {xs ys : Array Value} {x y a b : Value} {Q : Option Value → Shared → Prop} (D : ZipApart z p q i1 i2 l1 l2) (hz : IsZ s.heap z p q .none) (hp : IsPair s.heap p (.ref i1) (.ref i2)) (hq : IsPair s.heap q a b)
    (h1 : s.heap.IsListIter i1 l1 n1) (h2 : s.heap.IsListIter i2 l2 n2) (hl1 : s.heap.IsList l1 xs) (hl2 : s.heap.IsList l2 ys) (hx : xs[n1]? = some x) (hy : ys[n2]? = some y)
    (k : ∀ h', IsZ h' z p q (rawInt s.heap.objs.size) → IsPair h' q x y → h'.IsListIter i1 l1 (n1 + 1) → h'.IsListIter i2 l2 (n2 + 1) → IsPair h' s.heap.objs.size x y → h'.objs.size = s.heap.objs.size + 1 →
      (∀ c o, c ≠ z → c ≠ q → c ≠ i1 → c ≠ i2 → s.heap.get? c = some o → h'.get? c = some o) → Q (some (.ref s.heap.objs.size)) { s with heap := h' }) : wpAny (model prog w) A (pyNext (.ref z)) Q E s := by
  have ty : s.TypeIs (.ref z) "zip" := ⟨_, hz, rfl⟩
  have body := next_item (prog := prog) (w := w) (A := A.in1) (E := fun _ _ => False) (Q := fun v s' => Q (some v) s') D hz hp hq h1 h2 hl1 hl2 hx hy k
  unfold pyNext
  refine wpAny_bind (wpAny_attempt (wpAny_callSpecial?_slot (name := Str.ofString "__next__") ty F.slot_zip_next (wpAny_call_entry F.slot_zip_next ty F.entry_zip_next ?_ (F.args_zip_next_1 _))))
  exact next_item D hz hp hq h1 h2 hl1 hl2 hx hy fun h' a1 a2 a3 a4 a5 a6 a7 => wpAny_pure (k h' a1 a2 a3 a4 a5 a6 a7)
theorem py_end {z p q i1 i2 l1 l2 : Addr} {n1 n2 : Nat} {xs ys : Array Value} {a b : Value} {Q : Option Value → Shared → Prop} (hh : A.handled = none) (D : ZipApart z p q i1 i2 l1 l2) (hz : IsZ s.heap z p q .none) (hp : IsPair s.heap p (.ref i1) (.ref i2)) (hq : IsPair s.heap q a b)
    (h1 : s.heap.IsListIter i1 l1 n1) (h2 : s.heap.IsListIter i2 l2 n2) (hl1 : s.heap.IsList l1 xs) (hl2 : s.heap.IsList l2 ys) (hx : xs[n1]? = none) (hy : ys[n2]? = none)
    (k : ∀ h', (∀ c o, c ≠ z → c ≠ q → c ≠ i1 → c ≠ i2 → s.heap.get? c = some o → h'.get? c = some o) → Q none { s with heap := h' }) : wpAny (model prog w) A (pyNext (.ref z)) Q E s := by
  have ty : s.TypeIs (.ref z) "zip" := ⟨_, hz, rfl⟩
  unfold pyNext
  refine wpAny_bind (wpAny_attempt (wpAny_callSpecial?_slot (name := Str.ofString "__next__") ty F.slot_zip_next (wpAny_call_entry F.slot_zip_next ty F.entry_zip_next ?_ (F.args_zip_next_1 _))))
  refine next_end hh D hz hp hq h1 h2 hl1 hl2 hx hy fun h' e kp he => ?_
  obtain ⟨o, ho, hc⟩ := he
  refine wpAny_bind (wpAny_isInstance (T := "StopIteration") (b := true) ⟨o, ho, hc⟩ isSubtype_stop ?_)
  exact wpAny_pure (k _ kp)
theorem go_tup {elts : List Expr} {kk : Nat} {pos : Pos} {z p q T : Addr} {Q : Unit → Shared → Prop} (hz : IsZ s.heap z p q (rawInt T)) (k : ∀ h', IsZ h' z p q .none → Heap.SameBut z s.heap h' → Q () { s with heap := h' }) :
    wpAny (model prog w) A (letOwnedTupleGo (.Tuple elts kk pos) (.ref z) (.ref T)) Q E s := by
  unfold letOwnedTupleGo
  refine wpAny_bind (wpAny_load hz ?_)
  show wpAny _ _ (if (["enumerate", "zip", "dict_itemiterator", "dict_reverseitemiterator", "odict_iterator", "itertools.zip_longest", "itertools.pairwise"].contains "zip" &&
      (#[rawInt T, .bool false, .bool true, .ref p, .ref q] : Array Value)[0]? == some (rawInt T)) = true then _ else _) Q E s
  rw [if_pos (by simp)]
  refine wpAny_bind (wpAny_rule ?_)
  show wpAny _ _ (setField (.ref z) 0 .none) Q E s
  exact wpAny_setField_rec hz (by simp) fun h' a b => k h' a b
theorem iter_self {z p q : Addr} {f : Value} {Q : Value → Shared → Prop} (hz : IsZ s.heap z p q f) (k : Q (.ref z) s) : wpAny (model prog w) A (pyIter (.ref z)) Q E s := by
  have ty : s.TypeIs (.ref z) "zip" := ⟨_, hz, rfl⟩
  refine wpAny_pyIter_slot ty F.slot_zip_iter (wpAny_call_entry F.slot_zip_iter ty F.entry_zip_iter ?_ (F.args_zip_iter_1 _))
  show wpAny _ _ (ret (.ref z)) _ _ s
  exact wpAny_pure ⟨_, rfl, "zip", _, ty, F.slot_zip_next.lookup, k⟩
end
theorem tc (a b c : Value) : checkTypeCall "zip" ⟨[a, b], [(Str.ofString "strict", c)]⟩ = pure () := by kernel_rfl
theorem nc (a b c : Value) : checkBuiltinCall "zip.__new__" ⟨[.type "zip", a, b], [(Str.ofString "strict", c)]⟩ = pure () := by kernel_rfl
theorem ai (o a b c : Value) : argsOk "object.__init__" ⟨[o, a, b], [(Str.ofString "strict", c)]⟩ := by unfold argsOk; kernel_rfl
abbrev zH5 (h : Heap) (l1 l2 : Addr) : Heap := (zipH4 h l1 l2).push { cls := .type "zip", data := .fields #[.none, .bool false, .bool true, .ref (zipH2 h l1 l2).objs.size, .ref (zipH3 h l1 l2).objs.size] }
theorem meets_new (l1 l2 : Addr) (xs ys : Array Value) :
    Meets (Builtin.«zip.__new__» ⟨[.type "zip", .ref l1, .ref l2], [(Str.ofString "strict", .bool true)]⟩) (fun _ R s => s.heap.IsList l1 xs ∧ s.heap.IsList l2 ys ∧
      R (.ok (.ret (.ref (zipH4 s.heap l1 l2).objs.size))) { s with heap := zH5 s.heap l1 l2 }) :=
  .of_wp fun prog w A R s h => by
    obtain ⟨hp, g, d, tk, os⟩ := s
    obtain ⟨a1, a2, h⟩ := h
    have hsub := sub_zip
    have e1 : (Str.ofString "strict" != ("strict" : Str)) = false := by decide +kernel
    have L1 : Heap.IsList (Shared.heap ⟨hp, g, d, tk, os⟩) l1 xs := a1
    have L2 : Heap.IsList (Shared.heap ⟨hp.push { cls := .type "list_iterator", data := .fields #[.ref l1, .int 0 0] }, g, d, tk, os⟩) l2 ys := Heap.IsList.push a2 _
    wp_walk using wpAny_pyIter_list L1, wpAny_pyIter_list L2
    exact ⟨_, rfl, h⟩
section
variable {prog : Program} {w : World} {A : Around} {E : Value → Shared → Prop} {s : Shared}
theorem call_new {l1 l2 : Addr} {xs ys : Array Value} {Q : Value → Shared → Prop} (a1 : s.heap.IsList l1 xs) (a2 : s.heap.IsList l2 ys)
    (k : ∀ h', IsZ h' (s.heap.objs.size + 4) (s.heap.objs.size + 2) (s.heap.objs.size + 3) .none → IsPair h' (s.heap.objs.size + 2) (.ref s.heap.objs.size) (.ref (s.heap.objs.size + 1)) → IsPair h' (s.heap.objs.size + 3) .none .none →
      h'.IsListIter s.heap.objs.size l1 0 → h'.IsListIter (s.heap.objs.size + 1) l2 0 → (∀ c o, s.heap.get? c = some o → h'.get? c = some o) → Q (.ref (s.heap.objs.size + 4)) { s with heap := h' }) :
    wpAny (model prog w) A (call (.type "zip") [.ref l1, .ref l2] [(Str.ofString "strict", .bool true)]) Q E s := by
  refine callType_newKw F.called_zip (by decide) (tc _ _ _) (nc _ _ _) (fun obj => ai obj _ _ _) F.entry_zip_new (meets_new l1 l2 xs ys) ⟨a1, a2, ?_⟩
  have n1 : (zipH1 s.heap l1).objs.size = s.heap.objs.size + 1 := Heap.size_push ..
  have n2 : (zipH2 s.heap l1 l2).objs.size = s.heap.objs.size + 2 := by rw [Heap.size_push, n1]
  have n3 : (zipH3 s.heap l1 l2).objs.size = s.heap.objs.size + 3 := by rw [Heap.size_push, n2]
  have n4 : (zipH4 s.heap l1 l2).objs.size = s.heap.objs.size + 4 := by rw [Heap.size_push, n3]
  have up : ∀ {h : Heap} {c : Addr} {o u : Obj}, h.get? c = some u → (h.push o).get? c = some u := fun e => Heap.get?_push_of_some _ e
  have b5 : (zH5 s.heap l1 l2).get? (zipH4 s.heap l1 l2).objs.size = some _ := Heap.get?_push_size _ rfl
  have b4 : (zH5 s.heap l1 l2).get? (zipH3 s.heap l1 l2).objs.size = some _ := up (Heap.get?_push_size _ rfl)
  have b3 : (zH5 s.heap l1 l2).get? (zipH2 s.heap l1 l2).objs.size = some _ := up (up (Heap.get?_push_size _ rfl))
  have b2 : (zH5 s.heap l1 l2).get? (zipH1 s.heap l1).objs.size = some _ := up (up (up (Heap.get?_push_size _ rfl)))
  have b1 : (zH5 s.heap l1 l2).get? s.heap.objs.size = some _ := up (up (up (up (Heap.get?_push_size _ rfl))))
  show _ ∧ _
  rw [n2, n3, n4] at b5
  rw [n1, n2] at b3
  rw [n3] at b4
  rw [n1] at b2
  rw [n4]
  exact ⟨⟨_, b5, rfl⟩, k _ b5 b3 b4 ⟨_, b1, rfl, rfl⟩ ⟨_, b2, rfl, rfl⟩ fun c o x => up (up (up (up (up x))))⟩
end
open L2 in
/-- two lists of one length, as they stand at each turn -/
def Its (K : PySem.W.Frag) (a b : Addr) : It :=
  ⟨(Itz K a b).go, (Itz K a b).yld, fun i H => ∃ xs ys : List V, SqL K H a xs ∧ SqL K H b ys ∧ xs.length ≤ i ∧ ys.length ≤ i⟩
open L2 in
theorem turn {P : Program} {w : World} {K : PySem.W.Frag} {elts : List Expr} {kk : Nat} {tpos : Pos} {a b z p q i1 i2 : Addr} (D : ZipApart z p q i1 i2 a b) :
    Turn P w K (.Tuple elts kk tpos) (Its K a b) [z, p, q, i1, i2] z (fun i h => IsZ h z p q .none ∧ IsPair h p (.ref i1) (.ref i2) ∧ (∃ x y, IsPair h q x y) ∧ h.IsListIter i1 a i ∧ h.IsListIter i2 b i) := by
  have five : ∀ {c : Addr}, c ∈ [z, p, q, i1, i2] → c = z ∨ c = p ∨ c = q ∨ c = i1 ∨ c = i2 := fun h => by simpa using h
  refine ⟨by simp, fun i h st c hc => ?_, fun i h h' st kp => ?_, ?_, ?_, fun A i s Q E st h => iter_self st.1 h⟩
  · obtain ⟨hz, hp, ⟨x, y, hq⟩, ⟨o1, e1, _, d1⟩, ⟨o2, e2, _, d2⟩⟩ := st
    rcases five hc with r | r | r | r | r
    · refine ⟨_, by rw [r]; exact hz, ?_⟩
      intro v t
      cases t
    · refine ⟨_, by rw [r]; exact hp, ?_⟩
      intro v t
      cases t
    · refine ⟨_, by rw [r]; exact hq, ?_⟩
      intro v t
      cases t
    · exact ⟨o1, r ▸ e1, fun v t => by rw [d1] at t; cases t⟩
    · exact ⟨o2, r ▸ e2, fun v t => by rw [d2] at t; cases t⟩
  · obtain ⟨hz, hp, ⟨x, y, hq⟩, h1, h2⟩ := st
    exact ⟨kp z (by simp) _ hz, kp p (by simp) _ hp, ⟨x, y, kp q (by simp) _ hq⟩, h1.at fun o e => kp i1 (by simp) o e, h2.at fun o e => kp i2 (by simp) o e⟩
  · intro X hP hw hK hc i pins s σ H E I hf st hg
    subst hP hw hK
    obtain ⟨hz, hp, ⟨x0, y0, hq⟩, h1, h2⟩ := st
    obtain ⟨xs, ys, x, y, sx, sy, gx, gy⟩ := hg
    obtain ⟨us, rv, lx, _⟩ := I.list sx
    obtain ⟨vs, rv2, ly, _⟩ := I.list sy
    obtain ⟨u, hu, ru⟩ := rv.get gx
    obtain ⟨v, hv, rw2⟩ := rv2.get gy
    have zl : z < s.heap.objs.size := Heap.lt_size hz
    refine py_item D hz hp hq h1 h2 lx.isList ly.isList (x := u) (y := v) (by simpa using hu) (by simpa using hv) fun h' z' q' a1 a2 pr _ kp => ?_
    refine ⟨_, rfl, go_tup (s := { s with heap := h' }) z' fun g zg sb => ?_⟩
    have keep : ∀ c o, c ∉ [z, p, q, i1, i2] → s.heap.get? c = some o → g.get? c = some o := fun c o hn e => by
      have n1 : c ≠ z := fun r => hn (by simp [r])
      exact (sb.2 _ n1).trans (kp c o n1 (fun r => hn (by simp [r])) (fun r => hn (by simp [r])) (fun r => hn (by simp [r])) e)
    have tupg : g.get? s.heap.objs.size = some { cls := .type "tuple", data := .seq #[u, v] } := (sb.2 _ (Nat.ne_of_gt zl)).trans pr
    have fresh := I.hok.fresh (a := s.heap.objs.size) (Nat.le_refl _)
    have isNew : ObjOk X.prog X.w (upd H s.heap.objs.size (.tup [x, y])) g s.heap.objs.size (.tup [x, y]) := by
      refine ⟨?_, [u, v], .cons ru (.cons rw2 .nil), ⟨_, tupg, rfl, _, rfl⟩⟩
      show 2 ≤ sizeLine
      decide
    have J := I.turnedNew (t' := s.toks) keep hf (Nat.le_refl _) isNew
    refine ⟨.ref s.heap.objs.size, _, J, rfl, ⟨_, x, y, rfl, fresh, rfl, fun l hl => ?_, fun l hl => ?_⟩, ⟨zg, ?_, ⟨u, v, ?_⟩, ?_, ?_⟩, fun c hcm => ?_⟩
    · rw [I.list_inj hl sx]; exact gx
    · rw [I.list_inj hl sy]; exact gy
    · exact (sb.2 _ D.TIz).trans (kp _ _ D.TIz D.TITO D.TIi1 D.TIi2 hp)
    · exact (sb.2 _ D.TOz).trans q'
    · exact a1.at fun o e => (sb.2 _ D.i1z).trans e
    · exact a2.at fun o e => (sb.2 _ D.i2z).trans e
    · have below : c < s.heap.objs.size := by
        rcases five hcm with r | r | r | r | r
        · exact r ▸ zl
        · exact r ▸ Heap.lt_size hp
        · exact r ▸ Heap.lt_size hq
        · obtain ⟨_, e, _⟩ := h1; exact r ▸ Heap.lt_size e
        · obtain ⟨_, e, _⟩ := h2; exact r ▸ Heap.lt_size e
      rw [upd_ne (Nat.ne_of_lt below)]
      exact (hf c hcm).1
  · intro X hP hw hK hc i pins s σ H E I hf st hg
    subst hP hw hK
    obtain ⟨hz, hp, ⟨x0, y0, hq⟩, h1, h2⟩ := st
    obtain ⟨xs, ys, sx, sy, ex, ey⟩ := hg
    obtain ⟨us, rv, lx, _⟩ := I.list sx
    obtain ⟨vs, rv2, ly, _⟩ := I.list sy
    have e1 := rv.length
    have e2 := rv2.length
    refine py_end (I.ok.hd hc) D hz hp hq h1 h2 lx.isList ly.isList (by simp; omega) (by simp; omega) fun h' kp => ⟨rfl, ?_⟩
    exact I.turnedL (t' := s.toks) (ch := [z, p, q, i1, i2]) (fun c o hn e => kp c o (fun r => hn (by simp [r])) (fun r => hn (by simp [r])) (fun r => hn (by simp [r])) (fun r => hn (by simp [r])) e) hf
end Tv.ZS
set_option maxHeartbeats 4000000
/-! TwM: for .. in zip(xs, ys, strict=True). -/
namespace Tv
open PySem PySem.Spec PyProof.Rows L2
theorem withKw {M : Model} {A : Around} {E : Value → Shared → Prop} {s : Shared} {pos : Pos} {T : String} {args : List (Bool × Sem Value)} {kws : List (Option Str × Sem Value)} {Q : Value → Shared → Prop} (noStar : args.any (·.1) = false) (named : kws.any (·.1.isNone) = false)
    (h : wpAny M A (evalArgs (.type T) true args kws) (fun a t => wpAny M A (call (.type T) a.pos a.kw) Q E t) E s) : wpAny M A (callWith pos (.type T) [] args kws) Q E s := by
  unfold callWith
  refine wpAny_bind (wpAny_holding (wpAny_mono h (fun a t ht => wpAny_bind (wpAny_standAt ?_)) fun _ _ q => q))
  simp only [noStar, named, Bool.or_false, List.nil_append]
  refine wpAny_bind (wpAny_pure (wpAny_bind (wpAny_mono ht (fun r t2 hr => ?_) fun _ _ q => q)))
  exact wpAny_bind (wpAny_holding (wpAny_point (wpAny_pure hr)))
def iZipS (K : PySem.W.Frag) (ta : TA) : TI := fun σ H R => ta σ H fun vs H1 => ∃ a b xs ys, vs = [.ref a, .ref b] ∧ SqL K H1 a xs ∧ SqL K H1 b ys ∧ R (ZS.Its K a b) H1
theorem pi_zipS {X : Cx} {a b : Expr} {ta : TA} {p pos tpos cp kp : Pos} {elts : List Expr} {kk cj : Nat} (hg : Gl X "zip") (hm : X.mg "zip" = none) (ha : PA X [a, b] ta) (hs : isStar a = false) (hs2 : isStar b = false) :
    PI X (.Tuple elts kk tpos) (.Call (.Name "zip" p) [a, b] [⟨some "strict", .Constant (.bool true) cj cp, kp⟩] pos) (iZipS X.K ta) := by
  refine ⟨fun pins s σ H R I h => ?_⟩
  have call : eval (.Call (.Name "zip" p) [a, b] [⟨some "strict", .Constant (.bool true) cj cp, kp⟩] pos) X.env = (do
      let f ← eval (.Name "zip" p) X.env
      callWith pos f [] (backTo pos (starEach [a, b] X.env)) (backToKw pos (keywordEach [⟨some "strict", .Constant (.bool true) cj cp, kp⟩] X.env))) := by rfl
  rw [call]
  refine wpAny_bind (ld_blt I hg hm PyProof.Rows.boot_zip ?_)
  have hst : starEach [a, b] X.env = [(false, eval a X.env), (false, eval b X.env)] := by
    rw [star_cons hs, star_cons hs2]; rfl
  have run := ha.run pos pins s σ H _ I h
  rw [hst] at run ⊢
  refine withKw rfl rfl (evalArgs_kwB rfl (thn run fun us s1 ⟨vs, H1, I1, r1, q1⟩ => ?_))
  refine kws_cons (Constant_bool ?_)
  refine kws_nil ?_
  obtain ⟨x, y, xs, ys, rfl, sx, sy, q⟩ := q1
  obtain ⟨u1, u2, rfl, e1, e2⟩ := Vals.two r1
  obtain rfl : u1 = Value.ref x := e1
  obtain rfl : u2 = Value.ref y := e2
  obtain ⟨us1, rv1, lx, _⟩ := I1.list sx
  obtain ⟨us2, rv2, ly, _⟩ := I1.list sy
  show wpAny _ _ (PySem.call (.type "zip") [.ref x, .ref y] [(Str.ofString "strict", .bool true)]) _ _ _
  refine ZS.call_new lx.isList ly.isList fun h' z1 z2 z3 z4 z5 kp => ZS.iter_self z1 ?_
  have J : Inv X pins σ H1 { s1 with heap := h' } := I1.kept (t' := s1.toks) kp
  refine ⟨s1.heap.objs.size + 4, [s1.heap.objs.size + 4, s1.heap.objs.size + 2, s1.heap.objs.size + 3, s1.heap.objs.size, s1.heap.objs.size + 1], _, _, H1, rfl, J, ZS.turn (PySem.W.ktu_apart s1.heap.objs.size x y lx.lt ly.lt), ⟨z1, z2, ⟨_, _, z3⟩, z4, z5⟩, fun c hc => ?_, q⟩
  have hle : s1.heap.objs.size ≤ c := by
    have five : c = s1.heap.objs.size + 4 ∨ c = s1.heap.objs.size + 2 ∨ c = s1.heap.objs.size + 3 ∨ c = s1.heap.objs.size ∨ c = s1.heap.objs.size + 1 := by simpa using hc
    rcases five with e | e | e | e | e <;> (rw [e]; first | exact Nat.le_refl _ | exact Nat.le_add_right _ _)
  exact I1.fpOk hle (I1.hok.fresh hle)
section
variable {X : Cx} {mf : Nat → Bool} {Φ : Nat → List D → Option (Sl × D)} {pos : Pos}
theorem walk_zipS {S : List Addr} {H0 : Hp} {P : List Addr} {c1 c2 : Cell} {a b : Addr} {ds es : List D} (hg1 : c1.s.good = true) (hv1 : c1.v = some (.ref a)) (hd1 : c1.s.d = .list ds) (hg2 : c2.s.good = true) (hv2 : c2.v = some (.ref b)) (hd2 : c2.s.d = .list es) (hl : ds.length = es.length) :
    WalkOk X.K S H0 P (ZS.Its X.K a b) [c1.dem, c2.dem] (zipD ds es) := fun H cs o => by
  have w := walk_zip (X := X) (S := S) (H0 := H0) (P := P) hg1 hv1 hd1 hg2 hv2 hd2 H cs o
  obtain ⟨xs, G, sl, rl, _⟩ := tmp_list (d := .none) o (by simp) hg1 hv1 hd1
  obtain ⟨ys, G', sl', rl', _⟩ := tmp_list (d := .none) o (by simp) hg2 hv2 hd2
  refine ⟨w.1, xs, ys, sl, sl', ?_, ?_⟩
  · rw [zipD_len, rl.length]; omega
  · rw [zipD_len, rl'.length]; omega
theorem pi_zip2S {a b : Expr} {src : Exs} {p tpos cp kp : Pos} {elts : List Expr} {kk cj : Nat} (hg : Gl X "zip") (hm : X.mg "zip" = none) (ha : ∀ m, PA X [a, b] (tEs X.K mf Φ m src)) (hs : isStar a = false) (hs2 : isStar b = false) :
    PI X (.Tuple elts kk tpos) (.Call (.Name "zip" p) [a, b] [⟨some "strict", .Constant (.bool true) cj cp, kp⟩] pos) (tI X.K mf Φ .zipS src) := by
  refine weakI (pi_zipS hg hm (ha .val) hs hs2) fun σ H R q => tI_src q fun S H0 P cs' ts rs ds xs H' tl o t1 t2 hgd hi hnd k => ?_
  obtain ⟨us, vs, hrd, hl, rfl⟩ := it_zipS hi
  have nv := dem_nvo2 t2 hgd
  have o2 := o.demAll
  obtain ⟨c, b, x, y, rfl, rfl, ev, ev2, ed, ed2⟩ := tl2 t1 t2 hrd
  have gc := tl_all (p := fun r => r.good = true) t2 hgd c (by simp)
  have gb := tl_all (p := fun r => r.good = true) t2 hgd b (by simp)
  obtain ⟨p1, xs1, hx, s1⟩ := ref_list o (by simp) (good_ne gc) ev ed
  obtain ⟨p2, xs2, hy, s2⟩ := ref_list o (by simp) (good_ne gb) ev2 ed2
  subst hx hy
  exact ⟨p1, p2, xs1, xs2, rfl, s1, s2, k _ [c.dem, b.dem] (by simpa using o2) (by simpa using nv) (walk_zipS gc ev ed gb ev2 ed2 hl)⟩
end
end Tv
set_option maxHeartbeats 2000000
/-! TwB: the checker of expressions and targets. -/
namespace Tv
open PySem PySem.Spec PyProof.Rows L2
def bltName : Blt → String
  | .len => "len"
  | .min2 => "min"
  | .max2 => "max"
  | .min1 => "min"
  | .max1 => "max"
  | .sum => "sum"
  | .sorted => "sorted"
  | .int => "int"
  | .repr => "repr"
  | .dict => "dict"
  | .list => "list"
  | .tuple => "tuple"
  | .abs => "abs"
def isAbs : Blt → Bool
  | .abs => true
  | _ => false
def ownOf (N : List Str) (own : List Nat) : List (Str × Nat) := own.map fun i => (N.getD i ⟨#[]⟩, i)
theorem ownOf_snd (N : List Str) (own : List Nat) : (ownOf N own).map (·.2) = own := by
  unfold ownOf
  rw [List.map_map]
  exact List.map_id' own
def isTupE : Expr → Bool
  | .Tuple .. => true
  | _ => false
/-- strict=True -/
def strictKw : Keyword → Bool
  | ⟨some n, .Constant (.bool b) _ _, _⟩ => b && decide (n = ("strict" : Str))
  | _ => false
theorem strictKw_ok {k : Keyword} (h : strictKw k = true) : ∃ j p q, k = ⟨some "strict", .Constant (.bool true) j p, q⟩ := by
  unfold strictKw at h
  split at h
  · rename_i n b j p q
    cases b with
    | false => cases h
    | true =>
      have := of_decide_eq_true (show decide (n = ("strict" : Str)) = true from h)
      subst this
      exact ⟨_, _, _, rfl⟩
  · cases h
def varOk (c : CC) : Ex → Expr → Bool
  | .var i, .Name y _ => c.nm i y
  | _, _ => false
def isVarX : Ex → Bool
  | .var _ => true
  | _ => false
def isNilX : Exs → Bool
  | .nil => true
  | _ => false
theorem varOk_ok {c : CC} {e : Ex} {b : Expr} (h : varOk c e b = true) : ∃ i y p, e = .var i ∧ b = .Name y p ∧ c.nm i y = true := by
  unfold varOk at h
  split at h
  · exact ⟨_, _, _, rfl, rfl, h⟩
  · cases h
section
variable (mf : Nat → Bool)
mutual
def chkE (c : CC) : Ex → Expr → Bool
  | .cst d, a => (match a with
    | .Constant v _ _ => chkCst d v
    | _ => false)
  | .var i, a => (match a with
    | .Name x _ => c.nm i x
    | _ => false)
  | .bin op x y, a => (match a with
    | .BinOp l o r _ => chkBop op o && chkE c x l && chkE c y r
    | _ => false)
  | .cmp op x y, a => (match a with
    | .Compare l [o] [r] _ => chkCop op o && !isSet r && chkE c x l && chkE c y r
    | _ => false)
  | .chain _ _ _ _ _, _ => false
  | .neg x, a => (match a with
    | .UnaryOp .USub l _ => chkE c x l
    | _ => false)
  | .inv x, a => (match a with
    | .UnaryOp .Not l _ => chkE c x l
    | _ => false)
  | .conj x y, a => (match a with
    | .BoolOp .And [l, r] _ => chkE c x l && chkE c y r
    | .BoolOp .And (l :: r :: q :: t) p => chkE c x l && chkE c y (.BoolOp .And (r :: q :: t) p)
    | _ => false)
  | .disj x y, a => (match a with
    | .BoolOp .Or [l, r] _ => chkE c x l && chkE c y r
    | .BoolOp .Or (l :: r :: q :: t) p => chkE c x l && chkE c y (.BoolOp .Or (r :: q :: t) p)
    | _ => false)
  | .ite t x y, a => (match a with
    | .IfExp q l r _ => chkE c t q && chkE c x l && chkE c y r
    | _ => false)
  | .tup es, a => (match a with
    | .Tuple as _ _ => chkEs c es as
    | _ => false)
  | .lst es, a => (match a with
    | .List as _ => chkEs c es as
    | _ => false)
  | .dnew b, a => (match a with
    | .Dict [] [] _ => b
    | _ => false)
  | .idx x i, a => (match a with
    | .Subscript o j _ => !isSlice j && chkE c x o && chkE c i j
    | _ => false)
  | .slc x lo hi, a => (match a with
    | .Subscript o (.Slice l h none _) _ => chkE c x o && (match l with
        | none => isNoneEx lo
        | some l => !isNoneEx lo && chkE c lo l) && (match h with
        | none => isNoneEx hi
        | some h => !isNoneEx hi && chkE c hi h)
    | _ => false)
  | .call f es, a => (match a with
    | .Call (.Name x _) (b :: bs) [] _ => decide (c.fs.lookup x = some f) && c.gl x && !(x == ("__debug__" : Str)) && (b :: bs).all (fun e => !isStar e) &&
      (if mf f then chkM c es b bs else chkEs c es (b :: bs))
    | _ => false)
  | .isi x t, a => (match a with
    | .Call (.Name f _) [o, .Name y _] [] _ => decide (f = ("isinstance" : Str)) && c.gl f && decide (y = Str.ofString t.nm) && c.gl y && !isStar o && chkE c x o
    | _ => false)
  | .blt b es, a => (match a with
    | .Call (.Name x _) (e :: as) [] _ => !isAbs b && decide (x = Str.ofString (bltName b)) && c.gl x && (e :: as).all (fun e => !isStar e) && chkEs c es (e :: as)
    | _ => false)
  | .mth .index o (.cons e .nil), a => (match a with
    | .Call (.Attribute v m ap) [b] [] p => decide (m = ("index" : Str)) && plainBase v && !isStar b && ap.endLine == p.line && chkE c o v && chkE c e b
    | _ => false)
  | .mth .bitlen o .nil, a => (match a with
    | .Call (.Attribute v m ap) [] [] p => decide (m = ("bit_length" : Str)) && plainBase v && ap.endLine == p.line && chkE c o v
    | _ => false)
  | .mth _ _ _, _ => false
  | .comp k src tg own cs e, a => (match a with
    | .ListComp elt [g] scope _ => decide (g.is_async = 0) && chkIt c k src g.target g.iter && !isSet g.iter && blkC c.N c.sc scope (ownOf c.N own) && decide own.Nodup && (tgIx tg).all (fun j => decide (j ∈ own)) && decide (scope.kind = .function) &&
        chkT (c.blk scope) tg g.target && chkEs (c.blk scope) cs g.ifs && decide (g.ifs.length ≤ 1) && chkE (c.blk scope) e elt
    | _ => false)
def chkEs (c : CC) : Exs → List Expr → Bool
  | .nil, as => as.isEmpty
  | .cons e es, as => (match as with
    | a :: as => !isStar a && chkE c e a && chkEs c es as
    | [] => false)
/-- the arguments of a def that changes its first one -/
def chkM (c : CC) : Exs → Expr → List Expr → Bool
  | .nil, _, _ => false
  | .cons e rest, b, bs => (varOk c e b && chkEs c rest bs) || (!isVarX e && isNilX rest && bs.isEmpty && chkE c e b)
/-- what is walked -/
def chkIt (c : CC) (k : ItK) : Exs → Expr → Expr → Bool
  | .cons e .nil, tg, it => (match k, it with
    | .val, it => chkE c e it
    | .rng1, .Call (.Name x _) [a] [] _ => decide (x = ("range" : Str)) && c.gl x && !isStar a && chkE c e a
    | .enum, .Call (.Name x _) [a] [] _ => decide (x = ("enumerate" : Str)) && c.gl x && isTupE tg && !isStar a && chkE c e a
    | _, _ => false)
  | .cons e (.cons d .nil), tg, it => (match k, it with
    | .rng2, .Call (.Name x _) [a, b] [] _ => decide (x = ("range" : Str)) && c.gl x && !isStar a && !isStar b && chkE c e a && chkE c d b
    | .zipS, .Call (.Name x _) [a, b] [kw] _ => decide (x = ("zip" : Str)) && c.gl x && isTupE tg && !isStar a && !isStar b && strictKw kw && chkE c e a && chkE c d b
    | .zip, .Call (.Name x _) [a, b] [] _ => decide (x = ("zip" : Str)) && c.gl x && isTupE tg && !isStar a && !isStar b && chkE c e a && chkE c d b
    | _, _ => false)
  | _, _, _ => false
def chkT (c : CC) : Tg → Expr → Bool
  | .nm i, a => (match a with
    | .Name x _ => c.loc i x
    | _ => false)
  | .tup ts, a => (match a with
    | .Tuple as _ _ => as.all (fun e => !isStar e) && chkTs c ts as
    | _ => false)
  | .sub i k, a => (match a with
    | .Subscript (.Name x _) j _ => c.nm i x && !isSlice j && chkE c k j
    | _ => false)
def chkTs (c : CC) : Tgs → List Expr → Bool
  | .nil, as => as.isEmpty
  | .cons t ts, as => (match as with
    | a :: as => chkT c t a && chkTs c ts as
    | [] => false)
end
end
end Tv
set_option maxHeartbeats 4000000
/-! TwC: the checker's word is true: expressions, targets. -/
namespace Tv
open PySem PySem.Spec PyProof.Rows L2
def DictR : Prop := ∀ X : Cx, X.A.units + 64 < cLine → X.calm = true → CallR X (.type "dict") (rDictT X.prog X.w)
structure Good (X : Cx) (mf : Nat → Bool) (Φ : Nat → List D → Option (Sl × D)) (e : Ex) (a : Expr) : Prop where
  pe : ∀ m, PE X a (tE X.K mf Φ m e)
  pt : PT X a (tT X.K mf Φ e)
  pw : ∀ op vs p, a = .BoolOp op vs p → PW X a (tT X.K mf Φ e)
section
variable {mf : Nat → Bool} {Φ : Nat → List D → Option (Sl × D)} {k : Nat}
theorem Good.val {X : Cx} {e : Ex} {a : Expr} (h : ∀ m, PE X a (tE X.K mf Φ m e)) (hv : isVal a = true) : Good X mf Φ e a :=
  ⟨h, tt_val h (val_true hv), fun op vs p q => by subst q; cases hv⟩
theorem tyname {X : Cx} {x : Str} {T : String} {p : Pos} (hg : Gl X x) (hm : X.mg x = none) (hv : bootBuiltins x = some (.type T)) (hn : x ≠ "__name__") (hdb : (x == ("__debug__" : Str)) = false) : PE X (.Name x p) (tC (.ty T)) :=
  ⟨fun pins s σ H Q I h => ld_blt I hg hm hv ⟨.ty T, H, I, rfl, h⟩ hn hdb⟩
theorem chkCst_ok {X : Cx} {d : D} {v : Const} {j : Nat} {p : Pos} (h : chkCst d v = true) : ∀ m, PE X (.Constant v j p) (tE X.K mf Φ m (.cst d)) := fun m => by
  unfold chkCst at h
  split at h
  · have := of_decide_eq_true h
    subst this
    exact te_int
  · have := of_decide_eq_true h
    subst this
    exact te_cst pe_bl fun H => Rp.mk_bool _
  · have := of_decide_eq_true h
    subst this
    exact te_cst pe_str fun H => Rp.mk_str _
  · exact te_cst (v := .non) ⟨fun _ _ _ H _ I h => Constant_none ⟨.non, H, I, rfl, h⟩⟩ fun H => Rp.mk_none
  · cases h
theorem blt_call {X : Cx} {c : CC} {b : Blt} {x : Str} {p pos : Pos} {e : Expr} {es : List Expr} (h : CX X c mf Φ k) (hb : isAbs b = false) (hx : x = Str.ofString (bltName b)) (hg : Gl X x) (hs : (e :: es).all (fun e => !isStar e) = true) :
    ∀ r t, CallR X b.val r → PA X (e :: es) t → PE X (.Call (.Name x p) (e :: es) [] pos) (tCB r t) := fun r t hr ha => by
  subst hx
  have hs' : isStar e = false ∧ es.all (fun e => !isStar e) = true := by simpa using hs
  have he := star_cons (es := es) (env := X.env) hs'.1
  have hpl := plain_any (pos := pos) (env := X.env) hs'.2
  cases b with
  | len => exact pe_callB hr hg (h.blt _ (by decide)) boot_len ha (by decide) (by decide) he hpl
  | min2 => exact pe_callB hr hg (h.blt _ (by decide)) PyProof.Rows.boot_min ha (by decide) (by decide) he hpl
  | max2 => exact pe_callB hr hg (h.blt _ (by decide)) PyProof.Rows.boot_max ha (by decide) (by decide) he hpl
  | min1 => exact pe_callB hr hg (h.blt _ (by decide)) PyProof.Rows.boot_min ha (by decide) (by decide) he hpl
  | max1 => exact pe_callB hr hg (h.blt _ (by decide)) PyProof.Rows.boot_max ha (by decide) (by decide) he hpl
  | sum => exact pe_callB hr hg (h.blt _ (by decide)) PyProof.Rows.boot_sum ha (by decide) (by decide) he hpl
  | sorted => exact pe_callB hr hg (h.blt _ (by decide)) PyProof.Rows.boot_sorted ha (by decide) (by decide) he hpl
  | repr => exact pe_callB hr hg (h.blt _ (by decide)) PyProof.Rows.boot_repr ha (by decide) (by decide) he hpl
  | int => exact pe_callTy hr hg (h.blt _ (by decide)) PyProof.Rows.boot_int ha (by decide) (by decide) he hpl
  | dict => exact pe_callTy hr hg (h.blt _ (by decide)) PyProof.Rows.boot_dict ha (by decide) (by decide) he hpl
  | list => exact pe_callTy hr hg (h.blt _ (by decide)) PyProof.Rows.boot_list ha (by decide) (by decide) he hpl
  | tuple => exact pe_callTy hr hg (h.blt _ (by decide)) PyProof.Rows.boot_tuple ha (by decide) (by decide) he hpl
  | abs => cases hb
theorem ty_call {X : Cx} {c : CC} {t : Ty} {p : Pos} (h : CX X c mf Φ k) (hg : Gl X (Str.ofString t.nm)) : PE X (.Name (Str.ofString t.nm) p) (tC (.ty t.nm)) := by
  cases t with
  | int => exact tyname hg (h.blt _ (by decide)) PyProof.Rows.boot_int (by decide) (by decide)
  | bool => exact tyname hg (h.blt _ (by decide)) PyProof.Rows.boot_bool (by decide) (by decide)
  | tuple => exact tyname hg (h.blt _ (by decide)) PyProof.Rows.boot_tuple (by decide) (by decide)
  | list => exact tyname hg (h.blt _ (by decide)) PyProof.Rows.boot_list (by decide) (by decide)
  | str => exact tyname hg (h.blt _ (by decide)) PyProof.Rows.boot_str (by decide) (by decide)
  | dict => exact tyname hg (h.blt _ (by decide)) PyProof.Rows.boot_dict (by decide) (by decide)
theorem assign_len {env : Env} : ∀ {es : List Expr}, es.all (fun e => !isStar e) = true → (assignEach es env).length = es.length ∧ (assignEach es env).findIdx? (·.1) = none
  | [], _ => ⟨rfl, rfl⟩
  | e :: es, h => by
    have h' : isStar e = false ∧ es.all (fun e => !isStar e) = true := by simpa using h
    obtain ⟨h1, h2⟩ := assign_len (env := env) h'.2
    have e1 : assignEach (e :: es) env = (false, assign e env) :: assignEach es env := by
      have := h'.1
      cases e <;> first | rfl | cases this
    rw [e1]
    refine ⟨by simp [h1], ?_⟩
    rw [List.findIdx?_cons, h2]
    rfl
theorem assign_cons {env : Env} {e : Expr} {es : List Expr} (h : isStar e = false) : (assignEach (e :: es) env).map (·.2) = assign e env :: (assignEach es env).map (·.2) := by
  cases e <;> first | rfl | cases h
theorem tt_ite {X : Cx} {c a b : Expr} {ec ea eb : Ex} {pos : Pos} (hc : PT X c (tT X.K mf Φ ec)) (ha : PT X a (tT X.K mf Φ ea)) (hb : PT X b (tT X.K mf Φ eb)) : PT X (.IfExp c a b pos) (tT X.K mf Φ (.ite ec ea eb)) := by
  refine ⟨fun pins s σ H Q I q => ?_⟩
  obtain ⟨S, H0, P, cs, ts, r0, bb, env, rfl, o, he, hr, hq, kk⟩ := q
  unfold ev at he
  simp only [Option.bind_eq_bind, Option.bind_eq_some_iff] at he
  obtain ⟨⟨x, e1⟩, h1, he⟩ := he
  simp only at h1 he
  have hq3 : (quiet mf ec = true ∨ noVo ts) ∧ (quiet mf ea = true ∨ noVo ts) ∧ (quiet mf eb = true ∨ noVo ts) := by
    rcases hq with w | w
    · simp only [quiet, Bool.and_eq_true] at w
      exact ⟨.inl w.1.1, .inl w.1.2, .inl w.2⟩
    · exact ⟨.inr w, .inr w, .inr w⟩
  have go : ∀ (t : Bool), x.d = .bool t → tT X.K mf Φ ec (cs.map (·.v)) H (fun t' H' => t' = t ∧ ∃ cs', cs'.map (·.v) = cs.map (·.v) ∧ cs'.map (·.s) = e1 ∧ Ok X.K S H0 P H' (cs' ++ ts) ∧ (quiet mf ec = true → Same H H')) := fun t hx =>
    ⟨S, H0, P, cs, ts, x, t, e1, rfl, o, h1, hx, hq3.1, fun H' cs' hv hs o' same => ⟨rfl, cs', hv, hs, o', same⟩⟩
  show wpAny _ _ (do if ← isTrue c X.env (eval c X.env) then isTrue a X.env (eval a X.env) else isTrue b X.env (eval b X.env)) _ _ s
  split at he
  · rename_i hx
    refine wpAny_bind (thn (hc.run pins s _ H _ I (go true hx)) fun t s1 ⟨H1, I1, ht, cs', hv, hs, o', same⟩ => ?_)
    subst ht
    rw [if_pos rfl]
    refine ha.run pins s1 _ H1 Q I1 ?_
    rw [← hv]
    refine ⟨S, H0, P, cs', ts, r0, bb, env, rfl, o', by rw [hs]; exact he, hr, hq3.2.1, fun H2 cs2 hv2 hs2 o2 same2 => kk H2 cs2 (hv2.trans hv) hs2 o2 fun w => ?_⟩
    simp only [quiet, Bool.and_eq_true] at w
    exact (same w.1.1).trans (same2 w.1.2)
  · rename_i hx
    refine wpAny_bind (thn (hc.run pins s _ H _ I (go false hx)) fun t s1 ⟨H1, I1, ht, cs', hv, hs, o', same⟩ => ?_)
    subst ht
    rw [if_neg Bool.false_ne_true]
    refine hb.run pins s1 _ H1 Q I1 ?_
    rw [← hv]
    refine ⟨S, H0, P, cs', ts, r0, bb, env, rfl, o', by rw [hs]; exact he, hr, hq3.2.2, fun H2 cs2 hv2 hs2 o2 same2 => kk H2 cs2 (hv2.trans hv) hs2 o2 fun w => ?_⟩
    simp only [quiet, Bool.and_eq_true] at w
    exact (same w.1.1).trans (same2 w.2)
  · cases he
end
end Tv
set_option maxHeartbeats 4000000
/-! TwD: the checker's word is true. -/
namespace Tv
open PySem PySem.Spec PyProof.Rows L2
section
variable {mf : Nat → Bool} {Φ : Nat → List D → Option (Sl × D)} {k : Nat}
theorem isv {a b : Bool} (h : (a && b) = true) : a = true ∧ b = true := Bool.and_eq_true_iff.mp h
theorem nst {b : Bool} (h : (!b) = true) : b = false := by cases b <;> first | rfl | cases h
theorem good_cmp {X : Cx} {op : Cop} {l r : Expr} {x y : Ex} {p : Pos} (hu : X.A.units + 64 < cLine) (hm : isSet r = false) (h1 : Good X mf Φ x l) (h2 : Good X mf Φ y r) : Good X mf Φ (.cmp op x y) (.Compare l [op.op] [r] p) :=
  ⟨fun m => te_cmp hu (no_marks hm) h1.pe h2.pe, tt_cmp hu (no_marks hm) h1.pe h2.pe, fun _ _ _ q => by cases q⟩
theorem good_conj2 {X : Cx} {l r : Expr} {x y : Ex} {p : Pos} (h1 : Good X mf Φ x l) (h2 : Good X mf Φ y r) : Good X mf Φ (.conj x y) (.BoolOp .And [l, r] p) := by
  have w := tw_conj (pos := p) h1.pt (pw_and1 h2.pt)
  exact ⟨fun m => te_conj h1.pe fun m => pe_one (h2.pe m), w.pt, fun _ _ _ q => by cases q; exact w⟩
theorem good_conj3 {X : Cx} {l r q : Expr} {t : List Expr} {x y : Ex} {p : Pos} (h1 : Good X mf Φ x l) (h2 : Good X mf Φ y (.BoolOp .And (r :: q :: t) p)) : Good X mf Φ (.conj x y) (.BoolOp .And (l :: r :: q :: t) p) := by
  have w := tw_conj (pos := p) h1.pt (h2.pw _ _ _ rfl)
  exact ⟨fun m => te_conj h1.pe h2.pe, w.pt, fun _ _ _ q => by cases q; exact w⟩
theorem good_disj2 {X : Cx} {l r : Expr} {x y : Ex} {p : Pos} (h1 : Good X mf Φ x l) (h2 : Good X mf Φ y r) : Good X mf Φ (.disj x y) (.BoolOp .Or [l, r] p) := by
  have w := tw_disj (pos := p) h1.pt (pw_or1 h2.pt)
  exact ⟨fun m => te_disj h1.pe fun m => pe_one (h2.pe m), w.pt, fun _ _ _ q => by cases q; exact w⟩
theorem good_disj3 {X : Cx} {l r q : Expr} {t : List Expr} {x y : Ex} {p : Pos} (h1 : Good X mf Φ x l) (h2 : Good X mf Φ y (.BoolOp .Or (r :: q :: t) p)) : Good X mf Φ (.disj x y) (.BoolOp .Or (l :: r :: q :: t) p) := by
  have w := tw_disj (pos := p) h1.pt (h2.pw _ _ _ rfl)
  exact ⟨fun m => te_disj h1.pe h2.pe, w.pt, fun _ _ _ q => by cases q; exact w⟩
mutual
theorem sndE (hD : DictR) : ∀ (e : Ex) (c : CC) (a : Expr) (X : Cx), CX X c mf Φ k → chkE mf c e a = true → Good X mf Φ e a
  | .cst d, c, a, X, hx, h => by
    simp only [chkE] at h
    split at h
    · exact Good.val (chkCst_ok h) rfl
    · cases h
  | .var i, c, a, X, hx, h => by
    simp only [chkE] at h
    split at h
    · exact Good.val (fun m => te_var (hx.nm h)) rfl
    · cases h
  | .bin op x y, c, a, X, hx, h => by
    simp only [chkE] at h
    split at h
    · obtain ⟨h1, h3⟩ := isv h
      obtain ⟨h1, h2⟩ := isv h1
      rw [chkBop_ok h1]
      exact Good.val (fun m => te_bin (sndE hD x c _ X hx h2).pe (sndE hD y c _ X hx h3).pe) rfl
    · cases h
  | .cmp op x y, c, a, X, hx, h => by
    simp only [chkE] at h
    split at h
    · obtain ⟨h1, h3⟩ := isv h
      obtain ⟨h1, h2⟩ := isv h1
      obtain ⟨h1, h4⟩ := isv h1
      rw [chkCop_ok h1]
      exact good_cmp hx.units1 (nst h4) (sndE hD x c _ X hx h2) (sndE hD y c _ X hx h3)
    · cases h
  | .chain _ _ _ _ _, c, a, X, hx, h => by simp only [chkE] at h; cases h
  | .neg x, c, a, X, hx, h => by
    simp only [chkE] at h
    split at h
    · exact Good.val (fun m => te_neg (sndE hD x c _ X hx h).pe) rfl
    · cases h
  | .inv x, c, a, X, hx, h => by
    simp only [chkE] at h
    split at h
    · have g := sndE hD x c _ X hx h
      exact ⟨fun m => te_inv g.pe, tt_inv g.pt, fun _ _ _ q => by cases q⟩
    · cases h
  | .conj x y, c, a, X, hx, h => by
    simp only [chkE] at h
    split at h
    · obtain ⟨h1, h2⟩ := isv h
      exact good_conj2 (sndE hD x c _ X hx h1) (sndE hD y c _ X hx h2)
    · obtain ⟨h1, h2⟩ := isv h
      exact good_conj3 (sndE hD x c _ X hx h1) (sndE hD y c _ X hx h2)
    · cases h
  | .disj x y, c, a, X, hx, h => by
    simp only [chkE] at h
    split at h
    · obtain ⟨h1, h2⟩ := isv h
      exact good_disj2 (sndE hD x c _ X hx h1) (sndE hD y c _ X hx h2)
    · obtain ⟨h1, h2⟩ := isv h
      exact good_disj3 (sndE hD x c _ X hx h1) (sndE hD y c _ X hx h2)
    · cases h
  | .ite t x y, c, a, X, hx, h => by
    simp only [chkE] at h
    split at h
    · obtain ⟨h1, h3⟩ := isv h
      obtain ⟨h1, h2⟩ := isv h1
      have g1 := sndE hD t c _ X hx h1
      have g2 := sndE hD x c _ X hx h2
      have g3 := sndE hD y c _ X hx h3
      exact ⟨fun m => te_ite g1.pt g2.pe g3.pe, tt_ite g1.pt g2.pt g3.pt, fun _ _ _ q => by cases q⟩
    · cases h
  | .tup es, c, a, X, hx, h => by
    simp only [chkE] at h
    split at h
    · exact Good.val (fun m => te_tup (sndEs hD es c _ X hx h)) rfl
    · cases h
  | .lst es, c, a, X, hx, h => by
    simp only [chkE] at h
    split at h
    · exact Good.val (fun m => te_lst (sndEs hD es c _ X hx h)) rfl
    · cases h
  | .dnew b, c, a, X, hx, h => by
    simp only [chkE] at h
    split at h
    · cases b with
      | true => exact Good.val (fun m => te_dnew) rfl
      | false => cases h
    · cases h
  | .idx x i, c, a, X, hx, h => by
    simp only [chkE] at h
    split at h
    · obtain ⟨h1, h3⟩ := isv h
      obtain ⟨h1, h2⟩ := isv h1
      exact Good.val (fun m => te_idx hx.units1 (plain_ix (nst h1)) (sndE hD x c _ X hx h2).pe (sndE hD i c _ X hx h3).pe) rfl
    · cases h
  | .slc x lo hi, c, a, X, hx, h => by
    simp only [chkE] at h
    split at h
    · rename_i o l hh p1 p2
      obtain ⟨h1, h3⟩ := isv h
      obtain ⟨h1, h2⟩ := isv h1
      have gl : PO X l (tO X.K mf Φ lo) := by
        cases l with
        | none => exact to_none h2
        | some l =>
          obtain ⟨q1, q2⟩ := isv h2
          exact to_some (nst q1) (sndE hD lo c _ X hx q2).pe
      have gh : PO X hh (tO X.K mf Φ hi) := by
        cases hh with
        | none => exact to_none h3
        | some l =>
          obtain ⟨q1, q2⟩ := isv h3
          exact to_some (nst q1) (sndE hD hi c _ X hx q2).pe
      exact Good.val (fun m => te_slc (sndE hD x c _ X hx h1).pe gl gh) rfl
    · cases h
  | .call f es, c, a, X, hx, h => by
    simp only [chkE] at h
    split at h
    · rename_i x p1 b bs p2
      obtain ⟨h1, h5⟩ := isv h
      obtain ⟨h1, h4⟩ := isv h1
      obtain ⟨h1, h3⟩ := isv h1
      obtain ⟨h1, h2⟩ := isv h1
      obtain ⟨fa, fd, ps, w1, w2, w3, w4⟩ := hx.fs x f (of_decide_eq_true h1)
      have hst : isStar b = false ∧ bs.all (fun e => !isStar e) = true := by simpa using h4
      have gl := hx.gl h2
      by_cases hm : mf f = true
      · rw [if_pos hm] at h5
        rw [hm] at w4
        cases es with
        | nil => simp only [chkM] at h5; cases h5
        | cons e rest =>
          simp only [chkM] at h5
          rcases Bool.or_eq_true_iff.mp h5 with h5 | h5
          case inr =>
            obtain ⟨h5, q4⟩ := isv h5
            obtain ⟨h5, q3⟩ := isv h5
            obtain ⟨q1, q2⟩ := isv h5
            cases rest with
            | cons _ _ => cases q2
            | nil =>
            cases bs with
            | cons _ _ => cases q3
            | nil =>
            have gs := (sndE hD e c _ X hx q4).pe
            exact Good.val (fun m => te_callM1 w4 hm hx.room hx.hg gl w1 w2 w3 (nst h3) (star_cons hst.1) (plain_any hst.2) (fun i q => by rw [q] at q1; cases q1) fun m => tes_cons (star_cons hst.1) gs (fun m => tes_nil)) rfl
          obtain ⟨q0, q2⟩ := isv h5
          obtain ⟨i, y, p3, rfl, rfl, q1⟩ := varOk_ok q0
          exact Good.val (fun m => te_callM w4 hm hx.room hx.hg gl w1 w2 w3 (nst h3) (star_cons hst.1) (plain_any hst.2) (hx.nm q1) (sndEs hD rest c _ X hx q2)) rfl
      · rw [if_neg hm] at h5
        have hm' : mf f = false := by simpa using hm
        rw [hm'] at w4
        exact Good.val (fun m => te_call w4 hm' hx.room hx.hg gl w1 w2 w3 (nst h3) (star_cons hst.1) (plain_any hst.2) (sndEs hD es c _ X hx h5)) rfl
    · cases h
  | .isi x t, c, a, X, hx, h => by
    simp only [chkE] at h
    split at h
    · obtain ⟨h1, h6⟩ := isv h
      obtain ⟨h1, h5⟩ := isv h1
      obtain ⟨h1, h4⟩ := isv h1
      obtain ⟨h1, h3⟩ := isv h1
      obtain ⟨h1, h2⟩ := isv h1
      have e1 := of_decide_eq_true h1
      have e3 := of_decide_eq_true h3
      subst e1 e3
      exact Good.val (fun m => te_isi (fx := Str.ofString "") (sndE hD x c _ X hx h6).pe (star_cons (nst h5)) rfl (hx.gl h2) (hx.blt _ (by decide)) (ty_call hx (hx.gl h4))) rfl
    · cases h
  | .blt b es, c, a, X, hx, h => by
    simp only [chkE] at h
    split at h
    · obtain ⟨h1, h5⟩ := isv h
      obtain ⟨h1, h4⟩ := isv h1
      obtain ⟨h1, h3⟩ := isv h1
      obtain ⟨h1, h2⟩ := isv h1
      exact Good.val (fun m => te_blt hx.units1 hx.calm hx.hg (hD X hx.units1 hx.calm) (blt_call hx (nst h1) (of_decide_eq_true h2) (hx.gl h3) h4) (sndEs hD es c _ X hx h5)) rfl
    · cases h
  | .mth .index o (.cons e .nil), c, a, X, hx, h => by
    simp only [chkE] at h
    split at h
    · obtain ⟨h1, h6⟩ := isv h
      obtain ⟨h1, h5⟩ := isv h1
      obtain ⟨h1, h4⟩ := isv h1
      obtain ⟨h1, h3⟩ := isv h1
      obtain ⟨h1, h2⟩ := isv h1
      have e1 := of_decide_eq_true h1
      subst e1
      exact Good.val (fun m => te_index hx.units (sndE hD o c _ X hx h5).pe (sndE hD e c _ X hx h6).pe (base_of h2) (few1 (nst h3)) h4 (star_cons (nst h3)) rfl) rfl
    · cases h
  | .mth .bitlen o .nil, c, a, X, hx, h => by
    simp only [chkE] at h
    split at h
    · obtain ⟨h1, h4⟩ := isv h
      obtain ⟨h1, h3⟩ := isv h1
      obtain ⟨h1, h2⟩ := isv h1
      have e1 := of_decide_eq_true h1
      subst e1
      exact Good.val (fun m => te_bits (sndE hD o c _ X hx h4).pe (base_of h2) h3) rfl
    · cases h
  | .mth .index o .nil, c, a, X, hx, h => by simp only [chkE] at h; cases h
  | .mth .index o (.cons _ (.cons _ _)), c, a, X, hx, h => by simp only [chkE] at h; cases h
  | .mth .bitlen o (.cons _ _), c, a, X, hx, h => by simp only [chkE] at h; cases h
  | .mth .get1 o es, c, a, X, hx, h => by simp only [chkE] at h; cases h
  | .mth .get2 o es, c, a, X, hx, h => by simp only [chkE] at h; cases h
  | .comp kd src tg own cs e, c, a, X, hx, h => by
    simp only [chkE] at h
    split at h
    · rename_i elt g scope p
      obtain ⟨tgt, iter, ifs, asy⟩ := g
      obtain ⟨h1, h11⟩ := isv h
      obtain ⟨h1, h10⟩ := isv h1
      obtain ⟨h1, h9⟩ := isv h1
      obtain ⟨h1, h8⟩ := isv h1
      obtain ⟨h1, h7⟩ := isv h1
      obtain ⟨h1, h6⟩ := isv h1
      obtain ⟨h1, h5⟩ := isv h1
      obtain ⟨h1, h4⟩ := isv h1
      obtain ⟨h1, h3⟩ := isv h1
      obtain ⟨h1, h2⟩ := isv h1
      have e1 := of_decide_eq_true h1
      subst e1
      have ok : BlkOk X.N X.env.scope scope (ownOf c.N own) := by
        rw [hx.hN, hx.sc]
        exact blkOk_by h4
      have g := sndIt hD src c kd tgt iter X hx h2
      have hb := fun (s : Shared) (H : Hp) (C : Addr) (cl : List (Str × Addr)) (fp : List Addr) => hx.blk (of_decide_eq_true h7) s H C cl fp
      have tests : ∀ (s : Shared) (H : Hp) (C : Addr) (cl : List (Str × Addr)) (fp : List Addr), PTs (X.blk s H scope (compEnvC scope cl C X.env) fp) ifs (tTs X.K mf Φ cs) := fun s H C cl fp => by
        cases cs with
        | nil =>
          simp only [chkEs] at h9
          cases ifs with
          | nil => exact tts_nil
          | cons _ _ => cases h9
        | cons e1 es1 =>
          simp only [chkEs] at h9
          cases ifs with
          | nil => cases h9
          | cons a1 as1 =>
            obtain ⟨q1, q3⟩ := isv h9
            obtain ⟨q1, q2⟩ := isv q1
            cases as1 with
            | cons a2 as2 => simp at h10
            | nil =>
              cases es1 with
              | cons _ _ => simp only [chkEs] at q3; cases q3
              | nil => exact tts_one (sndE hD e1 _ a1 _ (hb s H C cl fp) q2).pt
      have main := te_comp (m := .val) (X := X) (pos := p) (elt := elt) (ifs := ifs) (conds := cs) (e := e) hx.calm hx.nd g.1 g.2 ok (fun s H C cl fp => sndT hD tg _ tgt _ (hb s H C cl fp) h8) tests (fun s H C cl fp => (sndE hD e _ elt _ (hb s H C cl fp) h11).pe .val) (no_set (nst h3))
        (by rw [ownOf_snd]; exact of_decide_eq_true h5) (fun j hj => by
          rw [ownOf_snd]
          exact of_decide_eq_true (List.all_eq_true.mp h6 j hj))
      rw [ownOf_snd] at main
      exact Good.val (fun m => weak main fun σ H Q q => q) rfl
    · cases h
termination_by e => sizeOf e
theorem sndEs (hD : DictR) : ∀ (es : Exs) (c : CC) (as : List Expr) (X : Cx), CX X c mf Φ k → chkEs mf c es as = true → ∀ m, PA X as (tEs X.K mf Φ m es)
  | .nil, c, as, X, hx, h => by
    simp only [chkEs] at h
    cases as with
    | nil => exact fun m => tes_nil
    | cons _ _ => cases h
  | .cons e es, c, as, X, hx, h => by
    simp only [chkEs] at h
    cases as with
    | nil => cases h
    | cons a as =>
      obtain ⟨h1, h3⟩ := isv h
      obtain ⟨h1, h2⟩ := isv h1
      exact fun m => tes_cons (star_cons (nst h1)) (sndE hD e c a X hx h2).pe (sndEs hD es c as X hx h3)
termination_by es => sizeOf es
theorem sndIt (hD : DictR) : ∀ (src : Exs) (c : CC) (kd : ItK) (tg it : Expr) (X : Cx), CX X c mf Φ k → chkIt mf c kd src tg it = true → PI X tg it (tI X.K mf Φ kd src) ∧ ∀ i, src = .cons (.var i) .nil → kd = .val → PE X it (tVar i)
  | .nil, c, kd, tg, it, X, hx, h => by simp only [chkIt] at h; cases h
  | .cons e .nil, c, kd, tg, it, X, hx, h => by
    simp only [chkIt] at h
    split at h
    · refine ⟨pi_seq (sndE hD e c _ X hx h).pe, fun i hi _ => ?_⟩
      cases hi
      simp only [chkE] at h
      split at h
      · exact hx.nm h
      · cases h
    · obtain ⟨h1, h4⟩ := isv h
      obtain ⟨h1, h3⟩ := isv h1
      obtain ⟨h1, h2⟩ := isv h1
      have e1 := of_decide_eq_true h1
      subst e1
      exact ⟨pi_rng1 (hx.gl h2) (hx.blt _ (by decide)) (fun m => tes_cons (star_cons (nst h3)) (sndE hD e c _ X hx h4).pe fun m => tes_nil) (star_cons (nst h3)), fun i _ q => by cases q⟩
    · obtain ⟨h1, h5⟩ := isv h
      obtain ⟨h1, h4⟩ := isv h1
      obtain ⟨h1, h3⟩ := isv h1
      obtain ⟨h1, h2⟩ := isv h1
      have e1 := of_decide_eq_true h1
      subst e1
      cases tg with
      | Tuple elts kk tpos => exact ⟨pi_enum1 (hx.gl h2) (hx.blt _ (by decide)) (fun m => tes_cons (star_cons (nst h4)) (sndE hD e c _ X hx h5).pe fun m => tes_nil) (star_cons (nst h4)), fun i _ q => by cases q⟩
      | _ => cases h3
    · cases h
  | .cons e (.cons d .nil), c, kd, tg, it, X, hx, h => by
    simp only [chkIt] at h
    split at h
    · obtain ⟨h1, h6⟩ := isv h
      obtain ⟨h1, h5⟩ := isv h1
      obtain ⟨h1, h4⟩ := isv h1
      obtain ⟨h1, h3⟩ := isv h1
      obtain ⟨h1, h2⟩ := isv h1
      have e1 := of_decide_eq_true h1
      subst e1
      refine ⟨pi_rng2 (hx.gl h2) (hx.blt _ (by decide)) (fun m => tes_cons (star_cons (nst h3)) (sndE hD e c _ X hx h5).pe fun m => tes_cons (star_cons (nst h4)) (sndE hD d c _ X hx h6).pe fun m => tes_nil) ?_ (star_cons (nst h4)), fun i q _ => by cases q⟩
      rw [star_cons (nst h3), star_cons (nst h4)]
      rfl
    · obtain ⟨h1, h8⟩ := isv h
      obtain ⟨h1, h7⟩ := isv h1
      obtain ⟨h1, h6⟩ := isv h1
      obtain ⟨h1, h5⟩ := isv h1
      obtain ⟨h1, h4⟩ := isv h1
      obtain ⟨h1, h3⟩ := isv h1
      obtain ⟨h1, h2⟩ := isv h1
      have e1 := of_decide_eq_true h1
      subst e1
      obtain ⟨j, p, q, rfl⟩ := strictKw_ok h6
      cases tg with
      | Tuple elts kk tpos => exact ⟨pi_zip2S (hx.gl h2) (hx.blt _ (by decide)) (fun m => tes_cons (star_cons (nst h4)) (sndE hD e c _ X hx h7).pe fun m => tes_cons (star_cons (nst h5)) (sndE hD d c _ X hx h8).pe fun m => tes_nil) (nst h4) (nst h5), fun i q _ => by cases q⟩
      | _ => cases h3
    · obtain ⟨h1, h7⟩ := isv h
      obtain ⟨h1, h6⟩ := isv h1
      obtain ⟨h1, h5⟩ := isv h1
      obtain ⟨h1, h4⟩ := isv h1
      obtain ⟨h1, h3⟩ := isv h1
      obtain ⟨h1, h2⟩ := isv h1
      have e1 := of_decide_eq_true h1
      subst e1
      cases tg with
      | Tuple elts kk tpos => exact ⟨pi_zip2 (hx.gl h2) (hx.blt _ (by decide)) (fun m => tes_cons (star_cons (nst h4)) (sndE hD e c _ X hx h6).pe fun m => tes_cons (star_cons (nst h5)) (sndE hD d c _ X hx h7).pe fun m => tes_nil) (star_cons (nst h4)) (plain_any (by simp [h5])), fun i q _ => by cases q⟩
      | _ => cases h3
    · cases h
  | .cons e (.cons d (.cons _ _)), c, kd, tg, it, X, hx, h => by simp only [chkIt] at h; cases h
termination_by src => sizeOf src
theorem sndT (hD : DictR) : ∀ (t : Tg) (c : CC) (a : Expr) (X : Cx), CX X c mf Φ k → chkT mf c t a = true → PG X a (gT X.K mf Φ t)
  | .nm i, c, a, X, hx, h => by
    simp only [chkT] at h
    split at h
    · exact gt_nm (hx.loc h)
    · cases h
  | .tup ts, c, a, X, hx, h => by
    simp only [chkT] at h
    split at h
    · obtain ⟨h1, h2⟩ := isv h
      obtain ⟨w1, w2⟩ := assign_len (env := X.env) h1
      obtain ⟨g1, g2⟩ := sndTs hD ts c _ X hx h2 h1
      exact gt_tup hx.calm g1 g2 w1 w2
    · cases h
  | .sub i kx, c, a, X, hx, h => by
    simp only [chkT] at h
    split at h
    · obtain ⟨h1, h3⟩ := isv h
      obtain ⟨h1, h2⟩ := isv h1
      refine gt_sub hx.units2 (hx.nm h1) (sndE hD kx c _ X hx h3).pe fun v => ?_
      rename_i j _ _
      cases j <;> first | rfl | cases h2
    · cases h
termination_by t => sizeOf t
theorem sndTs (hD : DictR) : ∀ (ts : Tgs) (c : CC) (as : List Expr) (X : Cx), CX X c mf Φ k → chkTs mf c ts as = true → as.all (fun e => !isStar e) = true → PGs X as (gTs X.K mf Φ ts) ∧ tgsLen ts = as.length
  | .nil, c, as, X, hx, h, hs => by
    simp only [chkTs] at h
    cases as with
    | nil => exact ⟨gts_nil, rfl⟩
    | cons _ _ => cases h
  | .cons t ts, c, as, X, hx, h, hs => by
    simp only [chkTs] at h
    cases as with
    | nil => cases h
    | cons a as =>
      obtain ⟨h1, h2⟩ := isv h
      have hs' : isStar a = false ∧ as.all (fun e => !isStar e) = true := by simpa using hs
      obtain ⟨g1, g2⟩ := sndTs hD ts c as X hx h2 hs'.2
      exact ⟨gts_cons (sndT hD t c a X hx h1) g1 (assign_cons hs'.1), by simp [tgsLen, g2]⟩
termination_by ts => sizeOf ts
end
end
end Tv
set_option maxHeartbeats 4000000
/-! TwE: the checker of statements. -/
namespace Tv
open PySem PySem.Spec PyProof.Rows L2
theorem sw_cell {elt : Expr} {gs : List Comprehension} {scope : Scope} {pos py : Pos} {y : Str} {l : Nat} {env : Env} (hy : env.scope.names.lookup y ≠ some .local) : swapsWith (.ListComp elt gs scope pos) (some (.Name y py)) l env = pure false := by
  have h : (env.kindOf y == some NameKind.local) = false := by
    rw [beq_eq_false_iff_ne]
    exact hy
  unfold swapsWith
  simp only [h]
  simp
theorem sw2 {x y : Str} {px py pt pt2 : Pos} {kt k2 : Nat} {a b : Expr} {env : Env} (hk : env.scope.kind = .function) (hx : env.scope.names.lookup x = some .local) (hy : env.scope.names.lookup y = some .local) (hne : x ≠ y) (hl : (py.line == px.line) = true) (ha : isStar a = false) (hb : isStar b = false)
    (hf : [a, b].all (foldedForSure 8) = false) (hc : [a, b].all (constantsAlone 8) = false) : swappedStores [.Tuple [.Name x px, .Name y py] kt pt] (.Tuple [a, b] k2 pt2) env = pure (some [x, y]) := by
  have kx : env.kindOf x = some .local := hx
  have ky : env.kindOf y = some .local := hy
  have hbk : env.blockKind = .function := by unfold Env.blockKind; rw [hk]; rfl
  have hne' : ¬ y = x := fun e => hne e.symm
  unfold swappedStores
  dsimp only
  rw [hbk]
  have hl' : py.line = px.line := by simpa using hl
  rw [if_neg (by simp), if_neg (fun h => by
    have h' : ([a, b].any isStar) = true := h
    simp [ha, hb] at h')]
  have hn : (List.filterMap (fun x_1 => match x_1 with
      | Expr.Name id pos => if (env.kindOf id == some NameKind.local && pos.line == (Option.map (fun x : Expr => x.pos.line) [Expr.Name x px, Expr.Name y py].head?).getD 0) = true then some id else none
      | x => none) [Expr.Name x px, Expr.Name y py]) = [x, y] := by
    simp [kx, ky, hl', Expr.pos]
  have hlen : ¬ (([x, y].length != [Expr.Name x px, Expr.Name y py].length || [x, y].eraseDups.length != [x, y].length) = true) := by
    simp [List.eraseDups_cons, hne']
  generalize hL : List.filterMap _ [Expr.Name x px, Expr.Name y py] = L
  have hLe : L = [x, y] := hL.symm.trans hn
  subst hLe
  rw [if_neg hlen, if_neg (by rw [hf]; decide), if_neg (by rw [hc]; decide)]
theorem sw3 {x y z : Str} {px py pz pt pt2 : Pos} {kt k2 : Nat} {a b d : Expr} {env : Env} (hk : env.scope.kind = .function) (hx : env.scope.names.lookup x = some .local) (hy : env.scope.names.lookup y = some .local) (hz : env.scope.names.lookup z = some .local) (hxy : x ≠ y) (hxz : x ≠ z) (hyz : y ≠ z) (hl : (py.line == px.line) = true) (hl2 : (pz.line == px.line) = true) (ha : isStar a = false) (hb : isStar b = false) (hd : isStar d = false)
    (hf : [a, b, d].all (foldedForSure 8) = false) (hc : [a, b, d].all (constantsAlone 8) = false) : swappedStores [.Tuple [.Name x px, .Name y py, .Name z pz] kt pt] (.Tuple [a, b, d] k2 pt2) env = pure (some [x, y, z]) := by
  have kx : env.kindOf x = some .local := hx
  have ky : env.kindOf y = some .local := hy
  have kz : env.kindOf z = some .local := hz
  have hbk : env.blockKind = .function := by unfold Env.blockKind; rw [hk]; rfl
  have h1 : ¬ y = x := fun e => hxy e.symm
  have h2 : ¬ z = x := fun e => hxz e.symm
  have h3 : ¬ z = y := fun e => hyz e.symm
  unfold swappedStores
  dsimp only
  rw [hbk]
  have hl' : py.line = px.line := by simpa using hl
  have hl2' : pz.line = px.line := by simpa using hl2
  rw [if_neg (by simp), if_neg (fun h => by
    have h' : ([a, b, d].any isStar) = true := h
    simp [ha, hb, hd] at h')]
  have hn : (List.filterMap (fun x_1 => match x_1 with
      | Expr.Name id pos => if (env.kindOf id == some NameKind.local && pos.line == (Option.map (fun x : Expr => x.pos.line) [Expr.Name x px, Expr.Name y py, Expr.Name z pz].head?).getD 0) = true then some id else none
      | x => none) [Expr.Name x px, Expr.Name y py, Expr.Name z pz]) = [x, y, z] := by
    simp [kx, ky, kz, hl', hl2', Expr.pos]
  have hlen : ¬ (([x, y, z].length != [Expr.Name x px, Expr.Name y py, Expr.Name z pz].length || [x, y, z].eraseDups.length != [x, y, z].length) = true) := by
    simp [List.eraseDups_cons, h1, h2, h3]
  generalize hL : List.filterMap _ [Expr.Name x px, Expr.Name y py, Expr.Name z pz] = L
  have hLe : L = [x, y, z] := hL.symm.trans hn
  subst hLe
  rw [if_neg hlen, if_neg (by rw [hf]; decide), if_neg (by rw [hc]; decide)]
def subFst : List Expr → Bool
  | .Subscript .. :: _ => true
  | _ => false
theorem sw_sub {ts vs : List Expr} {kt k2 : Nat} {pt pt2 : Pos} {env : Env} (h : subFst ts = true) : swappedStores [.Tuple ts kt pt] (.Tuple vs k2 pt2) env = pure none := by
  cases ts with
  | nil => cases h
  | cons t r =>
    cases t with
    | Subscript o j p =>
      unfold swappedStores
      dsimp only
      split
      · rfl
      split
      · rfl
      rw [if_pos ?_]
      rw [List.filterMap_cons_none rfl]
      generalize hL : List.filterMap _ r = L
      have hle : L.length ≤ r.length := by rw [← hL]; exact List.length_filterMap_le _ _
      have : L.length ≠ (Expr.Subscript o j p :: r).length := by
        rw [List.length_cons]; omega
      simp
      exact .inl (by omega)
    | _ => cases h
def isListE : Expr → Bool
  | .List .. => true
  | _ => false
theorem sw_one {t v : Expr} {env : Env} (h : isTupE t = false ∨ isTupE v = false) (hl : isListE t = false) : swappedStores [t] v env = pure none := by
  rcases h with h | h
  · cases t <;> first | (cases hl; done) | (cases h; done) | rfl
  · cases t with
    | Tuple ts kt pt => cases v <;> first | rfl | cases h
    | List es p => cases hl
    | _ => rfl
section
variable (mf : Nat → Bool)
def chkP (c : CC) (i : Nat) : List Nat → Expr → Bool
  | [], a => (match a with
    | .Name x _ => c.nm i x
    | _ => false)
  | j :: r, a => (match a with
    | .Subscript o (.Constant (.int z) _ _) _ => decide (z = (j : Int)) && chkP c i r o
    | _ => false)
def nmIx : Tg → Option Nat
  | .nm i => some i
  | _ => none
def locX (c : CC) (i : Nat) (x : Str) : Bool := decide (c.N[i]? = some x) && decide (c.sc.names.lookup x = some .local)
/-- target = value -/
def chkAsg (c : CC) (t : Tg) (e : Ex) (tg v : Expr) : Bool := match t, e, tg, v with
  | .nm i, .comp k src tz own cs el, .Name x py, .ListComp elt gs scope pos =>
    if decide (c.sc.names.lookup x = some .local) then decide (c.N[i]? = some x) && (py.line == pos.line) && !(scope.names.any fun (n, k) => n == x && (k == .local || k == .cell)) && chkE mf c (.comp k src tz own cs el) (.ListComp elt gs scope pos)
    else c.loc i x && chkE mf c (.comp k src tz own cs el) (.ListComp elt gs scope pos)
  | .tup (.cons (.nm i) (.cons (.nm j) .nil)), .tup es, .Tuple [.Name x px, .Name y py] _ _, .Tuple [a, b] _ _ =>
    locX c i x && locX c j y && decide (x ≠ y) && decide (i ≠ j) && (py.line == px.line) && !isStar a && !isStar b && !([a, b].all (foldedForSure 8)) && !([a, b].all (constantsAlone 8)) && chkEs mf c es [a, b]
  | .tup (.cons (.nm i) (.cons (.nm j) (.cons (.nm l) .nil))), .tup es, .Tuple [.Name x px, .Name y py, .Name z pz] _ _, .Tuple [a, b, d] _ _ =>
    locX c i x && locX c j y && locX c l z && decide (x ≠ y) && decide (x ≠ z) && decide (y ≠ z) && decide (i ≠ j) && decide (i ≠ l) && decide (j ≠ l) && (py.line == px.line) && (pz.line == px.line) && !isStar a && !isStar b && !isStar d &&
      !([a, b, d].all (foldedForSure 8)) && !([a, b, d].all (constantsAlone 8)) && chkEs mf c es [a, b, d]
  | t, e, tg, v => !isComp v && !isListE tg && (!isTupE tg || !isTupE v || (match tg with
    | .Tuple ts _ _ => subFst ts
    | _ => false)) && !isStar tg && chkT mf c t tg && chkE mf c e v
end
section
variable {mf : Nat → Bool} {Φ : Nat → List D → Option (Sl × D)} {k wf : Nat}
theorem chkP_ok {X : Cx} {c : CC} (hx : CX X c mf Φ k) {i : Nat} : ∀ {r : List Nat} {a : Expr}, chkP c i r a = true → PE X a (tP X.K i r.reverse)
  | [], a, h => by
    simp only [chkP] at h
    split at h
    · exact tp_var (hx.nm h)
    · cases h
  | j :: r, a, h => by
    simp only [chkP] at h
    split at h
    · obtain ⟨h1, h2⟩ := isv h
      have e1 := of_decide_eq_true h1
      subst e1
      rw [List.reverse_cons]
      exact tp_idx (chkP_ok hx h2) (plain_ix rfl)
    · cases h
theorem locX_ok {X : Cx} {c : CC} (hx : CX X c mf Φ k) {i : Nat} {x : Str} (h : locX c i x = true) : X.N[i]? = some x ∧ X.env.scope.names.lookup x = some .local := by
  obtain ⟨h1, h2⟩ := isv h
  exact ⟨by rw [hx.hN]; exact of_decide_eq_true h1, by rw [hx.sc]; exact of_decide_eq_true h2⟩
end
end Tv
set_option maxHeartbeats 4000000
/-! TwF: the checker of statements is sound. -/
namespace Tv
open PySem PySem.Spec PyProof.Rows L2
section
variable {mf : Nat → Bool} {Φ : Nat → List D → Option (Sl × D)} {k wf : Nat}
theorem setLc_ok (hD : DictR) {X : Cx} {c : CC} (hx : CX X c mf Φ k) {i : Nat} {kd : ItK} {src : Exs} {tg : Tg} {own : List Nat} {cs : Exs} {e : Ex} {y : Str} {py pos p : Pos} {elt : Expr} {gs : List Comprehension} {scope : Scope} (hy : X.N[i]? = some y) (hyl : X.env.scope.names.lookup y = some .local)
    (hsw : swapsWith (.ListComp elt gs scope pos) (some (.Name y py)) p.line X.env = pure true) (h : chkE mf c (.comp kd src tg own cs e) (.ListComp elt gs scope pos) = true) : PS X (.Assign [.Name y py] (.ListComp elt gs scope pos) p) (tS X.K mf Φ wf (.asg (.nm i) (.comp kd src tg own cs e))) := by
  simp only [chkE] at h
  match gs, h with
  | [g], h =>
    obtain ⟨tgt, iter, ifs, asy⟩ := g
    simp only at h
    obtain ⟨h1, h11⟩ := isv h
    obtain ⟨h1, h10⟩ := isv h1
    obtain ⟨h1, h9⟩ := isv h1
    obtain ⟨h1, h8⟩ := isv h1
    obtain ⟨h1, h7⟩ := isv h1
    obtain ⟨h1, h6⟩ := isv h1
    obtain ⟨h1, h5⟩ := isv h1
    obtain ⟨h1, h4⟩ := isv h1
    obtain ⟨h1, h3⟩ := isv h1
    obtain ⟨h1, h2⟩ := isv h1
    have e1 := of_decide_eq_true h1
    subst e1
    have ok : BlkOk X.N X.env.scope scope (ownOf c.N own) := by
      rw [hx.hN, hx.sc]
      exact blkOk_by h4
    have g := sndIt hD src c kd tgt iter X hx h2
    have hb := fun (s : Shared) (H : Hp) (C : Addr) (cl : List (Str × Addr)) (fp : List Addr) => hx.blk (of_decide_eq_true h7) s H C cl fp
    have tests : ∀ (s : Shared) (H : Hp) (C : Addr) (cl : List (Str × Addr)) (fp : List Addr), PTs (X.blk s H scope (compEnvC scope cl C X.env) fp) ifs (tTs X.K mf Φ cs) := fun s H C cl fp => by
      cases cs with
      | nil =>
        simp only [chkEs] at h9
        cases ifs with
        | nil => exact tts_nil
        | cons _ _ => cases h9
      | cons e1 es1 =>
        simp only [chkEs] at h9
        cases ifs with
        | nil => cases h9
        | cons a1 as1 =>
          obtain ⟨q1, q3⟩ := isv h9
          obtain ⟨q1, q2⟩ := isv q1
          cases as1 with
          | cons a2 as2 => simp at h10
          | nil =>
            cases es1 with
            | cons _ _ => simp only [chkEs] at q3; cases q3
            | nil => exact tts_one (sndE hD e1 _ a1 _ (hb s H C cl fp) q2).pt
    have main := ts_setLc (wf := wf) (X := X) (pos := pos) (elt := elt) (ifs := ifs) (conds := cs) (e := e) (spos := p) (py := py) hx.calm hx.nd hy hyl hsw g.1 g.2 ok (fun s H C cl fp => sndT hD tg _ tgt _ (hb s H C cl fp) h8) tests (fun s H C cl fp => (sndE hD e _ elt _ (hb s H C cl fp) h11).pe .val) (no_set (nst h3))
      (by rw [ownOf_snd]; exact of_decide_eq_true h5) (fun j hj => by
        rw [ownOf_snd]
        exact of_decide_eq_true (List.all_eq_true.mp h6 j hj))
    rw [ownOf_snd] at main
    exact main
  | [], h => cases h
  | _ :: _ :: _, h => cases h
theorem asg_ok (hD : DictR) {X : Cx} {c : CC} (hx : CX X c mf Φ k) {t : Tg} {e : Ex} {tg v : Expr} {p : Pos} (h : chkAsg mf c t e tg v = true) : PS X (.Assign [tg] v p) (tS X.K mf Φ wf (.asg t e)) := by
  have kind : X.env.scope.kind = .function := by rw [hx.sc]; exact hx.kind
  unfold chkAsg at h
  split at h
  · rename_i i k1 src tz own cs el x py elt gs scope pos
    split at h
    · rename_i hloc
      have hl0 := of_decide_eq_true hloc
      obtain ⟨h1, h4⟩ := isv h
      obtain ⟨h1, h3⟩ := isv h1
      obtain ⟨h1, h2⟩ := isv h1
      have n1 : X.N[i]? = some x := by rw [hx.hN]; exact of_decide_eq_true h1
      have l1 : X.env.scope.names.lookup x = some .local := by rw [hx.sc]; exact hl0
      exact setLc_ok hD hx n1 l1 (sw_true kind l1 h2 (nst h3)) h4
    · rename_i hloc
      obtain ⟨h1, h2⟩ := isv h
      have g := sndE hD _ c _ X hx h2
      refine ts_asg g.pe (gt_nm (hx.loc h1)) ?_ rfl rfl
      show swapsWith (.ListComp elt gs scope pos) (some (.Name x py)) p.line X.env = pure false
      exact sw_cell (by rw [hx.sc]; exact fun q => hloc (decide_eq_true q))
  · rename_i i j es x px y py _ _ a b _ _
    simp only [Bool.and_eq_true] at h
    obtain ⟨⟨⟨⟨⟨⟨⟨⟨⟨h1, h2⟩, h3⟩, h4⟩, h5⟩, h6⟩, h7⟩, h8⟩, h9⟩, h10⟩ := h
    obtain ⟨n1, l1⟩ := locX_ok hx h1
    obtain ⟨n2, l2⟩ := locX_ok hx h2
    exact weakS (ps_par hx.calm hx.nd n1 n2 (of_decide_eq_true h4) l1 l2 (sndEs hD es c _ X hx h10 .val) (sw2 kind l1 l2 (of_decide_eq_true h3) h5 (nst h6) (nst h7) (nst h8) (nst h9)) rfl) fun _ _ _ q => tS_par2 q
  · rename_i i j l es x px y py z pz _ _ a b d _ _
    simp only [Bool.and_eq_true] at h
    obtain ⟨⟨⟨⟨⟨⟨⟨⟨⟨⟨⟨⟨⟨⟨⟨⟨h1, h2⟩, h3⟩, h4⟩, h5⟩, h6⟩, h7⟩, h8⟩, h9⟩, h10⟩, h11⟩, h12⟩, h13⟩, h14⟩, h15⟩, h16⟩, h17⟩ := h
    obtain ⟨n1, l1⟩ := locX_ok hx h1
    obtain ⟨n2, l2⟩ := locX_ok hx h2
    obtain ⟨n3, l3⟩ := locX_ok hx h3
    exact weakS (ps_par3 hx.calm hx.nd n1 n2 n3 (of_decide_eq_true h7) (of_decide_eq_true h8) (of_decide_eq_true h9) l1 l2 l3 (sndEs hD es c _ X hx h17 .val)
      (sw3 kind l1 l2 l3 (of_decide_eq_true h4) (of_decide_eq_true h5) (of_decide_eq_true h6) h10 h11 (nst h12) (nst h13) (nst h14) (nst h15) (nst h16)) rfl) fun _ _ _ q => tS_par3 q
  · simp only [Bool.and_eq_true] at h
    obtain ⟨⟨⟨⟨⟨h1, h2⟩, h3⟩, h4⟩, h5⟩, h6⟩ := h
    have g := sndE hD e c v X hx h6
    have gt := sndT hD t c tg X hx h5
    refine ts_asg g.pe gt ?_ ?_ ?_
    · show swapsWith v (some tg) p.line X.env = pure false
      exact sw_no (nst h1)
    · simp only [Bool.or_eq_true] at h3
      rcases h3 with (h3 | h3) | h3
      · exact sw_one (.inl (nst h3)) (nst h2)
      · exact sw_one (.inr (nst h3)) (nst h2)
      · split at h3
        · cases hv : isTupE v with
          | false => exact sw_one (.inr hv) (nst h2)
          | true =>
            cases v with
            | Tuple vs k2 p2 => exact sw_sub h3
            | _ => cases hv
        · cases h3
    · have := nst h4
      cases tg <;> first | rfl | cases this
end
end Tv
set_option maxHeartbeats 4000000
/-! TwG: the checker of statements, a def's body. -/
namespace Tv
open PySem PySem.Spec PyProof.Rows L2
def intC : Ex → Expr → Bool
  | .cst (.int i), .Constant (.int j) _ _ => decide (i = j)
  | _, _ => false
theorem intC_ok {e : Ex} {a : Expr} (h : intC e a = true) : ∃ i j p, e = .cst (.int i) ∧ a = .Constant (.int i) j p := by
  unfold intC at h
  split at h
  · have := of_decide_eq_true h
    subst this
    exact ⟨_, _, _, rfl, rfl⟩
  · cases h
section
variable (mf : Nat → Bool)
mutual
def chkS (c : CC) : St → Stmt → Bool
  | .nop, s => (match s with
    | .Pass _ => true
    | .Expr (.Constant (.str _) _ _) _ => true
    | _ => false)
  | .seq _ _, _ => false
  | .asg t e, s => (match s with
    | .Assign [tg] v _ => chkAsg mf c t e tg v
    | _ => false)
  | .eff e, s => (match s with
    | .Expr v _ => !isComp v && chkE mf c e v
    | _ => false)
  | .app i e, s => (match s with
    | .Expr (.Call (.Attribute (.Name x _) m ap) [a] [] cp) _ => decide (m = ("append" : Str)) && c.nm i x && !isStar a && ap.endLine == cp.line && chkE mf c e a
    | _ => false)
  | .poke i path e, s => (match s with
    | .Expr (.Call (.Attribute o m ap) [a] [] cp) _ => decide (m = ("append" : Str)) && chkP c i path.reverse o && plainBase o && !isStar a && ap.endLine == cp.line && intC e a
    | _ => false)
  | .pop i e, s => (match s with
    | .Expr (.Call (.Attribute (.Name x _) m ap) [a] [] cp) _ => decide (m = ("pop" : Str)) && c.nm i x && !isStar a && ap.endLine == cp.line && chkE mf c e a
    | _ => false)
  | .ifs e x y, s => (match s with
    | .If t as bs _ => chkE mf c e t && chkSs c x as && chkSs c y bs
    | _ => false)
  | .loop k src tg b, s => (match s with
    | .For t it body [] _ => chkIt mf c k src t it && !isSet it && chkT mf c tg t && chkSs c b body
    | _ => false)
  | .whl e b, s => (match s with
    | .While t body [] _ => chkE mf c e t && chkSs c b body
    | _ => false)
  | .ret e, s => (match s with
    | .Return (some v) _ => chkE mf c e v
    | _ => false)
  | .brk, s => (match s with
    | .Break _ => true
    | _ => false)
  | .cont, s => (match s with
    | .Continue _ => true
    | _ => false)
  | .halt, _ => true
def chkSs (c : CC) : St → List Stmt → Bool
  | .nop, ss => ss.isEmpty
  | .seq a b, ss => (match ss with
    | s :: r => chkS c a s && chkSs c b r
    | [] => false)
  | _, _ => false
end
end
section
variable {mf : Nat → Bool} {Φ : Nat → List D → Option (Sl × D)} {k wf : Nat}
mutual
theorem sndS (hD : DictR) {X : Cx} {c : CC} (hx : CX X c mf Φ k) : ∀ (st : St) (s : Stmt), chkS mf c st s = true → PS X s (tS X.K mf Φ wf st)
  | .nop, s, h => by
    simp only [chkS] at h
    split at h
    · exact ts_nop ps_pass
    · exact ts_nop ps_doc
    · cases h
  | .seq _ _, s, h => by simp only [chkS] at h; cases h
  | .asg t e, s, h => by
    simp only [chkS] at h
    split at h
    · exact asg_ok hD hx h
    · cases h
  | .eff e, s, h => by
    simp only [chkS] at h
    split at h
    · obtain ⟨h1, h2⟩ := isv h
      exact ts_eff (sndE hD e c _ X hx h2).pe (sw_no (nst h1))
    · cases h
  | .app i e, s, h => by
    simp only [chkS] at h
    split at h
    · obtain ⟨h1, h5⟩ := isv h
      obtain ⟨h1, h4⟩ := isv h1
      obtain ⟨h1, h3⟩ := isv h1
      obtain ⟨h1, h2⟩ := isv h1
      have e1 := of_decide_eq_true h1
      subst e1
      exact ts_app (hx.nm h2) (sndE hD e c _ X hx h5).pe (base_of rfl) (few1 (nst h3)) h4 (star_cons (nst h3)) rfl rfl
    · cases h
  | .poke i path e, s, h => by
    simp only [chkS] at h
    split at h
    · obtain ⟨h1, h6⟩ := isv h
      obtain ⟨h1, h5⟩ := isv h1
      obtain ⟨h1, h4⟩ := isv h1
      obtain ⟨h1, h3⟩ := isv h1
      obtain ⟨h1, h2⟩ := isv h1
      have e1 := of_decide_eq_true h1
      subst e1
      obtain ⟨n, j, p, rfl, rfl⟩ := intC_ok h6
      have g := chkP_ok hx h2
      rw [List.reverse_reverse] at g
      exact ts_poke (c := .int n) (vc := .int n) g pe_int (fun H => Rp.mk_int _) (base_of h3) (few1 (nst h4)) h5 (star_cons (nst h4)) rfl rfl
    · cases h
  | .pop i e, s, h => by
    simp only [chkS] at h
    split at h
    · obtain ⟨h1, h5⟩ := isv h
      obtain ⟨h1, h4⟩ := isv h1
      obtain ⟨h1, h3⟩ := isv h1
      obtain ⟨h1, h2⟩ := isv h1
      have e1 := of_decide_eq_true h1
      subst e1
      exact ts_pop hx.units2 (hx.nm h2) (sndE hD e c _ X hx h5).pe (base_of rfl) (few1 (nst h3)) h4 (star_cons (nst h3)) rfl rfl
    · cases h
  | .ifs e x y, s, h => by
    simp only [chkS] at h
    split at h
    · obtain ⟨h1, h3⟩ := isv h
      obtain ⟨h1, h2⟩ := isv h1
      exact ts_if (sndE hD e c _ X hx h1).pt (sndSs hD hx x _ h2) (sndSs hD hx y _ h3)
    · cases h
  | .loop kd src tg b, s, h => by
    simp only [chkS] at h
    split at h
    · obtain ⟨h1, h4⟩ := isv h
      obtain ⟨h1, h3⟩ := isv h1
      obtain ⟨h1, h2⟩ := isv h1
      have g := sndIt hD src c kd _ _ X hx h1
      exact ts_for hx.pass hx.calm g.1 g.2 (sndT hD tg c _ X hx h3) (sndSs hD hx b _ h4) (no_set (nst h2))
    · cases h
  | .whl e b, s, h => by
    simp only [chkS] at h
    split at h
    · obtain ⟨h1, h2⟩ := isv h
      exact ts_while hx.pass (sndE hD e c _ X hx h1).pt (sndSs hD hx b _ h2)
    · cases h
  | .ret e, s, h => by
    simp only [chkS] at h
    split at h
    · exact ts_ret (sndE hD e c _ X hx h).pe
    · cases h
  | .brk, s, h => by
    simp only [chkS] at h
    split at h
    · exact ts_brk
    · cases h
  | .cont, s, h => by
    simp only [chkS] at h
    split at h
    · exact ts_cont
    · cases h
  | .halt, s, h => ts_halt
termination_by st => sizeOf st
theorem sndSs (hD : DictR) {X : Cx} {c : CC} (hx : CX X c mf Φ k) : ∀ (st : St) (ss : List Stmt), chkSs mf c st ss = true → PSs X ss (tS X.K mf Φ wf st)
  | .nop, ss, h => by
    simp only [chkSs] at h
    cases ss with
    | nil => exact tss_nil
    | cons _ _ => cases h
  | .seq a b, ss, h => by
    simp only [chkSs] at h
    cases ss with
    | nil => cases h
    | cons s r =>
      obtain ⟨h1, h2⟩ := isv h
      exact tss_cons (sndS hD hx a s h1) (sndSs hD hx b r h2)
  | .asg _ _, ss, h => by simp only [chkSs] at h; cases h
  | .eff _, ss, h => by simp only [chkSs] at h; cases h
  | .app _ _, ss, h => by simp only [chkSs] at h; cases h
  | .poke _ _ _, ss, h => by simp only [chkSs] at h; cases h
  | .pop _ _, ss, h => by simp only [chkSs] at h; cases h
  | .ifs _ _ _, ss, h => by simp only [chkSs] at h; cases h
  | .loop _ _ _ _, ss, h => by simp only [chkSs] at h; cases h
  | .whl _ _, ss, h => by simp only [chkSs] at h; cases h
  | .ret _, ss, h => by simp only [chkSs] at h; cases h
  | .brk, ss, h => by simp only [chkSs] at h; cases h
  | .cont, ss, h => by simp only [chkSs] at h; cases h
  | .halt, ss, h => by simp only [chkSs] at h; cases h
termination_by st => sizeOf st
end
end
end Tv
set_option maxHeartbeats 4000000
/-! TwH: all defs of a table keep their promises. -/
namespace Tv
open PySem PySem.Spec PyProof.Rows L2
/-- what is known of the text's defs behind the top -/
structure Facts (K : PySem.W.Frag) (mg : Str → Option Value) (T : Tbl) (fs : List (Str × Nat)) : Prop where
  fn : ∀ x id, fs.lookup x = some id → ∃ (st : Stmt) (f : Addr) (fd : FuncData) (N ps : List Str) (d : FDef), T id = some d ∧ FunD K x x (defArgs st) (defBody st) (defScope st) [] [] f fd ∧ mg x = some (.ref f) ∧ Binds K fd ps [] ∧
    C8.scC N ps (defScope st) = true ∧ ps.length = d.np ∧ N.length = d.ns ∧ chkSs (mutOf T) ⟨N, defScope st, fun _ => true, fs⟩ d.body (defBody st) = true
  blt : ∀ b ∈ (["isinstance", "len", "min", "max", "sum", "sorted", "repr", "range", "zip", "enumerate", "int", "bool", "tuple", "list", "str", "dict"] : List String), mg (Str.ofString b) = none
theorem allG {P : Program} {w : World} {K : PySem.W.Frag} {mg : Str → Option Value} {base : Heap} {T : Tbl} {fs : List (Str × Nat)} {wf : Nat} (hD : DictR) (E : Facts K mg T fs) : ∀ (k : Nat) (x : Str) (id : Nat), fs.lookup x = some id →
    ∃ f fd ps, mg x = some (.ref f) ∧ PySem.W.keepIn K (.ref f) = true ∧ Binds K fd ps [] ∧ FnG P w K mg base k f fd ps (spT K (mutOf T id) (sem T wf k id))
  | 0, x, id, h => by
    obtain ⟨st, f, fd, N, ps, d, h1, h2, h3, h4, h5, h6, h7, h8⟩ := E.fn x id h
    have no : ∀ {vs : List V} {H : Hp} {Q : VK} {X : XK}, ¬ spT K (mutOf T id) (sem T wf 0 id) vs H Q X := fun {vs H Q X} q => by
      cases hm : mutOf T id with
      | true =>
        rw [hm] at q
        obtain ⟨_, _, _, _, _, _, _, _, _, _, _, _, _, _, _, _, hr, _⟩ := q
        cases hr
      | false =>
        rw [hm] at q
        obtain ⟨_, _, _, _, _, _, _, _, hr, _⟩ := q
        cases hr
    exact ⟨f, fd, ps, h3, h2.kp, h4, ⟨fun vs H Q X q => absurd q no, fun A outer s H args us vs Q X _ _ _ _ _ q => absurd q no⟩⟩
  | k + 1, x, id, h => by
    obtain ⟨st, f, fd, N, ps, d, h1, h2, h3, h4, h5, h6, h7, h8⟩ := E.fn x id h
    refine ⟨f, fd, ps, h3, h2.kp, h4, ?_⟩
    have es : sem T wf (k + 1) id = runF (mutOf T) (sem T wf k) wf d := by
      funext ds
      show (match T id with
        | some fd => runF (mutOf T) (sem T wf k) wf fd ds
        | none => none) = _
      rw [h1]
    have em : mutOf T id = d.mu := by
      unfold mutOf
      rw [h1]
    rw [es, em]
    have sc := C8.fnScope_by h5
    refine fnG_of h2 sc h6 h7 fun cdv A outer s H hroom hg => ?_
    refine sndSs (mf := mutOf T) (Φ := sem T wf k) (k := k) hD (c := ⟨N, defScope st, fun _ => true, fs⟩) ?_ d.body (defBody st) h8
    exact ⟨rfl, sc.nd, rfl, rfl, sc.kind, rfl, hroom, hg, rfl, E.blt, fun y id' hy => allG hD E k y id' hy⟩
end Tv
set_option maxHeartbeats 4000000
/-! TwI: dict(d), the keys of d being tuples of ints. -/
namespace Tv
open PySem PySem.Spec PyProof.Rows L2
section
variable {prog : Program} {w : World} {K : Type} [DecidableEq K] {knd : HeapKind prog w K} {A : Around} {E : Value → Shared → Prop} {s : Shared}
/-- dict(o) where no two keys have one hash -/
theorem dictCall {o : Addr} {more : List (K × Addr × Value)} {Q : Value → Shared → Prop} (hu : knd.room A.in1.in1) (sys : (o == sysModules) = false) (ho : s.heap.DictOfH knd o more) (tup : ∀ x ∈ more, ∀ s' : Shared, (∀ b u, s.heap.get? b = some u → s'.heap.get? b = some u) → s'.TypeIs (.ref x.2.1) "tuple")
    (apart : (more.map fun x => knd.hash x.1).Nodup) (small : more.length ≤ sizeLine)
    (pushed : (s.heap.push { cls := .type "dict", data := .dict #[] }).DictOfH knd o more)
    (h : ∀ h', h'.DictOfH knd s.heap.objs.size more → Heap.SameBut s.heap.objs.size (s.heap.push { cls := .type "dict", data := .dict #[] }) h' → Q (.ref s.heap.objs.size) { s with heap := h' }) :
    wpAny (model prog w) A (call (.type "dict") [.ref o]) Q E s := by
  refine callType_codes (Q₁ := fun obj t => obj = .ref s.heap.objs.size ∧ t = { s with heap := s.heap.push { cls := .type "dict", data := .dict #[] } }) F.kt_called_dict (F.kt_typeCall_dict_1 _) F.entry_dict_init (kt_code_dict_new _ ⟨rfl, rfl⟩) ?_
  intro obj t ht
  obtain ⟨eo, et⟩ := ht
  subst eo et
  have fresh : (s.heap.push { cls := .type "dict", data := .dict #[] }).DictOfH knd s.heap.objs.size [] := Heap.DictOfH.new s.heap
  have ne : s.heap.objs.size ≠ o := fun e => by
    obtain ⟨_, _, _, hg, _⟩ := ho
    exact Nat.lt_irrefl _ (e ▸ Heap.lt_size hg)
  refine ⟨fresh.typeIs, F.args_dict_init_2 _ _, ?_⟩
  unfold Builtin.«dict.__init__»
  refine wpAny_bind ?_
  unfold Builtin.Dict.selfAndRest
  refine wpAny_bind (wpAny_notOrdered_dict fresh.typeIs ?_)
  show wpAny _ _ (pure (s.heap.objs.size, [Value.ref o])) _ _ _
  refine wpAny_pure ?_
  show wpAny _ _ (Builtin.Dict.updateFrom "dict.__init__" s.heap.objs.size (.ref o) [] .none) _ _ _
  have same := storedAllH_nil_of_nodup more ho.nodup
  refine updateFrom_dictH (A := A.in1) .none hu ne sys fresh pushed (.inr ⟨fun x hx => tup x hx _ fun b u e => Heap.get?_push_of_some _ e, apart⟩) (by simpa using small) fun h' hd' _ hs => ?_
  rw [same] at hd'
  exact ⟨rfl, h h' hd' hs⟩
end
theorem dictR : DictR := by
  intro X hu hc pins s σ H xs us Q I r q
  obtain ⟨a, kvs, rfl, ha, hnd, k⟩ := q
  obtain rfl := Vals.ref1 r
  obtain ⟨z, hsys, ks, rel, dd⟩ := dt_rd I.hok ha
  have hsz : ks.length ≤ sizeLine := by
    have := Paired.length rel
    omega
  have is_at : ∀ {h' : Heap}, (∀ b u, s.heap.get? b = some u → h'.get? b = some u) → ∀ x ∈ ks, (tupleKind (mixKind X.prog X.w)).is h' x.1 x.2.1 := fun {h'} kp x hx => by
    obtain ⟨_, _, _, _, _, _, _, his, _⟩ := id dd
    obtain ⟨o, its, n, w1, w2, w3, w4⟩ := his x hx
    exact ⟨o, its, n, kp _ _ w1, w2, w3, w4⟩
  have keys : ∀ {kv : List (List Key × V)} {xs : List (List Key × Addr × Value)}, KT H kv xs → xs.map (·.1) = kv.map (·.1) := by
    intro kv xs q
    induction q with
    | nil => rfl
    | cons e t ih => rw [List.map_cons, List.map_cons, ih, e.1]
  have ap : (ks.map fun x => (tupleKind (mixKind X.prog X.w)).hash x.1).Nodup := by
    have e1 : (ks.map fun x => (tupleKind (mixKind X.prog X.w)).hash x.1) = (ks.map (·.1)).map (tupleKeyHash (mixKind X.prog X.w)) := by
      rw [List.map_map]; rfl
    rw [e1, keys rel, List.map_map]
    exact hnd
  have pk : ∀ b u, s.heap.get? b = some u → (s.heap.push { cls := .type "dict", data := .dict #[] }).get? b = some u := fun b u e => Heap.get?_push_of_some _ e
  have pushed : (s.heap.push { cls := .type "dict", data := .dict #[] }).DictOfH (tupleKind (mixKind X.prog X.w)) a ks := by
    obtain ⟨o, es, ep, w1, w2, w3, w4, _, w6⟩ := id dd
    exact ⟨o, es, ep, pk _ _ w1, w2, w3, w4, is_at pk, w6⟩
  refine dictCall (knd := tupleKind (mixKind X.prog X.w)) (tupleKind_room_in1 (A := X.A.in1) (by show X.A.units + 1 + 1 < cLine; omega)) hsys dd (fun x hx s' kp => ?_) ap hsz pushed fun h' hd' hs' => ?_
  · obtain ⟨o, its, n, w1, w2, _⟩ := is_at kp x hx
    exact ⟨o, w1, w2⟩
  · have kp : ∀ b u, s.heap.get? b = some u → h'.get? b = some u := fun b u e => (hs'.2 b (Nat.ne_of_lt (Heap.lt_size e))).trans (pk b u e)
    have hf : H s.heap.objs.size = none := I.hok.fresh (Nat.le_refl _)
    have sysn : (s.heap.objs.size == sysModules) = false := by
      have := I.big
      exact beq_false_of_ne (Nat.ne_of_gt this)
    have sm := same_upd (o := HO.dT kvs) hf
    obtain ⟨o, es, ep, w1, w2, w3, w4, _, w6⟩ := hd'
    have I' : Inv X pins σ (upd H s.heap.objs.size (.dT kvs)) { s with heap := h' } :=
      I.laid (t' := s.toks) kp (Nat.le_refl _) (show ObjOk X.prog X.w (upd H s.heap.objs.size (.dT kvs)) h' s.heap.objs.size (.dT kvs) from
        ⟨z, sysn, ks, rel.keeps fun b ys e => sm b _ e, o, es, ep, w1, w2, w3, w4, w6⟩)
    exact ⟨.ref s.heap.objs.size, _, I', rfl, k _ hf⟩
end Tv
set_option maxHeartbeats 4000000
/-! TwJ: the law is called. -/
namespace Tv
open PySem PySem.Spec PyProof.Rows L2
theorem rps_ints {K : PySem.W.Frag} {H : Hp} : ∀ ns : List Int, Rps K H (ns.map PyData.int) (ns.map V.int) []
  | [] => Rps.nil
  | n :: ns => Rps.cons (F := []) (G := []) (Rp.mk_int n) (rps_ints ns)
/-- the law's promise at the script -/
theorem spT_law {K : PySem.W.Frag} {run : List D → Option (Sl × D)} {H : Hp} {a : Addr} {ns : List Int} {X : XK} (hS : SqL K H a (ns.map V.int)) (hrun : run [.list (ns.map .int)] = some (.dp (.bool true), .none)) : spT K false run [.ref a] H (fun v _ => v = .bl true) X := by
  have rp : ∃ F, Rp K H (.list (ns.map .int)) (.ref a) F := by
    rcases hS with h | h
    · exact ⟨[a], by unfold Rp; exact .inl ⟨a, _, [], rfl, h, rfl, rps_ints ns⟩⟩
    · exact ⟨[], by unfold Rp; exact .inr ⟨a, _, rfl, h, rfl, rps_ints ns⟩⟩
  obtain ⟨F, rp⟩ := rp
  refine ⟨[], [.list (ns.map .int)], F, _, _, fun b hb => by simp at hb, Rps.one rp, fun b _ hb => by simp at hb, hrun, fun x H' f _ hc _ _ => ?_⟩
  obtain ⟨v, e, r⟩ := hc
  cases e
  exact Rp.bool_eq r
section
variable {P : Program} {w : World} {K : PySem.W.Frag} {mg mb : Str → Option Value} {k : Nat} {fa a : Addr} {fd : FuncData} {x : Str} {run : List D → Option (Sl × D)} {t : Shared} {vs : List Value} {ns : List Int}
/-- from a heap of which at most the script is told -/
theorem lawCore {H : Hp} (kin : K.In t.heap) (glob : t.heap.Ns mainGlobals mg) (bl : t.heap.Ns builtinsNs mb) (blOk : ∀ y : Str, y ≠ "__name__" → mb y = bootBuiltins y) (lim : t.heap.NoLimit) (noGen : t.gens = #[]) (at_a : t.heap.get? a = some { cls := .type "list", data := .seq vs.toArray }) (room : Room k callerA)
    (F : ∀ base : Heap, K.In base → base.Ns mainGlobals mg → FnG P w K mg base k fa fd [x] (spT K false run)) (bind : ∀ (s : Shared) (u : Value), BindsTo s fd ⟨[u], []⟩ [(x, u)]) (hrun : run [.list (ns.map .int)] = some (.dp (.bool true), .none))
    (only : Only H) (script : SqL K H a (ns.map V.int)) (hok : HOk P w H t.heap) (one : ∀ b, H b ≠ none → b = a) (noK : H a ≠ none → K.lookup a = none) :
    codeAny (model P w) callerA (.call (.ref fa) ⟨[.ref a], []⟩) (fun r s' => r = .ok (.ret (.bool true)) ∧ OldK t.heap s'.heap ∧ s'.os = t.os ∧ AllBare s'.gens) t := by
  -- what is not told stands in the base
  have hid : ∀ {b : Addr} {o : Obj}, t.heap.get? b = some o → H b = none → (hidT t.heap H).get? b = some o := fun e n => hidT_get e n
  have untold : ∀ {b : Addr} {o : Obj}, t.heap.get? b = some o → (∀ i n, o.data ≠ .seq i n) → H b = none := by
    intro b o e hd
    cases q : H b with
    | none => rfl
    | some u =>
      have := one b (by rw [q]; simp)
      subst this
      rw [at_a] at e
      cases e
      exact absurd rfl (hd _ _)
  have ns_ok : ∀ {b : Addr} {m : Str → Option Value}, t.heap.Ns b m → (hidT t.heap H).Ns b m := by
    intro b m h
    obtain ⟨o, es, ep, e, d, r⟩ := h
    exact ⟨o, es, ep, hid e (untold e fun i n q => by rw [d] at q; cases q), d, r⟩
  have kin' : K.In (hidT t.heap H) := by
    intro b o e
    refine hid (kin b o e) ?_
    cases q : H b with
    | none => rfl
    | some u =>
      have := one b (by rw [q]; simp)
      subst this
      rw [noK (by rw [q]; simp)] at e
      cases e
  have mod : Mod K mg (hidT t.heap H) := by
    obtain ⟨mc, l1, l2⟩ := lim
    exact ⟨kin', ns_ok glob, ⟨mb, ns_ok bl, blOk⟩, mc, ns_ok l1, l2⟩
  have env : Env0 P w K mg (hidT t.heap H) callerA [] t H := by
    refine ⟨rfl, mod, fun b o e => of_hidT e, Nat.le_of_eq (hidT_size _ _), trivial, fun b hb => ?_, hok, .of_eq noGen⟩
    exact absurd (show b ∈ ([] : List Addr) from hb) (by simp)
  have called := (F _ kin' (ns_ok glob)).run callerA [] t H ⟨[.ref a], []⟩ [.ref a] [.ref a] (fun v _ => v = .bl true) L2.E0 room rfl env (bind t (.ref a)) (.cons rfl .nil) (spT_law script hrun)
  refine codeAny_mono called fun r s' h => ?_
  cases r with
  | error e => exact (show False from h).elim
  | ok fl =>
    cases fl with
    | ret u =>
      obtain ⟨v, H', os, bare, un, hok', rel, q⟩ := h
      subst q
      obtain rfl : u = Value.bool true := rel
      refine ⟨rfl, OldK.of_keep fun b o e => ?_, os, bare⟩
      cases q : H b with
      | none => exact un.keep b o e q (fun z => by simp [frs] at z) (by simp)
      | some v =>
        rcases only b with z | ⟨ob, xs, z⟩
        · rw [z] at q; cases q
        · obtain ⟨e1, _⟩ := hok b _ z
          obtain ⟨e2, _⟩ := hok' b _ (un.frzs b ob _ z)
          rw [e1] at e
          cases e
          exact e2
    | next => exact (show False from h).elim
    | brk => exact (show False from h).elim
    | cont => exact (show False from h).elim
theorem lawG (kin : K.In t.heap) (glob : t.heap.Ns mainGlobals mg) (bl : t.heap.Ns builtinsNs mb) (blOk : ∀ y : Str, y ≠ "__name__" → mb y = bootBuiltins y) (lim : t.heap.NoLimit) (noGen : t.gens = #[]) (at_a : t.heap.get? a = some { cls := .type "list", data := .seq vs.toArray }) (hin : IntsAre vs ns) (small : ns.length ≤ sizeLine) (room : Room k callerA)
    (F : ∀ base : Heap, K.In base → base.Ns mainGlobals mg → FnG P w K mg base k fa fd [x] (spT K false run)) (bind : ∀ (s : Shared) (u : Value), BindsTo s fd ⟨[u], []⟩ [(x, u)]) (hrun : run [.list (ns.map .int)] = some (.dp (.bool true), .none)) :
    codeAny (model P w) callerA (.call (.ref fa) ⟨[.ref a], []⟩) (fun r s' => r = .ok (.ret (.bool true)) ∧ OldK t.heap s'.heap ∧ s'.os = t.os ∧ AllBare s'.gens) t := by
  have rv := vals_ints hin
  have len := hin.length
  cases hk : K.lookup a with
  | some o =>
    have e := kin a o hk
    rw [at_a] at e
    cases e
    refine lawCore (H := fun _ => none) kin glob bl blOk lim noGen at_a room F bind hrun (fun _ => .inl rfl) (.inr ⟨_, vs.toArray, _, hk, rfl, rfl, rfl, ?_, by simpa using rv⟩) (fun b u z => nomatch z) (fun b z => absurd rfl z) fun z => absurd rfl z
    rw [List.size_toArray, len]
    exact small
  | none =>
    let lst : HO := .frz { cls := .type "list", data := .seq vs.toArray } (.lst (ns.map V.int))
    refine lawCore (H := fun b => if b = a then some lst else none) kin glob bl blOk lim noGen at_a room F bind hrun (fun b => ?_) (.inl (.inr ⟨{ cls := .type "list", data := .seq vs.toArray }, if_pos rfl⟩)) (fun b u z => ?_) (fun b z => ?_) fun _ => hk
    · by_cases h : b = a
      · exact .inr ⟨_, _, if_pos h⟩
      · exact .inl (if_neg h)
    · by_cases h : b = a
      · have z' : some lst = some u := (if_pos h).symm.trans z
        cases z'
        subst h
        exact ⟨at_a, by rw [List.length_map]; exact small, vs, _, rv, at_a⟩
      · have z' : none = some u := (if_neg h).symm.trans z
        cases z'
    · by_cases h : b = a
      · exact h
      · exact absurd (if_neg h) z
end
end Tv
/-! TxA: steps of the evaluator, as rewriting rules and as rules of statements. Pure Lean. -/
namespace Tv
open PySem
variable {mf : Nat → Bool} {Φ : Nat → List D → Option (Sl × D)} {wf : Nat}
/-! ### expressions -/
def varR (m : Md) (i : Nat) (env : Ev) : Option Sl → Option (Sl × Ev)
  | some (.sh d) => some (.sh d, env)
  | some (.dp d) => if imm d then some (.dp d, env) else match m with
    | .bor => some (.vo d, env)
    | .mov => some (.dp d, env.set i .un)
    | .val => some (.sh d, env.set i (.sh d))
  | some (.ow d) => match m with
    | .bor => some (.vt d, env)
    | .mov => some (.ow d, env.set i .un)
    | .val => some (.sh d, env.set i (.sh d))
  | some (.bw d) => match m with
    | .bor => some (.vo d, env)
    | _ => none
  | _ => none
section
variable {m : Md} {i : Nat} {env : Ev} {d : D} {a b c : Ex} {es : Exs}
@[simp] theorem varR_sh : varR m i env (some (.sh d)) = some (.sh d, env) := (rfl)
@[simp] theorem varR_dpi (h : imm d = true) : varR m i env (some (.dp d)) = some (.dp d, env) := by simp [varR, h]
@[simp] theorem varR_dpb (h : imm d = false) : varR .bor i env (some (.dp d)) = some (.vo d, env) := by simp [varR, h]
@[simp] theorem varR_dpm (h : imm d = false) : varR .mov i env (some (.dp d)) = some (.dp d, env.set i .un) := by simp [varR, h]
@[simp] theorem varR_dpv (h : imm d = false) : varR .val i env (some (.dp d)) = some (.sh d, env.set i (.sh d)) := by simp [varR, h]
@[simp] theorem varR_owb : varR .bor i env (some (.ow d)) = some (.vt d, env) := (rfl)
@[simp] theorem varR_owm : varR .mov i env (some (.ow d)) = some (.ow d, env.set i .un) := (rfl)
@[simp] theorem varR_owv : varR .val i env (some (.ow d)) = some (.sh d, env.set i (.sh d)) := (rfl)
@[simp] theorem varR_bw : varR .bor i env (some (.bw d)) = some (.vo d, env) := (rfl)
@[simp] theorem ev_var : ev mf Φ m (.var i) env = varR m i env env[i]? := by
  unfold ev varR
  rfl
@[simp] theorem ev_cst (h : imm d = true) : ev mf Φ m (.cst d) env = some (.dp d, env) := by simp [ev, h]
@[simp] theorem ev_bin {op : Bop} : ev mf Φ m (.bin op a b) env = (ev mf Φ .val a env).bind fun x => (ev mf Φ .val b x.2).bind fun y => (binD op x.1.d y.1.d).bind fun r => some (r, y.2) := by
  rw [ev]; rfl
@[simp] theorem ev_cmp {op : Cop} : ev mf Φ m (.cmp op a b) env = (ev mf Φ (if quiet mf b then Md.bor else .val) a env).bind fun x => (ev mf Φ (if quiet mf b then Md.bor else .val) b x.2).bind fun y => (cmpD op x.1.d y.1.d).bind fun r => some (.dp (.bool r), y.2) := by
  rw [ev]; rfl
def negR : D → Option D
  | .int i => some (.int (-i))
  | _ => none
@[simp] theorem negR_int {i : Int} : negR (.int i) = some (.int (-i)) := (rfl)
@[simp] theorem ev_neg : ev mf Φ m (.neg a) env = (ev mf Φ .val a env).bind fun x => (negR x.1.d).bind fun r => some (.dp r, x.2) := by
  rw [ev]
  refine congrArg _ (funext fun x => ?_)
  obtain ⟨x, e⟩ := x
  cases h : x.d <;> simp [negR, h]
/-- by a truth value -/
def tcase {α : Type} (d : D) (t f : Option α) : Option α := match d with
  | .bool true => t
  | .bool false => f
  | _ => none
@[simp] theorem tcase_t {α : Type} {t f : Option α} : tcase (.bool true) t f = t := (rfl)
@[simp] theorem tcase_f {α : Type} {t f : Option α} : tcase (.bool false) t f = f := (rfl)
theorem tcase_ite {α : Type} {b : Bool} {t f : Option α} : tcase (.bool b) t f = if b = true then t else f := by cases b <;> rfl
@[simp] theorem tcase_and {b c : Bool} {e : Ev} : tcase (.bool b) (some (Sl.dp (.bool c), e)) (some (Sl.dp (.bool false), e)) = some (.dp (.bool (b && c)), e) := by cases b <;> rfl
@[simp] theorem tcase_or {b c : Bool} {e : Ev} : tcase (.bool b) (some (Sl.dp (.bool true), e)) (some (Sl.dp (.bool c), e)) = some (.dp (.bool (b || c)), e) := by cases b <;> rfl
@[simp] theorem ev_conj : ev mf Φ m (.conj a b) env = (ev mf Φ .val a env).bind fun x => tcase x.1.d (ev mf Φ .val b x.2) (some (.dp (.bool false), x.2)) := by
  rw [ev]; rfl
@[simp] theorem ev_disj : ev mf Φ m (.disj a b) env = (ev mf Φ .val a env).bind fun x => tcase x.1.d (some (.dp (.bool true), x.2)) (ev mf Φ .val b x.2) := by
  rw [ev]; rfl
def invR : D → Option Bool
  | .bool b => some (!b)
  | _ => none
@[simp] theorem invR_b {b : Bool} : invR (.bool b) = some (!b) := (rfl)
@[simp] theorem ev_inv : ev mf Φ m (.inv a) env = (ev mf Φ .val a env).bind fun x => (invR x.1.d).bind fun r => some (.dp (.bool r), x.2) := by
  rw [ev]
  refine congrArg _ (funext fun x => ?_)
  obtain ⟨x, e⟩ := x
  cases h : x.d <;> simp [invR, h]
@[simp] theorem ev_ite : ev mf Φ m (.ite c a b) env = (ev mf Φ .val c env).bind fun x => tcase x.1.d (ev mf Φ m a x.2) (ev mf Φ m b x.2) := by
  rw [ev]; rfl
@[simp] theorem ev_tup : ev mf Φ m (.tup es) env = (evs mf Φ (if m = .mov then .mov else .val) es env).bind fun x => (tupR x.1).bind fun r => some (r, x.2) := by
  rw [ev]; rfl
@[simp] theorem ev_lst : ev mf Φ m (.lst es) env = (evs mf Φ (if m = .mov then .mov else .val) es env).bind fun x => (lstR x.1).bind fun r => some (r, x.2) := by
  rw [ev]; rfl
@[simp] theorem ev_dnew {t : Bool} : ev mf Φ m (.dnew t) env = some (.dp (.dict []), env) := by rw [ev]
def guardO {α : Type} (b : Bool) (x : Option α) : Option α := if b then none else x
@[simp] theorem guardO_f {α : Type} {x : Option α} : guardO false x = x := (rfl)
@[simp] theorem ev_idx : ev mf Φ m (.idx a b) env = (ev mf Φ .bor a env).bind fun x => guardO (x.1.isVo && !quiet mf b) ((ev mf Φ .val b x.2).bind fun y => (itemD x.1.d y.1.d).bind fun d => (itemRes m x.1 d).bind fun r => some (r, y.2)) := by
  rw [ev]; rfl
@[simp] theorem ev_slc : ev mf Φ m (.slc a b c) env = (ev mf Φ .bor a env).bind fun x => guardO (x.1.isVo && !(quiet mf b && quiet mf c)) ((ev mf Φ .val b x.2).bind fun y => (ev mf Φ .val c y.2).bind fun z =>
    guardO ((!isNoneEx b && !isIntD y.1.d) || (!isNoneEx c && !isIntD z.1.d)) ((sliceD x.1.d y.1.d z.1.d).bind fun l => (sliceRes x.1 l.1 l.2).bind fun r => some (r, z.2))) := by
  rw [ev]; rfl
def callR (rs : List Sl) (env : Ev) (r : Sl) : Option (Sl × Ev) := if r.isDp || (!rs.any (·.isVo) && r.good) then some (r, env) else none
@[simp] theorem callR_dp {rs : List Sl} {d : D} : callR rs env (.dp d) = some (.dp d, env) := (rfl)
theorem ev_call {f : Nat} (h : mf f = false) : ev mf Φ m (.call f es) env = (evs mf Φ (if quiets mf es then .bor else .val) es env).bind fun x => (Φ f (x.1.map (·.d))).bind fun r => callR x.1 x.2 r.1 := by
  unfold ev
  rw [if_neg (by simp [h])]; rfl
/-- a call that changes its first argument, a list of the slot's own -/
theorem ev_callM {f i : Nat} {rest : Exs} {rs : List Sl} {e1 : Ev} {ns ns' : List D} {r : Sl} (h : mf f = true) (h1 : evs mf Φ .val rest env = some (rs, e1)) (h2 : e1.any (·.isVo) = false) (h3 : unS env i = false) (h4 : e1[i]? = some (.dp (.list ns)) ∨ e1[i]? = some (.bw (.list ns))) (h5 : imms ns = true)
    (h6 : Φ f (.list ns :: rs.map (·.d)) = some (r, .list ns')) (h7 : imms ns' = true) (h8 : r.good = true) : ev mf Φ m (.call f (.cons (.var i) rest)) env = some (r, e1.set i (if (e1[i]?.map Sl.isDp) = some true then .dp (.list ns') else .bw (.list ns'))) := by
  unfold ev
  rw [if_pos h]
  simp only [h1]
  simp only [Option.bind_eq_bind, Option.bind_some, h2, h3, Bool.or_self, Bool.false_eq_true, if_false]
  rcases h4 with h4 | h4 <;> simp [h4, h5, h6, h7, h8, Sl.isDp]
/-- a call that changes its only argument, a new list -/
theorem ev_callM1 {f : Nat} {e1 : Ev} {ns ns' : List D} {r : Sl} (h : mf f = true) (hv : ∀ i, a ≠ .var i) (h1 : ev mf Φ .val a env = some (.dp (.list ns), e1)) (h2 : e1.any (·.isVo) = false) (h5 : imms ns = true)
    (h6 : Φ f [.list ns] = some (r, .list ns')) (h7 : imms ns' = true) (h8 : r.good = true) : ev mf Φ m (.call f (.cons a .nil)) env = some (r, e1) := by
  unfold ev
  rw [if_pos h]
  split
  · rename_i i rest hc
    cases hc
    exact absurd rfl (hv i)
  · rename_i e' hne hc
    cases hc
    simp only [Option.bind_eq_bind, h1, Option.bind_some, h2, h5, h6, h7, h8, Bool.not_true, Bool.or_self, Bool.false_eq_true, if_false]
  · rename_i hne1 hne2
    exact absurd rfl (hne2 a)
@[simp] theorem ev_isi {t : Ty} : ev mf Φ m (.isi a t) env = (ev mf Φ .bor a env).bind fun x => guardO (isDictD x.1.d) (some (.dp (.bool (t.is x.1.d)), x.2)) := by
  rw [ev]; rfl
def ownAll (rs : List Sl) : Bool := rs.all fun r => match r with
  | .vo _ => false
  | _ => true
@[simp] theorem ev_blt {b : Blt} : ev mf Φ m (.blt b es) env = (evs mf Φ (if quiets mf es then .bor else .val) es env).bind fun x => (bltD (ownAll x.1) b (x.1.map (·.d))).bind fun r => some (r, x.2) := by
  rw [ev]; rfl
@[simp] theorem ev_mth {h : Mth} : ev mf Φ m (.mth h a es) env = (ev mf Φ (if quiets mf es then Md.bor else .val) a env).bind fun x => (evs mf Φ (if quiets mf es then Md.bor else .val) es x.2).bind fun y => (mthD h x.1.d (y.1.map (·.d))).bind fun r => some (r, y.2) := by
  rw [ev]; rfl
@[simp] theorem evs_nil : evs mf Φ m .nil env = some ([], env) := by rw [evs]
@[simp] theorem evs_cons : evs mf Φ m (.cons a es) env = (ev mf Φ m a env).bind fun x => (evs mf Φ m es x.2).bind fun y => some (x.1 :: y.1, y.2) := by
  rw [evs]; rfl
def evtR : D → Option Bool
  | .bool b => some b
  | _ => none
@[simp] theorem evtR_b {b : Bool} : evtR (.bool b) = some b := (rfl)
@[simp] theorem evt_nil : evt mf Φ .nil env = some (true, env) := by rw [evt]
@[simp] theorem evt_one : evt mf Φ (.cons a .nil) env = (ev mf Φ .val a env).bind fun x => (evtR x.1.d).bind fun t => some (t, x.2) := by
  rw [evt]
  refine congrArg _ (funext fun x => ?_)
  obtain ⟨x, e⟩ := x
  cases h : x.d <;> simp [evtR, h]
end
section
variable {a b c e : Ex} {es cs : Exs}
@[simp] theorem quiet_cst {d : D} : quiet mf (.cst d) = true := by rw [quiet]
@[simp] theorem quiet_var {i : Nat} : quiet mf (.var i) = true := by rw [quiet]
@[simp] theorem quiet_bin {op : Bop} : quiet mf (.bin op a b) = (quiet mf a && quiet mf b) := by rw [quiet]
@[simp] theorem quiet_cmp {op : Cop} : quiet mf (.cmp op a b) = (quiet mf a && quiet mf b) := by rw [quiet]
@[simp] theorem quiet_neg : quiet mf (.neg a) = quiet mf a := by rw [quiet]
@[simp] theorem quiet_conj : quiet mf (.conj a b) = (quiet mf a && quiet mf b) := by rw [quiet]
@[simp] theorem quiet_disj : quiet mf (.disj a b) = (quiet mf a && quiet mf b) := by rw [quiet]
@[simp] theorem quiet_inv : quiet mf (.inv a) = quiet mf a := by rw [quiet]
@[simp] theorem quiet_ite : quiet mf (.ite c a b) = (quiet mf c && quiet mf a && quiet mf b) := by rw [quiet]
@[simp] theorem quiet_tup : quiet mf (.tup es) = quiets mf es := by rw [quiet]
@[simp] theorem quiet_lst : quiet mf (.lst es) = quiets mf es := by rw [quiet]
@[simp] theorem quiet_dnew {t : Bool} : quiet mf (.dnew t) = true := by rw [quiet]
@[simp] theorem quiet_idx : quiet mf (.idx a b) = (quiet mf a && quiet mf b) := by rw [quiet]
@[simp] theorem quiet_slc : quiet mf (.slc a b c) = (quiet mf a && quiet mf b && quiet mf c) := by rw [quiet]
@[simp] theorem quiet_call {f : Nat} : quiet mf (.call f es) = (!mf f && quiets mf es) := by rw [quiet]
@[simp] theorem quiet_isi {t : Ty} : quiet mf (.isi a t) = quiet mf a := by rw [quiet]
@[simp] theorem quiet_blt {t : Blt} : quiet mf (.blt t es) = quiets mf es := by rw [quiet]
@[simp] theorem quiet_mth {t : Mth} : quiet mf (.mth t a es) = (quiet mf a && quiets mf es) := by rw [quiet]
@[simp] theorem quiet_comp {k : ItK} {tg : Tg} {own : List Nat} : quiet mf (.comp k es tg own cs e) = false := by rw [quiet]
@[simp] theorem quiets_nil : quiets mf .nil = true := by rw [quiets]
@[simp] theorem quiets_cons : quiets mf (.cons a es) = (quiet mf a && quiets mf es) := by rw [quiets]
end
/-! ### targets -/
section
variable {x : Sl} {env : Ev} {ds : List D} {t : Tg} {ts : Tgs} {i : Nat} {k : Ex}
@[simp] theorem bindT_nm : bindT (.nm i) x env = if x.isVo = true then none else setS env i x := by rw [bindT]
@[simp] theorem bindT_tupd : bindT (.tup ts) (.dp (.tuple ds)) env = bindTs ts (ds.map .dp) env := by rw [bindT]
@[simp] theorem bindT_tups : bindT (.tup ts) (.sh (.tuple ds)) env = bindTs ts (ds.map shN) env := by rw [bindT]
@[simp] theorem bindTs_nil : bindTs .nil [] env = some env := by rw [bindTs]
@[simp] theorem bindTs_cons {xs : List Sl} : bindTs (.cons t ts) (x :: xs) env = (bindT t x env).bind (bindTs ts xs) := by rw [bindTs]
@[simp] theorem bindG_nmX : bindG mf Φ (.nm i) x env = if x.isVo = true then none else setS env i x := by rw [bindG]
@[simp] theorem bindG_tupd : bindG mf Φ (.tup ts) (.dp (.tuple ds)) env = bindGs mf Φ ts (ds.map .dp) env := by rw [bindG]
@[simp] theorem bindG_tups : bindG mf Φ (.tup ts) (.sh (.tuple ds)) env = bindGs mf Φ ts (ds.map shN) env := by rw [bindG]
@[simp] theorem bindGs_nil : bindGs mf Φ .nil [] env = some env := by rw [bindGs]
@[simp] theorem bindGs_cons {xs : List Sl} : bindGs mf Φ (.cons t ts) (x :: xs) env = (bindG mf Φ t x env).bind (bindGs mf Φ ts xs) := by rw [bindGs]
@[simp] theorem bindG_sub : bindG mf Φ (.sub i k) x env = (ev mf Φ .val k env).bind fun y => guardO (unS env i || y.2.any (·.isVo)) (y.2[i]?.bind fun o => (setItemS o y.1 x).bind fun o' => some (y.2.set i o')) := by
  rw [bindG]; rfl
end
@[simp] theorem isVo_un : Sl.isVo .un = false := (rfl)
@[simp] theorem isVo_sh {d : D} : (Sl.sh d).isVo = false := (rfl)
@[simp] theorem isVo_ow {d : D} : (Sl.ow d).isVo = false := (rfl)
@[simp] theorem isVo_dp {d : D} : (Sl.dp d).isVo = false := (rfl)
@[simp] theorem isVo_bw {d : D} : (Sl.bw d).isVo = false := (rfl)
@[simp] theorem isVo_vo {d : D} : (Sl.vo d).isVo = true := (rfl)
@[simp] theorem isVo_vt {d : D} : (Sl.vt d).isVo = true := (rfl)
@[simp] theorem isDp_dp {d : D} : (Sl.dp d).isDp = true := (rfl)
@[simp] theorem isDp_sh {d : D} : (Sl.sh d).isDp = false := (rfl)
@[simp] theorem isDp_bw {d : D} : (Sl.bw d).isDp = false := (rfl)
@[simp] theorem isDp_ow {d : D} : (Sl.ow d).isDp = false := (rfl)
@[simp] theorem good_dp {d : D} : (Sl.dp d).good = true := (rfl)
@[simp] theorem good_sh {d : D} : (Sl.sh d).good = true := (rfl)
@[simp] theorem good_ow {d : D} : (Sl.ow d).good = true := (rfl)
@[simp] theorem d_dp {d : D} : (Sl.dp d).d = d := (rfl)
@[simp] theorem d_sh {d : D} : (Sl.sh d).d = d := (rfl)
@[simp] theorem d_ow {d : D} : (Sl.ow d).d = d := (rfl)
@[simp] theorem d_vo {d : D} : (Sl.vo d).d = d := (rfl)
@[simp] theorem d_vt {d : D} : (Sl.vt d).d = d := (rfl)
@[simp] theorem d_bw {d : D} : (Sl.bw d).d = d := (rfl)
@[simp] theorem imm_none : imm .none = true := (rfl)
@[simp] theorem imm_bool {b : Bool} : imm (.bool b) = true := (rfl)
@[simp] theorem imm_int {i : Int} : imm (.int i) = true := (rfl)
@[simp] theorem imm_str {x : Str} : imm (.str x) = true := (rfl)
@[simp] theorem imm_tup {ds : List D} : imm (.tuple ds) = imms ds := (rfl)
@[simp] theorem imm_list {ds : List D} : imm (.list ds) = false := (rfl)
@[simp] theorem imm_dict {es : List (D × D)} : imm (.dict es) = false := (rfl)
@[simp] theorem imms_nil : imms [] = true := (rfl)
@[simp] theorem imms_cons {d : D} {ds : List D} : imms (d :: ds) = (imm d && imms ds) := (rfl)
theorem imms_all : ∀ {ds : List D}, imms ds = true ↔ ∀ d ∈ ds, imm d = true
  | [] => by simp
  | d :: ds => by simp [imms_all]
theorem imms_map {α : Type} {f : α → D} (h : ∀ a, imm (f a) = true) (L : List α) : imms (L.map f) = true := imms_all.mpr fun d hd => by
  obtain ⟨a, _, rfl⟩ := List.mem_map.mp hd
  exact h a
@[simp] theorem imms_app {xs ys : List D} : imms (xs ++ ys) = (imms xs && imms ys) := by
  induction xs with
  | nil => simp
  | cons x xs ih => simp [ih, Bool.and_assoc]
@[simp] theorem shN_imm {d : D} (h : imm d = true) : shN d = .dp d := by simp [shN, h]
@[simp] theorem shN_not {d : D} (h : imm d = false) : shN d = .sh d := by simp [shN, h]
theorem setS_okX {env : Ev} {i : Nat} {x s : Sl} (h : env[i]? = some s) (hs : ∀ d, s ≠ .bw d) : setS env i x = some (env.set i x) := by
  unfold setS
  rw [h]
  cases s <;> first | rfl | exact absurd rfl (hs _)
def setR (env : Ev) (i : Nat) (x : Sl) : Option Sl → Option Ev
  | some (.bw _) => none
  | some _ => some (env.set i x)
  | none => none
@[simp] theorem setS_eq {env : Ev} {i : Nat} {x : Sl} : setS env i x = setR env i x env[i]? := by
  unfold setS setR
  rfl
section
variable {env : Ev} {i : Nat} {x : Sl} {d : D}
@[simp] theorem setR_un : setR env i x (some .un) = some (env.set i x) := (rfl)
@[simp] theorem setR_sh : setR env i x (some (.sh d)) = some (env.set i x) := (rfl)
@[simp] theorem setR_ow : setR env i x (some (.ow d)) = some (env.set i x) := (rfl)
@[simp] theorem setR_dp : setR env i x (some (.dp d)) = some (env.set i x) := (rfl)
end
/-- a slot that may be stored to -/
structure Free (s : Sl) : Prop where
  nb : ∀ d, s ≠ .bw d
  vo : s.isVo = false
@[simp] theorem free_un : Free .un := ⟨fun _ h => (nomatch h), rfl⟩
@[simp] theorem free_dp {d : D} : Free (.dp d) := ⟨fun _ h => (nomatch h), rfl⟩
@[simp] theorem free_sh {d : D} : Free (.sh d) := ⟨fun _ h => (nomatch h), rfl⟩
@[simp] theorem free_ow {d : D} : Free (.ow d) := ⟨fun _ h => (nomatch h), rfl⟩
@[simp] theorem setR_free {env : Ev} {i : Nat} {x s : Sl} (h : Free s) : setR env i x (some s) = some (env.set i x) := by
  cases s <;> first | rfl | exact absurd rfl (h.nb _)
theorem range_split {n a : Nat} {p q : List Nat} (e : List.range n = p ++ a :: q) : p.length = a ∧ a < n := by
  have l : n = p.length + (q.length + 1) := by simpa using congrArg List.length e
  have h : (List.range n)[p.length]? = some a := by rw [e]; simp
  rw [List.getElem?_range (by omega)] at h
  have : p.length = a := Option.some.inj h
  omega
/-! ### comprehensions -/
theorem wipeS_len {env : Ev} : ∀ {own : List Nat}, (wipeS env own).length = env.length
  | [] => rfl
  | v :: vs => by simp [wipeS, wipeS_len (own := vs)]
theorem wipeS_get {env : Ev} {i : Nat} : ∀ {own : List Nat}, (wipeS env own)[i]? = if i ∈ own ∧ i < env.length then some .un else env[i]?
  | [] => by simp [wipeS]
  | v :: vs => by
    simp only [wipeS, List.getElem?_set, wipeS_get (own := vs), wipeS_len, List.mem_cons]
    by_cases hv : v = i
    · subst hv
      by_cases hl : v < env.length
      · simp [hl]
      · simp [hl] <;> omega
    · have : ¬ i = v := fun e => hv e.symm
      simp [hv, this]
theorem restoreS_len {base env : Ev} : ∀ {own : List Nat}, (restoreS base env own).length = env.length
  | [] => rfl
  | v :: vs => by simp [restoreS, restoreS_len (own := vs)]
theorem restoreS_get {base env : Ev} {i : Nat} : ∀ {own : List Nat}, (restoreS base env own)[i]? = if i ∈ own ∧ i < env.length then some (base.getD i .un) else env[i]?
  | [] => by simp [restoreS]
  | v :: vs => by
    simp only [restoreS, List.getElem?_set, restoreS_get (own := vs), restoreS_len, List.mem_cons]
    by_cases hv : v = i
    · subst hv
      by_cases hl : v < env.length
      · simp [hl]
      · simp [hl] <;> omega
    · have : ¬ i = v := fun e => hv e.symm
      simp [hv, this]
theorem restoreS_eq {base env : Ev} {own : List Nat} (h : wipeS env own = wipeS base own) : restoreS base env own = base := by
  have hl : env.length = base.length := by rw [← wipeS_len (env := env) (own := own), h, wipeS_len]
  refine List.ext_getElem? fun i => ?_
  rw [restoreS_get]
  by_cases hi : i ∈ own ∧ i < env.length
  · rw [if_pos hi]
    have : i < base.length := hl ▸ hi.2
    simp [List.getD, this]
  · rw [if_neg hi]
    have e := congrArg (fun l : Ev => l[i]?) h
    simp only [wipeS_get, if_neg hi, if_neg (hl ▸ hi)] at e
    exact e
/-- one turn of a comprehension: from W back to W, with the item r if the tests let it -/
def Turn (bind : Sl → Ev → Option Ev) (test : Ev → Option (Bool × Ev)) (elt : Ev → Option (Sl × Ev)) (own : List Nat) (W : Ev) (x : D) (r : Option D) : Prop :=
  match bind (shN x) W with
  | some e1 => (match test e1 with
    | some (true, e2) => (match elt e2 with
      | some (y, e3) => y.isDp = true ∧ e3.any (·.isVo) = false ∧ wipeS e3 own = W ∧ r = some y.d
      | none => False)
    | some (false, e2) => wipeS e2 own = W ∧ r = none
    | none => False)
  | none => False
theorem compL_turns {α : Type} (enc : α → D) (g : α → Option D) {bind : Sl → Ev → Option Ev} {test : Ev → Option (Bool × Ev)} {elt : Ev → Option (Sl × Ev)} {own : List Nat} {W : Ev} :
    ∀ (L : List α) (acc : List D) (env : Ev), wipeS env own = W → (∀ a ∈ L, Turn bind test elt own W (enc a) (g a)) → acc.length + L.length ≤ 100000 →
      ∃ env', compL bind test elt own (L.map enc) (.dp (.list acc)) env = some (.dp (.list (acc ++ L.filterMap g)), env') ∧ wipeS env' own = W
  | [], acc, env, hw, _, _ => ⟨env, by simp [compL], hw⟩
  | a :: L, acc, env, hw, ht, hl => by
    have t := ht a (by simp)
    unfold Turn at t
    simp only [List.map_cons, compL, hw]
    rw [List.length_cons] at hl
    cases hb : bind (shN (enc a)) W with
    | none => rw [hb] at t; exact t.elim
    | some e1 =>
      rw [hb] at t
      cases h1 : test e1 with
      | none => simp only [h1] at t
      | some p =>
        obtain ⟨b, e2⟩ := p
        simp only [h1] at t
        simp only [Option.bind_eq_bind, Option.bind_some, h1]
        cases b with
        | false =>
          simp only at t
          obtain ⟨env', q1, q2⟩ := compL_turns enc g L acc e2 t.1 (fun b hb => ht b (by simp [hb])) (by omega)
          refine ⟨env', ?_, q2⟩
          rw [List.filterMap_cons_none t.2]
          simpa using q1
        | true =>
          simp only at t
          cases h2 : elt e2 with
          | none => simp only [h2] at t
          | some p =>
            obtain ⟨y, e3⟩ := p
            simp only [h2] at t
            obtain ⟨t1, t2, t3, t4⟩ := t
            obtain ⟨env', q1, q2⟩ := compL_turns enc g L (acc ++ [y.d]) e3 t3 (fun b hb => ht b (by simp [hb])) (by simp; omega)
            refine ⟨env', ?_, q2⟩
            rw [List.filterMap_cons_some t4]
            have hs : szOk (acc.length + 1) = true := by simp [szOk]; omega
            have hv : y.isVo = false := by cases y <;> simp_all [Sl.isDp]
            simp only [if_true, h2, Option.bind_some, t2, Bool.false_eq_true, if_false, addItem, hs, hv, t1, Bool.not_true, Bool.or_self]
            simpa using q1
theorem ev_comp {α : Type} (enc : α → D) (g : α → Option D) (L : List α) {m : Md} {k : ItK} {src cs : Exs} {tg : Tg} {own : List Nat} {e : Ex} {env e1 : Ev} {rs : List Sl} (h1 : evs mf Φ .val src env = some (rs, e1)) (h2 : (dictOk src (rs.map (·.d)) && !e1.any (·.isVo)) = true) (h4 : iterD k (rs.map (·.d)) = some (L.map enc)) (h5 : L.length ≤ 100000)
    (h6 : ∀ a ∈ L, Turn (fun x env' => bindT tg x env') (fun env' => evt mf Φ cs env') (fun env' => ev mf Φ .val e env') own (wipeS e1 own) (enc a) (g a)) : ev mf Φ m (.comp k src tg own cs e) env = some (.dp (.list (L.filterMap g)), e1) := by
  obtain ⟨env', q1, q2⟩ := compL_turns enc g L [] e1 rfl h6 (by simpa using h5)
  rw [ev]
  have h2' : dictOk src (rs.map (·.d)) = true ∧ e1.any (·.isVo) = false := by simpa using h2
  simp only [Option.bind_eq_bind, h1, Option.bind_some, h2'.1, h2'.2, Bool.not_true, Bool.or_self, Bool.false_eq_true, if_false, h4, q1]
  simp [restoreS_eq q2]
@[simp] theorem filterMap_no {α β : Type} (L : List α) : L.filterMap (fun _ => (none : Option β)) = [] := by
  induction L with
  | nil => rfl
  | cons a L ih => rw [List.filterMap_cons_none rfl, ih]
@[simp] theorem filterMap_yes {α β : Type} (f : α → β) (L : List α) : L.filterMap (fun a => some (f a)) = L.map f := by
  induction L with
  | nil => rfl
  | cons a L ih => rw [List.filterMap_cons_some (f := fun a => some (f a)) (b := f a) rfl, ih, List.map_cons]
/-- all are let -/
theorem ev_comp_map {α : Type} (enc : α → D) (f : α → D) (L : List α) {m : Md} {k : ItK} {src cs : Exs} {tg : Tg} {own : List Nat} {e : Ex} {env e1 : Ev} {rs : List Sl} (h1 : evs mf Φ .val src env = some (rs, e1)) (h2 : (dictOk src (rs.map (·.d)) && !e1.any (·.isVo)) = true) (h4 : iterD k (rs.map (·.d)) = some (L.map enc)) (h5 : L.length ≤ 100000)
    (h6 : ∀ a ∈ L, Turn (fun x env' => bindT tg x env') (fun env' => evt mf Φ cs env') (fun env' => ev mf Φ .val e env') own (wipeS e1 own) (enc a) (some (f a))) : ev mf Φ m (.comp k src tg own cs e) env = some (.dp (.list (L.map f)), e1) := by
  rw [ev_comp enc (fun a => some (f a)) L h1 h2 h4 h5 h6, filterMap_yes]
/-- none is let -/
theorem ev_comp_no {α : Type} (enc : α → D) (L : List α) {m : Md} {k : ItK} {src cs : Exs} {tg : Tg} {own : List Nat} {e : Ex} {env e1 : Ev} {rs : List Sl} (h1 : evs mf Φ .val src env = some (rs, e1)) (h2 : (dictOk src (rs.map (·.d)) && !e1.any (·.isVo)) = true) (h4 : iterD k (rs.map (·.d)) = some (L.map enc)) (h5 : L.length ≤ 100000)
    (h6 : ∀ a ∈ L, Turn (fun x env' => bindT tg x env') (fun env' => evt mf Φ cs env') (fun env' => ev mf Φ .val e env') own (wipeS e1 own) (enc a) none) : ev mf Φ m (.comp k src tg own cs e) env = some (.dp (.list []), e1) := by
  rw [ev_comp enc (fun _ => none) L h1 h2 h4 h5 h6, filterMap_no]
@[simp] theorem szOk_def {n : Nat} : szOk n = decide (n ≤ 100000) := (rfl)
@[simp] theorem tupR_def {rs : List Sl} : tupR rs = if (!szOk rs.length || rs.any (·.isVo)) = true then none else some (if rs.all (·.isDp) = true then .dp (.tuple (rs.map (·.d))) else .sh (.tuple (rs.map (·.d)))) := (rfl)
@[simp] theorem lstR_def {rs : List Sl} : lstR rs = if (!szOk rs.length || rs.any (·.isVo)) = true then none else some (if rs.all (·.isDp) = true then .dp (.list (rs.map (·.d))) else .ow (.list (rs.map (·.d)))) := (rfl)
@[simp] theorem sliceRes_imm {x : Sl} {l : Bool} {ds : List D} (h : imms ds = true) : sliceRes x l ds = some (.dp (if l then .list ds else .tuple ds)) := by simp [sliceRes, h]
/-! ### statements -/
/-- s ends from env, with Q -/
def Ends (mf : Nat → Bool) (Φ : Nat → List D → Option (Sl × D)) (wf : Nat) (s : St) (env : Ev) (Q : Fl → Ev → Prop) : Prop := ∃ f e, exS mf Φ wf s env = some (f, e) ∧ Q f e
/-- behind the first of two -/
def andThen (mf : Nat → Bool) (Φ : Nat → List D → Option (Sl × D)) (wf : Nat) (s : St) (Q : Fl → Ev → Prop) : Fl → Ev → Prop
  | .nx, e => Ends mf Φ wf s e Q
  | f, e => Q f e
section
variable {a b s : St} {env e1 e2 : Ev} {Q : Fl → Ev → Prop} {t : Tg} {e c : Ex} {x r : Sl}
theorem ends_nop (h : Q .nx env) : Ends mf Φ wf .nop env Q := ⟨_, _, by rw [exS], h⟩
theorem ends_seq (h : Ends mf Φ wf a env (andThen mf Φ wf b Q)) : Ends mf Φ wf (.seq a b) env Q := by
  obtain ⟨f, e, h1, h2⟩ := h
  cases f with
  | nx =>
    obtain ⟨f', e', h3, h4⟩ := h2
    exact ⟨f', e', by rw [exS, h1]; exact h3, h4⟩
  | rt r => exact ⟨_, _, by rw [exS, h1]; rfl, h2⟩
  | bk => exact ⟨_, _, by rw [exS, h1]; rfl, h2⟩
  | ct => exact ⟨_, _, by rw [exS, h1]; rfl, h2⟩
theorem seq_nop (h : Ends mf Φ wf b env Q) : Ends mf Φ wf (.seq .nop b) env Q := ends_seq (ends_nop h)
theorem ends_asg (h : ((ev mf Φ (asgMode t e) e env).bind fun p => bindG mf Φ t p.1 p.2) = some e2) (k : Q .nx e2) : Ends mf Φ wf (.asg t e) env Q := by
  obtain ⟨⟨x, e1⟩, h1, h2⟩ := Option.bind_eq_some_iff.mp h
  refine ⟨_, _, ?_, k⟩
  rw [exS]
  simp only [Option.bind_eq_bind, h1, Option.bind_some]
  simp only at h2
  simp [h2]
theorem seq_asg (h : ((ev mf Φ (asgMode t e) e env).bind fun p => bindG mf Φ t p.1 p.2) = some e2) (k : Ends mf Φ wf s e2 Q) : Ends mf Φ wf (.seq (.asg t e) s) env Q := ends_seq (ends_asg h k)
theorem seq_eff (h : ev mf Φ .val e env = some (x, e1)) (k : Ends mf Φ wf s e1 Q) : Ends mf Φ wf (.seq (.eff e) s) env Q := ends_seq ⟨.nx, e1, by rw [exS, h]; rfl, k⟩
theorem seq_ret (h : ev mf Φ .mov e env = some (r, e1)) (hg : r.good = true) (k : Q (.rt r) e1) : Ends mf Φ wf (.seq (.ret e) s) env Q := ends_seq ⟨.rt r, e1, by rw [exS, h]; simp [hg], k⟩
theorem ends_if {y : Bool} (h : ev mf Φ .val c env = some (.dp (.bool y), e1)) (kt : y = true → Ends mf Φ wf a e1 Q) (kf : y = false → Ends mf Φ wf b e1 Q) : Ends mf Φ wf (.ifs c a b) env Q := by
  cases y with
  | true =>
    obtain ⟨f, e, q1, q2⟩ := kt rfl
    exact ⟨f, e, by rw [exS, h]; exact q1, q2⟩
  | false =>
    obtain ⟨f, e, q1, q2⟩ := kf rfl
    exact ⟨f, e, by rw [exS, h]; exact q1, q2⟩
theorem seq_if {y : Bool} (h : ev mf Φ .val c env = some (.dp (.bool y), e1)) (kt : y = true → Ends mf Φ wf a e1 (andThen mf Φ wf s Q)) (kf : y = false → Ends mf Φ wf b e1 (andThen mf Φ wf s Q)) : Ends mf Φ wf (.seq (.ifs c a b) s) env Q := ends_seq (ends_if h kt kf)
/-- a test that fails, and no else -/
theorem seq_no (h : ev mf Φ .val c env = some (.dp (.bool false), e1)) (k : Ends mf Φ wf s e1 Q) : Ends mf Φ wf (.seq (.ifs c a .nop) s) env Q := seq_if h (fun z => by cases z) fun _ => ends_nop k
theorem seq_yes (h : ev mf Φ .val c env = some (.dp (.bool true), e1)) (k : Ends mf Φ wf a e1 (andThen mf Φ wf s Q)) : Ends mf Φ wf (.seq (.ifs c a b) s) env Q := seq_if h (fun _ => k) fun z => by cases z
theorem seq_app {i : Nat} {y o' : Sl} (h : ev mf Φ .val e env = some (y, e1)) (h1 : (!isListS env i || e1.any (·.isVo)) = false) (h2 : (e1[i]?.bind fun o => addItem o y) = some o') (k : Ends mf Φ wf s (e1.set i o') Q) : Ends mf Φ wf (.seq (.app i e) s) env Q := by
  obtain ⟨o, q1, q2⟩ := Option.bind_eq_some_iff.mp h2
  refine ends_seq ⟨.nx, _, ?_, k⟩
  rw [exS]
  simp only [Option.bind_eq_bind, h, Option.bind_some, h1, Bool.false_eq_true, if_false, q1, q2]
theorem seq_poke {i : Nat} {p : List Nat} {y : Sl} {d d' : D} (h : ev mf Φ .val e env = some (y, e1)) (h1 : (!isCst e || env.any (·.isVo)) = false) (h2 : e1[i]? = some (.dp d)) (h3 : imm y.d = true) (h4 : pokeD y.d p d = some d') (k : Ends mf Φ wf s (e1.set i (.dp d')) Q) : Ends mf Φ wf (.seq (.poke i p e) s) env Q := by
  refine ends_seq ⟨.nx, _, ?_, k⟩
  rw [exS]
  simp only [Option.bind_eq_bind, h, Option.bind_some, h1, Bool.false_eq_true, if_false, h2, h3, h4, Bool.not_true]
theorem seq_pop {i : Nat} {y : Sl} {es : List (D × D)} (h : ev mf Φ .val e env = some (y, e1)) (h1 : (!isTKey y.d || !isDictS env i || e1.any (·.isVo)) = false) (h2 : e1[i]? = some (.dp (.dict es))) (h3 : (imms (es.map (·.2)) && es.any (fun z => eqT z.1 y.d)) = true) (k : Ends mf Φ wf s (e1.set i (.dp (.dict (dropD es y.d)))) Q) : Ends mf Φ wf (.seq (.pop i e) s) env Q := by
  refine ends_seq ⟨.nx, _, ?_, k⟩
  rw [exS]
  simp only [Option.bind_eq_bind, h, Option.bind_some, h1, Bool.false_eq_true, if_false, h2, h3, if_true]
/-- a loop of one turn -/
theorem ends_one {k : ItK} {src : Exs} {tg : Tg} {rs : List Sl} {d : D} (h1 : evs mf Φ .val src env = some (rs, e1)) (h2 : dictOk src (rs.map (·.d)) = true) (h3 : iterD k (rs.map (·.d)) = some [d]) (h4 : bindT tg (shN d) e1 = some e2)
    (hb : Ends mf Φ wf b e2 fun f e => f = .nx ∧ Q .nx e) : Ends mf Φ wf (.loop k src tg b) env Q := by
  obtain ⟨f, e, q1, rfl, q2⟩ := hb
  refine ⟨.nx, e, ?_, q2⟩
  rw [exS]
  simp only [Option.bind_eq_bind, h1, Option.bind_some, h2, Bool.not_true, Bool.false_eq_true, if_false, h3, loopF, h4, q1]
/-- a loop by what holds behind each beginning of the walked list -/
theorem loopF_inv {α : Type} (enc : α → D) (I : List α → Ev → Prop) {bind : Sl → Ev → Option Ev} {body : Ev → Option (Fl × Ev)} :
    ∀ (L pre : List α) (env : Ev), I pre env → (∀ p a q env, pre ++ L = p ++ a :: q → I p env → ∃ e1, bind (shN (enc a)) env = some e1 ∧ ∃ f e2, body e1 = some (f, e2) ∧ (f = .nx ∨ f = .ct) ∧ I (p ++ [a]) e2) →
      ∃ env', loopF bind body (L.map enc) env = some (.nx, env') ∧ I (pre ++ L) env'
  | [], pre, env, h, _ => ⟨env, rfl, by simpa using h⟩
  | a :: L, pre, env, h, st => by
    obtain ⟨e1, h1, f, e2, h2, h3, h4⟩ := st pre a L env rfl h
    obtain ⟨env', q1, q2⟩ := loopF_inv enc I L (pre ++ [a]) e2 h4 fun p b q env' e i => st p b q env' (by simpa using e) i
    refine ⟨env', ?_, by simpa using q2⟩
    simp only [List.map_cons, loopF, Option.bind_eq_bind, h1, Option.bind_some, h2]
    rcases h3 with rfl | rfl <;> exact q1
theorem ends_loop {α : Type} (enc : α → D) (L : List α) (I : List α → Ev → Prop) {k : ItK} {src : Exs} {tg : Tg} {rs : List Sl} (h1 : evs mf Φ .val src env = some (rs, e1)) (h2 : dictOk src (rs.map (·.d)) = true) (h3 : iterD k (rs.map (·.d)) = some (L.map enc)) (h4 : I [] e1)
    (st : ∀ p a q env, L = p ++ a :: q → I p env → ∃ e1, bindT tg (shN (enc a)) env = some e1 ∧ Ends mf Φ wf b e1 fun f e2 => (f = .nx ∨ f = .ct) ∧ I (p ++ [a]) e2) (fin : ∀ e, I L e → Q .nx e) : Ends mf Φ wf (.loop k src tg b) env Q := by
  obtain ⟨env', q1, q2⟩ := loopF_inv enc I (bind := fun x env' => bindT tg x env') (body := fun env' => exS mf Φ wf b env') L [] e1 h4 fun p a q env e i => by
    obtain ⟨e1, z1, f, e2, z2, z3, z4⟩ := st p a q env (by simpa using e) i
    exact ⟨e1, z1, f, e2, z2, z3, z4⟩
  refine ⟨.nx, env', ?_, fin env' (by simpa using q2)⟩
  rw [exS]
  simp only [Option.bind_eq_bind, h1, Option.bind_some, h2, Bool.not_true, Bool.false_eq_true, if_false, h3, q1]
theorem run_of {fd : FDef} {ds : List D} {r : Sl} (hl : ds.length = fd.np) (hm : fd.mu = false) (h : Ends mf Φ wf fd.body (env0 fd ds) fun f _ => f = .rt r) : runF mf Φ wf fd ds = some (r, .none) := by
  obtain ⟨f, e, h1, rfl⟩ := h
  unfold runF
  simp [hl, h1, hm]
theorem run_none {fd : FDef} {ds : List D} (hl : ds.length = fd.np) (hm : fd.mu = false) (h : Ends mf Φ wf fd.body (env0 fd ds) fun f _ => f = .nx) : runF mf Φ wf fd ds = some (.dp .none, .none) := by
  obtain ⟨f, e, h1, rfl⟩ := h
  unfold runF
  simp [hl, h1, hm]
theorem runM_of {fd : FDef} {ds : List D} {r : Sl} {d : D} (hl : ds.length = fd.np) (hm : fd.mu = true) (h : Ends mf Φ wf fd.body (env0 fd ds) fun f e => f = .rt r ∧ List.head? (e : List Sl) = some (.bw d)) : runF mf Φ wf fd ds = some (r, d) := by
  obtain ⟨f, e, h1, rfl, h2⟩ := h
  unfold runF
  simp [hl, h1, hm, h2]
end
end Tv
/-! TxB: operations upon data that are numbers, rows of numbers, lists of such, dicts by pairs. Pure Lean. -/
namespace Tv
open PySem
/-! ### numbers, texts -/
theorem okD_int {a : Int} : okD (.int a) = true := by simp [okD, PyData.hasDict, PyData.plain, PyData.depth]
theorem okD_str {a : Str} : okD (.str a) = true := by simp [okD, PyData.hasDict, PyData.plain, PyData.depth]
theorem ordOk_int {a b : Int} : ordOk (.int a) (.int b) = true := by simp [ordOk, PySem.W.alike, notNone, PyData.hasDict, PyData.depth]
@[simp] theorem cmp_eq_int {a b : Int} : cmpD .eq (.int a) (.int b) = some (decide (a = b)) := by
  simp only [cmpD, okD_int, Bool.and_self, if_true, PyData.eqv]
  rfl
@[simp] theorem cmp_ne_int {a b : Int} : cmpD .ne (.int a) (.int b) = some (decide (a ≠ b)) := by
  simp only [cmpD, okD_int, Bool.and_self, if_true, PyData.eqv]
  by_cases h : a = b <;> simp [h]
@[simp] theorem cmp_lt_int {a b : Int} : cmpD .lt (.int a) (.int b) = some (decide (a < b)) := by
  simp only [cmpD, ordOk_int, if_true, PySem.W.dataLt_int]
@[simp] theorem cmp_gt_int {a b : Int} : cmpD .gt (.int a) (.int b) = some (decide (b < a)) := by
  simp only [cmpD, ordOk_int, if_true, PySem.W.dataLt_int]
@[simp] theorem cmp_le_int {a b : Int} : cmpD .le (.int a) (.int b) = some (decide (a ≤ b)) := by
  simp only [cmpD, ordOk_int, if_true, PySem.W.dataLt_int]
  by_cases h : a ≤ b
  · have : ¬ b < a := by omega
    simp [h, this]
  · have : b < a := by omega
    simp [h, this]
@[simp] theorem cmp_ge_int {a b : Int} : cmpD .ge (.int a) (.int b) = some (decide (b ≤ a)) := by
  simp only [cmpD, ordOk_int, if_true, PySem.W.dataLt_int]
  by_cases h : b ≤ a
  · have : ¬ a < b := by omega
    simp [h, this]
  · have : a < b := by omega
    simp [h, this]
@[simp] theorem cmp_isN_none : cmpD .isN .none .none = some true := (rfl)
@[simp] theorem cmp_isN_int {a : Int} : cmpD .isN (.int a) .none = some false := (rfl)
@[simp] theorem cmp_notN_none : cmpD .notN .none .none = some false := (rfl)
@[simp] theorem cmp_notN_int {a : Int} : cmpD .notN (.int a) .none = some true := (rfl)
@[simp] theorem cmp_notN_list {a : List D} : cmpD .notN (.list a) .none = some true := (rfl)
theorem cmp_eq_str {a b : Str} : cmpD .eq (.str a) (.str b) = some (a == b) := by
  simp only [cmpD, okD_str, Bool.and_self, if_true, PyData.eqv]
theorem cmp_ne_str {a b : Str} : cmpD .ne (.str a) (.str b) = some (!(a == b)) := by
  simp only [cmpD, okD_str, Bool.and_self, if_true, PyData.eqv]
theorem str_beq (a : Str) : (a == a) = true := by simp
@[simp] theorem cmp_eq_str_self {a : Str} : cmpD .eq (.str a) (.str a) = some true := by rw [cmp_eq_str, str_beq]
@[simp] theorem cmp_ne_str_self {a : Str} : cmpD .ne (.str a) (.str a) = some false := by rw [cmp_ne_str, str_beq]; rfl
@[simp] theorem cmp_eq_nil : cmpD .eq (.list []) (.list []) = some true := (rfl)
@[simp] theorem cmp_ne_nil : cmpD .ne (.list []) (.list []) = some false := (rfl)
@[simp] theorem bin_add {i j : Int} : binD .add (.int i) (.int j) = some (.dp (.int (i + j))) := (rfl)
@[simp] theorem bin_sub {i j : Int} : binD .sub (.int i) (.int j) = some (.dp (.int (i - j))) := (rfl)
theorem bin_mul {i j : Int} (h : i.natAbs.log2 + j.natAbs.log2 < 1000000) : binD .mul (.int i) (.int j) = some (.dp (.int (i * j))) := by simp [binD, h]
theorem bin_fdiv {i j : Int} (h : 0 < j) (h2 : j.natAbs.log2 < 9000) : binD .fdiv (.int i) (.int j) = some (.dp (.int (i / j))) := by simp [binD, h, h2]
theorem bin_mod {i j : Int} (h : 0 < j) : binD .mod (.int i) (.int j) = some (.dp (.int (i % j))) := by simp [binD, h]
theorem bin_app {xs ys : List D} (h : imms xs = true) (h2 : imms ys = true) (hl : xs.length + ys.length ≤ 100000) : binD .add (.list xs) (.list ys) = some (.dp (.list (xs ++ ys))) := by
  simp [binD, szOk, hl, mkList, h, h2]
@[simp] theorem ty_int {a : Int} : Ty.is .int (.int a) = true := (rfl)
@[simp] theorem ty_bool_int {a : Int} : Ty.is .bool (.int a) = false := (rfl)
@[simp] theorem ty_tup {xs : List D} : Ty.is .tuple (.tuple xs) = true := (rfl)
@[simp] theorem ty_list {xs : List D} : Ty.is .list (.list xs) = true := (rfl)
@[simp] theorem isDictD_int {a : Int} : isDictD (.int a) = false := (rfl)
@[simp] theorem isDictD_list {a : List D} : isDictD (.list a) = false := (rfl)
@[simp] theorem isDictD_tup {a : List D} : isDictD (.tuple a) = false := (rfl)
@[simp] theorem isIntD_int {a : Int} : isIntD (.int a) = true := (rfl)
@[simp] theorem isNoneEx_n : isNoneEx (.cst .none) = true := (rfl)
@[simp] theorem blt_len_list {o : Bool} {xs : List D} : bltD o .len [.list xs] = some (.dp (.int xs.length)) := (rfl)
@[simp] theorem blt_len_tup {o : Bool} {xs : List D} : bltD o .len [.tuple xs] = some (.dp (.int xs.length)) := (rfl)
@[simp] theorem blt_min2 {o : Bool} {i j : Int} : bltD o .min2 [.int i, .int j] = some (.dp (.int (if j < i then j else i))) := (rfl)
@[simp] theorem blt_max2 {o : Bool} {i j : Int} : bltD o .max2 [.int i, .int j] = some (.dp (.int (if i < j then j else i))) := (rfl)
@[simp] theorem blt_int_int {o : Bool} {i : Int} : bltD o .int [.int i] = some (.dp (.int i)) := (rfl)
@[simp] theorem blt_int_bool {o b : Bool} : bltD o .int [.bool b] = some (.dp (.int (if b then 1 else 0))) := (rfl)
@[simp] theorem blt_list {o : Bool} {xs : List D} (h : imms xs = true) : bltD o .list [.list xs] = some (.dp (.list xs)) := by simp [bltD, h, mkList]
/-! ### items -/
theorem ixD_nat {n j : Nat} (h : j < n) : ixD n (j : Int) = some j := by simp [ixD, h]
theorem item_list {xs : List D} {j : Nat} {d : D} {i : Int} (hi : i = j) (h : xs[j]? = some d) : itemD (.list xs) (.int i) = some d := by
  subst hi
  have := (List.getElem?_eq_some_iff.mp h).1
  simp [itemD, ixD_nat this, h]
theorem item_map {α : Type} {enc : α → D} {L : List α} {j : Nat} {a : α} {i : Int} (hi : i = j) (h : L[j]? = some a) : itemD (.list (L.map enc)) (.int i) = some (enc a) := item_list hi (by rw [List.getElem?_map, h]; rfl)
theorem item_last {xs : List D} {d : D} (h : xs.getLast? = some d) : itemD (.list xs) (.int (-1)) = some d := by
  have hne : xs ≠ [] := by rintro rfl; simp at h
  have hl : 0 < xs.length := List.length_pos_iff.mpr hne
  have e : ixD xs.length (-1) = some (xs.length - 1) := by
    unfold ixD
    rw [if_neg (by omega), if_pos (by omega)]
    exact congrArg some (by omega)
  rw [List.getLast?_eq_getElem?] at h
  simp [itemD, e, h]
theorem item_tupn {xs : List D} {j : Nat} {d : D} {i : Int} (hi : i = j) (h : xs[j]? = some d) : itemD (.tuple xs) (.int i) = some d := by
  subst hi
  have := (List.getElem?_eq_some_iff.mp h).1
  simp [itemD, ixD_nat this, h]
@[simp] theorem item_tup0 {d : D} {ds : List D} : itemD (.tuple (d :: ds)) (.int 0) = some d := item_tupn (j := 0) rfl rfl
@[simp] theorem item_tup1 {d e : D} {ds : List D} : itemD (.tuple (d :: e :: ds)) (.int 1) = some e := item_tupn (j := 1) rfl rfl
@[simp] theorem item_tup2 {d e f : D} {ds : List D} : itemD (.tuple (d :: e :: f :: ds)) (.int 2) = some f := item_tupn (j := 2) rfl rfl
@[simp] theorem item_l0 {d : D} {ds : List D} : itemD (.list (d :: ds)) (.int 0) = some d := item_list (j := 0) rfl rfl
@[simp] theorem item_l1 {d e : D} {ds : List D} : itemD (.list (d :: e :: ds)) (.int 1) = some e := item_list (j := 1) rfl rfl
@[simp] theorem item_l2 {d e f : D} {ds : List D} : itemD (.list (d :: e :: f :: ds)) (.int 2) = some f := item_list (j := 2) rfl rfl
@[simp] theorem itemRes_imm {m : Md} {x : Sl} {d : D} (h : imm d = true) : itemRes m x d = some (.dp d) := by simp [itemRes, h]
@[simp] theorem itemRes_int {m : Md} {x : Sl} {i : Int} : itemRes m x (.int i) = some (.dp (.int i)) := (rfl)
@[simp] theorem itemRes_vob {d : D} (h : imm d = false) : itemRes .bor (.vo d') d = some (.vo d) := by simp [itemRes, h]
@[simp] theorem itemRes_sh {m : Md} {d d' : D} (h : imm d = false) : itemRes m (.sh d') d = some (.sh d) := by simp [itemRes, h]
/-! ### texts of data -/
mutual
def smD : D → Bool
  | .none | .bool _ => true
  | .int i => decide (i.natAbs < 10 ^ 17)
  | .str _ => false
  | .list xs | .tuple xs => smDs xs
  | .dict _ => false
def smDs : List D → Bool
  | [] => true
  | x :: xs => smD x && smDs xs
end
mutual
def tkD' : D → Nat
  | .list xs | .tuple xs => 1 + tkDs xs
  | _ => 1
def tkDs : List D → Nat
  | [] => 0
  | x :: xs => tkD' x + tkDs xs
end
theorem log2_lt_of_lt {n k : Nat} (hk : 0 < k) (h : n < 2 ^ k) : n.log2 < k := by
  by_cases h0 : n = 0
  · subst h0; simpa using hk
  · exact (Nat.log2_lt h0).mpr h
mutual
theorem shown_tk : ∀ d : D, smD d = true → (PyData.shown d).length + 2 ≤ 20 * tkD' d ∧ PyData.showable d = true ∧ PyData.hasDict d = false
  | .none, _ => ⟨by simp only [PyData.shown, tkD']; decide, rfl, rfl⟩
  | .bool b, _ => ⟨by cases b <;> (simp only [PyData.shown, tkD']; decide), rfl, rfl⟩
  | .int i, h => by
    have h' : i.natAbs < 10 ^ 17 := by simpa [smD] using h
    refine ⟨?_, ?_, rfl⟩
    · have e : (toString i).length ≤ 18 := int_text_length_le10 (k := 17) (by decide) h'
      have e2 : (PyData.shown (.int i)).length = (toString i).length := by
        show (Str.ofString (toString i)).length = _
        rw [ofString_length]
      rw [e2]
      show _ ≤ 20 * 1
      omega
    · refine decide_eq_true (p := i.natAbs.log2 < 1920) ?_
      refine log2_lt_of_lt (by decide) (Nat.lt_of_lt_of_le h' ?_)
      exact Nat.le_trans (by decide : 10 ^ 17 ≤ 2 ^ 60) (Nat.pow_le_pow_right (by decide) (by decide))
  | .str _, h => by simp [smD] at h
  | .dict _, h => by simp [smD] at h
  | .list xs, h => by
    obtain ⟨h1, h2, h3⟩ := shown_tks xs (by simpa [smD] using h)
    refine ⟨?_, by simpa only [PyData.showable] using h2, by simpa only [PyData.hasDict] using h3⟩
    have := listText_len_le (PyData.shownAll xs)
    have e := PyData.shownAll_length xs
    simp only [PyData.shown, tkD']
    omega
  | .tuple xs, h => by
    obtain ⟨h1, h2, h3⟩ := shown_tks xs (by simpa [smD] using h)
    refine ⟨?_, by simpa only [PyData.showable] using h2, by simpa only [PyData.hasDict] using h3⟩
    have := tupleText_len_le (PyData.shownAll xs)
    have e := PyData.shownAll_length xs
    simp only [PyData.shown, tkD']
    omega
theorem shown_tks : ∀ ds : List D, smDs ds = true → ((PyData.shownAll ds).map (·.length)).sum + 2 * ds.length ≤ 20 * tkDs ds ∧ PyData.showableAll ds = true ∧ PyData.hasDictAll ds = false
  | [], _ => ⟨by simp [PyData.shownAll, tkDs], rfl, rfl⟩
  | d :: ds, h => by
    have h' : smD d = true ∧ smDs ds = true := by simpa [smDs] using h
    obtain ⟨a1, a2, a3⟩ := shown_tk d h'.1
    obtain ⟨b1, b2, b3⟩ := shown_tks ds h'.2
    refine ⟨?_, by simp [PyData.showableAll, a2, b2], by simp [PyData.hasDictAll, a3, b3]⟩
    simp only [PyData.shownAll, List.map_cons, List.sum_cons, List.length_cons, tkDs]
    omega
end
theorem repr_ok {o : Bool} {d : D} (h : smD d = true) (h2 : PyData.depth d ≤ 50) (h3 : tkD' d ≤ 50000) : bltD o .repr [d] = some (.dp (.str (PyData.shown d))) := by
  obtain ⟨a1, a2, a3⟩ := shown_tk d h
  have : (PyData.shown d).length ≤ 1000000 := by omega
  simp [bltD, a2, a3, h2, this]
section
variable {α : Type} {f : α → D} {L : List α}
theorem smDs_map (h : ∀ a ∈ L, smD (f a) = true) : smDs (L.map f) = true := by
  induction L with
  | nil => rfl
  | cons a L ih => simp only [List.map_cons, smDs, h a (by simp), ih fun b hb => h b (by simp [hb]), Bool.and_self]
theorem depths_map {n : Nat} (h : ∀ a ∈ L, PyData.depth (f a) ≤ n) : PyData.depthAll (L.map f) ≤ n := by
  induction L with
  | nil => simp [PyData.depthAll]
  | cons a L ih => simp only [List.map_cons, PyData.depthAll]; exact Nat.max_le.mpr ⟨h a (by simp), ih fun b hb => h b (by simp [hb])⟩
theorem tkDs_map {n : Nat} (h : ∀ a ∈ L, tkD' (f a) ≤ n) : tkDs (L.map f) ≤ L.length * n := by
  induction L with
  | nil => simp [tkDs]
  | cons a L ih =>
    simp only [List.map_cons, tkDs, List.length_cons, Nat.add_mul, Nat.one_mul]
    have h1 := h a (by simp)
    have h2 := ih fun b hb => h b (by simp [hb])
    omega
end
/-! ### rows of numbers -/
abbrev tuI (r : List Int) : D := .tuple (r.map .int)
abbrev lI (r : List Int) : D := .list (r.map .int)
def ltI : List Int → List Int → Bool
  | [], [] => false
  | [], _ :: _ => true
  | _ :: _, [] => false
  | x :: xs, y :: ys => decide (x < y) || (decide (x = y) && ltI xs ys)
theorem alike_ints : ∀ xs ys : List Int, PySem.W.alikeAll (xs.map .int) (ys.map .int) = true
  | [], ys => by simp [PySem.W.alikeAll]
  | x :: xs, [] => by simp [PySem.W.alikeAll]
  | x :: xs, y :: ys => by simp [PySem.W.alikeAll, PySem.W.alike, alike_ints xs ys]
theorem toks_lt : ∀ xs ys : List Int, PyProof.Rows.lexLt PyProof.Rows.itemOrd (PySem.W.keyToksAll (xs.map PyData.int)) (PySem.W.keyToksAll (ys.map PyData.int)) = ltI xs ys
  | [], [] => rfl
  | [], y :: ys => rfl
  | x :: xs, [] => rfl
  | x :: xs, y :: ys => by
    have al : PySem.W.alike (.int x) (.int y) = true := rfl
    simp only [List.map_cons, ltI]
    by_cases h : x = y
    · subst h
      have e : PyData.eqv (.int x) (.int x) = true := by simp [PyData.eqv]
      rw [PySem.W.dataLt_all_yes al e, toks_lt xs ys]
      simp
    · have e : PyData.eqv (.int x) (.int y) = false := by simp [PyData.eqv, h]
      rw [PySem.W.dataLt_all_no al e, PySem.W.dataLt_int]
      simp [h]
theorem dataLt_tI (r s : List Int) : PySem.W.dataLt (tuI r) (tuI s) = ltI r s := by rw [PySem.W.dataLt_tuple, toks_lt]
theorem dataLt_lI (r s : List Int) : PySem.W.dataLt (lI r) (lI s) = ltI r s := by rw [PySem.W.dataLt_list, toks_lt]
theorem dataLe_eq (x y : D) : PySem.W.dataLe false (fun d => d) x y = !PySem.W.dataLt y x := rfl
theorem depth_tI (r : List Int) : PyData.depth (tuI r) ≤ 1 := by
  have : PyData.depthAll (r.map PyData.int) ≤ 0 := depths_map fun a _ => by simp [PyData.depth]
  simp only [PyData.depth]; omega
theorem depth_lI (r : List Int) : PyData.depth (lI r) ≤ 1 := by
  have : PyData.depthAll (r.map PyData.int) ≤ 0 := depths_map fun a _ => by simp [PyData.depth]
  simp only [PyData.depth]; omega
theorem hasDict_ints (r : List Int) : PyData.hasDictAll (r.map PyData.int) = false := by
  induction r with
  | nil => rfl
  | cons a r ih => simp [PyData.hasDictAll, PyData.hasDict, ih]
theorem plain_ints (r : List Int) : PyData.plainAll (r.map PyData.int) = true := by
  induction r with
  | nil => rfl
  | cons a r ih => simp [PyData.plainAll, PyData.plain, ih]
theorem okD_tI (r : List Int) : okD (tuI r) = true := by
  have := depth_tI r
  simp [okD, PyData.hasDict, PyData.plain, hasDict_ints, plain_ints]
  omega
theorem okD_lI (r : List Int) : okD (lI r) = true := by
  have := depth_lI r
  simp [okD, PyData.hasDict, PyData.plain, hasDict_ints, plain_ints]
  omega
theorem ordOk_tI (r s : List Int) : ordOk (tuI r) (tuI s) = true := by
  have := depth_tI r
  simp [ordOk, PySem.W.alike, alike_ints, notNone, PyData.hasDict, hasDict_ints]
  omega
theorem cmp_ge_tI (r s : List Int) : cmpD .ge (tuI r) (tuI s) = some (!ltI r s) := by
  simp only [cmpD, ordOk_tI, if_true, dataLt_tI]
theorem cmp_ge_2 {a b c d : Int} : cmpD .ge (.tuple [.int a, .int b]) (.tuple [.int c, .int d]) = some (!ltI [a, b] [c, d]) := cmp_ge_tI [a, b] [c, d]
@[simp] theorem slice_t2 {a b : D} {ds : List D} : sliceD (.tuple (a :: b :: ds)) .none (.int 2) = some (false, [a, b]) := by
  simp only [sliceD, sliceEnd, Option.bind_eq_bind, Option.bind_some]
  simp
theorem slice_to {xs : List D} {j : Nat} {i : Int} (hi : i = j) (h : j ≤ xs.length) : sliceD (.list xs) .none (.int i) = some (true, xs.take j) := by
  subst hi
  have h0 : ¬ ((j : Int) < 0) := by omega
  simp only [sliceD, sliceEnd, Option.bind_eq_bind, Option.bind_some]
  simp [h, h0]
theorem slice_from {xs : List D} {j : Nat} {i : Int} (hi : i = j) (h : j ≤ xs.length) : sliceD (.list xs) (.int i) .none = some (true, xs.drop j) := by
  subst hi
  have h0 : ¬ ((j : Int) < 0) := by omega
  have h1 : xs.drop j = (xs.drop j).take (xs.length - j) := (List.take_of_length_le (by simp)).symm
  simp only [sliceD, sliceEnd, Option.bind_eq_bind, Option.bind_some]
  simp [h, h0, ← h1]
theorem slice_t1 {a b c : D} : sliceD (.tuple [a, b, c]) (.int 1) .none = some (false, [b, c]) := by
  simp only [sliceD, sliceEnd, Option.bind_eq_bind, Option.bind_some]
  simp
theorem eqv_ints : ∀ r s : List Int, PyData.eqvAll (r.map .int) (s.map .int) = decide (r = s)
  | [], [] => rfl
  | [], _ :: _ => rfl
  | _ :: _, [] => rfl
  | x :: r, y :: s => by
    simp only [List.map_cons, PyData.eqvAll, PyData.eqv, eqv_ints r s]
    by_cases h : x = y <;> by_cases h2 : r = s <;> simp [h, h2]
theorem cmp_ne_tI (r s : List Int) : cmpD .ne (tuI r) (tuI s) = some (!decide (r = s)) := by
  simp only [cmpD, okD_tI, Bool.and_self, if_true, PyData.eqv, eqv_ints]
theorem cmp_eq_tI (r s : List Int) : cmpD .eq (tuI r) (tuI s) = some (decide (r = s)) := by
  simp only [cmpD, okD_tI, Bool.and_self, if_true, PyData.eqv, eqv_ints]
theorem cmp_eq_lI (r s : List Int) : cmpD .eq (lI r) (lI s) = some (decide (r = s)) := by
  simp only [cmpD, okD_lI, Bool.and_self, if_true, PyData.eqv, eqv_ints]
theorem cmp_ne_lI (r s : List Int) : cmpD .ne (lI r) (lI s) = some (!decide (r = s)) := by
  simp only [cmpD, okD_lI, Bool.and_self, if_true, PyData.eqv, eqv_ints]
theorem any_ints (v : Int) (r : List Int) : ((r.map PyData.int).any fun z => PyData.eqv z (.int v)) = decide (v ∈ r) := by
  induction r with
  | nil => rfl
  | cons a r ih =>
    simp only [List.map_cons, List.any_cons, ih, PyData.eqv, List.mem_cons]
    by_cases h : a = v
    · simp [h]
    · have : ¬ v = a := fun e => h e.symm
      simp [h, this]
theorem cmp_inn_lI (v : Int) (r : List Int) : cmpD .inn (.int v) (lI r) = some (decide (v ∈ r)) := by
  simp only [cmpD, okD_int, okD_lI, Bool.and_self, if_true, any_ints]
theorem cmp_nin_lI (v : Int) (r : List Int) : cmpD .nin (.int v) (lI r) = some (!decide (v ∈ r)) := by
  simp only [cmpD, okD_int, okD_lI, Bool.and_self, if_true, any_ints]
theorem cmp_inn_tI (v : Int) (r : List Int) : cmpD .inn (.int v) (tuI r) = some (decide (v ∈ r)) := by
  simp only [cmpD, okD_int, okD_tI, Bool.and_self, if_true, any_ints]
theorem cmp_nin_tI (v : Int) (r : List Int) : cmpD .nin (.int v) (tuI r) = some (!decide (v ∈ r)) := by
  simp only [cmpD, okD_int, okD_tI, Bool.and_self, if_true, any_ints]
theorem eqv_tI (r : List Int) : PyData.eqv (tuI r) (tuI r) = true := by simp [PyData.eqv, eqv_ints]
/-- a list of rows of numbers is itself -/
theorem cmp_ne_self {α : Type} {enc : α → D} (key : α → List Int) (h : ∀ a, enc a = tuI (key a)) (L : List α) : cmpD .ne (.list (L.map enc)) (.list (L.map enc)) = some false := by
  have e : enc = fun a => tuI (key a) := funext h
  subst e
  have d1 : PyData.depthAll (L.map fun a => tuI (key a)) ≤ 1 := depths_map fun a _ => depth_tI _
  have p1 : PyData.plainAll (L.map fun a => tuI (key a)) = true := by
    clear d1
    induction L with
    | nil => rfl
    | cons a L ih => simp [PyData.plainAll, PyData.plain, plain_ints, ih]
  have q1 : PyData.hasDictAll (L.map fun a => tuI (key a)) = false := by
    clear d1 p1
    induction L with
    | nil => rfl
    | cons a L ih => simp [PyData.hasDictAll, PyData.hasDict, hasDict_ints, ih]
  have v1 : PyData.eqvAll (L.map fun a => tuI (key a)) (L.map fun a => tuI (key a)) = true := by
    clear d1 p1 q1
    induction L with
    | nil => rfl
    | cons a L ih => simp only [List.map_cons, PyData.eqvAll, eqv_tI, ih, Bool.and_self]
  have o1 : okD (.list (L.map fun a => tuI (key a))) = true := by
    simp only [okD, PyData.hasDict, q1, PyData.plain, p1, Bool.not_false, Bool.true_and]
    exact decide_eq_true (by simp only [PyData.depth]; omega)
  simp only [cmpD, o1, Bool.and_self, if_true, PyData.eqv, v1, Bool.not_true]
/-! ### sorted -/
section
variable {α : Type} (enc : α → D) (le : α → α → Bool)
def insB (a : α) : List α → List α
  | [] => [a]
  | b :: l => if le a b then a :: b :: l else b :: insB a l
def srtB : List α → List α
  | [] => []
  | a :: l => insB le a (srtB l)
variable {enc le} (h : ∀ a b, PySem.W.dataLe false (fun d => d) (enc a) (enc b) = le a b)
include h
theorem insD_map (a : α) : ∀ l : List α, insD (enc a) (l.map enc) = (insB le a l).map enc
  | [] => rfl
  | b :: l => by
    simp only [List.map_cons, insD, insB, h]
    cases le a b
    · simp [insD_map a l]
    · simp
theorem sortD_map : ∀ l : List α, sortD (l.map enc) = (srtB le l).map enc
  | [] => rfl
  | a :: l => by rw [List.map_cons, sortD, sortD_map l, insD_map h]; rfl
omit h
theorem insB_perm (a : α) : ∀ l : List α, (insB le a l).Perm (a :: l)
  | [] => List.Perm.refl _
  | b :: l => by
    unfold insB
    split
    · exact List.Perm.refl _
    · exact ((insB_perm a l).cons b).trans (List.Perm.swap a b l)
theorem srtB_perm : ∀ l : List α, (srtB le l).Perm l
  | [] => List.Perm.refl _
  | a :: l => (insB_perm a _).trans ((srtB_perm l).cons a)
/-- sorted, if le is total and goes on -/
theorem insB_sorted (tot : ∀ a b, le a b = true ∨ le b a = true) (tr : ∀ a b c, le a b = true → le b c = true → le a c = true) (a : α) : ∀ l : List α, l.Pairwise (fun x y => le x y = true) → (insB le a l).Pairwise fun x y => le x y = true
  | [], _ => by simp [insB]
  | b :: l, hp => by
    have hp' := List.pairwise_cons.mp hp
    unfold insB
    by_cases hab : le a b = true
    · rw [if_pos hab]
      refine List.pairwise_cons.mpr ⟨fun c hc => ?_, hp⟩
      rcases List.mem_cons.mp hc with rfl | hc
      · exact hab
      · exact tr _ _ _ hab (hp'.1 c hc)
    · rw [if_neg hab]
      refine List.pairwise_cons.mpr ⟨fun c hc => ?_, insB_sorted tot tr a l hp'.2⟩
      rcases List.mem_cons.mp ((insB_perm a l).mem_iff.mp hc) with rfl | hc
      · exact (tot b c).resolve_right hab
      · exact hp'.1 c hc
theorem srtB_sorted (tot : ∀ a b, le a b = true ∨ le b a = true) (tr : ∀ a b c, le a b = true → le b c = true → le a c = true) : ∀ l : List α, (srtB le l).Pairwise fun x y => le x y = true
  | [] => List.Pairwise.nil
  | a :: l => insB_sorted tot tr a _ (srtB_sorted tot tr l)
end
/-- two lists that ascend strictly and have the same members are one -/
theorem asc_ext {α : Type} {lt : α → α → Prop} (irr : ∀ a, ¬ lt a a) (asy : ∀ a b, lt a b → ¬ lt b a) : ∀ {xs ys : List α}, xs.Pairwise lt → ys.Pairwise lt → (∀ a, a ∈ xs ↔ a ∈ ys) → xs = ys
  | [], [], _, _, _ => rfl
  | [], y :: ys, _, _, h => by simpa using (h y).mpr (by simp)
  | x :: xs, [], _, _, h => by simpa using (h x).mp (by simp)
  | x :: xs, y :: ys, hx, hy, h => by
    have hx' := List.pairwise_cons.mp hx
    have hy' := List.pairwise_cons.mp hy
    have e : x = y := by
      rcases List.mem_cons.mp ((h x).mp (by simp)) with e | m
      · exact e
      · rcases List.mem_cons.mp ((h y).mpr (by simp)) with e | m'
        · exact e.symm
        · exact absurd (hx'.1 y m') (asy _ _ (hy'.1 x m))
    subst e
    refine congrArg _ (asc_ext irr asy hx'.2 hy'.2 fun a => ⟨fun ha => ?_, fun ha => ?_⟩)
    · rcases List.mem_cons.mp ((h a).mp (by simp [ha])) with e | m
      · subst e; exact absurd (hx'.1 a ha) (irr a)
      · exact m
    · rcases List.mem_cons.mp ((h a).mpr (by simp [ha])) with e | m
      · subst e; exact absurd (hy'.1 a ha) (irr a)
      · exact m
theorem ltI_irr : ∀ r : List Int, ltI r r = false
  | [] => rfl
  | x :: r => by simp [ltI, ltI_irr r]
theorem ltI_trans : ∀ r s t : List Int, ltI r s = true → ltI s t = true → ltI r t = true
  | [], [], _, h, _ => by simp [ltI] at h
  | [], _ :: _, [], _, h => by simp [ltI] at h
  | [], _ :: _, _ :: _, _, _ => rfl
  | _ :: _, [], _, h, _ => by simp [ltI] at h
  | _ :: _, _ :: _, [], _, h => by simp [ltI] at h
  | x :: r, y :: s, z :: t, h1, h2 => by
    simp only [ltI, Bool.or_eq_true, decide_eq_true_eq, Bool.and_eq_true] at h1 h2 ⊢
    rcases h1 with h1 | ⟨rfl, h1⟩
    · rcases h2 with h2 | ⟨rfl, h2⟩
      · exact .inl (by omega)
      · exact .inl h1
    · rcases h2 with h2 | ⟨rfl, h2⟩
      · exact .inl h2
      · exact .inr ⟨rfl, ltI_trans r s t h1 h2⟩
theorem ltI_tot : ∀ r s : List Int, ltI r s = true ∨ r = s ∨ ltI s r = true
  | [], [] => .inr (.inl rfl)
  | [], _ :: _ => .inl rfl
  | _ :: _, [] => .inr (.inr rfl)
  | x :: r, y :: s => by
    simp only [ltI, Bool.or_eq_true, decide_eq_true_eq, Bool.and_eq_true, List.cons.injEq]
    rcases Int.lt_trichotomy x y with h | h | h
    · exact .inl (.inl h)
    · rcases ltI_tot r s with q | q | q
      · exact .inl (.inr ⟨h, q⟩)
      · exact .inr (.inl ⟨h, q⟩)
      · exact .inr (.inr (.inr ⟨h.symm, q⟩))
    · exact .inr (.inr (.inl h))
theorem ltI_asy {r s : List Int} (h : ltI r s = true) : ltI s r = false := by
  cases q : ltI s r with
  | false => rfl
  | true =>
    have z := ltI_trans _ _ _ h q
    rw [ltI_irr r] at z
    cases z
/-- Python's order of rows: not after -/
def leI (r s : List Int) : Bool := !ltI s r
theorem leI_tot (r s : List Int) : leI r s = true ∨ leI s r = true := by
  unfold leI
  rcases ltI_tot r s with h | h | h
  · exact .inl (by simp [ltI_asy h])
  · subst h; exact .inl (by simp [ltI_irr])
  · exact .inr (by simp [ltI_asy h])
theorem leI_trans (r s t : List Int) (h1 : leI r s = true) (h2 : leI s t = true) : leI r t = true := by
  simp only [leI, Bool.not_eq_true'] at h1 h2 ⊢
  cases q : ltI t r with
  | false => rfl
  | true =>
    rcases ltI_tot r s with h | h | h
    · rw [ltI_trans _ _ _ q h] at h2; cases h2
    · subst h; rw [q] at h2; cases h2
    · rw [h] at h1; cases h1
theorem leI_lt {r s : List Int} (h : leI r s = true) (hne : r ≠ s) : ltI r s = true := by
  rcases ltI_tot r s with q | q | q
  · exact q
  · exact absurd q hne
  · simp [leI, q] at h
/-- sorted(..) of a list of things that are rows of numbers -/
theorem blt_sorted {α : Type} {o : Bool} {enc : α → D} (key : α → List Int) (h : ∀ a, enc a = tuI (key a)) {L : List α} (hl : L.length ≤ 100000) (hne : ∀ a ∈ L, key a ≠ []) : bltD o .sorted [.list (L.map enc)] = some (.dp (.list ((srtB (fun a b => leI (key a) (key b)) L).map enc))) := by
  have i : imms (L.map enc) = true := imms_map (fun a => by rw [h]; exact imms_map (fun _ => rfl) _) L
  have i2 : ∀ L' : List α, imms (L'.map enc) = true := fun L' => imms_map (fun a => by rw [h]; exact imms_map (fun _ => rfl) _) L'
  have sd : sortD (L.map enc) = (srtB (fun a b => leI (key a) (key b)) L).map enc := sortD_map (fun a b => by rw [dataLe_eq, h, h, dataLt_tI]; rfl) L
  have hd : PyData.hasDictAll (L.map enc) = false := by
    clear hl hne i sd
    induction L with
    | nil => rfl
    | cons a L ih =>
      have z : PyData.hasDict (enc a) = false := by rw [h]; simpa only [PyData.hasDict] using hasDict_ints (key a)
      simp only [List.map_cons, PyData.hasDictAll, z, ih, Bool.or_self]
  have so : sortable (L.map enc) = true := by
    simp only [sortable, szOk, List.length_map, hl, decide_true, Bool.true_and, Bool.and_eq_true, List.all_eq_true, List.mem_map, forall_exists_index, and_imp, forall_apply_eq_imp_iff₂]
    refine ⟨⟨fun a _ b _ => by rw [h, h]; simp [PySem.W.alike, alike_ints], ?_⟩, fun a _ => ?_⟩
    · rw [Bool.or_eq_true]
      refine .inl ?_
      simp only [List.all_eq_true, List.mem_map, forall_exists_index, and_imp, forall_apply_eq_imp_iff₂]
      intro a ha
      rw [h]
      cases hk : key a with
      | nil => exact absurd hk (hne a ha)
      | cons x r => rfl
    · have := depth_tI (key a)
      rw [h]
      exact decide_eq_true (by omega)
  simp only [bltD, so, hd, i, Bool.not_false, Bool.and_self, Bool.or_true, if_true, sd, mkList, i2]
theorem zipD_map {α : Type} (f g : α → D) : ∀ L : List α, zipD (L.map f) (L.map g) = L.map fun a => .tuple [f a, g a]
  | [] => rfl
  | a :: L => by simp [zipD, zipD_map f g L]
theorem can0_ints (r : List Int) : PyData.canLayAll0 (r.map PyData.int) = true := by
  induction r with
  | nil => rfl
  | cons a r ih => simp [PyData.canLayAll0, PyData.canLay0, ih]
/-- index(..) in a list of rows of numbers -/
theorem mth_index {α : Type} {enc : α → D} (key : α → List Int) (h : ∀ a, enc a = tuI (key a)) {L : List α} {x : List Int} {j : Nat} {a : α} (hj : L[j]? = some a) (ha : key a = x) (hn : ∀ (i : Nat) (b : α), i < j → L[i]? = some b → key b ≠ x) : mthD .index (.list (L.map enc)) [tuI x] = some (.dp (.int j)) := by
  have e : enc = fun a => tuI (key a) := funext h
  subst e
  have d1 : PyData.depthAll (L.map fun a => tuI (key a)) ≤ 1 := depths_map fun a _ => depth_tI _
  have d2 := depth_tI x
  have c1 : PyData.canLayAll0 (L.map fun a => tuI (key a)) = true := by
    clear hj hn d1
    induction L with
    | nil => rfl
    | cons a L ih => simp [PyData.canLayAll0, PyData.canLay0, can0_ints, ih]
  have p1 : PyData.plainAll (L.map fun a => tuI (key a)) = true := by
    clear hj hn d1 c1
    induction L with
    | nil => rfl
    | cons a L ih => simp [PyData.plainAll, PyData.plain, plain_ints, ih]
  have q1 : PyData.hasDictAll (L.map fun a => tuI (key a)) = false := by
    clear hj hn d1 c1 p1
    induction L with
    | nil => rfl
    | cons a L ih => simp [PyData.hasDictAll, PyData.hasDict, hasDict_ints, ih]
  have ix : indexD (L.map fun a => tuI (key a)) (tuI x) = some j := by
    clear d1 c1 p1 q1
    induction L generalizing j with
    | nil => simp at hj
    | cons b L ih =>
      simp only [List.map_cons, indexD, PyData.eqv, eqv_ints]
      cases j with
      | zero =>
        have : b = a := by simpa using hj
        subst this
        simp [ha]
      | succ j =>
        have hb : key b ≠ x := hn 0 b (by omega) rfl
        have := ih (j := j) (by simpa using hj) fun i c hi hc => hn (i + 1) c (by omega) (by simpa using hc)
        simp [hb, this]
  have s1 : SeqAt.shaped (.list (L.map fun a => tuI (key a))) = true := by
    simp only [SeqAt.shaped, PyData.canLay0, c1, Bool.true_and]
    exact decide_eq_true (by simp only [PyData.depth]; omega)
  have s2 : SeqAt.shaped (tuI x) = true := by
    simp only [SeqAt.shaped, PyData.canLay0, can0_ints, Bool.true_and]
    exact decide_eq_true (by omega)
  have o1 : okD (.list (L.map fun a => tuI (key a))) = true := by
    simp only [okD, PyData.hasDict, q1, PyData.plain, p1, Bool.not_false, Bool.true_and]
    exact decide_eq_true (by simp only [PyData.depth]; omega)
  simp only [mthD, s1, s2, o1, okD_tI, Bool.and_self, if_true, ix]
  rfl
/-- sorted(..) of a list of numbers -/
theorem blt_sorted_int {o : Bool} {L : List Int} (hl : L.length ≤ 100000) : bltD o .sorted [lI L] = some (.dp (lI (srtB (fun a b => decide (a ≤ b)) L))) := by
  have i : ∀ L : List Int, imms (L.map .int) = true := fun L => imms_map (fun _ => rfl) L
  have sd : sortD (L.map .int) = (srtB (fun a b => decide (a ≤ b)) L).map .int := sortD_map (fun a b => by
    rw [dataLe_eq, PySem.W.dataLt_int]
    by_cases h : a ≤ b
    · have : ¬ b < a := by omega
      simp [h, this]
    · have : b < a := by omega
      simp [h, this]) L
  have so : sortable (L.map .int) = true := by
    simp only [sortable, szOk, List.length_map, hl, decide_true, Bool.true_and, Bool.and_eq_true, List.all_eq_true, List.mem_map, forall_exists_index, and_imp, forall_apply_eq_imp_iff₂]
    refine ⟨⟨fun a _ b _ => rfl, ?_⟩, fun a _ => rfl⟩
    rw [Bool.or_eq_true]
    refine .inr ?_
    simp only [List.all_eq_true, List.mem_map, forall_exists_index, and_imp, forall_apply_eq_imp_iff₂]
    intro a _
    rfl
  simp only [bltD, so, hasDict_ints, i, Bool.not_false, Bool.and_self, Bool.or_true, if_true, sd, mkList]
/-! ### ranges -/
theorem rngD_eq : ∀ (lo : Int) (n : Nat), rngD lo n = (List.range n).map fun i => .int (lo + i)
  | lo, 0 => rfl
  | lo, n + 1 => by
    rw [rngD, rngD_eq (lo + 1) n, List.range_succ_eq_map]
    simp only [List.map_cons, List.map_map]
    have e : (fun i : Nat => PyData.int (lo + 1 + i)) = (fun i : Nat => PyData.int (lo + i)) ∘ Nat.succ := funext fun i => congrArg PyData.int (by simp; omega)
    rw [e]
    simp
theorem iter_rng1 {j : Int} (h : -(2 ^ 62) ≤ j) (h2 : j < 2 ^ 62) : iterD .rng1 [.int j] = some ((List.range j.toNat).map fun i => .int (i : Int)) := by
  simp only [iterD, small62, h, h2, decide_true, Bool.and_self, if_true, rngD_eq]
  simp
theorem iter_rng2 {i j : Int} (h : -(2 ^ 62) ≤ j) (h2 : j < 2 ^ 62) (h3 : -(2 ^ 62) ≤ i) (h4 : i < 2 ^ 62) : iterD .rng2 [.int i, .int j] = some ((List.range (j - i).toNat).map fun (k : Nat) => .int (i + k)) := by
  simp only [iterD, small62, h, h2, h3, h4, decide_true, Bool.and_self, if_true, rngD_eq]
/-! ### dicts by pairs -/
abbrev KS := List ((Int × Int) × Int)
abbrev kD (p : Int × Int) : D := .tuple [.int p.1, .int p.2]
abbrev eKV (e : (Int × Int) × Int) : D × D := (kD e.1, .int e.2)
abbrev dK (ks : KS) : D := .dict (ks.map eKV)
def look : KS → Int × Int → Option Int
  | [], _ => none
  | e :: ks, p => if e.1 = p then some e.2 else look ks p
def upd1 (p : Int × Int) (x : Int) (e : (Int × Int) × Int) : (Int × Int) × Int := if e.1 = p then (e.1, x) else e
def put (ks : KS) (p : Int × Int) (x : Int) : KS := if (look ks p).isSome then ks.map (upd1 p x) else ks ++ [(p, x)]
def drp (ks : KS) (p : Int × Int) : KS := ks.filter fun e => !decide (e.1 = p)
theorem eqT_k (p q : Int × Int) : eqT (kD p) (kD q) = decide (p = q) := by
  obtain ⟨a, b⟩ := p
  obtain ⟨c, d⟩ := q
  simp only [eqT, eqks, eqk, Bool.and_true, Prod.mk.injEq, Bool.decide_and]
  rfl
theorem eqT_e (p : Int × Int) (a b : Int) : eqT (kD p) (.tuple [.int a, .int b]) = decide (p = (a, b)) := eqT_k p (a, b)
@[simp] theorem isTKey_k (a b : Int) : isTKey (.tuple [.int a, .int b]) = true := (rfl)
theorem getD_k : ∀ (ks : KS) (a b : Int), getD' (ks.map eKV) (.tuple [.int a, .int b]) = (look ks (a, b)).map .int
  | [], a, b => rfl
  | e :: ks, a, b => by
    have ih := getD_k ks a b
    unfold getD' at ih ⊢
    simp only [List.map_cons, List.find?_cons, eqT_e, look]
    by_cases h : e.1 = (a, b)
    · simp [h]
    · simp only [h, decide_false, if_false]
      exact ih
theorem item_k {ks : KS} {a b x : Int} (h : look ks (a, b) = some x) : itemD (dK ks) (.tuple [.int a, .int b]) = some (.int x) := by
  simp [itemD, getD_k, h]
theorem any_k : ∀ (ks : KS) (a b : Int), ((ks.map eKV).any fun e => eqT e.1 (.tuple [.int a, .int b])) = (look ks (a, b)).isSome
  | [], a, b => rfl
  | e :: ks, a, b => by
    simp only [List.map_cons, List.any_cons, eqT_e, any_k ks a b, look]
    by_cases h : e.1 = (a, b) <;> simp [h]
theorem put_k (ks : KS) (a b x : Int) : putD (ks.map eKV) (.tuple [.int a, .int b]) (.int x) = (put ks (a, b) x).map eKV := by
  unfold putD put
  rw [any_k]
  split
  · rw [List.map_map, List.map_map]
    refine List.map_congr_left fun e _ => ?_
    simp only [Function.comp_apply, eqT_e, upd1]
    by_cases h : e.1 = (a, b) <;> simp [h]
  · rw [List.map_append]; rfl
theorem drp_k (ks : KS) (a b : Int) : dropD (ks.map eKV) (.tuple [.int a, .int b]) = (drp ks (a, b)).map eKV := by
  unfold dropD drp
  rw [List.filter_map]
  refine congrArg (List.map eKV) (congrArg (fun f => List.filter f ks) (funext fun e => ?_))
  simp only [Function.comp_apply, eqT_e]
theorem imms_k (ks : KS) : imms ((ks.map eKV).map (·.2)) = true := by
  rw [List.map_map]
  exact imms_map (fun _ => rfl) _
theorem cmp_inn_k (ks : KS) (a b : Int) : cmpD .inn (.tuple [.int a, .int b]) (dK ks) = some (look ks (a, b)).isSome := by
  simp only [cmpD, isTKey_k, if_true, any_k]
theorem cmp_nin_k (ks : KS) (a b : Int) : cmpD .nin (.tuple [.int a, .int b]) (dK ks) = some (!(look ks (a, b)).isSome) := by
  simp only [cmpD, isTKey_k, if_true, any_k]
theorem set_k {ks : KS} {a b x : Int} (h : ks.length < 100000) : setItemS (.dp (dK ks)) (.dp (.tuple [.int a, .int b])) (.dp (.int x)) = some (.dp (dK (put ks (a, b) x))) := by
  have : szOk ((ks.map eKV).length + 1) = true := by simp [szOk]; omega
  simp only [setItemS, d_dp, isTKey_k, good_dp, this, Bool.not_true, Bool.or_self, Bool.false_eq_true, if_false, imms_k, imm_int, isDp_dp, Bool.and_self, if_true, put_k]
/-- what is in behind a change -/
theorem look_upd (p q : Int × Int) (x : Int) : ∀ l : KS, look (l.map (upd1 p x)) q = if q = p then (look l p).map (fun _ => x) else look l q
  | [] => by simp [look]
  | e :: l => by
    have ih := look_upd p q x l
    simp only [List.map_cons, look]
    by_cases hp : e.1 = p
    · have e1 : upd1 p x e = (p, x) := by simp [upd1, hp]
      rw [e1]
      by_cases hq : q = p
      · subst hq; simp [hp]
      · have h2 : ¬ p = q := fun z => hq z.symm
        simp only [hp, h2, hq, if_false, ih]
    · have e1 : upd1 p x e = e := by simp [upd1, hp]
      rw [e1, ih]
      by_cases hq : q = p
      · subst hq; simp [hp]
      · simp [hq]
theorem look_app (l m : KS) (q : Int × Int) : look (l ++ m) q = (look l q).or (look m q) := by
  induction l with
  | nil => rfl
  | cons e l ih =>
    simp only [List.cons_append, look]
    by_cases h : e.1 = q <;> simp [h, ih]
theorem look_put (ks : KS) (p q : Int × Int) (x : Int) : look (put ks p x) q = if q = p then some x else look ks q := by
  unfold put
  by_cases h : (look ks p).isSome
  · rw [if_pos h, look_upd]
    by_cases hq : q = p
    · rw [if_pos hq, if_pos hq]
      obtain ⟨y, hy⟩ := Option.isSome_iff_exists.mp h
      rw [hy]; rfl
    · rw [if_neg hq, if_neg hq]
  · rw [if_neg h, look_app]
    by_cases hq : q = p
    · subst hq
      have : look ks q = none := by simpa using h
      simp [this, look]
    · have : ¬ p = q := fun z => hq z.symm
      simp [look, this, hq]
theorem look_drp (ks : KS) (p q : Int × Int) : look (drp ks p) q = if q = p then none else look ks q := by
  unfold drp
  induction ks with
  | nil => simp [look]
  | cons e ks ih =>
    rw [List.filter_cons]
    by_cases he : e.1 = p
    · simp only [he, decide_true, Bool.not_true, Bool.false_eq_true, if_false, ih, look]
      by_cases hq : q = p
      · simp [hq]
      · have : ¬ p = q := fun z => hq z.symm
        simp [hq, this]
    · simp only [he, decide_false, Bool.not_false, if_true, look, ih]
      by_cases hq : q = p
      · subst hq; simp [he]
      · simp [hq]
def keysOf (ks : KS) : List (Int × Int) := ks.map (·.1)
theorem look_some {ks : KS} {p : Int × Int} : (look ks p).isSome = true ↔ p ∈ keysOf ks := by
  induction ks with
  | nil => simp [look, keysOf]
  | cons e ks ih =>
    simp only [look, keysOf, List.map_cons, List.mem_cons] at ih ⊢
    by_cases h : e.1 = p
    · simp [h]
    · have : ¬ p = e.1 := fun z => h z.symm
      rw [if_neg h, ih]
      simp [this]
theorem look_none {ks : KS} {p : Int × Int} : look ks p = none ↔ p ∉ keysOf ks := by
  rw [← look_some]
  cases look ks p <;> simp
theorem look_of_mem {ks : KS} (nd : (keysOf ks).Nodup) {e : (Int × Int) × Int} (h : e ∈ ks) : look ks e.1 = some e.2 := by
  induction ks with
  | nil => simp at h
  | cons f ks ih =>
    simp only [keysOf, List.map_cons, List.nodup_cons] at nd
    rcases List.mem_cons.mp h with rfl | h
    · simp [look]
    · have : f.1 ≠ e.1 := fun z => nd.1 (z ▸ List.mem_map_of_mem h)
      simp only [look, this, if_false]
      exact ih nd.2 h
theorem mem_of_look {ks : KS} {p : Int × Int} {x : Int} (h : look ks p = some x) : (p, x) ∈ ks := by
  induction ks with
  | nil => simp [look] at h
  | cons f ks ih =>
    simp only [look] at h
    by_cases hf : f.1 = p
    · rw [if_pos hf] at h
      cases h
      subst hf
      simp
    · rw [if_neg hf] at h
      exact List.mem_cons_of_mem _ (ih h)
theorem nodup_put {ks : KS} (nd : (keysOf ks).Nodup) (p : Int × Int) (x : Int) : (keysOf (put ks p x)).Nodup := by
  unfold put keysOf
  split
  · rw [List.map_map]
    have : (ks.map ((·.1) ∘ upd1 p x)) = ks.map (·.1) := List.map_congr_left fun e _ => by
      simp only [Function.comp_apply, upd1]; split <;> rfl
    rw [this]; exact nd
  · rename_i h
    rw [List.map_append]
    refine List.nodup_append.mpr ⟨nd, by simp, fun a ha b hb => ?_⟩
    simp at hb
    subst hb
    rintro rfl
    exact h (look_some.mpr ha)
theorem nodup_drp {ks : KS} (nd : (keysOf ks).Nodup) (p : Int × Int) : (keysOf (drp ks p)).Nodup := by
  unfold drp keysOf
  exact nd.sublist (List.filter_sublist.map _)
theorem len_put (ks : KS) (p : Int × Int) (x : Int) : (put ks p x).length ≤ ks.length + 1 := by
  unfold put
  split <;> simp
theorem len_drp (ks : KS) (p : Int × Int) : (drp ks p).length ≤ ks.length := List.length_filter_le _ _
/-! ### the hashes of pairs of small numbers are apart -/
def sm8 (p : Int × Int) : Prop := 0 ≤ p.1 ∧ p.1 < 8 ∧ 0 ≤ p.2 ∧ p.2 < 8
def hK (p : Int × Int) : Int := hashTD (kD p)
def grid8 : List (Int × Int) := (List.range 8).flatMap fun (a : Nat) => (List.range 8).map fun (b : Nat) => (((a : Int), (b : Int)) : Int × Int)
theorem grid8_apart : (grid8.map hK).Nodup := by decide +kernel
theorem grid8_mem {p : Int × Int} (h : sm8 p) : p ∈ grid8 := by
  obtain ⟨a, b⟩ := p
  obtain ⟨h1, h2, h3, h4⟩ := h
  simp only at h1 h2 h3 h4
  refine List.mem_flatMap.mpr ⟨a.toNat, List.mem_range.mpr (by omega), List.mem_map.mpr ⟨b.toNat, List.mem_range.mpr (by omega), ?_⟩⟩
  have e1 : ((a.toNat : Nat) : Int) = a := by omega
  have e2 : ((b.toNat : Nat) : Int) = b := by omega
  rw [e1, e2]
theorem nodup_inj {α β : Type} {f : α → β} : ∀ {l : List α}, (l.map f).Nodup → ∀ x ∈ l, ∀ y ∈ l, f x = f y → x = y
  | [], _, x, hx, _, _, _ => by simp at hx
  | a :: l, nd, x, hx, y, hy, e => by
    rw [List.map_cons] at nd
    have nd' := List.nodup_cons.mp nd
    rcases List.mem_cons.mp hx with rfl | hx2
    · rcases List.mem_cons.mp hy with rfl | hy2
      · rfl
      · exact absurd (show f x ∈ l.map f by rw [e]; exact List.mem_map_of_mem hy2) nd'.1
    · rcases List.mem_cons.mp hy with rfl | hy2
      · exact absurd (show f y ∈ l.map f by rw [← e]; exact List.mem_map_of_mem hx2) nd'.1
      · exact nodup_inj nd'.2 x hx2 y hy2 e
theorem hash_inj {p q : Int × Int} (hp : sm8 p) (hq : sm8 q) (h : hK p = hK q) : p = q := nodup_inj grid8_apart p (grid8_mem hp) q (grid8_mem hq) h
theorem apart_k {ks : KS} (nd : (keysOf ks).Nodup) (h : ∀ p ∈ keysOf ks, sm8 p) : keysApartD ((ks.map eKV).map (·.1)) = true := by
  have e : (ks.map eKV).map (·.1) = (keysOf ks).map kD := by simp [keysOf, Function.comp_def]
  rw [e]
  unfold keysApartD
  simp only [Bool.and_eq_true, decide_eq_true_eq, List.map_map]
  rw [show hashTD ∘ kD = hK from rfl]
  refine ⟨?_, ?_⟩
  · simp only [List.all_map, List.all_eq_true]
    intro p _
    rfl
  · revert h nd
    generalize keysOf ks = l
    intro nd h
    induction l with
    | nil => simp
    | cons p l ih =>
      have nd' := List.nodup_cons.mp nd
      rw [List.map_cons]
      refine List.nodup_cons.mpr ⟨fun m => ?_, ih nd'.2 fun q hq => h q (by simp [hq])⟩
      obtain ⟨q, hq, eq⟩ := List.mem_map.mp m
      have := hash_inj (h q (by simp [hq])) (h p (by simp)) eq
      subst this
      exact nd'.1 hq
theorem blt_dict {o : Bool} {ks : KS} (nd : (keysOf ks).Nodup) (h : ∀ p ∈ keysOf ks, sm8 p) (hl : ks.length ≤ 100000) : bltD o .dict [dK ks] = some (.dp (dK ks)) := by
  have : szOk (ks.map eKV).length = true := by simp [szOk]; omega
  simp only [bltD, imms_k, apart_k nd h, this, Bool.and_self, if_true]
end Tv
/-! The table of one law (printed by gen2.py). -/
namespace Tv.B
open PySem
/-- is_whole (statement 8) -/
def f0 : FDef := ⟨1, 1, false, (.seq (.ret (.conj (.isi (.var 0) .int) (.inv (.isi (.var 0) .bool)))) .nop)⟩
def n0 : List Str := ["value"]
/-- is_between (statement 9) -/
def f1 : FDef := ⟨3, 3, false, (.seq (.ifs (.inv (.call 0 (.cons (.var 0) .nil))) (.seq (.ret (.cst (.bool false))) .nop) .nop) (.seq (.ret (.conj (.disj (.cmp .isN (.var 1) (.cst .none)) (.cmp .ge (.var 0) (.var 1))) (.disj (.cmp .isN (.var 2) (.cst .none)) (.cmp .le (.var 0) (.var 2))))) .nop))⟩
def n1 : List Str := ["value", "low", "high"]
/-- check_number (statement 10) -/
def f2 : FDef := ⟨3, 3, false, (.seq (.ifs (.inv (.call 1 (.cons (.var 0) (.cons (.var 1) (.cons (.var 2) .nil))))) (.seq .halt .nop) .nop) .nop)⟩
def n2 : List Str := ["number", "low", "high"]
/-- is_road (statement 11) -/
def f3 : FDef := ⟨2, 2, false, (.seq (.ifs (.disj (.inv (.isi (.var 1) .tuple)) (.disj (.cmp .ne (.blt .len (.cons (.var 1) .nil)) (.cst (.int 3))) (.inv (.call 1 (.cons (.idx (.var 1) (.cst (.int 0))) (.cons (.cst (.int 0)) (.cons (.bin .sub (.var 0) (.cst (.int 1))) .nil))))))) (.seq (.ret (.cst (.bool false))) .nop) .nop) (.seq (.ret (.conj (.call 1 (.cons (.idx (.var 1) (.cst (.int 1))) (.cons (.bin .add (.idx (.var 1) (.cst (.int 0))) (.cst (.int 1))) (.cons (.bin .sub (.var 0) (.cst (.int 1))) .nil)))) (.call 1 (.cons (.idx (.var 1) (.cst (.int 2))) (.cons (.cst (.int 1)) (.cons (.cst .none) .nil)))))) .nop))⟩
def n3 : List Str := ["houses", "value"]
/-- is_net (statement 12) -/
def f4 : FDef := ⟨1, 5, false, (.seq (.ifs (.disj (.inv (.isi (.var 0) .tuple)) (.disj (.cmp .ne (.blt .len (.cons (.var 0) .nil)) (.cst (.int 2))) (.inv (.call 1 (.cons (.idx (.var 0) (.cst (.int 0))) (.cons (.cst (.int 1)) (.cons (.cst .none) .nil))))))) (.seq (.ret (.cst (.bool false))) .nop) .nop) (.seq (.asg (.tup (.cons (.nm 1) (.cons (.nm 2) .nil))) (.var 0)) (.seq (.ifs (.disj (.inv (.isi (.var 2) .list)) (.cmp .ne (.comp .val (.cons (.var 2) .nil) (.nm 4) [4] (.cons (.inv (.call 3 (.cons (.var 1) (.cons (.var 4) .nil)))) .nil) (.var 4)) (.lst .nil))) (.seq (.ret (.cst (.bool false))) .nop) .nop) (.seq (.ret (.cmp .eq (.comp .rng2 (.cons (.cst (.int 1)) (.cons (.blt .len (.cons (.var 2) .nil)) .nil)) (.nm 3) [3] (.cons (.cmp .ge (.slc (.idx (.var 2) (.bin .sub (.var 3) (.cst (.int 1)))) (.cst .none) (.cst (.int 2))) (.slc (.idx (.var 2) (.var 3)) (.cst .none) (.cst (.int 2)))) .nil) (.var 3)) (.lst .nil))) .nop))))⟩
def n4 : List Str := ["value", "houses", "roads", "at", "road"]
/-- check_net (statement 13) -/
def f5 : FDef := ⟨1, 1, false, (.seq (.ifs (.inv (.call 4 (.cons (.var 0) .nil))) (.seq .halt .nop) .nop) .nop)⟩
def n5 : List Str := ["net"]
/-- is_standing (statement 14) -/
def f6 : FDef := ⟨2, 4, false, (.seq (.ifs (.disj (.inv (.isi (.var 1) .list)) (.cmp .ne (.blt .len (.cons (.var 1) .nil)) (.blt .len (.cons (.idx (.var 0) (.cst (.int 1))) .nil)))) (.seq (.ret (.cst (.bool false))) .nop) .nop) (.seq (.ret (.cmp .eq (.comp .zip (.cons (.var 1) (.cons (.idx (.var 0) (.cst (.int 1))) .nil)) (.tup (.cons (.nm 2) (.cons (.nm 3) .nil))) [2, 3] (.cons (.inv (.call 1 (.cons (.var 2) (.cons (.cst (.int 0)) (.cons (.idx (.var 3) (.cst (.int 2))) .nil))))) .nil) (.var 2)) (.lst .nil))) .nop))⟩
def n6 : List Str := ["net", "value", "item", "road"]
/-- check_standing (statement 15) -/
def f7 : FDef := ⟨2, 2, false, (.seq (.eff (.call 5 (.cons (.var 0) .nil))) (.seq (.ifs (.inv (.call 6 (.cons (.var 0) (.cons (.var 1) .nil)))) (.seq .halt .nop) .nop) .nop))⟩
def n7 : List Str := ["net", "standing"]
/-- is_house (statement 16) -/
def f8 : FDef := ⟨2, 2, false, (.seq (.ret (.call 1 (.cons (.var 1) (.cons (.cst (.int 0)) (.cons (.bin .sub (.idx (.var 0) (.cst (.int 0))) (.cst (.int 1))) .nil))))) .nop)⟩
def n8 : List Str := ["net", "value"]
/-- check_house (statement 17) -/
def f9 : FDef := ⟨2, 2, false, (.seq (.ifs (.inv (.call 8 (.cons (.var 0) (.cons (.var 1) .nil)))) (.seq .halt .nop) .nop) .nop)⟩
def n9 : List Str := ["net", "house"]
/-- neighbours_of (statement 18) -/
def f10 : FDef := ⟨2, 6, false, (.seq (.asg (.nm 2) (.comp .val (.cons (.idx (.var 0) (.cst (.int 1))) .nil) (.tup (.cons (.nm 3) (.cons (.nm 4) (.cons (.nm 5) .nil)))) [3, 4, 5] (.cons (.cmp .eq (.var 4) (.var 1)) .nil) (.var 3))) (.seq (.ret (.blt .sorted (.cons (.bin .add (.var 2) (.comp .val (.cons (.idx (.var 0) (.cst (.int 1))) .nil) (.tup (.cons (.nm 3) (.cons (.nm 4) (.cons (.nm 5) .nil)))) [3, 4, 5] (.cons (.cmp .eq (.var 3) (.var 1)) .nil) (.var 4))) .nil))) .nop))⟩
def n10 : List Str := ["net", "house", "found", "low", "high", "many"]
/-- road_at (statement 19) -/
def f11 : FDef := ⟨3, 4, false, (.seq (.ret (.mth .index (.comp .val (.cons (.idx (.var 0) (.cst (.int 1))) .nil) (.nm 3) [3] .nil (.slc (.var 3) (.cst .none) (.cst (.int 2)))) (.cons (.tup (.cons (.blt .min2 (.cons (.var 1) (.cons (.var 2) .nil))) (.cons (.blt .max2 (.cons (.var 1) (.cons (.var 2) .nil))) .nil))) .nil))) .nop)⟩
def n11 : List Str := ["net", "one", "other", "road"]
/-- keys_many (statement 20) -/
def f12 : FDef := ⟨3, 3, false, (.seq (.ret (.idx (.idx (.idx (.var 0) (.cst (.int 1))) (.call 11 (.cons (.var 0) (.cons (.var 1) (.cons (.var 2) .nil))))) (.cst (.int 2)))) .nop)⟩
def n12 : List Str := ["net", "one", "other"]
/-- keys_in (statement 21) -/
def f13 : FDef := ⟨4, 5, false, (.seq (.asg (.nm 4) (.call 11 (.cons (.var 0) (.cons (.var 2) (.cons (.var 3) .nil))))) (.seq (.ret (.ite (.cmp .gt (.var 3) (.var 2)) (.idx (.var 1) (.var 4)) (.bin .sub (.idx (.idx (.idx (.var 0) (.cst (.int 1))) (.var 4)) (.cst (.int 2))) (.idx (.var 1) (.var 4))))) .nop))⟩
def n13 : List Str := ["net", "standing", "one", "other", "at"]
/-- check_both (statement 23) -/
def f14 : FDef := ⟨2, 2, false, (.seq (.eff (.call 5 (.cons (.var 0) .nil))) (.seq (.eff (.call 7 (.cons (.var 0) (.cons (.var 1) .nil)))) .nop))⟩
def n14 : List Str := ["net", "standing"]
/-- check_two (statement 24) -/
def f15 : FDef := ⟨3, 3, false, (.seq (.eff (.call 9 (.cons (.var 0) (.cons (.var 1) .nil)))) (.seq (.ifs (.disj (.inv (.call 8 (.cons (.var 0) (.cons (.var 2) .nil)))) (.cmp .eq (.var 2) (.var 1))) (.seq .halt .nop) .nop) .nop))⟩
def n15 : List Str := ["net", "u", "v"]
/-- check_neighbours (statement 25) -/
def f16 : FDef := ⟨3, 3, false, (.seq (.eff (.call 15 (.cons (.var 0) (.cons (.var 1) (.cons (.var 2) .nil))))) (.seq (.ifs (.cmp .nin (.var 2) (.call 10 (.cons (.var 0) (.cons (.var 1) .nil)))) (.seq .halt .nop) .nop) .nop))⟩
def n16 : List Str := ["net", "u", "v"]
/-- check_new_road (statement 26) -/
def f17 : FDef := ⟨5, 5, false, (.seq (.eff (.call 15 (.cons (.var 0) (.cons (.var 1) (.cons (.var 2) .nil))))) (.seq (.ifs (.cmp .inn (.var 2) (.call 10 (.cons (.var 0) (.cons (.var 1) .nil)))) (.seq .halt .nop) .nop) (.seq (.eff (.call 2 (.cons (.var 3) (.cons (.cst (.int 0)) (.cons (.cst .none) .nil))))) (.seq (.eff (.call 2 (.cons (.var 4) (.cons (.cst (.int 0)) (.cons (.cst .none) .nil))))) (.seq (.ifs (.conj (.cmp .eq (.var 3) (.cst (.int 0))) (.cmp .eq (.var 4) (.cst (.int 0)))) (.seq .halt .nop) .nop) .nop)))))⟩
def n17 : List Str := ["net", "u", "v", "at_u", "at_v"]
/-- is_end (statement 27) -/
def f18 : FDef := ⟨2, 2, false, (.seq (.ifs (.disj (.inv (.isi (.var 1) .tuple)) (.disj (.cmp .ne (.blt .len (.cons (.var 1) .nil)) (.cst (.int 3))) (.inv (.call 8 (.cons (.var 0) (.cons (.idx (.var 1) (.cst (.int 0))) .nil)))))) (.seq (.ret (.cst (.bool false))) .nop) .nop) (.seq (.ret (.conj (.call 1 (.cons (.idx (.var 1) (.cst (.int 1))) (.cons (.cst (.int 0)) (.cons (.cst .none) .nil)))) (.conj (.call 1 (.cons (.idx (.var 1) (.cst (.int 2))) (.cons (.cst (.int 0)) (.cons (.cst .none) .nil)))) (.cmp .ne (.slc (.var 1) (.cst (.int 1)) (.cst .none)) (.tup (.cons (.cst (.int 0)) (.cons (.cst (.int 0)) .nil))))))) .nop))⟩
def n18 : List Str := ["net", "value"]
/-- are_ends (statement 28) -/
def f19 : FDef := ⟨2, 4, false, (.seq (.ifs (.disj (.inv (.isi (.var 1) .list)) (.cmp .ne (.comp .val (.cons (.var 1) .nil) (.nm 3) [3] (.cons (.inv (.call 18 (.cons (.var 0) (.cons (.var 3) .nil)))) .nil) (.var 3)) (.lst .nil))) (.seq (.ret (.cst (.bool false))) .nop) .nop) (.seq (.ret (.cmp .eq (.comp .rng2 (.cons (.cst (.int 1)) (.cons (.blt .len (.cons (.var 1) .nil)) .nil)) (.nm 2) [2] (.cons (.cmp .ge (.idx (.idx (.var 1) (.bin .sub (.var 2) (.cst (.int 1)))) (.cst (.int 0))) (.idx (.idx (.var 1) (.var 2)) (.cst (.int 0)))) .nil) (.var 2)) (.lst .nil))) .nop))⟩
def n19 : List Str := ["net", "value", "at", "item"]
/-- check_ends (statement 29) -/
def f20 : FDef := ⟨2, 2, false, (.seq (.ifs (.inv (.call 19 (.cons (.var 0) (.cons (.var 1) .nil)))) (.seq .halt .nop) .nop) .nop)⟩
def n20 : List Str := ["net", "ends"]
/-- of_rows (statement 30) -/
def f21 : FDef := ⟨2, 7, false, (.seq (.asg (.nm 1) (.blt .sorted (.cons (.var 1) .nil))) (.seq (.ret (.tup (.cons (.tup (.cons (.var 0) (.cons (.comp .val (.cons (.var 1) .nil) (.tup (.cons (.nm 4) (.cons (.nm 5) (.cons (.nm 6) (.cons (.nm 2) .nil))))) [4, 5, 6, 2] .nil (.tup (.cons (.var 4) (.cons (.var 5) (.cons (.var 6) .nil))))) .nil))) (.cons (.comp .val (.cons (.var 1) .nil) (.tup (.cons (.nm 2) (.cons (.nm 2) (.cons (.nm 2) (.cons (.nm 3) .nil))))) [2, 3] .nil (.var 3)) .nil)))) .nop))⟩
def n21 : List Str := ["houses", "rows", "_", "item", "low", "high", "many"]
/-- rows_of (statement 31) -/
def f22 : FDef := ⟨2, 6, false, (.seq (.ret (.comp .zipS (.cons (.idx (.var 0) (.cst (.int 1))) (.cons (.var 1) .nil)) (.tup (.cons (.tup (.cons (.nm 3) (.cons (.nm 4) (.cons (.nm 5) .nil)))) (.cons (.nm 2) .nil))) [2, 3, 4, 5] .nil (.tup (.cons (.var 3) (.cons (.var 4) (.cons (.var 5) (.cons (.var 2) .nil))))))) .nop)⟩
def n22 : List Str := ["net", "standing", "item", "low", "high", "many"]
/-- row_of (statement 32) -/
def f23 : FDef := ⟨4, 4, false, (.seq (.ret (.ite (.cmp .lt (.var 0) (.var 1)) (.tup (.cons (.var 0) (.cons (.var 1) (.cons (.bin .add (.var 2) (.var 3)) (.cons (.var 3) .nil))))) (.tup (.cons (.var 1) (.cons (.var 0) (.cons (.bin .add (.var 2) (.var 3)) (.cons (.var 2) .nil))))))) .nop)⟩
def n23 : List Str := ["u", "v", "at_u", "at_v"]
/-- without_road (statement 33) -/
def f24 : FDef := ⟨4, 6, false, (.seq (.asg (.nm 4) (.call 11 (.cons (.var 0) (.cons (.var 2) (.cons (.var 3) .nil))))) (.seq (.asg (.nm 5) (.call 22 (.cons (.var 0) (.cons (.var 1) .nil)))) (.seq (.ret (.call 21 (.cons (.idx (.var 0) (.cst (.int 0))) (.cons (.bin .add (.slc (.var 5) (.cst .none) (.var 4)) (.slc (.var 5) (.bin .add (.var 4) (.cst (.int 1))) (.cst .none))) .nil)))) .nop)))⟩
def n24 : List Str := ["net", "standing", "u", "v", "at", "rows"]
/-- with_road (statement 34) -/
def f25 : FDef := ⟨6, 6, false, (.seq (.ret (.call 21 (.cons (.idx (.var 0) (.cst (.int 0))) (.cons (.bin .add (.call 22 (.cons (.var 0) (.cons (.var 1) .nil))) (.lst (.cons (.call 23 (.cons (.var 2) (.cons (.var 3) (.cons (.var 4) (.cons (.var 5) .nil))))) .nil))) .nil)))) .nop)⟩
def n25 : List Str := ["net", "standing", "u", "v", "at_u", "at_v"]
/-- with_keys (statement 35) -/
def f26 : FDef := ⟨5, 7, false, (.seq (.asg (.tup (.cons (.nm 5) (.cons (.nm 6) .nil))) (.tup (.cons (.call 13 (.cons (.var 0) (.cons (.var 1) (.cons (.var 3) (.cons (.var 2) .nil))))) (.cons (.call 13 (.cons (.var 0) (.cons (.var 1) (.cons (.var 2) (.cons (.var 3) .nil))))) .nil)))) (.seq (.asg (.tup (.cons (.nm 0) (.cons (.nm 1) .nil))) (.call 24 (.cons (.var 0) (.cons (.var 1) (.cons (.var 2) (.cons (.var 3) .nil)))))) (.seq (.ret (.call 25 (.cons (.var 0) (.cons (.var 1) (.cons (.var 2) (.cons (.var 3) (.cons (.var 5) (.cons (.bin .add (.var 6) (.var 4)) .nil)))))))) .nop)))⟩
def n26 : List Str := ["net", "standing", "u", "v", "more", "at_u", "at_v"]
/-- with_house (statement 36) -/
def f27 : FDef := ⟨3, 7, false, (.seq (.asg (.nm 3) (.comp .val (.cons (.var 2) .nil) (.tup (.cons (.nm 4) (.cons (.nm 5) (.cons (.nm 6) .nil)))) [4, 5, 6] .nil (.call 23 (.cons (.idx (.var 0) (.cst (.int 0))) (.cons (.var 4) (.cons (.var 5) (.cons (.var 6) .nil))))))) (.seq (.ret (.call 21 (.cons (.bin .add (.idx (.var 0) (.cst (.int 0))) (.cst (.int 1))) (.cons (.bin .add (.call 22 (.cons (.var 0) (.cons (.var 1) .nil))) (.var 3)) .nil)))) .nop))⟩
def n27 : List Str := ["net", "standing", "ends", "rows", "house", "here", "there"]
/-- without_house (statement 37) -/
def f28 : FDef := ⟨3, 8, false, (.seq (.asg (.nm 3) (.lst .nil)) (.seq (.loop .val (.cons (.call 22 (.cons (.var 0) (.cons (.var 1) .nil))) .nil) (.tup (.cons (.nm 4) (.cons (.nm 5) (.cons (.nm 6) (.cons (.nm 7) .nil))))) (.seq (.ifs (.cmp .nin (.var 2) (.tup (.cons (.var 4) (.cons (.var 5) .nil)))) (.seq (.app 3 (.tup (.cons (.bin .sub (.var 4) (.blt .int (.cons (.cmp .gt (.var 4) (.var 2)) .nil))) (.cons (.bin .sub (.var 5) (.blt .int (.cons (.cmp .gt (.var 5) (.var 2)) .nil))) (.cons (.var 6) (.cons (.var 7) .nil)))))) .nop) .nop) .nop)) (.seq (.ret (.call 21 (.cons (.bin .sub (.idx (.var 0) (.cst (.int 0))) (.cst (.int 1))) (.cons (.var 3) .nil)))) .nop)))⟩
def n28 : List Str := ["net", "standing", "house", "rows", "low", "high", "many", "item"]
/-- road_out (statement 38) -/
def f29 : FDef := ⟨4, 4, false, (.seq (.eff (.call 14 (.cons (.var 0) (.cons (.var 1) .nil)))) (.seq (.eff (.call 16 (.cons (.var 0) (.cons (.var 2) (.cons (.var 3) .nil))))) (.seq (.ret (.call 24 (.cons (.var 0) (.cons (.var 1) (.cons (.var 2) (.cons (.var 3) .nil)))))) .nop)))⟩
def n29 : List Str := ["net", "standing", "u", "v"]
/-- road_in (statement 39) -/
def f30 : FDef := ⟨6, 6, false, (.seq (.eff (.call 14 (.cons (.var 0) (.cons (.var 1) .nil)))) (.seq (.eff (.call 17 (.cons (.var 0) (.cons (.var 2) (.cons (.var 3) (.cons (.var 4) (.cons (.var 5) .nil))))))) (.seq (.ret (.call 25 (.cons (.var 0) (.cons (.var 1) (.cons (.var 2) (.cons (.var 3) (.cons (.var 4) (.cons (.var 5) .nil)))))))) .nop)))⟩
def n30 : List Str := ["net", "standing", "u", "v", "at_u", "at_v"]
/-- key_in (statement 40) -/
def f31 : FDef := ⟨4, 4, false, (.seq (.eff (.call 14 (.cons (.var 0) (.cons (.var 1) .nil)))) (.seq (.eff (.call 16 (.cons (.var 0) (.cons (.var 2) (.cons (.var 3) .nil))))) (.seq (.ret (.call 26 (.cons (.var 0) (.cons (.var 1) (.cons (.var 2) (.cons (.var 3) (.cons (.cst (.int 1)) .nil))))))) .nop)))⟩
def n31 : List Str := ["net", "standing", "u", "v"]
/-- may_give (statement 41) -/
def f32 : FDef := ⟨4, 4, false, (.seq (.ret (.conj (.cmp .gt (.call 13 (.cons (.var 0) (.cons (.var 1) (.cons (.var 2) (.cons (.var 3) .nil))))) (.cst (.int 0))) (.cmp .gt (.call 12 (.cons (.var 0) (.cons (.var 2) (.cons (.var 3) .nil)))) (.cst (.int 1))))) .nop)⟩
def n32 : List Str := ["net", "standing", "u", "v"]
/-- key_out (statement 42) -/
def f33 : FDef := ⟨4, 4, false, (.seq (.eff (.call 14 (.cons (.var 0) (.cons (.var 1) .nil)))) (.seq (.eff (.call 16 (.cons (.var 0) (.cons (.var 2) (.cons (.var 3) .nil))))) (.seq (.ifs (.inv (.call 32 (.cons (.var 0) (.cons (.var 1) (.cons (.var 2) (.cons (.var 3) .nil)))))) (.seq .halt .nop) .nop) (.seq (.ret (.call 26 (.cons (.var 0) (.cons (.var 1) (.cons (.var 2) (.cons (.var 3) (.cons (.neg (.cst (.int 1))) .nil))))))) .nop))))⟩
def n33 : List Str := ["net", "standing", "u", "v"]
/-- house_in (statement 43) -/
def f34 : FDef := ⟨3, 3, false, (.seq (.eff (.call 14 (.cons (.var 0) (.cons (.var 1) .nil)))) (.seq (.eff (.call 20 (.cons (.var 0) (.cons (.var 2) .nil)))) (.seq (.ret (.call 27 (.cons (.var 0) (.cons (.var 1) (.cons (.var 2) .nil))))) .nop)))⟩
def n34 : List Str := ["net", "standing", "ends"]
/-- house_out (statement 44) -/
def f35 : FDef := ⟨3, 3, false, (.seq (.eff (.call 14 (.cons (.var 0) (.cons (.var 1) .nil)))) (.seq (.ifs (.disj (.inv (.call 8 (.cons (.var 0) (.cons (.var 2) .nil)))) (.cmp .eq (.idx (.var 0) (.cst (.int 0))) (.cst (.int 1)))) (.seq .halt .nop) .nop) (.seq (.ret (.call 28 (.cons (.var 0) (.cons (.var 1) (.cons (.var 2) .nil))))) .nop)))⟩
def n35 : List Str := ["net", "standing", "house"]
/-- _law_hash (statement 46) -/
def f36 : FDef := ⟨2, 3, false, (.seq (.asg (.nm 2) (.bin .mod (.blt .int (.cons (.bin .add (.bin .add (.bin .add (.bin .mul (.var 0) (.cst (.int 1140671))) (.bin .mul (.bin .mul (.cst (.int 27644437)) (.var 1)) (.var 1))) (.bin .mul (.cst (.int 131)) (.var 1))) (.cst (.int 19))) .nil)) (.cst (.int 2147483629)))) (.seq (.asg (.nm 2) (.bin .mod (.blt .int (.cons (.bin .add (.bin .add (.bin .mul (.var 2) (.var 2)) (.bin .mul (.cst (.int 62089)) (.var 1))) (.cst (.int 32416187))) .nil)) (.cst (.int 2147483587)))) (.seq (.ret (.bin .mod (.blt .int (.cons (.bin .mul (.var 2) (.cst (.int 48271))) .nil)) (.cst (.int 2147483647)))) .nop)))⟩
def n36 : List Str := ["seed", "index", "mixed"]
/-- _law_random (statement 47) -/
def f37 : FDef := ⟨2, 4, true, (.seq (.ifs (.cmp .gt (.idx (.var 0) (.cst (.int 0))) (.cst (.int 0))) (.seq (.asg (.nm 2) (.bin .mod (.blt .int (.cons (.idx (.var 0) (.cst (.int 0))) .nil)) (.var 1))) (.seq (.asg (.sub 0 (.cst (.int 0))) (.bin .fdiv (.idx (.var 0) (.cst (.int 0))) (.var 1))) (.seq (.ret (.var 2)) .nop))) .nop) (.seq (.asg (.nm 2) (.cst (.int 0))) (.seq (.loop .rng1 (.cons (.bin .add (.cst (.int 1)) (.bin .fdiv (.mth .bitlen (.var 1) .nil) (.cst (.int 30)))) .nil) (.nm 3) (.seq (.asg (.sub 0 (.cst (.int 2))) (.bin .add (.idx (.var 0) (.cst (.int 2))) (.cst (.int 1)))) (.seq (.asg (.nm 2) (.bin .add (.bin .mul (.var 2) (.cst (.int 2147483587))) (.call 36 (.cons (.idx (.var 0) (.cst (.int 1))) (.cons (.idx (.var 0) (.cst (.int 2))) .nil))))) .nop))) (.seq (.ret (.bin .mod (.blt .int (.cons (.var 2) .nil)) (.var 1))) .nop))))⟩
def n37 : List Str := ["generator", "bound", "drawn", "turn"]
/-- _law_cell (statement 48) -/
def f38 : FDef := ⟨2, 2, false, (.seq (.ifs (.cmp .lt (.var 1) (.blt .len (.cons (.var 0) .nil))) (.seq (.ret (.idx (.var 0) (.var 1))) .nop) .nop) (.seq (.ret (.bin .mod (.blt .sum (.cons (.slc (.var 0) (.cst .none) (.cst (.int 1))) .nil)) (.cst (.int 1000003)))) .nop))⟩
def n38 : List Str := ["script", "index"]
/-- _law_generator (statement 49) -/
def f39 : FDef := ⟨2, 3, false, (.seq (.asg (.nm 2) (.call 38 (.cons (.var 0) (.cons (.var 1) .nil)))) (.seq (.ret (.lst (.cons (.bin .mod (.blt .int (.cons (.blt .max2 (.cons (.bin .sub (.var 2) (.bin .pow (.cst (.int 10)) (.cst (.int 18)))) (.cons (.cst (.int 0)) .nil))) .nil)) (.bin .pow (.bin .pow (.cst (.int 10)) (.cst (.int 60))) (.cst (.int 10)))) (.cons (.bin .mod (.blt .int (.cons (.var 2) .nil)) (.cst (.int 2147483647))) (.cons (.bin .mul (.cst (.int 1000)) (.var 1)) .nil))))) .nop))⟩
def n39 : List Str := ["script", "index", "seed"]
/-- _law_size (statement 50) -/
def f40 : FDef := ⟨3, 3, true, (.seq (.ret (.bin .add (.var 1) (.call 37 (.cons (.var 0) (.cons (.bin .add (.bin .sub (.var 2) (.var 1)) (.cst (.int 1))) .nil))))) .nop)⟩
def n40 : List Str := ["generator", "least", "most"]
/-- _law_same (statement 51) -/
def f41 : FDef := ⟨2, 2, false, (.seq (.ret (.cmp .eq (.blt .repr (.cons (.var 0) .nil)) (.blt .repr (.cons (.var 1) .nil)))) .nop)⟩
def n41 : List Str := ["one_told", "other_told"]
/-- _law_net (statement 52) -/
def f42 : FDef := ⟨3, 7, true, (.seq (.asg (.nm 3) (.dnew true)) (.seq (.loop .rng1 (.cons (.var 1) .nil) (.nm 4) (.seq (.loop .rng2 (.cons (.bin .add (.var 4) (.cst (.int 1))) (.cons (.var 1) .nil)) (.nm 5) (.seq (.ifs (.cmp .gt (.call 37 (.cons (.var 0) (.cons (.cst (.int 3)) .nil))) (.cst (.int 0))) (.seq (.asg (.nm 6) (.call 40 (.cons (.var 0) (.cons (.cst (.int 1)) (.cons (.var 2) .nil))))) (.seq (.asg (.sub 3 (.tup (.cons (.var 4) (.cons (.var 5) .nil)))) (.call 37 (.cons (.var 0) (.cons (.bin .add (.var 6) (.cst (.int 1))) .nil)))) (.seq (.asg (.sub 3 (.tup (.cons (.var 5) (.cons (.var 4) .nil)))) (.bin .sub (.var 6) (.idx (.var 3) (.tup (.cons (.var 4) (.cons (.var 5) .nil)))))) .nop))) .nop) .nop)) .nop)) (.seq (.ret (.var 3)) .nop)))⟩
def n42 : List Str := ["generator", "houses", "most", "keys", "low", "high", "many"]
/-- _law_told (statement 53) -/
def f43 : FDef := ⟨2, 6, false, (.seq (.asg (.nm 2) (.blt .sorted (.cons (.comp .val (.cons (.var 1) .nil) (.nm 3) [3] (.cons (.cmp .lt (.idx (.var 3) (.cst (.int 0))) (.idx (.var 3) (.cst (.int 1)))) .nil) (.var 3)) .nil))) (.seq (.ret (.tup (.cons (.tup (.cons (.var 0) (.cons (.comp .val (.cons (.var 2) .nil) (.tup (.cons (.nm 4) (.cons (.nm 5) .nil))) [4, 5] .nil (.tup (.cons (.var 4) (.cons (.var 5) (.cons (.bin .add (.idx (.var 1) (.tup (.cons (.var 4) (.cons (.var 5) .nil)))) (.idx (.var 1) (.tup (.cons (.var 5) (.cons (.var 4) .nil))))) .nil))))) .nil))) (.cons (.comp .val (.cons (.var 2) .nil) (.nm 3) [3] .nil (.idx (.var 1) (.var 3))) .nil)))) .nop))⟩
def n43 : List Str := ["houses", "keys", "roads", "pair", "low", "high"]
/-- _law_without (statement 58) -/
def f44 : FDef := ⟨2, 5, false, (.seq (.asg (.nm 2) (.dnew true)) (.seq (.loop .val (.cons (.var 0) .nil) (.tup (.cons (.nm 3) (.cons (.nm 4) .nil))) (.seq (.ifs (.cmp .nin (.var 1) (.lst (.cons (.var 3) (.cons (.var 4) .nil)))) (.seq (.asg (.sub 2 (.tup (.cons (.bin .sub (.var 3) (.blt .int (.cons (.cmp .gt (.var 3) (.var 1)) .nil))) (.cons (.bin .sub (.var 4) (.blt .int (.cons (.cmp .gt (.var 4) (.var 1)) .nil))) .nil)))) (.idx (.var 0) (.tup (.cons (.var 3) (.cons (.var 4) .nil))))) .nop) .nop) .nop)) (.seq (.ret (.var 2)) .nop)))⟩
def n44 : List Str := ["keys", "house", "found", "one", "other"]
/-- _law_roads_right (statement 59) -/
def f45 : FDef := ⟨3, 14, true, (.seq (.asg (.tup (.cons (.nm 5) (.cons (.nm 6) .nil))) (.call 43 (.cons (.var 1) (.cons (.var 2) .nil)))) (.seq (.asg (.nm 3) (.blt .repr (.cons (.lst (.cons (.var 5) (.cons (.var 6) .nil))) .nil))) (.seq (.loop .rng1 (.cons (.var 1) .nil) (.nm 4) (.seq (.loop .rng1 (.cons (.var 1) .nil) (.nm 7) (.seq (.asg (.nm 8) (.blt .dict (.cons (.var 2) .nil))) (.seq (.ifs (.conj (.cmp .ne (.var 4) (.var 7)) (.cmp .nin (.tup (.cons (.var 4) (.cons (.var 7) .nil))) (.var 2))) (.seq (.asg (.nm 9) (.call 37 (.cons (.var 0) (.cons (.cst (.int 3)) .nil)))) (.seq (.asg (.nm 10) (.call 40 (.cons (.var 0) (.cons (.blt .int (.cons (.cmp .eq (.var 9) (.cst (.int 0))) .nil)) (.cons (.cst (.int 3)) .nil))))) (.seq (.asg (.tup (.cons (.sub 8 (.tup (.cons (.var 4) (.cons (.var 7) .nil)))) (.cons (.sub 8 (.tup (.cons (.var 7) (.cons (.var 4) .nil)))) .nil))) (.tup (.cons (.var 10) (.cons (.var 9) .nil)))) (.seq (.asg (.nm 11) (.call 30 (.cons (.var 5) (.cons (.var 6) (.cons (.var 4) (.cons (.var 7) (.cons (.var 9) (.cons (.var 10) .nil)))))))) (.seq (.ifs (.disj (.inv (.call 41 (.cons (.var 11) (.cons (.call 43 (.cons (.var 1) (.cons (.var 8) .nil))) .nil)))) (.inv (.call 41 (.cons (.call 29 (.cons (.idx (.var 11) (.cst (.int 0))) (.cons (.idx (.var 11) (.cst (.int 1))) (.cons (.var 7) (.cons (.var 4) .nil))))) (.cons (.tup (.cons (.var 5) (.cons (.var 6) .nil))) .nil))))) (.seq (.ret (.cst (.bool false))) .nop) .nop) (.seq (.poke 11 [0, 1] (.cst (.int 7))) (.seq (.poke 11 [1] (.cst (.int 7))) .nop))))))) .nop) (.seq (.ifs (.cmp .inn (.tup (.cons (.var 4) (.cons (.var 7) .nil))) (.var 2)) (.seq (.pop 8 (.tup (.cons (.var 4) (.cons (.var 7) .nil)))) (.seq (.pop 8 (.tup (.cons (.var 7) (.cons (.var 4) .nil)))) (.seq (.ifs (.inv (.call 41 (.cons (.call 29 (.cons (.var 5) (.cons (.var 6) (.cons (.var 4) (.cons (.var 7) .nil))))) (.cons (.call 43 (.cons (.var 1) (.cons (.var 8) .nil))) .nil)))) (.seq (.ret (.cst (.bool false))) .nop) .nop) (.seq (.asg (.nm 8) (.blt .dict (.cons (.var 2) .nil))) (.seq (.asg (.sub 8 (.tup (.cons (.var 4) (.cons (.var 7) .nil)))) (.bin .add (.idx (.var 8) (.tup (.cons (.var 4) (.cons (.var 7) .nil)))) (.cst (.int 1)))) (.seq (.asg (.nm 11) (.call 31 (.cons (.var 5) (.cons (.var 6) (.cons (.var 4) (.cons (.var 7) .nil)))))) (.seq (.asg (.nm 12) (.blt .repr (.cons (.var 11) .nil))) (.seq (.asg (.nm 13) (.call 33 (.cons (.idx (.var 11) (.cst (.int 0))) (.cons (.idx (.var 11) (.cst (.int 1))) (.cons (.var 4) (.cons (.var 7) .nil)))))) (.seq (.ifs (.disj (.inv (.call 41 (.cons (.var 11) (.cons (.call 43 (.cons (.var 1) (.cons (.var 8) .nil))) .nil)))) (.inv (.call 41 (.cons (.var 13) (.cons (.tup (.cons (.var 5) (.cons (.var 6) .nil))) .nil))))) (.seq (.ret (.cst (.bool false))) .nop) .nop) (.seq (.poke 13 [0, 1] (.cst (.int 7))) (.seq (.poke 13 [1] (.cst (.int 7))) (.seq (.ifs (.cmp .ne (.blt .repr (.cons (.var 11) .nil)) (.var 12)) (.seq (.ret (.cst (.bool false))) .nop) .nop) (.seq (.poke 11 [1] (.cst (.int 7))) .nop))))))))))))) .nop) (.seq (.ifs (.cmp .ne (.blt .repr (.cons (.lst (.cons (.var 5) (.cons (.var 6) .nil))) .nil)) (.var 3)) (.seq (.ret (.cst (.bool false))) .nop) .nop) .nop))))) .nop)) (.seq (.ret (.cst (.bool true))) .nop))))⟩
def n45 : List Str := ["generator", "houses", "keys", "kept", "u", "net", "standing", "v", "later", "at_u", "at_v", "told", "shown", "less"]
/-- _law_right (statement 60) -/
def f46 : FDef := ⟨1, 16, true, (.seq (.asg (.nm 1) (.call 40 (.cons (.var 0) (.cons (.cst (.int 1)) (.cons (.cst (.int 5)) .nil))))) (.seq (.asg (.nm 2) (.call 42 (.cons (.var 0) (.cons (.var 1) (.cons (.cst (.int 3)) .nil))))) (.seq (.ifs (.inv (.call 45 (.cons (.var 0) (.cons (.var 1) (.cons (.var 2) .nil))))) (.seq (.ret (.cst (.bool false))) .nop) .nop) (.seq (.asg (.tup (.cons (.nm 8) (.cons (.nm 9) .nil))) (.call 43 (.cons (.var 1) (.cons (.var 2) .nil)))) (.seq (.asg (.tup (.cons (.nm 10) (.cons (.nm 11) (.cons (.nm 12) .nil)))) (.tup (.cons (.lst .nil) (.cons (.blt .dict (.cons (.var 2) .nil)) (.cons (.blt .repr (.cons (.lst (.cons (.var 8) (.cons (.var 9) .nil))) .nil)) .nil))))) (.seq (.loop .rng1 (.cons (.var 1) .nil) (.nm 3) (.seq (.ifs (.cmp .eq (.call 37 (.cons (.var 0) (.cons (.cst (.int 2)) .nil))) (.cst (.int 0))) (.seq (.asg (.nm 14) (.call 37 (.cons (.var 0) (.cons (.cst (.int 3)) .nil)))) (.seq (.asg (.nm 15) (.call 40 (.cons (.var 0) (.cons (.blt .int (.cons (.cmp .eq (.var 14) (.cst (.int 0))) .nil)) (.cons (.cst (.int 2)) .nil))))) (.seq (.app 10 (.tup (.cons (.var 3) (.cons (.var 14) (.cons (.var 15) .nil))))) (.seq (.asg (.tup (.cons (.sub 11 (.tup (.cons (.var 3) (.cons (.var 1) .nil)))) (.cons (.sub 11 (.tup (.cons (.var 1) (.cons (.var 3) .nil)))) .nil))) (.tup (.cons (.var 14) (.cons (.var 15) .nil)))) .nop)))) .nop) .nop)) (.seq (.asg (.nm 4) (.blt .list (.cons (.var 10) .nil))) (.seq (.asg (.nm 5) (.call 34 (.cons (.var 8) (.cons (.var 9) (.cons (.var 4) .nil))))) (.seq (.ifs (.disj (.inv (.call 41 (.cons (.var 5) (.cons (.call 43 (.cons (.bin .add (.var 1) (.cst (.int 1))) (.cons (.var 11) .nil))) .nil)))) (.disj (.cmp .ne (.var 4) (.var 10)) (.inv (.call 41 (.cons (.call 35 (.cons (.idx (.var 5) (.cst (.int 0))) (.cons (.idx (.var 5) (.cst (.int 1))) (.cons (.var 1) .nil)))) (.cons (.tup (.cons (.var 8) (.cons (.var 9) .nil))) .nil)))))) (.seq (.ret (.cst (.bool false))) .nop) .nop) (.seq (.asg (.tup (.cons (.nm 3) (.cons (.nm 13) .nil))) (.tup (.cons (.call 37 (.cons (.var 0) (.cons (.bin .add (.var 1) (.cst (.int 1))) .nil))) (.cons (.blt .repr (.cons (.var 5) .nil)) .nil)))) (.seq (.asg (.nm 6) (.call 35 (.cons (.idx (.var 5) (.cst (.int 0))) (.cons (.idx (.var 5) (.cst (.int 1))) (.cons (.var 3) .nil))))) (.seq (.ifs (.inv (.call 41 (.cons (.var 6) (.cons (.call 43 (.cons (.var 1) (.cons (.call 44 (.cons (.var 11) (.cons (.var 3) .nil))) .nil))) .nil)))) (.seq (.ret (.cst (.bool false))) .nop) .nop) (.seq (.poke 6 [0, 1] (.cst (.int 7))) (.seq (.poke 6 [1] (.cst (.int 7))) (.seq (.ifs (.cmp .ne (.blt .repr (.cons (.var 5) .nil)) (.var 13)) (.seq (.ret (.cst (.bool false))) .nop) .nop) (.seq (.poke 5 [0, 1] (.cst (.int 7))) (.seq (.poke 5 [1] (.cst (.int 7))) (.seq (.asg (.nm 7) (.call 34 (.cons (.var 8) (.cons (.var 9) (.cons (.lst .nil) .nil))))) (.seq (.poke 7 [0, 1] (.cst (.int 7))) (.seq (.poke 7 [1] (.cst (.int 7))) (.seq (.ret (.conj (.call 41 (.cons (.call 34 (.cons (.var 8) (.cons (.var 9) (.cons (.var 4) .nil)))) (.cons (.call 43 (.cons (.bin .add (.var 1) (.cst (.int 1))) (.cons (.var 11) .nil))) .nil))) (.cmp .eq (.blt .repr (.cons (.lst (.cons (.var 8) (.cons (.var 9) .nil))) .nil)) (.var 12)))) .nop)))))))))))))))))))))⟩
def n46 : List Str := ["generator", "houses", "keys", "house", "given", "told", "left", "bare", "net", "standing", "ends", "later", "kept", "shown", "here", "there"]
/-- law (statement 61) -/
def f47 : FDef := ⟨1, 6, false, (.seq (.loop .rng1 (.cons (.cst (.int 3)) .nil) (.nm 1) (.seq (.ifs (.inv (.call 46 (.cons (.call 39 (.cons (.var 0) (.cons (.var 1) .nil))) .nil))) (.seq (.ret (.cst (.bool false))) .nop) .nop) .nop)) (.seq (.asg (.tup (.cons (.nm 4) (.cons (.nm 5) .nil))) (.tup (.cons (.tup (.cons (.cst (.int 3)) (.cons (.lst (.cons (.tup (.cons (.cst (.int 0)) (.cons (.cst (.int 1)) (.cons (.cst (.int 1)) .nil)))) (.cons (.tup (.cons (.cst (.int 1)) (.cons (.cst (.int 2)) (.cons (.cst (.int 1)) .nil)))) .nil))) .nil))) (.cons (.tup (.cons (.cst (.int 3)) (.cons (.lst (.cons (.tup (.cons (.cst (.int 0)) (.cons (.cst (.int 1)) (.cons (.cst (.int 1)) .nil)))) (.cons (.tup (.cons (.cst (.int 0)) (.cons (.cst (.int 2)) (.cons (.cst (.int 1)) .nil)))) (.cons (.tup (.cons (.cst (.int 1)) (.cons (.cst (.int 2)) (.cons (.cst (.int 1)) .nil)))) .nil)))) .nil))) .nil)))) (.seq (.asg (.nm 2) (.lst (.cons (.call 30 (.cons (.var 4) (.cons (.lst (.cons (.cst (.int 0)) (.cons (.cst (.int 0)) .nil))) (.cons (.cst (.int 0)) (.cons (.cst (.int 2)) (.cons (.cst (.int 1)) (.cons (.cst (.int 0)) .nil))))))) (.cons (.call 29 (.cons (.var 5) (.cons (.lst (.cons (.cst (.int 0)) (.cons (.cst (.int 0)) (.cons (.cst (.int 0)) .nil)))) (.cons (.cst (.int 2)) (.cons (.cst (.int 0)) .nil))))) (.cons (.call 31 (.cons (.var 4) (.cons (.lst (.cons (.cst (.int 0)) (.cons (.cst (.int 0)) .nil))) (.cons (.cst (.int 1)) (.cons (.cst (.int 0)) .nil))))) (.cons (.call 35 (.cons (.var 4) (.cons (.lst (.cons (.cst (.int 1)) (.cons (.cst (.int 0)) .nil))) (.cons (.cst (.int 0)) .nil)))) .nil)))))) (.seq (.asg (.nm 2) (.bin .add (.var 2) (.lst (.cons (.call 34 (.cons (.var 4) (.cons (.lst (.cons (.cst (.int 1)) (.cons (.cst (.int 0)) .nil))) (.cons (.lst (.cons (.tup (.cons (.cst (.int 0)) (.cons (.cst (.int 0)) (.cons (.cst (.int 1)) .nil)))) (.cons (.tup (.cons (.cst (.int 2)) (.cons (.cst (.int 1)) (.cons (.cst (.int 1)) .nil)))) .nil))) .nil)))) (.cons (.call 33 (.cons (.tup (.cons (.cst (.int 2)) (.cons (.lst (.cons (.tup (.cons (.cst (.int 0)) (.cons (.cst (.int 1)) (.cons (.cst (.int 3)) .nil)))) .nil)) .nil))) (.cons (.lst (.cons (.cst (.int 2)) .nil)) (.cons (.cst (.int 0)) (.cons (.cst (.int 1)) .nil))))) (.cons (.call 34 (.cons (.tup (.cons (.cst (.int 1)) (.cons (.lst .nil) .nil))) (.cons (.lst .nil) (.cons (.lst .nil) .nil)))) .nil)))))) (.seq (.asg (.nm 3) (.lst (.cons (.tup (.cons (.var 5) (.cons (.lst (.cons (.cst (.int 0)) (.cons (.cst (.int 0)) (.cons (.cst (.int 0)) .nil)))) .nil))) (.cons (.tup (.cons (.var 4) (.cons (.lst (.cons (.cst (.int 0)) (.cons (.cst (.int 0)) .nil))) .nil))) (.cons (.tup (.cons (.tup (.cons (.cst (.int 3)) (.cons (.lst (.cons (.tup (.cons (.cst (.int 0)) (.cons (.cst (.int 1)) (.cons (.cst (.int 2)) .nil)))) (.cons (.tup (.cons (.cst (.int 1)) (.cons (.cst (.int 2)) (.cons (.cst (.int 1)) .nil)))) .nil))) .nil))) (.cons (.lst (.cons (.cst (.int 0)) (.cons (.cst (.int 0)) .nil))) .nil))) (.cons (.tup (.cons (.tup (.cons (.cst (.int 2)) (.cons (.lst (.cons (.tup (.cons (.cst (.int 0)) (.cons (.cst (.int 1)) (.cons (.cst (.int 1)) .nil)))) .nil)) .nil))) (.cons (.lst (.cons (.cst (.int 0)) .nil)) .nil))) .nil)))))) (.seq (.asg (.nm 3) (.bin .add (.var 3) (.lst (.cons (.tup (.cons (.tup (.cons (.cst (.int 4)) (.cons (.lst (.cons (.tup (.cons (.cst (.int 0)) (.cons (.cst (.int 1)) (.cons (.cst (.int 1)) .nil)))) (.cons (.tup (.cons (.cst (.int 0)) (.cons (.cst (.int 3)) (.cons (.cst (.int 1)) .nil)))) (.cons (.tup (.cons (.cst (.int 1)) (.cons (.cst (.int 2)) (.cons (.cst (.int 1)) .nil)))) (.cons (.tup (.cons (.cst (.int 2)) (.cons (.cst (.int 3)) (.cons (.cst (.int 2)) .nil)))) .nil))))) .nil))) (.cons (.lst (.cons (.cst (.int 1)) (.cons (.cst (.int 0)) (.cons (.cst (.int 0)) (.cons (.cst (.int 1)) .nil))))) .nil))) (.cons (.tup (.cons (.tup (.cons (.cst (.int 2)) (.cons (.lst (.cons (.tup (.cons (.cst (.int 0)) (.cons (.cst (.int 1)) (.cons (.cst (.int 2)) .nil)))) .nil)) .nil))) (.cons (.lst (.cons (.cst (.int 1)) .nil)) .nil))) (.cons (.tup (.cons (.tup (.cons (.cst (.int 2)) (.cons (.lst .nil) .nil))) (.cons (.lst .nil) .nil))) .nil)))))) (.seq (.asg (.nm 2) (.bin .add (.var 2) (.lst (.cons (.call 34 (.cons (.tup (.cons (.cst (.int 12)) (.cons (.lst .nil) .nil))) (.cons (.lst .nil) (.cons (.lst (.cons (.tup (.cons (.cst (.int 0)) (.cons (.cst (.int 1)) (.cons (.cst (.int 0)) .nil)))) .nil)) .nil)))) (.cons (.call 31 (.cons (.tup (.cons (.cst (.int 2)) (.cons (.lst (.cons (.tup (.cons (.cst (.int 0)) (.cons (.cst (.int 1)) (.cons (.cst (.int 9)) .nil)))) .nil)) .nil))) (.cons (.lst (.cons (.cst (.int 9)) .nil)) (.cons (.cst (.int 0)) (.cons (.cst (.int 1)) .nil))))) (.cons (.call 30 (.cons (.tup (.cons (.cst (.int 2)) (.cons (.lst .nil) .nil))) (.cons (.lst .nil) (.cons (.cst (.int 0)) (.cons (.cst (.int 1)) (.cons (.cst (.int 9)) (.cons (.cst (.int 0)) .nil))))))) .nil)))))) (.seq (.asg (.nm 3) (.bin .add (.var 3) (.lst (.cons (.tup (.cons (.tup (.cons (.cst (.int 13)) (.cons (.lst (.cons (.tup (.cons (.cst (.int 0)) (.cons (.cst (.int 12)) (.cons (.cst (.int 1)) .nil)))) .nil)) .nil))) (.cons (.lst (.cons (.cst (.int 1)) .nil)) .nil))) (.cons (.tup (.cons (.tup (.cons (.cst (.int 2)) (.cons (.lst (.cons (.tup (.cons (.cst (.int 0)) (.cons (.cst (.int 1)) (.cons (.cst (.int 10)) .nil)))) .nil)) .nil))) (.cons (.lst (.cons (.cst (.int 10)) .nil)) .nil))) (.cons (.tup (.cons (.tup (.cons (.cst (.int 2)) (.cons (.lst (.cons (.tup (.cons (.cst (.int 0)) (.cons (.cst (.int 1)) (.cons (.cst (.int 9)) .nil)))) .nil)) .nil))) (.cons (.lst (.cons (.cst (.int 0)) .nil)) .nil))) .nil)))))) (.seq (.ret (.call 41 (.cons (.var 2) (.cons (.var 3) .nil)))) .nop)))))))))⟩
def n47 : List Str := ["script", "index", "told", "due", "path", "ring"]
def T : Tbl := fun i => match i with
  | 0 => some f0
  | 1 => some f1
  | 2 => some f2
  | 3 => some f3
  | 4 => some f4
  | 5 => some f5
  | 6 => some f6
  | 7 => some f7
  | 8 => some f8
  | 9 => some f9
  | 10 => some f10
  | 11 => some f11
  | 12 => some f12
  | 13 => some f13
  | 14 => some f14
  | 15 => some f15
  | 16 => some f16
  | 17 => some f17
  | 18 => some f18
  | 19 => some f19
  | 20 => some f20
  | 21 => some f21
  | 22 => some f22
  | 23 => some f23
  | 24 => some f24
  | 25 => some f25
  | 26 => some f26
  | 27 => some f27
  | 28 => some f28
  | 29 => some f29
  | 30 => some f30
  | 31 => some f31
  | 32 => some f32
  | 33 => some f33
  | 34 => some f34
  | 35 => some f35
  | 36 => some f36
  | 37 => some f37
  | 38 => some f38
  | 39 => some f39
  | 40 => some f40
  | 41 => some f41
  | 42 => some f42
  | 43 => some f43
  | 44 => some f44
  | 45 => some f45
  | 46 => some f46
  | 47 => some f47
  | _ => none
def fs : List (Str × Nat) := [(Str.ofString "is_whole", 0), (Str.ofString "is_between", 1), (Str.ofString "check_number", 2), (Str.ofString "is_road", 3), (Str.ofString "is_net", 4), (Str.ofString "check_net", 5), (Str.ofString "is_standing", 6), (Str.ofString "check_standing", 7), (Str.ofString "is_house", 8), (Str.ofString "check_house", 9), (Str.ofString "neighbours_of", 10), (Str.ofString "road_at", 11), (Str.ofString "keys_many", 12), (Str.ofString "keys_in", 13), (Str.ofString "check_both", 14), (Str.ofString "check_two", 15), (Str.ofString "check_neighbours", 16), (Str.ofString "check_new_road", 17), (Str.ofString "is_end", 18), (Str.ofString "are_ends", 19), (Str.ofString "check_ends", 20), (Str.ofString "of_rows", 21), (Str.ofString "rows_of", 22), (Str.ofString "row_of", 23), (Str.ofString "without_road", 24), (Str.ofString "with_road", 25), (Str.ofString "with_keys", 26), (Str.ofString "with_house", 27), (Str.ofString "without_house", 28), (Str.ofString "road_out", 29), (Str.ofString "road_in", 30), (Str.ofString "key_in", 31), (Str.ofString "may_give", 32), (Str.ofString "key_out", 33), (Str.ofString "house_in", 34), (Str.ofString "house_out", 35), (Str.ofString "_law_hash", 36), (Str.ofString "_law_random", 37), (Str.ofString "_law_cell", 38), (Str.ofString "_law_generator", 39), (Str.ofString "_law_size", 40), (Str.ofString "_law_same", 41), (Str.ofString "_law_net", 42), (Str.ofString "_law_told", 43), (Str.ofString "_law_without", 44), (Str.ofString "_law_roads_right", 45), (Str.ofString "_law_right", 46), (Str.ofString "law", 47)]
@[simp] theorem mu0 : mutOf T 0 = false := (rfl)
theorem sem0 (wf k : Nat) (ds : List D) : sem T wf (k + 1) 0 ds = runF (mutOf T) (sem T wf k) wf f0 ds := (rfl)
@[simp] theorem mu1 : mutOf T 1 = false := (rfl)
theorem sem1 (wf k : Nat) (ds : List D) : sem T wf (k + 1) 1 ds = runF (mutOf T) (sem T wf k) wf f1 ds := (rfl)
@[simp] theorem mu2 : mutOf T 2 = false := (rfl)
theorem sem2 (wf k : Nat) (ds : List D) : sem T wf (k + 1) 2 ds = runF (mutOf T) (sem T wf k) wf f2 ds := (rfl)
@[simp] theorem mu3 : mutOf T 3 = false := (rfl)
theorem sem3 (wf k : Nat) (ds : List D) : sem T wf (k + 1) 3 ds = runF (mutOf T) (sem T wf k) wf f3 ds := (rfl)
@[simp] theorem mu4 : mutOf T 4 = false := (rfl)
theorem sem4 (wf k : Nat) (ds : List D) : sem T wf (k + 1) 4 ds = runF (mutOf T) (sem T wf k) wf f4 ds := (rfl)
@[simp] theorem mu5 : mutOf T 5 = false := (rfl)
theorem sem5 (wf k : Nat) (ds : List D) : sem T wf (k + 1) 5 ds = runF (mutOf T) (sem T wf k) wf f5 ds := (rfl)
@[simp] theorem mu6 : mutOf T 6 = false := (rfl)
theorem sem6 (wf k : Nat) (ds : List D) : sem T wf (k + 1) 6 ds = runF (mutOf T) (sem T wf k) wf f6 ds := (rfl)
@[simp] theorem mu7 : mutOf T 7 = false := (rfl)
theorem sem7 (wf k : Nat) (ds : List D) : sem T wf (k + 1) 7 ds = runF (mutOf T) (sem T wf k) wf f7 ds := (rfl)
@[simp] theorem mu8 : mutOf T 8 = false := (rfl)
theorem sem8 (wf k : Nat) (ds : List D) : sem T wf (k + 1) 8 ds = runF (mutOf T) (sem T wf k) wf f8 ds := (rfl)
@[simp] theorem mu9 : mutOf T 9 = false := (rfl)
theorem sem9 (wf k : Nat) (ds : List D) : sem T wf (k + 1) 9 ds = runF (mutOf T) (sem T wf k) wf f9 ds := (rfl)
@[simp] theorem mu10 : mutOf T 10 = false := (rfl)
theorem sem10 (wf k : Nat) (ds : List D) : sem T wf (k + 1) 10 ds = runF (mutOf T) (sem T wf k) wf f10 ds := (rfl)
@[simp] theorem mu11 : mutOf T 11 = false := (rfl)
theorem sem11 (wf k : Nat) (ds : List D) : sem T wf (k + 1) 11 ds = runF (mutOf T) (sem T wf k) wf f11 ds := (rfl)
@[simp] theorem mu12 : mutOf T 12 = false := (rfl)
theorem sem12 (wf k : Nat) (ds : List D) : sem T wf (k + 1) 12 ds = runF (mutOf T) (sem T wf k) wf f12 ds := (rfl)
@[simp] theorem mu13 : mutOf T 13 = false := (rfl)
theorem sem13 (wf k : Nat) (ds : List D) : sem T wf (k + 1) 13 ds = runF (mutOf T) (sem T wf k) wf f13 ds := (rfl)
@[simp] theorem mu14 : mutOf T 14 = false := (rfl)
theorem sem14 (wf k : Nat) (ds : List D) : sem T wf (k + 1) 14 ds = runF (mutOf T) (sem T wf k) wf f14 ds := (rfl)
@[simp] theorem mu15 : mutOf T 15 = false := (rfl)
theorem sem15 (wf k : Nat) (ds : List D) : sem T wf (k + 1) 15 ds = runF (mutOf T) (sem T wf k) wf f15 ds := (rfl)
@[simp] theorem mu16 : mutOf T 16 = false := (rfl)
theorem sem16 (wf k : Nat) (ds : List D) : sem T wf (k + 1) 16 ds = runF (mutOf T) (sem T wf k) wf f16 ds := (rfl)
@[simp] theorem mu17 : mutOf T 17 = false := (rfl)
theorem sem17 (wf k : Nat) (ds : List D) : sem T wf (k + 1) 17 ds = runF (mutOf T) (sem T wf k) wf f17 ds := (rfl)
@[simp] theorem mu18 : mutOf T 18 = false := (rfl)
theorem sem18 (wf k : Nat) (ds : List D) : sem T wf (k + 1) 18 ds = runF (mutOf T) (sem T wf k) wf f18 ds := (rfl)
@[simp] theorem mu19 : mutOf T 19 = false := (rfl)
theorem sem19 (wf k : Nat) (ds : List D) : sem T wf (k + 1) 19 ds = runF (mutOf T) (sem T wf k) wf f19 ds := (rfl)
@[simp] theorem mu20 : mutOf T 20 = false := (rfl)
theorem sem20 (wf k : Nat) (ds : List D) : sem T wf (k + 1) 20 ds = runF (mutOf T) (sem T wf k) wf f20 ds := (rfl)
@[simp] theorem mu21 : mutOf T 21 = false := (rfl)
theorem sem21 (wf k : Nat) (ds : List D) : sem T wf (k + 1) 21 ds = runF (mutOf T) (sem T wf k) wf f21 ds := (rfl)
@[simp] theorem mu22 : mutOf T 22 = false := (rfl)
theorem sem22 (wf k : Nat) (ds : List D) : sem T wf (k + 1) 22 ds = runF (mutOf T) (sem T wf k) wf f22 ds := (rfl)
@[simp] theorem mu23 : mutOf T 23 = false := (rfl)
theorem sem23 (wf k : Nat) (ds : List D) : sem T wf (k + 1) 23 ds = runF (mutOf T) (sem T wf k) wf f23 ds := (rfl)
@[simp] theorem mu24 : mutOf T 24 = false := (rfl)
theorem sem24 (wf k : Nat) (ds : List D) : sem T wf (k + 1) 24 ds = runF (mutOf T) (sem T wf k) wf f24 ds := (rfl)
@[simp] theorem mu25 : mutOf T 25 = false := (rfl)
theorem sem25 (wf k : Nat) (ds : List D) : sem T wf (k + 1) 25 ds = runF (mutOf T) (sem T wf k) wf f25 ds := (rfl)
@[simp] theorem mu26 : mutOf T 26 = false := (rfl)
theorem sem26 (wf k : Nat) (ds : List D) : sem T wf (k + 1) 26 ds = runF (mutOf T) (sem T wf k) wf f26 ds := (rfl)
@[simp] theorem mu27 : mutOf T 27 = false := (rfl)
theorem sem27 (wf k : Nat) (ds : List D) : sem T wf (k + 1) 27 ds = runF (mutOf T) (sem T wf k) wf f27 ds := (rfl)
@[simp] theorem mu28 : mutOf T 28 = false := (rfl)
theorem sem28 (wf k : Nat) (ds : List D) : sem T wf (k + 1) 28 ds = runF (mutOf T) (sem T wf k) wf f28 ds := (rfl)
@[simp] theorem mu29 : mutOf T 29 = false := (rfl)
theorem sem29 (wf k : Nat) (ds : List D) : sem T wf (k + 1) 29 ds = runF (mutOf T) (sem T wf k) wf f29 ds := (rfl)
@[simp] theorem mu30 : mutOf T 30 = false := (rfl)
theorem sem30 (wf k : Nat) (ds : List D) : sem T wf (k + 1) 30 ds = runF (mutOf T) (sem T wf k) wf f30 ds := (rfl)
@[simp] theorem mu31 : mutOf T 31 = false := (rfl)
theorem sem31 (wf k : Nat) (ds : List D) : sem T wf (k + 1) 31 ds = runF (mutOf T) (sem T wf k) wf f31 ds := (rfl)
@[simp] theorem mu32 : mutOf T 32 = false := (rfl)
theorem sem32 (wf k : Nat) (ds : List D) : sem T wf (k + 1) 32 ds = runF (mutOf T) (sem T wf k) wf f32 ds := (rfl)
@[simp] theorem mu33 : mutOf T 33 = false := (rfl)
theorem sem33 (wf k : Nat) (ds : List D) : sem T wf (k + 1) 33 ds = runF (mutOf T) (sem T wf k) wf f33 ds := (rfl)
@[simp] theorem mu34 : mutOf T 34 = false := (rfl)
theorem sem34 (wf k : Nat) (ds : List D) : sem T wf (k + 1) 34 ds = runF (mutOf T) (sem T wf k) wf f34 ds := (rfl)
@[simp] theorem mu35 : mutOf T 35 = false := (rfl)
theorem sem35 (wf k : Nat) (ds : List D) : sem T wf (k + 1) 35 ds = runF (mutOf T) (sem T wf k) wf f35 ds := (rfl)
@[simp] theorem mu36 : mutOf T 36 = false := (rfl)
theorem sem36 (wf k : Nat) (ds : List D) : sem T wf (k + 1) 36 ds = runF (mutOf T) (sem T wf k) wf f36 ds := (rfl)
@[simp] theorem mu37 : mutOf T 37 = true := (rfl)
theorem sem37 (wf k : Nat) (ds : List D) : sem T wf (k + 1) 37 ds = runF (mutOf T) (sem T wf k) wf f37 ds := (rfl)
@[simp] theorem mu38 : mutOf T 38 = false := (rfl)
theorem sem38 (wf k : Nat) (ds : List D) : sem T wf (k + 1) 38 ds = runF (mutOf T) (sem T wf k) wf f38 ds := (rfl)
@[simp] theorem mu39 : mutOf T 39 = false := (rfl)
theorem sem39 (wf k : Nat) (ds : List D) : sem T wf (k + 1) 39 ds = runF (mutOf T) (sem T wf k) wf f39 ds := (rfl)
@[simp] theorem mu40 : mutOf T 40 = true := (rfl)
theorem sem40 (wf k : Nat) (ds : List D) : sem T wf (k + 1) 40 ds = runF (mutOf T) (sem T wf k) wf f40 ds := (rfl)
@[simp] theorem mu41 : mutOf T 41 = false := (rfl)
theorem sem41 (wf k : Nat) (ds : List D) : sem T wf (k + 1) 41 ds = runF (mutOf T) (sem T wf k) wf f41 ds := (rfl)
@[simp] theorem mu42 : mutOf T 42 = true := (rfl)
theorem sem42 (wf k : Nat) (ds : List D) : sem T wf (k + 1) 42 ds = runF (mutOf T) (sem T wf k) wf f42 ds := (rfl)
@[simp] theorem mu43 : mutOf T 43 = false := (rfl)
theorem sem43 (wf k : Nat) (ds : List D) : sem T wf (k + 1) 43 ds = runF (mutOf T) (sem T wf k) wf f43 ds := (rfl)
@[simp] theorem mu44 : mutOf T 44 = false := (rfl)
theorem sem44 (wf k : Nat) (ds : List D) : sem T wf (k + 1) 44 ds = runF (mutOf T) (sem T wf k) wf f44 ds := (rfl)
@[simp] theorem mu45 : mutOf T 45 = true := (rfl)
theorem sem45 (wf k : Nat) (ds : List D) : sem T wf (k + 1) 45 ds = runF (mutOf T) (sem T wf k) wf f45 ds := (rfl)
@[simp] theorem mu46 : mutOf T 46 = true := (rfl)
theorem sem46 (wf k : Nat) (ds : List D) : sem T wf (k + 1) 46 ds = runF (mutOf T) (sem T wf k) wf f46 ds := (rfl)
@[simp] theorem mu47 : mutOf T 47 = false := (rfl)
theorem sem47 (wf k : Nat) (ds : List D) : sem T wf (k + 1) 47 ds = runF (mutOf T) (sem T wf k) wf f47 ds := (rfl)
end Tv.B
/-! TxC: what the program's small defs tell. -/
namespace Tv.B
open PySem
variable {wf k : Nat}
theorem up {n : Nat} (h : n + 1 ≤ k) : ∃ j, k = j + 1 ∧ n ≤ j := ⟨k - 1, by omega, by omega⟩
/-- low, high, all keys, those at the high end -/
abbrev Rw := Int × Int × Int × Int
abbrev rd (r : Rw) : D := .tuple [.int r.1, .int r.2.1, .int r.2.2.1]
abbrev r4 (r : Rw) : D := .tuple [.int r.1, .int r.2.1, .int r.2.2.1, .int r.2.2.2]
abbrev netD (h : Int) (R : List Rw) : D := .tuple [.int h, .list (R.map rd)]
abbrev stD (R : List Rw) : D := .list (R.map fun r => .int r.2.2.2)
/-- a road of a net of h houses -/
structure RdOk (h : Int) (r : Rw) : Prop where
  a0 : 0 ≤ r.1
  ab : r.1 < r.2.1
  bh : r.2.1 < h
  m1 : 1 ≤ r.2.2.1
  i0 : 0 ≤ r.2.2.2
  im : r.2.2.2 ≤ r.2.2.1
def pr (r : Rw) : List Int := [r.1, r.2.1]
structure NOk (h : Int) (R : List Rw) : Prop where
  h1 : 1 ≤ h
  hb : h ≤ 1000
  rd : ∀ r ∈ R, RdOk h r
  asc : R.Pairwise fun r s => ltI (pr r) (pr s) = true
  len : R.length ≤ 1000
theorem s0 (h : 1 ≤ k) (i : Int) : sem T wf k 0 [.int i] = some (.dp (.bool true), .none) := by
  obtain ⟨k, rfl, q⟩ := up h
  rw [sem0]
  refine run_of rfl rfl ?_
  simp only [f0, env0, Nat.reduceSub, List.map, List.length, List.replicate, List.append_nil, shN, imm_int, if_true]
  exact seq_ret (by conv => lhs; simp) rfl rfl
theorem s1 (h : 2 ≤ k) (i lo hi : Int) : sem T wf k 1 [.int i, .int lo, .int hi] = some (.dp (.bool (decide (lo ≤ i) && decide (i ≤ hi))), .none) := by
  obtain ⟨k, rfl, q⟩ := up h
  rw [sem1]
  refine run_of rfl rfl ?_
  simp only [f1, env0, Nat.reduceSub, List.map, List.length, List.replicate, List.append_nil, shN, imm_int, if_true]
  refine seq_no (by conv => lhs; simp [ev_call, s0 q]) ?_
  exact seq_ret (by conv => lhs; simp) rfl rfl
theorem s1n (h : 2 ≤ k) (i lo : Int) : sem T wf k 1 [.int i, .int lo, .none] = some (.dp (.bool (decide (lo ≤ i))), .none) := by
  obtain ⟨k, rfl, q⟩ := up h
  rw [sem1]
  refine run_of rfl rfl ?_
  simp only [f1, env0, Nat.reduceSub, List.map, List.length, List.replicate, List.append_nil, shN, imm_int, imm_none, if_true]
  refine seq_no (by conv => lhs; simp [ev_call, s0 q]) ?_
  exact seq_ret (by conv => lhs; simp) rfl rfl
theorem s2 (h : 3 ≤ k) {i lo : Int} (hi : lo ≤ i) : sem T wf k 2 [.int i, .int lo, .none] = some (.dp .none, .none) := by
  obtain ⟨k, rfl, q⟩ := up h
  rw [sem2]
  refine run_none rfl rfl ?_
  simp only [f2, env0, Nat.reduceSub, List.map, List.length, List.replicate, List.append_nil, shN, imm_int, imm_none, if_true]
  refine seq_no (by conv => lhs; simp [ev_call, s1n q, hi]) ?_
  exact ends_nop rfl
theorem s3 (hk : 3 ≤ k) {h : Int} {r : Rw} (hr : RdOk h r) : sem T wf k 3 [.int h, rd r] = some (.dp (.bool true), .none) := by
  obtain ⟨k, rfl, q⟩ := up hk
  have e1 : r.1 ≤ h - 1 := by have := hr.ab; have := hr.bh; omega
  have e2 : r.1 + 1 ≤ r.2.1 := by have := hr.ab; omega
  have e3 : r.2.1 ≤ h - 1 := by have := hr.bh; omega
  have e4 := hr.m1
  have e5 := hr.a0
  rw [sem3]
  refine run_of rfl rfl ?_
  simp only [f3, env0, Nat.reduceSub, List.map, List.length, List.replicate, List.append_nil, shN, imm_int, imm_tup, imms_cons, imms_nil, Bool.and_self, if_true]
  refine seq_no (by conv => lhs; simp [ev_call, s1 q, e1, e5]) ?_
  exact seq_ret (by conv => lhs; simp [ev_call, s1 q, s1n q, e2, e3, e4]) rfl rfl
theorem asc_at {R : List Rw} (h : R.Pairwise fun r s => ltI (pr r) (pr s) = true) {i : Nat} {r s : Rw} (h1 : R[i]? = some r) (h2 : R[i + 1]? = some s) : ltI (pr r) (pr s) = true := by
  obtain ⟨q1, rfl⟩ := List.getElem?_eq_some_iff.mp h1
  obtain ⟨q2, rfl⟩ := List.getElem?_eq_some_iff.mp h2
  exact List.pairwise_iff_getElem.mp h i (i + 1) q1 q2 (by omega)
theorem s4 (hk : 4 ≤ k) {h : Int} {R : List Rw} (hR : NOk h R) : sem T wf k 4 [netD h R] = some (.dp (.bool true), .none) := by
  obtain ⟨k, rfl, q⟩ := up hk
  have e1 := hR.h1
  have e2 := hR.len
  rw [sem4]
  refine run_of rfl rfl ?_
  simp only [f4, env0, Nat.reduceSub, List.map, List.length, List.replicate, List.append_nil, shN, imm_int, imm_tup, imm_list, imms_cons, imms_nil, Bool.and_self, Bool.and_false, Bool.false_and, Bool.false_eq_true, if_false, List.cons_append, List.nil_append]
  refine seq_no (by conv => lhs; simp [ev_call, s1n (show 2 ≤ k by omega), e1]) ?_
  refine seq_asg (by conv => lhs; simp [asgMode]) ?_
  refine seq_no (by
    conv => lhs; simp
    rw [ev_comp_no rd R (by conv => lhs; simp) (by simp [dictOk]) rfl (by omega) fun r hr => by simp [Turn, wipeS, ev_call, s3 q (hR.rd r hr)]]
    conv => lhs; simp) ?_
  refine seq_ret (by
    conv => lhs; simp
    rw [ev_comp_no (fun i : Nat => PyData.int (1 + i)) (List.range (R.length - 1)) (by conv => lhs; simp) (by simp [dictOk]) ?_ (by simp; omega) fun i hi => ?_]
    · conv => lhs; simp
    · simp only [List.map, d_dp, List.length_map]
      rw [iter_rng2 (by omega) (by omega) (by omega) (by omega)]
      refine congrArg (fun n => some (List.map (fun i : Nat => PyData.int (1 + i)) (List.range n))) ?_
      omega
    · have hi' := List.mem_range.mp hi
      have g1 : itemD (.list (R.map rd)) (.int (1 + (i : Int) - 1)) = some (rd R[i]) := item_map (j := i) (by omega) (List.getElem?_eq_getElem (by omega))
      have g2 : itemD (.list (R.map rd)) (.int (1 + (i : Int))) = some (rd R[i + 1]) := item_map (j := i + 1) (by omega) (List.getElem?_eq_getElem (by omega))
      have g3 := asc_at hR.asc (i := i) (r := R[i]) (s := R[i + 1]) (List.getElem?_eq_getElem (by omega)) (List.getElem?_eq_getElem (by omega))
      have g4 : ltI [R[i].1, R[i].2.1] [R[i + 1].1, R[i + 1].2.1] = true := g3
      simp [Turn, wipeS, g1, g2, cmp_ge_2, g4]) rfl rfl
theorem s5 (hk : 5 ≤ k) {h : Int} {R : List Rw} (hR : NOk h R) : sem T wf k 5 [netD h R] = some (.dp .none, .none) := by
  obtain ⟨k, rfl, q⟩ := up hk
  rw [sem5]
  refine run_none rfl rfl ?_
  simp only [f5, env0, Nat.reduceSub, List.map, List.length, List.replicate, List.append_nil, shN, imm_int, imm_tup, imm_list, imms_cons, imms_nil, Bool.and_self, Bool.and_false, Bool.false_and, Bool.false_eq_true, if_true, if_false, List.cons_append, List.nil_append]
  refine seq_no (by conv => lhs; simp [ev_call, s4 q hR]) ?_
  exact ends_nop rfl
theorem s6 (hk : 3 ≤ k) {h : Int} {R : List Rw} (hR : NOk h R) : sem T wf k 6 [netD h R, stD R] = some (.dp (.bool true), .none) := by
  obtain ⟨k, rfl, q⟩ := up hk
  have e2 := hR.len
  rw [sem6]
  refine run_of rfl rfl ?_
  simp only [f6, env0, Nat.reduceSub, List.map, List.length, List.replicate, List.append_nil, shN, imm_int, imm_tup, imm_list, imms_cons, imms_nil, Bool.and_self, Bool.and_false, Bool.false_and, Bool.false_eq_true, if_true, if_false, List.cons_append, List.nil_append]
  refine seq_no (by conv => lhs; simp) ?_
  refine seq_ret (by
    conv => lhs; simp
    rw [ev_comp_no (fun r : Rw => .tuple [.int r.2.2.2, rd r]) R (by conv => lhs; simp) (by simp [dictOk]) (by simp [iterD, zipD_map]) (by omega) fun r hr => by
      have := (hR.rd r hr).i0
      have := (hR.rd r hr).im
      simp [Turn, wipeS, ev_call, s1 q, *]]
    conv => lhs; simp) rfl rfl
theorem s7 (hk : 6 ≤ k) {h : Int} {R : List Rw} (hR : NOk h R) : sem T wf k 7 [netD h R, stD R] = some (.dp .none, .none) := by
  obtain ⟨k, rfl, q⟩ := up hk
  rw [sem7]
  refine run_none rfl rfl ?_
  simp only [f7, env0, Nat.reduceSub, List.map, List.length, List.replicate, List.append_nil, shN, imm_int, imm_tup, imm_list, imms_cons, imms_nil, Bool.and_self, Bool.and_false, Bool.false_and, Bool.false_eq_true, if_true, if_false, List.cons_append, List.nil_append]
  refine seq_eff (by conv => lhs; simp [ev_call, s5 q hR]) ?_
  refine seq_no (by conv => lhs; simp [ev_call, s6 (show 3 ≤ k by omega) hR]) ?_
  exact ends_nop rfl
theorem s8 (hk : 3 ≤ k) (h v : Int) (R : List Rw) : sem T wf k 8 [netD h R, .int v] = some (.dp (.bool (decide (0 ≤ v) && decide (v ≤ h - 1))), .none) := by
  obtain ⟨k, rfl, q⟩ := up hk
  rw [sem8]
  refine run_of rfl rfl ?_
  simp only [f8, env0, Nat.reduceSub, List.map, List.length, List.replicate, List.append_nil, shN, imm_int, imm_tup, imm_list, imms_cons, imms_nil, Bool.and_self, Bool.and_false, Bool.false_and, Bool.false_eq_true, if_true, if_false, List.cons_append, List.nil_append]
  exact seq_ret (by conv => lhs; simp [ev_call, s1 q]) rfl rfl
theorem s9 (hk : 4 ≤ k) {h v : Int} (R : List Rw) (h0 : 0 ≤ v) (h1 : v ≤ h - 1) : sem T wf k 9 [netD h R, .int v] = some (.dp .none, .none) := by
  obtain ⟨k, rfl, q⟩ := up hk
  rw [sem9]
  refine run_none rfl rfl ?_
  simp only [f9, env0, Nat.reduceSub, List.map, List.length, List.replicate, List.append_nil, shN, imm_int, imm_tup, imm_list, imms_cons, imms_nil, Bool.and_self, Bool.and_false, Bool.false_and, Bool.false_eq_true, if_true, if_false, List.cons_append, List.nil_append]
  refine seq_no (by conv => lhs; simp [ev_call, s8 q, h0, h1]) ?_
  exact ends_nop rfl
/-- the neighbours of a house -/
def nbs (R : List Rw) (u : Int) : List Int := srtB (fun a b => decide (a ≤ b)) ((R.filterMap fun r => if r.2.1 = u then some r.1 else none) ++ (R.filterMap fun r => if r.1 = u then some r.2.1 else none))
theorem mem_nbs {R : List Rw} {u v : Int} : v ∈ nbs R u ↔ ∃ r ∈ R, (r.2.1 = u ∧ r.1 = v) ∨ (r.1 = u ∧ r.2.1 = v) := by
  unfold nbs
  rw [(srtB_perm _).mem_iff, List.mem_append, List.mem_filterMap, List.mem_filterMap]
  constructor
  · rintro (⟨r, hr, h⟩ | ⟨r, hr, h⟩) <;> refine ⟨r, hr, ?_⟩ <;> split at h <;> simp_all
  · rintro ⟨r, hr, (⟨h1, h2⟩ | ⟨h1, h2⟩)⟩
    · exact .inl ⟨r, hr, by simp [h1, h2]⟩
    · exact .inr ⟨r, hr, by simp [h1, h2]⟩
theorem s10 (hk : 1 ≤ k) (h u : Int) {R : List Rw} (hl : R.length ≤ 1000) : sem T wf k 10 [netD h R, .int u] = some (.dp (lI (nbs R u)), .none) := by
  obtain ⟨k, rfl, q⟩ := up hk
  rw [sem10]
  refine run_of rfl rfl ?_
  simp only [f10, env0, Nat.reduceSub, List.map, List.length, List.replicate, List.append_nil, shN, imm_int, imm_tup, imm_list, imms_cons, imms_nil, Bool.and_self, Bool.and_false, Bool.false_and, Bool.false_eq_true, if_true, if_false, List.cons_append, List.nil_append]
  have l1 := List.length_filterMap_le (fun r : Rw => if r.2.1 = u then some r.1 else none) R
  have l2 := List.length_filterMap_le (fun r : Rw => if r.1 = u then some r.2.1 else none) R
  refine seq_asg (by
    conv => lhs; simp
    rw [ev_comp rd (fun r : Rw => if r.2.1 = u then some (.int r.1) else none) R (by conv => lhs; simp [asgMode]) (by simp [dictOk]) rfl (by omega) fun r hr => by
      by_cases h : r.2.1 = u <;> simp [Turn, wipeS, h]]
    conv => lhs; simp) ?_
  refine seq_ret (by
    conv => lhs; simp
    rw [ev_comp rd (fun r : Rw => if r.1 = u then some (.int r.2.1) else none) R (by conv => lhs; simp) (by simp [dictOk]) rfl (by omega) fun r hr => by
      by_cases h : r.1 = u <;> simp [Turn, wipeS, h]]
    have e1 : R.filterMap (fun r : Rw => if r.2.1 = u then some (PyData.int r.1) else none) = (R.filterMap fun r => if r.2.1 = u then some r.1 else none).map .int := by
      rw [List.map_filterMap]; congr 1; funext r; split <;> rfl
    have e2 : R.filterMap (fun r : Rw => if r.1 = u then some (PyData.int r.2.1) else none) = (R.filterMap fun r => if r.1 = u then some r.2.1 else none).map .int := by
      rw [List.map_filterMap]; congr 1; funext r; split <;> rfl
    have im : ∀ L : List Int, imms (L.map .int) = true := fun L => imms_map (fun _ => rfl) L
    rw [e1, e2]
    conv => lhs; simp [bin_app, im, show (List.filterMap (fun r : Rw => if r.2.1 = u then some r.1 else none) R).length + (List.filterMap (fun r : Rw => if r.1 = u then some r.2.1 else none) R).length ≤ 100000 by omega]
    rw [← List.map_append, blt_sorted_int (by rw [List.length_append]; omega)]
    rfl) rfl rfl
end Tv.B
/-! TxD: what the program's changes tell. -/
namespace Tv.B
open PySem
variable {wf k : Nat}
def lo (a b : Int) : Int := if b < a then b else a
def hi (a b : Int) : Int := if a < b then b else a
/-- the row of a road stands at a place -/
structure At (R : List Rw) (one other : Int) (j : Nat) (r : Rw) : Prop where
  get : R[j]? = some r
  l : r.1 = lo one other
  g : r.2.1 = hi one other
theorem asc_ne {R : List Rw} (h : R.Pairwise fun r s => ltI (pr r) (pr s) = true) {i j : Nat} {r s : Rw} (hij : i < j) (h1 : R[i]? = some r) (h2 : R[j]? = some s) : pr r ≠ pr s := by
  obtain ⟨q1, rfl⟩ := List.getElem?_eq_some_iff.mp h1
  obtain ⟨q2, rfl⟩ := List.getElem?_eq_some_iff.mp h2
  have := List.pairwise_iff_getElem.mp h i j q1 q2 hij
  intro e
  rw [e, ltI_irr] at this
  cases this
theorem s11 (hk : 1 ≤ k) {h one other : Int} {R : List Rw} {j : Nat} {r : Rw} (hR : NOk h R) (a : At R one other j r) : sem T wf k 11 [netD h R, .int one, .int other] = some (.dp (.int j), .none) := by
  obtain ⟨k, rfl, q⟩ := up hk
  rw [sem11]
  refine run_of rfl rfl ?_
  simp only [f11, env0, Nat.reduceSub, List.map, List.length, List.replicate, List.append_nil, shN, imm_int, imm_none, imm_tup, imm_list, imms_cons, imms_nil, Bool.and_self, Bool.and_false, Bool.false_and, Bool.false_eq_true, if_true, if_false, List.cons_append, List.nil_append]
  have hl := hR.len
  have g : mthD .index (.list (R.map fun r : Rw => .tuple [.int r.1, .int r.2.1])) [.tuple [.int (lo one other), .int (hi one other)]] = some (.dp (.int j)) :=
    mth_index (enc := fun r : Rw => .tuple [.int r.1, .int r.2.1]) pr (fun _ => rfl) (x := [lo one other, hi one other]) a.get (by simp [pr, a.l, a.g]) fun i b hi hb => by
      have := asc_ne hR.asc hi hb a.get
      simpa [pr, a.l, a.g] using this
  refine seq_ret (by
    conv => lhs; simp
    rw [ev_comp_map rd (fun r : Rw => .tuple [.int r.1, .int r.2.1]) R (by conv => lhs; simp) (by simp [dictOk]) rfl (by omega) fun r hr => by simp [Turn, wipeS]]
    conv => lhs; simp
    unfold lo hi at g
    rw [g]
    rfl) rfl rfl
theorem s12 (hk : 2 ≤ k) {h one other : Int} {R : List Rw} {j : Nat} {r : Rw} (hR : NOk h R) (a : At R one other j r) : sem T wf k 12 [netD h R, .int one, .int other] = some (.dp (.int r.2.2.1), .none) := by
  obtain ⟨k, rfl, q⟩ := up hk
  rw [sem12]
  refine run_of rfl rfl ?_
  simp only [f12, env0, Nat.reduceSub, List.map, List.length, List.replicate, List.append_nil, shN, imm_int, imm_none, imm_tup, imm_list, imms_cons, imms_nil, Bool.and_self, Bool.and_false, Bool.false_and, Bool.false_eq_true, if_true, if_false, List.cons_append, List.nil_append]
  have g : itemD (.list (R.map rd)) (.int (j : Int)) = some (rd r) := item_map rfl a.get
  exact seq_ret (by conv => lhs; simp [ev_call, s11 q hR a, g]) rfl rfl
/-- the keys at the second one's end -/
def kin (r : Rw) (one other : Int) : Int := if one < other then r.2.2.2 else r.2.2.1 - r.2.2.2
theorem s13 (hk : 2 ≤ k) {h one other : Int} {R : List Rw} {j : Nat} {r : Rw} (hR : NOk h R) (a : At R one other j r) : sem T wf k 13 [netD h R, stD R, .int one, .int other] = some (.dp (.int (kin r one other)), .none) := by
  obtain ⟨k, rfl, q⟩ := up hk
  rw [sem13]
  refine run_of rfl rfl ?_
  simp only [f13, env0, Nat.reduceSub, List.map, List.length, List.replicate, List.append_nil, shN, imm_int, imm_none, imm_tup, imm_list, imms_cons, imms_nil, Bool.and_self, Bool.and_false, Bool.false_and, Bool.false_eq_true, if_true, if_false, List.cons_append, List.nil_append]
  have g : itemD (.list (R.map rd)) (.int (j : Int)) = some (rd r) := item_map rfl a.get
  have g2 : itemD (stD R) (.int (j : Int)) = some (.int r.2.2.2) := item_map rfl a.get
  refine seq_asg (by conv => lhs; simp [asgMode, ev_call, s11 q hR a]) ?_
  by_cases c : one < other
  · exact seq_ret (by conv => lhs; simp [c, g2]) rfl (by simp [kin, c])
  · exact seq_ret (by conv => lhs; simp [c, g, g2]) rfl (by simp [kin, c])
theorem s14 (hk : 7 ≤ k) {h : Int} {R : List Rw} (hR : NOk h R) : sem T wf k 14 [netD h R, stD R] = some (.dp .none, .none) := by
  obtain ⟨k, rfl, q⟩ := up hk
  rw [sem14]
  refine run_none rfl rfl ?_
  simp only [f14, env0, Nat.reduceSub, List.map, List.length, List.replicate, List.append_nil, shN, imm_int, imm_none, imm_tup, imm_list, imms_cons, imms_nil, Bool.and_self, Bool.and_false, Bool.false_and, Bool.false_eq_true, if_true, if_false, List.cons_append, List.nil_append]
  refine seq_eff (by conv => lhs; simp [ev_call, s5 (show 5 ≤ k by omega) hR]) ?_
  refine seq_eff (by conv => lhs; simp [ev_call, s7 q hR]) ?_
  exact ends_nop rfl
theorem s15 (hk : 5 ≤ k) {h u v : Int} (R : List Rw) (hu : 0 ≤ u) (hu2 : u ≤ h - 1) (hv : 0 ≤ v) (hv2 : v ≤ h - 1) (hne : v ≠ u) : sem T wf k 15 [netD h R, .int u, .int v] = some (.dp .none, .none) := by
  obtain ⟨k, rfl, q⟩ := up hk
  rw [sem15]
  refine run_none rfl rfl ?_
  simp only [f15, env0, Nat.reduceSub, List.map, List.length, List.replicate, List.append_nil, shN, imm_int, imm_none, imm_tup, imm_list, imms_cons, imms_nil, Bool.and_self, Bool.and_false, Bool.false_and, Bool.false_eq_true, if_true, if_false, List.cons_append, List.nil_append]
  refine seq_eff (by conv => lhs; simp [ev_call, s9 q R hu hu2]) ?_
  refine seq_no (by conv => lhs; simp [ev_call, s8 (show 3 ≤ k by omega), hv, hv2, hne]) ?_
  exact ends_nop rfl
theorem s16 (hk : 6 ≤ k) {h u v : Int} {R : List Rw} (hl : R.length ≤ 1000) (hu : 0 ≤ u) (hu2 : u ≤ h - 1) (hv : 0 ≤ v) (hv2 : v ≤ h - 1) (hne : v ≠ u) (hn : v ∈ nbs R u) : sem T wf k 16 [netD h R, .int u, .int v] = some (.dp .none, .none) := by
  obtain ⟨k, rfl, q⟩ := up hk
  rw [sem16]
  refine run_none rfl rfl ?_
  simp only [f16, env0, Nat.reduceSub, List.map, List.length, List.replicate, List.append_nil, shN, imm_int, imm_none, imm_tup, imm_list, imms_cons, imms_nil, Bool.and_self, Bool.and_false, Bool.false_and, Bool.false_eq_true, if_true, if_false, List.cons_append, List.nil_append]
  refine seq_eff (by conv => lhs; simp [ev_call, s15 q R hu hu2 hv hv2 hne]) ?_
  refine seq_no (by conv => lhs; simp [ev_call, s10 (show 1 ≤ k by omega) h u hl, cmp_nin_lI, hn]) ?_
  exact ends_nop rfl
theorem s17 (hk : 6 ≤ k) {h u v a b : Int} {R : List Rw} (hl : R.length ≤ 1000) (hu : 0 ≤ u) (hu2 : u ≤ h - 1) (hv : 0 ≤ v) (hv2 : v ≤ h - 1) (hne : v ≠ u) (hn : v ∉ nbs R u) (ha : 0 ≤ a) (hb : 0 ≤ b) (hab : ¬ (a = 0 ∧ b = 0)) : sem T wf k 17 [netD h R, .int u, .int v, .int a, .int b] = some (.dp .none, .none) := by
  obtain ⟨k, rfl, q⟩ := up hk
  rw [sem17]
  refine run_none rfl rfl ?_
  simp only [f17, env0, Nat.reduceSub, List.map, List.length, List.replicate, List.append_nil, shN, imm_int, imm_none, imm_tup, imm_list, imms_cons, imms_nil, Bool.and_self, Bool.and_false, Bool.false_and, Bool.false_eq_true, if_true, if_false, List.cons_append, List.nil_append]
  refine seq_eff (by conv => lhs; simp [ev_call, s15 q R hu hu2 hv hv2 hne]) ?_
  refine seq_no (by conv => lhs; simp [ev_call, s10 (show 1 ≤ k by omega) h u hl, cmp_inn_lI, hn]) ?_
  refine seq_eff (by conv => lhs; simp [ev_call, s2 (show 3 ≤ k by omega) ha]) ?_
  refine seq_eff (by conv => lhs; simp [ev_call, s2 (show 3 ≤ k by omega) hb]) ?_
  refine seq_no (by
    conv => lhs; simp
    simp only [← Bool.decide_and, hab]
    simp
    rfl) ?_
  exact ends_nop rfl
/-- the end of a road at a new house -/
abbrev En := Int × Int × Int
abbrev e3 (e : En) : D := .tuple [.int e.1, .int e.2.1, .int e.2.2]
structure EOk (h : Int) (e : En) : Prop where
  a0 : 0 ≤ e.1
  ah : e.1 < h
  b0 : 0 ≤ e.2.1
  c0 : 0 ≤ e.2.2
  nz : ¬ (e.2.1 = 0 ∧ e.2.2 = 0)
structure EsOk (h : Int) (E : List En) : Prop where
  ok : ∀ e ∈ E, EOk h e
  asc : E.Pairwise fun a b => a.1 < b.1
  len : E.length ≤ 1000
theorem s18 (hk : 4 ≤ k) {h : Int} {R : List Rw} {e : En} (he : EOk h e) : sem T wf k 18 [netD h R, e3 e] = some (.dp (.bool true), .none) := by
  obtain ⟨k, rfl, q⟩ := up hk
  have a0 := he.a0
  have ah : e.1 ≤ h - 1 := by have := he.ah; omega
  have b0 := he.b0
  have c0 := he.c0
  have nz : decide ([e.2.1, e.2.2] = [(0 : Int), 0]) = false := by
    refine decide_eq_false fun z => he.nz ?_
    simpa using z
  rw [sem18]
  refine run_of rfl rfl ?_
  simp only [f18, env0, Nat.reduceSub, List.map, List.length, List.replicate, List.append_nil, shN, imm_int, imm_none, imm_tup, imm_list, imms_cons, imms_nil, Bool.and_self, Bool.and_false, Bool.false_and, Bool.false_eq_true, if_true, if_false, List.cons_append, List.nil_append]
  refine seq_no (by conv => lhs; simp [ev_call, s8 q, a0, ah]) ?_
  refine seq_ret (by
    conv => lhs; simp [ev_call, s1n (show 2 ≤ k by omega), b0, c0, slice_t1]
    rw [show cmpD .ne (.tuple [.int e.2.1, .int e.2.2]) (.tuple [.int 0, .int 0]) = _ from cmp_ne_tI [e.2.1, e.2.2] [0, 0], nz]
    simp
    rfl) rfl rfl
theorem s19 (hk : 5 ≤ k) {h : Int} {R : List Rw} {E : List En} (hE : EsOk h E) : sem T wf k 19 [netD h R, .list (E.map e3)] = some (.dp (.bool true), .none) := by
  obtain ⟨k, rfl, q⟩ := up hk
  have e2 := hE.len
  rw [sem19]
  refine run_of rfl rfl ?_
  simp only [f19, env0, Nat.reduceSub, List.map, List.length, List.replicate, List.append_nil, shN, imm_int, imm_none, imm_tup, imm_list, imms_cons, imms_nil, Bool.and_self, Bool.and_false, Bool.false_and, Bool.false_eq_true, if_true, if_false, List.cons_append, List.nil_append]
  refine seq_no (by
    conv => lhs; simp
    rw [ev_comp_no e3 E (by conv => lhs; simp) (by simp [dictOk]) rfl (by omega) fun r hr => by simp [Turn, wipeS, ev_call, s18 q (hE.ok r hr)]]
    conv => lhs; simp) ?_
  refine seq_ret (by
    conv => lhs; simp
    rw [ev_comp_no (fun i : Nat => PyData.int (1 + i)) (List.range (E.length - 1)) (by conv => lhs; simp) (by simp [dictOk]) ?_ (by simp; omega) fun i hi => ?_]
    · conv => lhs; simp
    · simp only [List.map, d_dp, List.length_map]
      rw [iter_rng2 (by omega) (by omega) (by omega) (by omega)]
      refine congrArg (fun n => some (List.map (fun i : Nat => PyData.int (1 + i)) (List.range n))) ?_
      omega
    · have hi' := List.mem_range.mp hi
      have g1 : itemD (.list (E.map e3)) (.int (1 + (i : Int) - 1)) = some (e3 E[i]) := item_map (j := i) (by omega) (List.getElem?_eq_getElem (by omega))
      have g2 : itemD (.list (E.map e3)) (.int (1 + (i : Int))) = some (e3 E[i + 1]) := item_map (j := i + 1) (by omega) (List.getElem?_eq_getElem (by omega))
      have g3 := List.pairwise_iff_getElem.mp hE.asc i (i + 1) (by omega) (by omega) (by omega)
      have g4 : ¬ E[i + 1].1 ≤ E[i].1 := by omega
      simp [Turn, wipeS, g1, g2, g4]) rfl rfl
theorem s20 (hk : 6 ≤ k) {h : Int} {R : List Rw} {E : List En} (hE : EsOk h E) : sem T wf k 20 [netD h R, .list (E.map e3)] = some (.dp .none, .none) := by
  obtain ⟨k, rfl, q⟩ := up hk
  rw [sem20]
  refine run_none rfl rfl ?_
  simp only [f20, env0, Nat.reduceSub, List.map, List.length, List.replicate, List.append_nil, shN, imm_int, imm_none, imm_tup, imm_list, imms_cons, imms_nil, Bool.and_self, Bool.and_false, Bool.false_and, Bool.false_eq_true, if_true, if_false, List.cons_append, List.nil_append]
  refine seq_no (by conv => lhs; simp [ev_call, s19 q hE]) ?_
  exact ends_nop rfl
def k4 (r : Rw) : List Int := [r.1, r.2.1, r.2.2.1, r.2.2.2]
def srt4 (L : List Rw) : List Rw := srtB (fun a b => leI (k4 a) (k4 b)) L
theorem srt4_len (L : List Rw) : (srt4 L).length = L.length := (srtB_perm L).length_eq
abbrev outD (h : Int) (R : List Rw) : D := .tuple [netD h R, stD R]
theorem s21 (hk : 1 ≤ k) {h : Int} {L : List Rw} (hl : L.length ≤ 2000) : sem T wf k 21 [.int h, .list (L.map r4)] = some (.dp (outD h (srt4 L)), .none) := by
  obtain ⟨k, rfl, q⟩ := up hk
  rw [sem21]
  refine run_of rfl rfl ?_
  simp only [f21, env0, Nat.reduceSub, List.map, List.length, List.replicate, List.append_nil, shN, imm_int, imm_none, imm_tup, imm_list, imms_cons, imms_nil, Bool.and_self, Bool.and_false, Bool.false_and, Bool.false_eq_true, if_true, if_false, List.cons_append, List.nil_append]
  have i4 : ∀ L : List Rw, imms (L.map r4) = true := fun L => imms_map (fun _ => rfl) L
  have hl2 := srt4_len L
  refine seq_asg (by
    conv => lhs; simp [asgMode]
    rw [blt_sorted (enc := r4) k4 (fun _ => rfl) (by omega) fun _ _ => by simp [k4]]
    rw [show srtB (fun a b => leI (k4 a) (k4 b)) L = srt4 L from rfl]
    conv => lhs; simp) ?_
  refine seq_ret (by
    conv => lhs; simp
    rw [ev_comp_map r4 rd (srt4 L) (by conv => lhs; simp) (by simp [dictOk]) rfl (by omega) fun r hr => by simp [Turn, wipeS]]
    conv => lhs; simp
    rw [ev_comp_map r4 (fun r => .int r.2.2.2) (srt4 L) (by conv => lhs; simp) (by simp [dictOk]) rfl (by omega) fun r hr => by simp [Turn, wipeS]]
    conv => lhs; simp) rfl rfl
theorem s22 (hk : 1 ≤ k) (h : Int) {R : List Rw} (hl : R.length ≤ 2000) : sem T wf k 22 [netD h R, stD R] = some (.dp (.list (R.map r4)), .none) := by
  obtain ⟨k, rfl, q⟩ := up hk
  rw [sem22]
  refine run_of rfl rfl ?_
  simp only [f22, env0, Nat.reduceSub, List.map, List.length, List.replicate, List.append_nil, shN, imm_int, imm_none, imm_tup, imm_list, imms_cons, imms_nil, Bool.and_self, Bool.and_false, Bool.false_and, Bool.false_eq_true, if_true, if_false, List.cons_append, List.nil_append]
  refine seq_ret (by
    conv => lhs; simp
    rw [ev_comp_map (fun r : Rw => .tuple [rd r, .int r.2.2.2]) r4 R (by conv => lhs; simp) (by simp [dictOk]) (by simp [iterD, zipD_map]) (by omega) fun r hr => by simp [Turn, wipeS]]) rfl rfl
def rowOf (u v a b : Int) : Rw := if u < v then (u, v, a + b, b) else (v, u, a + b, a)
theorem s23 (hk : 1 ≤ k) (u v a b : Int) : sem T wf k 23 [.int u, .int v, .int a, .int b] = some (.dp (r4 (rowOf u v a b)), .none) := by
  obtain ⟨k, rfl, q⟩ := up hk
  rw [sem23]
  refine run_of rfl rfl ?_
  simp only [f23, env0, Nat.reduceSub, List.map, List.length, List.replicate, List.append_nil, shN, imm_int, imm_none, imm_tup, imm_list, imms_cons, imms_nil, Bool.and_self, Bool.and_false, Bool.false_and, Bool.false_eq_true, if_true, if_false, List.cons_append, List.nil_append]
  by_cases c : u < v
  · exact seq_ret (by conv => lhs; simp [c]) rfl (by simp [rowOf, c])
  · exact seq_ret (by conv => lhs; simp [c]) rfl (by simp [rowOf, c])
theorem i4 (L : List Rw) : imms (L.map r4) = true := imms_map (fun _ => rfl) L
theorem s24 (hk : 2 ≤ k) {h u v : Int} {R : List Rw} {j : Nat} {r : Rw} (hR : NOk h R) (a : At R u v j r) : sem T wf k 24 [netD h R, stD R, .int u, .int v] = some (.dp (outD h (srt4 (R.take j ++ R.drop (j + 1)))), .none) := by
  obtain ⟨k, rfl, q⟩ := up hk
  have hl := hR.len
  have hj : j < R.length := (List.getElem?_eq_some_iff.mp a.get).1
  rw [sem24]
  refine run_of rfl rfl ?_
  simp only [f24, env0, Nat.reduceSub, List.map, List.length, List.replicate, List.append_nil, shN, imm_int, imm_none, imm_tup, imm_list, imms_cons, imms_nil, Bool.and_self, Bool.and_false, Bool.false_and, Bool.false_eq_true, if_true, if_false, List.cons_append, List.nil_append]
  refine seq_asg (by conv => lhs; simp [asgMode, ev_call, s11 q hR a]) ?_
  refine seq_asg (by conv => lhs; simp [asgMode, ev_call, s22 q h (show R.length ≤ 2000 by omega)]) ?_
  have g1 : sliceD (.list (R.map r4)) .none (.int (j : Int)) = some (true, (R.take j).map r4) := by rw [slice_to rfl (by simp; omega), List.map_take]
  have g2 : sliceD (.list (R.map r4)) (.int ((j : Int) + 1)) .none = some (true, (R.drop (j + 1)).map r4) := by rw [slice_from (j := j + 1) (by omega) (by simp; omega), List.map_drop]
  refine seq_ret (by
    conv => lhs; simp [g1, g2, i4, ev_call, -List.map_take, -List.map_drop]
    rw [bin_app (i4 _) (i4 _) (by simp; omega), ← List.map_append]
    conv => lhs; simp [s21 q (show (R.take j ++ R.drop (j + 1)).length ≤ 2000 by simp; omega), -List.map_append, -List.map_take, -List.map_drop]) rfl rfl
theorem s25 (hk : 2 ≤ k) (h u v a b : Int) {R : List Rw} (hl : R.length ≤ 1000) : sem T wf k 25 [netD h R, stD R, .int u, .int v, .int a, .int b] = some (.dp (outD h (srt4 (R ++ [rowOf u v a b]))), .none) := by
  obtain ⟨k, rfl, q⟩ := up hk
  rw [sem25]
  refine run_of rfl rfl ?_
  simp only [f25, env0, Nat.reduceSub, List.map, List.length, List.replicate, List.append_nil, shN, imm_int, imm_none, imm_tup, imm_list, imms_cons, imms_nil, Bool.and_self, Bool.and_false, Bool.false_and, Bool.false_eq_true, if_true, if_false, List.cons_append, List.nil_append]
  refine seq_ret (by
    conv => lhs; simp [ev_call, s22 q h (show R.length ≤ 2000 by omega), s23 q]
    rw [show [r4 (rowOf u v a b)] = [rowOf u v a b].map r4 from rfl, bin_app (i4 _) (i4 _) (by simp; omega), ← List.map_append]
    conv => lhs; simp [s21 q (show (R ++ [rowOf u v a b]).length ≤ 2000 by simp; omega), -List.map_append]) rfl rfl
theorem s26 (hk : 3 ≤ k) {h u v : Int} (more : Int) {R : List Rw} {j : Nat} {r : Rw} (hR : NOk h R) (a : At R u v j r) (b : At R v u j r) : sem T wf k 26 [netD h R, stD R, .int u, .int v, .int more] = some (.dp (outD h (srt4 (srt4 (R.take j ++ R.drop (j + 1)) ++ [rowOf u v (kin r v u) (kin r u v + more)]))), .none) := by
  obtain ⟨k, rfl, q⟩ := up hk
  have hl := hR.len
  have hj : j < R.length := (List.getElem?_eq_some_iff.mp a.get).1
  rw [sem26]
  refine run_of rfl rfl ?_
  simp only [f26, env0, Nat.reduceSub, List.map, List.length, List.replicate, List.append_nil, shN, imm_int, imm_none, imm_tup, imm_list, imms_cons, imms_nil, Bool.and_self, Bool.and_false, Bool.false_and, Bool.false_eq_true, if_true, if_false, List.cons_append, List.nil_append]
  refine seq_asg (by conv => lhs; simp [asgMode, ev_call, s13 q hR a, s13 q hR b]) ?_
  refine seq_asg (by conv => lhs; simp [asgMode, ev_call, s24 q hR a]) ?_
  refine seq_ret (by
    conv => lhs; simp [ev_call]
    rw [s25 q h u v _ _ (R := srt4 (R.take j ++ R.drop (j + 1))) (by rw [srt4_len]; simp; omega)]
    conv => lhs; simp) rfl rfl
theorem s27 (hk : 2 ≤ k) (h : Int) {R : List Rw} {E : List En} (hl : R.length ≤ 1000) (he : E.length ≤ 1000) : sem T wf k 27 [netD h R, stD R, .list (E.map e3)] = some (.dp (outD (h + 1) (srt4 (R ++ E.map fun e => rowOf h e.1 e.2.1 e.2.2))), .none) := by
  obtain ⟨k, rfl, q⟩ := up hk
  rw [sem27]
  refine run_of rfl rfl ?_
  simp only [f27, env0, Nat.reduceSub, List.map, List.length, List.replicate, List.append_nil, shN, imm_int, imm_none, imm_tup, imm_list, imms_cons, imms_nil, Bool.and_self, Bool.and_false, Bool.false_and, Bool.false_eq_true, if_true, if_false, List.cons_append, List.nil_append]
  refine seq_asg (by
    conv => lhs; simp
    rw [ev_comp_map e3 (fun e => r4 (rowOf h e.1 e.2.1 e.2.2)) E (by conv => lhs; simp [asgMode]) (by simp [dictOk]) rfl (by omega) fun e _ => by simp [Turn, wipeS, ev_call, s23 q]]
    conv => lhs; simp) ?_
  refine seq_ret (by
    conv => lhs; simp [ev_call, s22 q h (show R.length ≤ 2000 by omega)]
    rw [show (E.map fun e => r4 (rowOf h e.1 e.2.1 e.2.2)) = (E.map fun e => rowOf h e.1 e.2.1 e.2.2).map r4 by simp, bin_app (i4 _) (i4 _) (by simp; omega), ← List.map_append]
    conv => lhs; simp [s21 q (show (R ++ E.map fun e => rowOf h e.1 e.2.1 e.2.2).length ≤ 2000 by simp; omega), -List.map_append, -List.map_map]) rfl rfl
/-- a row behind a house's going -/
def shiftR (x : Int) (r : Rw) : Option Rw := if x = r.1 ∨ x = r.2.1 then none else some (r.1 - (if x < r.1 then 1 else 0), r.2.1 - (if x < r.2.1 then 1 else 0), r.2.2.1, r.2.2.2)
theorem s28 (hk : 2 ≤ k) (h x : Int) {R : List Rw} (hl : R.length ≤ 1000) : sem T wf k 28 [netD h R, stD R, .int x] = some (.dp (outD (h - 1) (srt4 (R.filterMap (shiftR x)))), .none) := by
  obtain ⟨k, rfl, q⟩ := up hk
  rw [sem28]
  refine run_of rfl rfl ?_
  simp only [f28, env0, Nat.reduceSub, List.map, List.length, List.replicate, List.append_nil, shN, imm_int, imm_none, imm_tup, imm_list, imms_cons, imms_nil, Bool.and_self, Bool.and_false, Bool.false_and, Bool.false_eq_true, if_true, if_false, List.cons_append, List.nil_append]
  refine seq_asg (by conv => lhs; simp [asgMode]) ?_
  refine ends_seq ?_
  refine ends_loop r4 R (fun p env => ∃ a b c d, env = [.sh (netD h R), .sh (stD R), .dp (.int x), .dp (.list ((p.filterMap (shiftR x)).map r4)), a, b, c, d] ∧ Free a ∧ Free b ∧ Free c ∧ Free d) (by
    conv => lhs; simp [ev_call, s22 q h (show R.length ≤ 2000 by omega)]
    rfl) (by simp [dictOk]) rfl ⟨_, _, _, _, rfl, free_un, free_un, free_un, free_un⟩ ?_ ?_
  · rintro p r rest env e ⟨a, b, c, d, rfl, ha, hb, hc, hd⟩
    have hp : (p.filterMap (shiftR x)).length ≤ p.length := List.length_filterMap_le _ _
    have hp2 : p.length < R.length := by rw [e]; simp
    refine ⟨[.sh (netD h R), .sh (stD R), .dp (.int x), .dp (.list ((p.filterMap (shiftR x)).map r4)), .dp (.int r.1), .dp (.int r.2.1), .dp (.int r.2.2.1), .dp (.int r.2.2.2)], by simp [ha, hb, hc, hd], ?_⟩
    by_cases c : x = r.1 ∨ x = r.2.1
    · refine seq_no (by
        conv => lhs; simp
        rw [show cmpD .nin (.int x) (.tuple [.int r.1, .int r.2.1]) = _ from cmp_nin_tI x [r.1, r.2.1]]
        conv => lhs; simp [c]) ?_
      refine ends_nop ⟨.inl rfl, .dp (.int r.1), .dp (.int r.2.1), .dp (.int r.2.2.1), .dp (.int r.2.2.2), ?_, free_dp, free_dp, free_dp, free_dp⟩
      rw [List.filterMap_append, List.filterMap_cons_none (by simp [shiftR, c])]
      simp
    · refine seq_yes (by
        conv => lhs; simp
        rw [show cmpD .nin (.int x) (.tuple [.int r.1, .int r.2.1]) = _ from cmp_nin_tI x [r.1, r.2.1]]
        conv => lhs; simp [c]) ?_
      refine seq_app (by conv => lhs; simp) (by simp [isListS]) (by conv => lhs; simp [addItem, show ¬ 99999 < (p.filterMap (shiftR x)).length by omega]) ?_
      refine ends_nop (ends_nop ⟨.inl rfl, .dp (.int r.1), .dp (.int r.2.1), .dp (.int r.2.2.1), .dp (.int r.2.2.2), ?_, free_dp, free_dp, free_dp, free_dp⟩)
      have e1 : shiftR x r = some (r.1 - (if x < r.1 then 1 else 0), r.2.1 - (if x < r.2.1 then 1 else 0), r.2.2.1, r.2.2.2) := by simp [shiftR, c]
      rw [List.filterMap_append, List.filterMap_cons_some e1]
      simp
  · rintro env ⟨a, b, c, d, rfl, ha, hb, hc, hd⟩
    have hp : (R.filterMap (shiftR x)).length ≤ R.length := List.length_filterMap_le _ _
    exact seq_ret (by conv => lhs; simp [ev_call, s21 q (show (R.filterMap (shiftR x)).length ≤ 2000 by omega)]) rfl rfl
theorem s29 (hk : 8 ≤ k) {h u v : Int} {R : List Rw} {j : Nat} {r : Rw} (hR : NOk h R) (hu : 0 ≤ u) (hu2 : u ≤ h - 1) (hv : 0 ≤ v) (hv2 : v ≤ h - 1) (hne : v ≠ u) (hn : v ∈ nbs R u) (a : At R u v j r) : sem T wf k 29 [netD h R, stD R, .int u, .int v] = some (.dp (outD h (srt4 (R.take j ++ R.drop (j + 1)))), .none) := by
  obtain ⟨k, rfl, q⟩ := up hk
  rw [sem29]
  refine run_of rfl rfl ?_
  simp only [f29, env0, Nat.reduceSub, List.map, List.length, List.replicate, List.append_nil, shN, imm_int, imm_none, imm_tup, imm_list, imms_cons, imms_nil, Bool.and_self, Bool.and_false, Bool.false_and, Bool.false_eq_true, if_true, if_false, List.cons_append, List.nil_append]
  refine seq_eff (by conv => lhs; simp [ev_call, s14 q hR]) ?_
  refine seq_eff (by conv => lhs; simp [ev_call, s16 (show 6 ≤ k by omega) hR.len hu hu2 hv hv2 hne hn]) ?_
  exact seq_ret (by conv => lhs; simp [ev_call, s24 (show 2 ≤ k by omega) hR a]) rfl rfl
theorem s30 (hk : 8 ≤ k) {h u v a b : Int} {R : List Rw} (hR : NOk h R) (hu : 0 ≤ u) (hu2 : u ≤ h - 1) (hv : 0 ≤ v) (hv2 : v ≤ h - 1) (hne : v ≠ u) (hn : v ∉ nbs R u) (ha : 0 ≤ a) (hb : 0 ≤ b) (hab : ¬ (a = 0 ∧ b = 0)) : sem T wf k 30 [netD h R, stD R, .int u, .int v, .int a, .int b] = some (.dp (outD h (srt4 (R ++ [rowOf u v a b]))), .none) := by
  obtain ⟨k, rfl, q⟩ := up hk
  rw [sem30]
  refine run_of rfl rfl ?_
  simp only [f30, env0, Nat.reduceSub, List.map, List.length, List.replicate, List.append_nil, shN, imm_int, imm_none, imm_tup, imm_list, imms_cons, imms_nil, Bool.and_self, Bool.and_false, Bool.false_and, Bool.false_eq_true, if_true, if_false, List.cons_append, List.nil_append]
  refine seq_eff (by conv => lhs; simp [ev_call, s14 q hR]) ?_
  refine seq_eff (by conv => lhs; simp [ev_call, s17 (show 6 ≤ k by omega) hR.len hu hu2 hv hv2 hne hn ha hb hab]) ?_
  exact seq_ret (by conv => lhs; simp [ev_call, s25 (show 2 ≤ k by omega) h u v a b hR.len]) rfl rfl
theorem s31 (hk : 8 ≤ k) {h u v : Int} {R : List Rw} {j : Nat} {r : Rw} (hR : NOk h R) (hu : 0 ≤ u) (hu2 : u ≤ h - 1) (hv : 0 ≤ v) (hv2 : v ≤ h - 1) (hne : v ≠ u) (hn : v ∈ nbs R u) (a : At R u v j r) (b : At R v u j r) : sem T wf k 31 [netD h R, stD R, .int u, .int v] = some (.dp (outD h (srt4 (srt4 (R.take j ++ R.drop (j + 1)) ++ [rowOf u v (kin r v u) (kin r u v + 1)]))), .none) := by
  obtain ⟨k, rfl, q⟩ := up hk
  rw [sem31]
  refine run_of rfl rfl ?_
  simp only [f31, env0, Nat.reduceSub, List.map, List.length, List.replicate, List.append_nil, shN, imm_int, imm_none, imm_tup, imm_list, imms_cons, imms_nil, Bool.and_self, Bool.and_false, Bool.false_and, Bool.false_eq_true, if_true, if_false, List.cons_append, List.nil_append]
  refine seq_eff (by conv => lhs; simp [ev_call, s14 q hR]) ?_
  refine seq_eff (by conv => lhs; simp [ev_call, s16 (show 6 ≤ k by omega) hR.len hu hu2 hv hv2 hne hn]) ?_
  exact seq_ret (by conv => lhs; simp [ev_call, s26 (show 3 ≤ k by omega) 1 hR a b]) rfl rfl
theorem s32 (hk : 3 ≤ k) {h u v : Int} {R : List Rw} {j : Nat} {r : Rw} (hR : NOk h R) (a : At R u v j r) : sem T wf k 32 [netD h R, stD R, .int u, .int v] = some (.dp (.bool (decide (0 < kin r u v) && decide (1 < r.2.2.1))), .none) := by
  obtain ⟨k, rfl, q⟩ := up hk
  rw [sem32]
  refine run_of rfl rfl ?_
  simp only [f32, env0, Nat.reduceSub, List.map, List.length, List.replicate, List.append_nil, shN, imm_int, imm_none, imm_tup, imm_list, imms_cons, imms_nil, Bool.and_self, Bool.and_false, Bool.false_and, Bool.false_eq_true, if_true, if_false, List.cons_append, List.nil_append]
  exact seq_ret (by conv => lhs; simp [ev_call, s13 q hR a, s12 q hR a]) rfl rfl
theorem s33 (hk : 8 ≤ k) {h u v : Int} {R : List Rw} {j : Nat} {r : Rw} (hR : NOk h R) (hu : 0 ≤ u) (hu2 : u ≤ h - 1) (hv : 0 ≤ v) (hv2 : v ≤ h - 1) (hne : v ≠ u) (hn : v ∈ nbs R u) (a : At R u v j r) (b : At R v u j r) (g0 : 0 < kin r u v) (g1 : 1 < r.2.2.1) : sem T wf k 33 [netD h R, stD R, .int u, .int v] = some (.dp (outD h (srt4 (srt4 (R.take j ++ R.drop (j + 1)) ++ [rowOf u v (kin r v u) (kin r u v + -1)]))), .none) := by
  obtain ⟨k, rfl, q⟩ := up hk
  rw [sem33]
  refine run_of rfl rfl ?_
  simp only [f33, env0, Nat.reduceSub, List.map, List.length, List.replicate, List.append_nil, shN, imm_int, imm_none, imm_tup, imm_list, imms_cons, imms_nil, Bool.and_self, Bool.and_false, Bool.false_and, Bool.false_eq_true, if_true, if_false, List.cons_append, List.nil_append]
  refine seq_eff (by conv => lhs; simp [ev_call, s14 q hR]) ?_
  refine seq_eff (by conv => lhs; simp [ev_call, s16 (show 6 ≤ k by omega) hR.len hu hu2 hv hv2 hne hn]) ?_
  refine seq_no (by conv => lhs; simp [ev_call, s32 (show 3 ≤ k by omega) hR a, g0, g1]) ?_
  exact seq_ret (by conv => lhs; simp [ev_call, s26 (show 3 ≤ k by omega) (-1) hR a b]) rfl rfl
theorem s34 (hk : 8 ≤ k) {h : Int} {R : List Rw} {E : List En} (hR : NOk h R) (hE : EsOk h E) : sem T wf k 34 [netD h R, stD R, .list (E.map e3)] = some (.dp (outD (h + 1) (srt4 (R ++ E.map fun e => rowOf h e.1 e.2.1 e.2.2))), .none) := by
  obtain ⟨k, rfl, q⟩ := up hk
  rw [sem34]
  refine run_of rfl rfl ?_
  simp only [f34, env0, Nat.reduceSub, List.map, List.length, List.replicate, List.append_nil, shN, imm_int, imm_none, imm_tup, imm_list, imms_cons, imms_nil, Bool.and_self, Bool.and_false, Bool.false_and, Bool.false_eq_true, if_true, if_false, List.cons_append, List.nil_append]
  refine seq_eff (by conv => lhs; simp [ev_call, s14 q hR]) ?_
  refine seq_eff (by conv => lhs; simp [ev_call, s20 (show 6 ≤ k by omega) hE]) ?_
  exact seq_ret (by conv => lhs; simp [ev_call, s27 (show 2 ≤ k by omega) h hR.len hE.len]) rfl rfl
theorem s35 (hk : 8 ≤ k) {h x : Int} {R : List Rw} (hR : NOk h R) (h0 : 0 ≤ x) (h1 : x ≤ h - 1) (h2 : h ≠ 1) : sem T wf k 35 [netD h R, stD R, .int x] = some (.dp (outD (h - 1) (srt4 (R.filterMap (shiftR x)))), .none) := by
  obtain ⟨k, rfl, q⟩ := up hk
  rw [sem35]
  refine run_of rfl rfl ?_
  simp only [f35, env0, Nat.reduceSub, List.map, List.length, List.replicate, List.append_nil, shN, imm_int, imm_none, imm_tup, imm_list, imms_cons, imms_nil, Bool.and_self, Bool.and_false, Bool.false_and, Bool.false_eq_true, if_true, if_false, List.cons_append, List.nil_append]
  refine seq_eff (by conv => lhs; simp [ev_call, s14 q hR]) ?_
  refine seq_no (by conv => lhs; simp [ev_call, s8 (show 3 ≤ k by omega), h0, h1, h2]) ?_
  exact seq_ret (by conv => lhs; simp [ev_call, s28 (show 2 ≤ k by omega) h x hR.len]) rfl rfl
end Tv.B
/-! TxE: what the law's own small defs tell. -/
namespace Tv.B
open PySem
variable {wf k : Nat}
/-- numbers of few digits -/
theorem small_mul {i j : Int} (h1 : i.natAbs < 2 ^ 400000) (h2 : j.natAbs < 2 ^ 400000) : i.natAbs.log2 + j.natAbs.log2 < 1000000 := by
  have a := log2_lt_of_lt (by decide : 0 < 400000) h1
  have b := log2_lt_of_lt (by decide : 0 < 400000) h2
  omega
theorem pow_big {n : Nat} (h : n < 2 ^ 200) : n < 2 ^ 400000 := Nat.lt_of_lt_of_le h (Nat.pow_le_pow_right (by decide) (by decide))
theorem mul_ok {i j : Int} (h1 : i.natAbs < 2 ^ 200) (h2 : j.natAbs < 2 ^ 200) : binD .mul (.int i) (.int j) = some (.dp (.int (i * j))) := bin_mul (small_mul (pow_big h1) (pow_big h2))
theorem s36 (hk : 1 ≤ k) {x n : Int} (hx : 0 ≤ x) (hx2 : x < 2147483647) (hn : 0 ≤ n) (hn2 : n ≤ 1000000000) : ∃ r, 0 ≤ r ∧ r < 2147483647 ∧ sem T wf k 36 [.int x, .int n] = some (.dp (.int r), .none) := by
  obtain ⟨k, rfl, q⟩ := up hk
  have nn : 0 ≤ n * n := Int.mul_nonneg hn hn
  have nn2 : 27644437 * n * n ≤ 27644437 * (1000000000 * 1000000000) := by
    rw [Int.mul_assoc]
    exact Int.mul_le_mul_of_nonneg_left (Int.mul_le_mul hn2 hn2 hn (by omega)) (by omega)
  have nn3 : 0 ≤ 27644437 * n * n := by rw [Int.mul_assoc]; omega
  have p1 := mul_ok (i := x) (j := 1140671) (by omega) (by decide)
  have p2 := mul_ok (i := 27644437) (j := n) (by decide) (by omega)
  have p3 := mul_ok (i := 27644437 * n) (j := n) (by omega) (by omega)
  have p4 := mul_ok (i := 131) (j := n) (by decide) (by omega)
  have p5 := bin_mod (i := x * 1140671 + 27644437 * n * n + 131 * n + 19) (j := 2147483629) (by decide)
  generalize hm : (x * 1140671 + 27644437 * n * n + 131 * n + 19) % 2147483629 = m at p5
  have m0 : 0 ≤ m := by rw [← hm]; exact Int.emod_nonneg _ (by decide)
  have m1 : m < 2147483629 := by rw [← hm]; exact Int.emod_lt_of_pos _ (by decide)
  have p6 := mul_ok (i := m) (j := m) (by omega) (by omega)
  have p7 := mul_ok (i := 62089) (j := n) (by decide) (by omega)
  have p8 := bin_mod (i := m * m + 62089 * n + 32416187) (j := 2147483587) (by decide)
  generalize hm2 : (m * m + 62089 * n + 32416187) % 2147483587 = m2 at p8
  have m20 : 0 ≤ m2 := by rw [← hm2]; exact Int.emod_nonneg _ (by decide)
  have m21 : m2 < 2147483587 := by rw [← hm2]; exact Int.emod_lt_of_pos _ (by decide)
  have p9 := mul_ok (i := m2) (j := 48271) (by omega) (by decide)
  have p10 := bin_mod (i := m2 * 48271) (j := 2147483647) (by decide)
  refine ⟨m2 * 48271 % 2147483647, Int.emod_nonneg _ (by decide), Int.emod_lt_of_pos _ (by decide), ?_⟩
  rw [sem36]
  refine run_of rfl rfl ?_
  simp only [f36, env0, Nat.reduceSub, List.map, List.length, List.replicate, List.append_nil, shN, imm_int, imm_none, imm_tup, imm_list, imm_dict, imms_cons, imms_nil, Bool.and_self, Bool.and_false, Bool.false_and, Bool.false_eq_true, if_true, if_false, List.cons_append, List.nil_append]
  refine seq_asg (by conv => lhs; simp [asgMode, p1, p2, p3, p4, p5]) ?_
  refine seq_asg (by conv => lhs; simp [asgMode, p6, p7, p8]) ?_
  exact seq_ret (by conv => lhs; simp [p9, p10]) rfl rfl
/-- the law's own drawing: what is left of the seed, the seed, a counter -/
abbrev Gn := Int × Int × Int
abbrev gL (g : Gn) : List D := [.int g.1, .int g.2.1, .int g.2.2]
structure GOk (n : Nat) (g : Gn) : Prop where
  s0 : 0 ≤ g.2.1
  s1 : g.2.1 < 2147483647
  c0 : 0 ≤ g.2.2
  c1 : g.2.2 ≤ n
theorem GOk.more {n m : Nat} {g : Gn} (h : GOk n g) (hm : n ≤ m) : GOk m g := ⟨h.s0, h.s1, h.c0, by have := h.c1; omega⟩
theorem bits_small {b : Int} (h : 0 < b) (h2 : b < 2 ^ 20) : ((Builtin.Int.intBits b : Nat) : Int) / 30 = 0 := by
  unfold Builtin.Int.intBits
  have : ¬ (b == 0) = true := by simp; omega
  rw [if_neg this]
  have : b.natAbs.log2 < 20 := log2_lt_of_lt (by decide) (by omega)
  omega
theorem s37 (hk : 2 ≤ k) {g : Gn} {n : Nat} {b : Int} (hg : GOk n g) (hn : n < 1000000000) (hb : 0 < b) (hb2 : b < 2 ^ 20) : ∃ r g', 0 ≤ r ∧ r < b ∧ GOk (n + 1) g' ∧ sem T wf k 37 [.list (gL g), .int b] = some (.dp (.int r), .list (gL g')) := by
  obtain ⟨k, rfl, q⟩ := up hk
  obtain ⟨a, x, c⟩ := g
  show ∃ r g', 0 ≤ r ∧ r < b ∧ GOk (n + 1) g' ∧ sem T wf (k + 1) 37 [.list [.int a, .int x, .int c], .int b] = some (.dp (.int r), .list (gL g'))
  have g1 := hg.s0
  have g2 := hg.s1
  have g3 := hg.c0
  have g4 := hg.c1
  simp only at g1 g2 g3 g4
  have lb : b.natAbs.log2 < 9000 := Nat.lt_trans (log2_lt_of_lt (by decide : 0 < 20) (by omega)) (by decide)
  by_cases ha : 0 < a
  · refine ⟨a % b, (a / b, x, c), Int.emod_nonneg _ (by omega), Int.emod_lt_of_pos _ hb, ⟨g1, g2, g3, by show c ≤ _; omega⟩, ?_⟩
    have p1 := bin_mod (i := a) hb
    have p2 := bin_fdiv (i := a) hb lb
    rw [sem37]
    refine runM_of rfl rfl ?_
    simp only [f37, env0, Nat.reduceSub, List.map, List.length, List.replicate, List.append_nil, shN, imm_int, imm_none, imm_tup, imm_list, imm_dict, imms_cons, imms_nil, Bool.and_self, Bool.and_false, Bool.false_and, Bool.false_eq_true, if_true, if_false, List.cons_append, List.nil_append]
    refine seq_yes (by conv => lhs; simp [ha]) ?_
    refine seq_asg (by conv => lhs; simp [asgMode, p1]) ?_
    refine seq_asg (by conv => lhs; simp [asgMode, p2, unS, setItemS, ixD]) ?_
    exact seq_ret (by conv => lhs; simp) rfl ⟨rfl, rfl⟩
  · obtain ⟨z, z0, z1, hz⟩ := s36 (wf := wf) (k := k) (by omega) g1 g2 (show 0 ≤ c + 1 by omega) (by omega)
    have p0 := bits_small hb hb2
    have p1 := mul_ok (i := 0) (j := 2147483587) (by decide) (by decide)
    have p2 := bin_mod (i := z) hb
    have p3 := bin_fdiv (i := (Builtin.Int.intBits b : Nat)) (j := 30) (by decide) (by decide)
    rw [p0] at p3
    refine ⟨z % b, (a, x, c + 1), Int.emod_nonneg _ (by omega), Int.emod_lt_of_pos _ hb, ⟨g1, g2, by show 0 ≤ c + 1; omega, by show c + 1 ≤ ((n + 1 : Nat) : Int); omega⟩, ?_⟩
    rw [sem37]
    refine runM_of rfl rfl ?_
    simp only [f37, env0, Nat.reduceSub, List.map, List.length, List.replicate, List.append_nil, shN, imm_int, imm_none, imm_tup, imm_list, imm_dict, imms_cons, imms_nil, Bool.and_self, Bool.and_false, Bool.false_and, Bool.false_eq_true, if_true, if_false, List.cons_append, List.nil_append]
    refine seq_no (by conv => lhs; simp [ha]) ?_
    refine seq_asg (by conv => lhs; simp [asgMode]) ?_
    refine ends_seq ?_
    refine ends_one (d := .int 0) (by conv => lhs; simp [mthD, p3]) (by simp [dictOk]) rfl (by conv => lhs; simp) ?_
    refine seq_asg (by conv => lhs; simp [asgMode, unS, setItemS, ixD]) ?_
    refine seq_asg (by conv => lhs; simp [asgMode, p1, ev_call, hz]) ?_
    refine ends_nop ⟨rfl, ?_⟩
    exact seq_ret (by conv => lhs; simp [p2]) rfl ⟨rfl, rfl⟩
theorem s40 (hk : 3 ≤ k) {g : Gn} {n : Nat} {l m : Int} (hg : GOk n g) (hn : n < 1000000000) (hb : l ≤ m) (hb2 : m - l < 1000) : ∃ r g', l ≤ r ∧ r ≤ m ∧ GOk (n + 1) g' ∧ sem T wf k 40 [.list (gL g), .int l, .int m] = some (.dp (.int r), .list (gL g')) := by
  obtain ⟨k, rfl, q⟩ := up hk
  obtain ⟨r, g', r0, r1, hg', hr⟩ := s37 (wf := wf) q hg hn (show 0 < m - l + 1 by omega) (by omega)
  refine ⟨l + r, g', by omega, by omega, hg', ?_⟩
  rw [sem40]
  refine runM_of rfl rfl ?_
  simp only [f40, env0, Nat.reduceSub, List.map, List.length, List.replicate, List.append_nil, shN, imm_int, imm_none, imm_tup, imm_list, imm_dict, imms_cons, imms_nil, Bool.and_self, Bool.and_false, Bool.false_and, Bool.false_eq_true, if_true, if_false, List.cons_append, List.nil_append]
  exact seq_ret (by
    conv => lhs; simp
    rw [ev_callM (i := 0) mu37 (by conv => lhs; simp) (by simp) (by simp [unS]) (by exact .inr rfl) rfl hr rfl rfl]
    conv => lhs; simp) rfl ⟨rfl, rfl⟩
end Tv.B
/-! TxF: nets told by the keys at the ends (a dict by pairs): the rows of such a dict, and what becomes of them. Plain Lean. -/
namespace Tv.B
open PySem
structure KOk (h B : Int) (ks : KS) : Prop where
  nd : (keysOf ks).Nodup
  rg : ∀ p x, look ks p = some x → 0 ≤ p.1 ∧ p.1 < h ∧ 0 ≤ p.2 ∧ p.2 < h ∧ p.1 ≠ p.2 ∧ 0 ≤ x ∧ x ≤ B
  sy : ∀ a b x, look ks (a, b) = some x → ∃ y, look ks (b, a) = some y ∧ 1 ≤ x + y
theorem nd_len {α : Type} [DecidableEq α] : ∀ {l m : List α}, l.Nodup → (∀ x ∈ l, x ∈ m) → l.length ≤ m.length
  | [], m, _, _ => by simp
  | a :: l, m, nd, h => by
    have nd' := List.nodup_cons.mp nd
    have ha : a ∈ m := h a (by simp)
    have := nd_len (l := l) (m := m.erase a) nd'.2 fun x hx => (List.mem_erase_of_ne (fun e => nd'.1 (by rw [← e]; exact hx))).mpr (h x (by simp [hx]))
    rw [List.length_erase_of_mem ha] at this
    have : 0 < m.length := List.length_pos_of_mem ha
    simp only [List.length_cons]
    omega
theorem KOk.look {h B : Int} {ks : KS} (o : KOk h B ks) {p : Int × Int} (hp : p ∈ keysOf ks) : ∃ x, look ks p = some x := Option.isSome_iff_exists.mp (look_some.mpr hp)
theorem KOk.sm {h B : Int} {ks : KS} (o : KOk h B ks) (hh : h ≤ 8) : ∀ p ∈ keysOf ks, sm8 p := fun p hp => by
  obtain ⟨x, hx⟩ := o.look hp
  obtain ⟨h1, h2, h3, h4, _⟩ := o.rg p x hx
  exact ⟨h1, by omega, h3, by omega⟩
theorem KOk.len {h B : Int} {ks : KS} (o : KOk h B ks) (hh : h ≤ 8) : ks.length ≤ 64 := by
  have := nd_len o.nd fun p hp => grid8_mem (o.sm hh p hp)
  have e : (keysOf ks).length = ks.length := by simp [keysOf]
  have e2 : grid8.length = 64 := by decide
  omega
def key2 (p : Int × Int) : List Int := [p.1, p.2]
def prs (ks : KS) : List (Int × Int) := srtB (fun a b => leI (key2 a) (key2 b)) ((keysOf ks).filter fun p => decide (p.1 < p.2))
def rowAt (ks : KS) (p : Int × Int) : Rw := (p.1, p.2, (look ks p).getD 0 + (look ks (p.2, p.1)).getD 0, (look ks p).getD 0)
def rowsOf (ks : KS) : List Rw := (prs ks).map (rowAt ks)
theorem mem_prs {ks : KS} {p : Int × Int} : p ∈ prs ks ↔ p ∈ keysOf ks ∧ p.1 < p.2 := by
  unfold prs
  rw [(srtB_perm _).mem_iff, List.mem_filter]
  simp
theorem key2_inj {p q : Int × Int} (h : key2 p = key2 q) : p = q := by
  obtain ⟨a, b⟩ := p
  obtain ⟨c, d⟩ := q
  simp [key2] at h
  simp [h.1, h.2]
/-- sorted and all unlike: ascending -/
theorem srt_asc {α : Type} (key : α → List Int) (L : List α) (nd : (L.map key).Nodup) : (srtB (fun a b => leI (key a) (key b)) L).Pairwise fun a b => ltI (key a) (key b) = true := by
  have s := srtB_sorted (le := fun a b => leI (key a) (key b)) (fun a b => leI_tot _ _) (fun a b c => leI_trans _ _ _) L
  have nd2 : ((srtB (fun a b => leI (key a) (key b)) L).map key).Nodup := ((srtB_perm (le := fun a b => leI (key a) (key b)) L).map key).nodup_iff.mpr nd
  have ne := (List.pairwise_map.mp (show List.Pairwise (· ≠ ·) _ from nd2))
  exact s.imp₂ (fun a b h1 h2 => leI_lt h1 h2) ne
theorem prs_asc {ks : KS} (nd : (keysOf ks).Nodup) : (prs ks).Pairwise fun p q => ltI (key2 p) (key2 q) = true := by
  refine srt_asc key2 _ ?_
  have : List.Pairwise (· ≠ ·) ((keysOf ks).filter fun p => decide (p.1 < p.2)) := nd.sublist List.filter_sublist
  exact List.pairwise_map.mpr (this.imp fun {a b} h e => h (key2_inj e))
theorem rows_asc {ks : KS} (nd : (keysOf ks).Nodup) : (rowsOf ks).Pairwise fun r s => ltI (pr r) (pr s) = true := List.pairwise_map.mpr (prs_asc nd)
/-- a row of the dict -/
def Mem (ks : KS) (r : Rw) : Prop := r.1 < r.2.1 ∧ look ks (r.1, r.2.1) = some r.2.2.2 ∧ look ks (r.2.1, r.1) = some (r.2.2.1 - r.2.2.2)
theorem mem_rows {h B : Int} {ks : KS} (o : KOk h B ks) {r : Rw} : r ∈ rowsOf ks ↔ Mem ks r := by
  unfold rowsOf Mem
  rw [List.mem_map]
  constructor
  · rintro ⟨p, hp, rfl⟩
    obtain ⟨h1, h2⟩ := mem_prs.mp hp
    obtain ⟨x, hx⟩ := o.look h1
    obtain ⟨y, hy, _⟩ := o.sy p.1 p.2 x hx
    refine ⟨h2, ?_, ?_⟩
    · show look ks p = some ((look ks p).getD 0)
      rw [hx]; rfl
    · show look ks (p.2, p.1) = some ((look ks p).getD 0 + (look ks (p.2, p.1)).getD 0 - (look ks p).getD 0)
      rw [hy]
      exact congrArg some (by simp; omega)
  · rintro ⟨h1, h2, h3⟩
    refine ⟨(r.1, r.2.1), mem_prs.mpr ⟨look_some.mp (by rw [h2]; rfl), h1⟩, ?_⟩
    obtain ⟨a, b, m, i⟩ := r
    simp only at h1 h2 h3
    simp only [rowAt, h2, h3, Option.getD_some]
    simp
    omega
theorem rows_rd {h B : Int} {ks : KS} (o : KOk h B ks) {r : Rw} (hr : r ∈ rowsOf ks) : RdOk h r ∧ r.2.2.1 ≤ 2 * B := by
  obtain ⟨h1, h2, h3⟩ := (mem_rows o).mp hr
  obtain ⟨a1, a2, a3, a4, a5, a6, a7⟩ := o.rg _ _ h2
  obtain ⟨b1, b2, b3, b4, b5, b6, b7⟩ := o.rg _ _ h3
  obtain ⟨y, hy, c⟩ := o.sy _ _ _ h2
  rw [h3] at hy
  cases hy
  exact ⟨⟨a1, h1, a4, by omega, a6, by omega⟩, by omega⟩
theorem rows_len {h B : Int} {ks : KS} (o : KOk h B ks) (hh : h ≤ 8) : (rowsOf ks).length ≤ 64 := by
  unfold rowsOf prs
  rw [List.length_map, (srtB_perm _).length_eq]
  have := List.length_filter_le (fun p : Int × Int => decide (p.1 < p.2)) (keysOf ks)
  have e : (keysOf ks).length = ks.length := by simp [keysOf]
  have := o.len hh
  omega
theorem rows_ok {h B : Int} {ks : KS} (o : KOk h B ks) (h1 : 1 ≤ h) (hh : h ≤ 8) : NOk h (rowsOf ks) :=
  ⟨h1, by omega, fun r hr => (rows_rd o hr).1, rows_asc o.nd, by have := rows_len o hh; omega⟩
theorem pr_inj {ks : KS} {r s : Rw} (h1 : Mem ks r) (h2 : Mem ks s) (e : pr r = pr s) : r = s := by
  obtain ⟨a, b, m, i⟩ := r
  obtain ⟨c, d, n, j⟩ := s
  simp [pr] at e
  obtain ⟨rfl, rfl⟩ := e
  obtain ⟨_, p1, p2⟩ := h1
  obtain ⟨_, q1, q2⟩ := h2
  simp only at p1 p2 q1 q2
  rw [p1] at q1
  rw [p2] at q2
  cases q1
  have : m - i = n - i := Option.some.inj q2
  have : m = n := by omega
  subst this
  rfl
theorem asc_irr (a : Rw) : ¬ ltI (pr a) (pr a) = true := by simp [ltI_irr]
theorem asc_asy (a b : Rw) (h : ltI (pr a) (pr b) = true) : ¬ ltI (pr b) (pr a) = true := by simp [ltI_asy h]
/-- a list of unlike rows that are just the dict's, sorted -/
theorem srt_rows {h B : Int} {ks : KS} (o : KOk h B ks) {L : List Rw} (nd : (L.map pr).Nodup) (m : ∀ r, r ∈ L ↔ Mem ks r) : srt4 L = rowsOf ks := by
  have nd4 : (L.map k4).Nodup := by
    refine List.pairwise_map.mpr ((List.pairwise_map.mp (show List.Pairwise (· ≠ ·) _ from nd)).imp fun {a b} h e => h ?_)
    simp [k4] at e
    simp [pr, e.1, e.2.1]
  have a4 := srt_asc k4 L nd4
  have ne : (srt4 L).Pairwise fun a b => pr a ≠ pr b := List.pairwise_map.mp (show List.Pairwise (· ≠ ·) _ from ((srtB_perm (le := fun a b => leI (k4 a) (k4 b)) L).map pr).nodup_iff.mpr nd)
  have a2 : (srt4 L).Pairwise fun a b => ltI (pr a) (pr b) = true := a4.imp₂ (fun a b h1 h2 => by
    simp only [k4, ltI, Bool.or_eq_true, decide_eq_true_eq, Bool.and_eq_true] at h1
    simp only [pr, ltI, Bool.or_eq_true, decide_eq_true_eq, Bool.and_eq_true]
    rcases h1 with h1 | ⟨e1, h1 | ⟨e2, _⟩⟩
    · exact .inl h1
    · exact .inr ⟨e1, .inl h1⟩
    · exact absurd (by simp [pr, e1, e2]) h2) ne
  refine asc_ext (lt := fun a b => ltI (pr a) (pr b) = true) asc_irr asc_asy a2 (rows_asc o.nd) fun r => ?_
  rw [mem_rows o, ← m]
  exact (srtB_perm L).mem_iff
theorem Mem.congr {ks ks' : KS} (h : ∀ q, look ks q = look ks' q) (r : Rw) : Mem ks r ↔ Mem ks' r := by
  unfold Mem
  rw [h, h]
theorem rows_congr {h B h' B' : Int} {ks ks' : KS} (o : KOk h B ks) (o' : KOk h' B' ks') (e : ∀ q, look ks q = look ks' q) : rowsOf ks = rowsOf ks' :=
  asc_ext (lt := fun a b => ltI (pr a) (pr b) = true) asc_irr asc_asy (rows_asc o.nd) (rows_asc o'.nd) fun r => by rw [mem_rows o, mem_rows o']; exact Mem.congr e r
/-! ### a road more -/
theorem mem_in {ks ks' : KS} {u v a b : Int} (hne : u ≠ v) (n1 : look ks (u, v) = none) (n2 : look ks (v, u) = none) (e : ∀ q, look ks' q = if q = (u, v) then some b else if q = (v, u) then some a else look ks q) (r : Rw) : Mem ks' r ↔ Mem ks r ∨ r = rowOf u v a b := by
  obtain ⟨x, y, m, i⟩ := r
  have vu : v ≠ u := fun z => hne z.symm
  have key : ∀ (l g c d : Int), l < g → l ≠ g → (∀ q, look ks' q = if q = (l, g) then some c else if q = (g, l) then some d else look ks q) → look ks (l, g) = none → (Mem ks' (x, y, m, i) ↔ Mem ks (x, y, m, i) ∨ (x, y, m, i) = ((l, g, d + c, c) : Rw)) := by
    intro l g c d hl hlg e' n
    have hgl : g ≠ l := fun z => hlg z.symm
    unfold Mem
    simp only [e', Prod.mk.injEq]
    by_cases h1 : x = l ∧ y = g
    · obtain ⟨rfl, rfl⟩ := h1
      simp only [hl, n, hlg, hgl, and_self, true_and, false_and, if_true, if_false, reduceCtorEq, and_false, false_or, Option.some.injEq]
      constructor
      · rintro ⟨rfl, h⟩; exact ⟨by omega, rfl⟩
      · rintro ⟨rfl, rfl⟩; exact ⟨rfl, by omega⟩
    · have h1' : ¬ (y = g ∧ x = l) := fun z => h1 ⟨z.2, z.1⟩
      by_cases h2 : x = g ∧ y = l
      · obtain ⟨rfl, rfl⟩ := h2
        have : ¬ x < y := by omega
        simp [this]
        intro z; omega
      · have h2' : ¬ (y = l ∧ x = g) := fun z => h2 ⟨z.2, z.1⟩
        simp only [h1, h2, h1', h2', if_false]
        constructor
        · exact .inl
        · rintro (h | ⟨z1, z2, _⟩)
          · exact h
          · exact absurd ⟨z1, z2⟩ h1
  unfold rowOf
  by_cases h : u < v
  · rw [if_pos h]
    exact key u v b a h hne e n1
  · rw [if_neg h]
    have := key v u a b (by omega) vu (fun q => by
      rw [e]
      by_cases q1 : q = (u, v)
      · have : ¬ q = (v, u) := fun z => hne (by rw [z] at q1; exact (Prod.mk.inj q1).2)
        rw [if_pos q1, if_neg this, if_pos q1]
      · rw [if_neg q1, if_neg q1]) n2
    rw [this]
    have : b + a = a + b := by omega
    rw [this]
theorem row_ends (u v a b : Int) : pr (rowOf u v a b) = [lo u v, hi u v] := by
  unfold rowOf lo hi pr
  by_cases h : u < v
  · have : ¬ v < u := by omega
    simp [h, this]
  · by_cases h2 : v < u
    · simp [h, h2]
    · have : u = v := by omega
      subst this
      simp
theorem not_pr {ks : KS} {u v : Int} (n1 : look ks (u, v) = none) (n2 : look ks (v, u) = none) {r : Rw} (hr : Mem ks r) : pr r ≠ [lo u v, hi u v] := by
  obtain ⟨h1, h2, h3⟩ := hr
  intro e
  simp [pr] at e
  rw [e.1, e.2] at h2
  unfold lo hi at h2
  by_cases h : u < v
  · have : ¬ v < u := by omega
    rw [if_neg this, if_pos h, n1] at h2
    cases h2
  · by_cases h' : v < u
    · rw [if_pos h', if_neg h, n2] at h2
      cases h2
    · have : u = v := by omega
      subst this
      rw [if_neg h, n1] at h2
      cases h2
theorem nd_rows {ks : KS} (nd : (keysOf ks).Nodup) : ((rowsOf ks).map pr).Nodup := by
  refine List.pairwise_map.mpr ((rows_asc nd).imp fun {a b} h e => ?_)
  rw [e, ltI_irr] at h
  cases h
theorem rows_in {h B h' B' : Int} {ks ks' : KS} (o : KOk h B ks) (o' : KOk h' B' ks') {u v a b : Int} (hne : u ≠ v) (n1 : look ks (u, v) = none) (n2 : look ks (v, u) = none) (e : ∀ q, look ks' q = if q = (u, v) then some b else if q = (v, u) then some a else look ks q) : srt4 (rowsOf ks ++ [rowOf u v a b]) = rowsOf ks' := by
  refine srt_rows o' ?_ fun r => ?_
  · rw [List.map_append]
    refine List.nodup_append.mpr ⟨nd_rows o.nd, by simp, fun x hx y hy e => ?_⟩
    obtain ⟨r, hr, rfl⟩ := List.mem_map.mp hx
    have : y = pr (rowOf u v a b) := by simpa using hy
    exact not_pr n1 n2 ((mem_rows o).mp hr) (by rw [e, this, row_ends])
  · rw [mem_in hne n1 n2 e, List.mem_append, mem_rows o]
    simp
/-! ### a road less -/
theorem at_of {h B : Int} {ks : KS} (o : KOk h B ks) {u v x : Int} (hx : look ks (u, v) = some x) : ∃ j r, At (rowsOf ks) u v j r ∧ At (rowsOf ks) v u j r ∧ kin r u v = x ∧ look ks (v, u) = some (kin r v u) ∧ Mem ks r ∧ pr r = [lo u v, hi u v] := by
  obtain ⟨y, hy, hxy⟩ := o.sy _ _ _ hx
  have hne : u ≠ v := (o.rg _ _ hx).2.2.2.2.1
  by_cases h : u < v
  · have h2 : ¬ v < u := by omega
    have hm : Mem ks (u, v, x + y, x) := ⟨h, hx, by rw [hy]; exact congrArg some (show y = (x + y) - x by omega)⟩
    obtain ⟨j, hj⟩ := List.getElem?_of_mem ((mem_rows o).mpr hm)
    exact ⟨j, _, ⟨hj, by simp [lo, h2], by simp [hi, h]⟩, ⟨hj, by simp [lo, h], by simp [hi, h2]⟩, by simp [kin, h], by rw [hy]; simp [kin, h2] <;> omega, hm, by simp [pr, lo, hi, h, h2]⟩
  · have h2 : v < u := by omega
    have hm : Mem ks (v, u, x + y, y) := ⟨h2, hy, by rw [hx]; exact congrArg some (show x = (x + y) - y by omega)⟩
    obtain ⟨j, hj⟩ := List.getElem?_of_mem ((mem_rows o).mpr hm)
    exact ⟨j, _, ⟨hj, by simp [lo, h2], by simp [hi, h]⟩, ⟨hj, by simp [lo, h], by simp [hi, h2]⟩, by simp [kin, h] <;> omega, by rw [hy]; simp [kin, h2], hm, by simp [pr, lo, hi, h, h2]⟩
theorem rows_out {h B h' B' : Int} {ks ks' : KS} (o : KOk h B ks) (o' : KOk h' B' ks') {u v : Int} {j : Nat} {r : Rw} (hm : Mem ks r) (hj : (rowsOf ks)[j]? = some r) (hp : pr r = [lo u v, hi u v]) (e : ∀ q, look ks' q = if q = (u, v) ∨ q = (v, u) then none else look ks q) : srt4 ((rowsOf ks).take j ++ (rowsOf ks).drop (j + 1)) = rowsOf ks' := by
  obtain ⟨hj', hr⟩ := List.getElem?_eq_some_iff.mp hj
  have split : rowsOf ks = (rowsOf ks).take j ++ r :: (rowsOf ks).drop (j + 1) := by
    rw [← hr, List.getElem_cons_drop, List.take_append_drop]
  have nd := nd_rows o.nd
  rw [split, List.map_append, List.map_cons] at nd
  obtain ⟨n1, n2, n3⟩ := List.nodup_append.mp nd
  have n4 := List.nodup_cons.mp n2
  have nd2 : (((rowsOf ks).take j ++ (rowsOf ks).drop (j + 1)).map pr).Nodup := by
    rw [List.map_append]
    exact List.nodup_append.mpr ⟨n1, n4.2, fun a ha b hb => n3 a ha b (List.mem_cons_of_mem _ hb)⟩
  refine srt_rows o' nd2 fun s => ?_
  have hs : s ∈ (rowsOf ks).take j ++ (rowsOf ks).drop (j + 1) ↔ s ∈ rowsOf ks ∧ pr s ≠ pr r := by
    constructor
    · intro hs
      refine ⟨by rw [split]; rcases List.mem_append.mp hs with h | h <;> simp [h], fun e => ?_⟩
      rcases List.mem_append.mp hs with h | h
      · exact n3 _ (List.mem_map_of_mem h) (pr r) (by simp) e
      · exact n4.1 (e ▸ List.mem_map_of_mem h)
    · rintro ⟨hs, hne⟩
      rw [split] at hs
      rcases List.mem_append.mp hs with h | h
      · exact List.mem_append_left _ h
      · rcases List.mem_cons.mp h with rfl | h
        · exact absurd rfl hne
        · exact List.mem_append_right _ h
  rw [hs, mem_rows o]
  obtain ⟨x, y, m, i⟩ := s
  have hlg : lo u v < hi u v := by
    have h1 := hm.1
    simp [pr] at hp
    omega
  rw [hp]
  unfold Mem
  simp only [e, pr]
  have q1 : ((x, y) = (u, v) ∨ (x, y) = (v, u)) ∧ x < y ↔ [x, y] = [lo u v, hi u v] := by
    unfold lo hi at hlg ⊢
    simp only [Prod.mk.injEq, List.cons.injEq, and_true]
    by_cases a : u < v
    · have b : ¬ v < u := by omega
      simp only [a, b, if_true, if_false]
      omega
    · by_cases b : v < u
      · simp only [a, b, if_true, if_false]
        omega
      · simp only [a, b, if_false] at hlg
        omega
  have q2 : ((y, x) = (u, v) ∨ (y, x) = (v, u)) ↔ ((x, y) = (u, v) ∨ (x, y) = (v, u)) := by
    simp only [Prod.mk.injEq]
    omega
  by_cases c : (x, y) = (u, v) ∨ (x, y) = (v, u)
  · have c2 := q2.mpr c
    rw [if_pos c]
    constructor
    · rintro ⟨⟨z, _⟩, w⟩
      exact absurd (q1.mp ⟨c, z⟩) w
    · rintro ⟨_, z, _⟩
      cases z
  · have c2 : ¬ ((y, x) = (u, v) ∨ (y, x) = (v, u)) := fun z => c (q2.mp z)
    rw [if_neg c, if_neg c2]
    constructor
    · exact fun z => z.1
    · exact fun z => ⟨z, fun w => c (q1.mpr w).1⟩
/-! ### neighbours -/
theorem nbs_iff {h B : Int} {ks : KS} (o : KOk h B ks) {u v : Int} : v ∈ nbs (rowsOf ks) u ↔ (look ks (u, v)).isSome = true := by
  rw [mem_nbs]
  constructor
  · rintro ⟨r, hr, h⟩
    obtain ⟨h1, h2, h3⟩ := (mem_rows o).mp hr
    rcases h with ⟨rfl, rfl⟩ | ⟨rfl, rfl⟩
    · rw [h3]; rfl
    · rw [h2]; rfl
  · intro hs
    obtain ⟨x, hx⟩ := Option.isSome_iff_exists.mp hs
    obtain ⟨j, r, a, b, _, _, hm, hp⟩ := at_of o hx
    refine ⟨r, (mem_rows o).mpr hm, ?_⟩
    have := a.l
    have := a.g
    unfold lo hi at *
    by_cases h : u < v
    · have h2 : ¬ v < u := by omega
      simp [h, h2] at *
      exact .inr ⟨by omega, by omega⟩
    · have := (o.rg _ _ hx).2.2.2.2.1
      have h2 : v < u := by simp only at this; omega
      simp [h, h2] at *
      exact .inl ⟨by omega, by omega⟩
/-! ### what stays in order -/
theorem ok_put2 {h B : Int} {ks : KS} (o : KOk h B ks) {u v x y : Int} (u0 : 0 ≤ u) (uh : u < h) (v0 : 0 ≤ v) (vh : v < h) (hne : u ≠ v) (x0 : 0 ≤ x) (xB : x ≤ B) (y0 : 0 ≤ y) (yB : y ≤ B) (hxy : 1 ≤ x + y) : KOk h B (put (put ks (u, v) x) (v, u) y) := by
  have e : ∀ q, look (put (put ks (u, v) x) (v, u) y) q = if q = (v, u) then some y else if q = (u, v) then some x else look ks q := fun q => by rw [look_put, look_put]
  refine ⟨nodup_put (nodup_put o.nd _ _) _ _, fun p z hz => ?_, fun a b z hz => ?_⟩
  · rw [e] at hz
    split at hz
    · rename_i hp
      subst hp
      cases hz
      exact ⟨v0, vh, u0, uh, fun z => hne z.symm, y0, yB⟩
    · split at hz
      · rename_i hp
        subst hp
        cases hz
        exact ⟨u0, uh, v0, vh, hne, x0, xB⟩
      · exact o.rg p z hz
  · simp only [e, Prod.mk.injEq] at hz ⊢
    by_cases c1 : a = v ∧ b = u
    · obtain ⟨rfl, rfl⟩ := c1
      rw [if_pos ⟨rfl, rfl⟩] at hz
      cases hz
      have : ¬ (b = a ∧ a = b) := fun w => hne w.1
      rw [if_neg this, if_pos ⟨rfl, rfl⟩]
      exact ⟨x, rfl, by omega⟩
    · rw [if_neg c1] at hz
      by_cases c2 : a = u ∧ b = v
      · obtain ⟨rfl, rfl⟩ := c2
        rw [if_pos ⟨rfl, rfl⟩] at hz
        cases hz
        rw [if_pos ⟨rfl, rfl⟩]
        exact ⟨y, rfl, hxy⟩
      · rw [if_neg c2] at hz
        have d1 : ¬ (b = v ∧ a = u) := fun w => c2 ⟨w.2, w.1⟩
        have d2 : ¬ (b = u ∧ a = v) := fun w => c1 ⟨w.2, w.1⟩
        rw [if_neg d1, if_neg d2]
        exact o.sy a b z hz
theorem ok_drp2 {h B : Int} {ks : KS} (o : KOk h B ks) (u v : Int) : KOk h B (drp (drp ks (u, v)) (v, u)) := by
  have e : ∀ q, look (drp (drp ks (u, v)) (v, u)) q = if q = (v, u) then none else if q = (u, v) then none else look ks q := fun q => by rw [look_drp, look_drp]
  refine ⟨nodup_drp (nodup_drp o.nd _) _, fun p z hz => ?_, fun a b z hz => ?_⟩
  · rw [e] at hz
    split at hz
    · cases hz
    · split at hz
      · cases hz
      · exact o.rg p z hz
  · simp only [e, Prod.mk.injEq] at hz ⊢
    by_cases c1 : a = v ∧ b = u
    · rw [if_pos c1] at hz; cases hz
    · rw [if_neg c1] at hz
      by_cases c2 : a = u ∧ b = v
      · rw [if_pos c2] at hz; cases hz
      · rw [if_neg c2] at hz
        have d1 : ¬ (b = v ∧ a = u) := fun w => c2 ⟨w.2, w.1⟩
        have d2 : ¬ (b = u ∧ a = v) := fun w => c1 ⟨w.2, w.1⟩
        rw [if_neg d1, if_neg d2]
        exact o.sy a b z hz
theorem ok_more {h B h' B' : Int} {ks : KS} (o : KOk h B ks) (hh : h ≤ h') (hB : B ≤ B') : KOk h' B' ks := ⟨o.nd, fun p x hx => by
  obtain ⟨a1, a2, a3, a4, a5, a6, a7⟩ := o.rg p x hx
  exact ⟨a1, by omega, a3, by omega, a5, a6, by omega⟩, o.sy⟩
theorem ok_put1 {h B : Int} {ks : KS} (o : KOk h B ks) {u v x : Int} (hx : look ks (u, v) = some x) : KOk h (B + 1) (put ks (u, v) (x + 1)) := by
  obtain ⟨a1, a2, a3, a4, a5, a6, a7⟩ := o.rg _ _ hx
  simp only at a1 a2 a3 a4 a5 a6 a7
  refine ⟨nodup_put o.nd _ _, fun p z hz => ?_, fun a b z hz => ?_⟩
  · rw [look_put] at hz
    split at hz
    · rename_i hp
      subst hp
      cases hz
      exact ⟨a1, a2, a3, a4, a5, by omega, by omega⟩
    · obtain ⟨b1, b2, b3, b4, b5, b6, b7⟩ := o.rg p z hz
      exact ⟨b1, b2, b3, b4, b5, b6, by omega⟩
  · simp only [look_put, Prod.mk.injEq] at hz ⊢
    by_cases c : a = u ∧ b = v
    · obtain ⟨rfl, rfl⟩ := c
      rw [if_pos ⟨rfl, rfl⟩] at hz
      cases hz
      have : ¬ (b = a ∧ a = b) := fun w => a5 w.2
      rw [if_neg this]
      obtain ⟨y, hy, hxy⟩ := o.sy _ _ _ hx
      exact ⟨y, hy, by omega⟩
    · rw [if_neg c] at hz
      obtain ⟨y, hy, hxy⟩ := o.sy _ _ _ hz
      by_cases d : b = u ∧ a = v
      · obtain ⟨rfl, rfl⟩ := d
        rw [if_pos ⟨rfl, rfl⟩]
        rw [hx] at hy
        cases hy
        exact ⟨_, rfl, by omega⟩
      · rw [if_neg d]
        exact ⟨y, hy, hxy⟩
end Tv.B
/-! TxG: the law's own nets. -/
namespace Tv.B
open PySem
variable {wf k : Nat}
theorem s38 (hk : 1 ≤ k) (S : List Int) {i : Int} (hi : 0 ≤ i) : ∃ r, sem T wf k 38 [lI S, .int i] = some (.dp (.int r), .none) := by
  obtain ⟨k, rfl, q⟩ := up hk
  by_cases c : i < S.length
  · have g : itemD (lI S) (.int i) = some (.int S[i.toNat]) := item_map (j := i.toNat) (by omega) (List.getElem?_eq_getElem (by omega))
    refine ⟨S[i.toNat], ?_⟩
    rw [sem38]
    refine run_of rfl rfl ?_
    simp only [f38, env0, Nat.reduceSub, List.map, List.length, List.replicate, List.append_nil, shN, imm_int, imm_none, imm_tup, imm_list, imm_dict, imms_cons, imms_nil, Bool.and_self, Bool.and_false, Bool.false_and, Bool.false_eq_true, if_true, if_false, List.cons_append, List.nil_append]
    refine seq_yes (by conv => lhs; simp [c]) ?_
    exact seq_ret (by conv => lhs; simp [g]) rfl rfl
  · have g : ∃ z, (sliceD (lI S) .none (.int 1)).bind (fun l => (sliceRes (.sh (lI S)) l.1 l.2).bind fun r => bltD true .sum [r.d]) = some (.dp (.int z)) := by
      cases S with
      | nil => exact ⟨0, rfl⟩
      | cons a S =>
        refine ⟨a + 0, ?_⟩
        have z := slice_to (xs := (a :: S).map PyData.int) (j := 1) (i := 1) rfl (by simp)
        rw [z]
        rfl
    obtain ⟨z, hz⟩ := g
    cases hs : sliceD (lI S) .none (.int 1) with
    | none => rw [hs] at hz; cases hz
    | some l =>
      rw [hs] at hz
      simp only [Option.bind_some] at hz
      have p := bin_mod (i := z) (j := 1000003) (by decide)
      refine ⟨z % 1000003, ?_⟩
      have il : sliceRes (.sh (lI S)) l.1 l.2 = some (.dp (if l.1 then .list l.2 else .tuple l.2)) := by
        refine sliceRes_imm ?_
        simp only [sliceD, sliceEnd, Option.bind_eq_bind, Option.bind_some, Option.some.injEq] at hs
        subst hs
        refine imms_all.mpr fun d hd => ?_
        obtain ⟨a, _, rfl⟩ := List.mem_map.mp (List.mem_of_mem_drop (List.mem_of_mem_take hd))
        rfl
      rw [il] at hz
      simp only [Option.bind_some, d_dp] at hz
      rw [sem38]
      refine run_of rfl rfl ?_
      simp only [f38, env0, Nat.reduceSub, List.map, List.length, List.replicate, List.append_nil, shN, imm_int, imm_none, imm_tup, imm_list, imm_dict, imms_cons, imms_nil, Bool.and_self, Bool.and_false, Bool.false_and, Bool.false_eq_true, if_true, if_false, List.cons_append, List.nil_append]
      refine seq_no (by conv => lhs; simp [c]) ?_
      exact seq_ret (by conv => lhs; simp [hs, il, ownAll, hz, p]) rfl rfl
theorem pow_ok {i j : Int} (h1 : 0 ≤ j) (h2 : j ≤ 100) (h3 : i.natAbs < 2 ^ 256) : binD .pow (.int i) (.int j) = some (.dp (.int (i ^ j.toNat))) := by simp [binD, h1, h2, h3]
theorem s39 (hk : 2 ≤ k) (S : List Int) {i : Int} (hi : 0 ≤ i) (hi2 : i ≤ 2) : ∃ g, GOk 2000 g ∧ sem T wf k 39 [lI S, .int i] = some (.dp (.list (gL g)), .none) := by
  obtain ⟨k, rfl, q⟩ := up hk
  obtain ⟨x, hx⟩ := s38 (wf := wf) q S hi
  have p1 := pow_ok (i := 10) (j := 18) (by decide) (by decide) (by decide)
  have p2 := pow_ok (i := 10) (j := 60) (by decide) (by decide) (by decide)
  have p3 := pow_ok (i := 10 ^ (60 : Int).toNat) (j := 10) (by decide) (by decide) (by decide)
  have p4 := bin_mod (i := (if x - 10 ^ (18 : Int).toNat < 0 then 0 else x - 10 ^ (18 : Int).toNat)) (j := (10 ^ (60 : Int).toNat) ^ (10 : Int).toNat) (by decide +kernel)
  have p5 := bin_mod (i := x) (j := 2147483647) (by decide)
  have p6 := mul_ok (i := 1000) (j := i) (by decide) (by omega)
  generalize (10 : Int) ^ (18 : Int).toNat = m18 at p1 p4
  generalize (10 : Int) ^ (60 : Int).toNat = m60 at p2 p3 p4
  generalize m60 ^ (10 : Int).toNat = m600 at p3 p4
  refine ⟨((if x - m18 < 0 then 0 else x - m18) % m600, x % 2147483647, 1000 * i), ⟨Int.emod_nonneg _ (by decide), Int.emod_lt_of_pos _ (by decide), by show 0 ≤ 1000 * i; omega, by show 1000 * i ≤ 2000; omega⟩, ?_⟩
  rw [sem39]
  refine run_of rfl rfl ?_
  simp only [f39, env0, Nat.reduceSub, List.map, List.length, List.replicate, List.append_nil, shN, imm_int, imm_none, imm_tup, imm_list, imm_dict, imms_cons, imms_nil, Bool.and_self, Bool.and_false, Bool.false_and, Bool.false_eq_true, if_true, if_false, List.cons_append, List.nil_append]
  refine seq_asg (by conv => lhs; simp [asgMode, ev_call, hx]) ?_
  exact seq_ret (by conv => lhs; simp [p1, p2, p3, p4, p5, p6]) rfl rfl
/-! ### what can be shown -/
structure Rep (d : D) : Prop where
  sm : smD d = true
  dp : PyData.depth d ≤ 50
  tk : tkD' d ≤ 50000
theorem Rep.shown {d : D} (h : Rep d) {o : Bool} : bltD o .repr [d] = some (.dp (.str (PyData.shown d))) := repr_ok h.sm h.dp h.tk
theorem s41 (hk : 1 ≤ k) {d : D} (h : Rep d) (hi : imm d = false) : sem T wf k 41 [d, d] = some (.dp (.bool true), .none) := by
  obtain ⟨k, rfl, q⟩ := up hk
  rw [sem41]
  refine run_of rfl rfl ?_
  simp only [f41, env0, Nat.reduceSub, List.map, List.length, List.replicate, List.append_nil, shN, hi, imm_int, imm_none, imm_tup, imm_list, imm_dict, imms_cons, imms_nil, Bool.and_self, Bool.and_false, Bool.false_and, Bool.false_eq_true, if_true, if_false, List.cons_append, List.nil_append]
  exact seq_ret (by conv => lhs; simp [h.shown]) rfl rfl
structure Few (R : List Rw) : Prop where
  len : R.length ≤ 1000
  many : ∀ r ∈ R, r.2.2.1 ≤ 1000000
theorem sm_rd {h : Int} {R : List Rw} (o : NOk h R) (f : Few R) : smDs (R.map rd) = true ∧ smDs (R.map fun r : Rw => PyData.int r.2.2.2) = true := by
  have hb := o.hb
  refine ⟨smDs_map fun r hr => ?_, smDs_map fun r hr => ?_⟩
  · have h1 := o.rd r hr
    have h2 := f.many r hr
    have a1 := h1.a0
    have a2 := h1.ab
    have a3 := h1.bh
    have a4 := h1.m1
    simp only [smD, smDs, Bool.and_true, Bool.and_eq_true, decide_eq_true_eq]
    omega
  · have h1 := o.rd r hr
    have h2 := f.many r hr
    have a1 := h1.i0
    have a2 := h1.im
    simp only [smD, decide_eq_true_eq]
    omega
theorem rep_net {h : Int} {R : List Rw} (o : NOk h R) (f : Few R) : smD (netD h R) = true ∧ PyData.depth (netD h R) ≤ 10 ∧ tkD' (netD h R) ≤ 10000 := by
  have hb := o.hb
  have h1 := o.h1
  have d1 : PyData.depthAll (R.map rd) ≤ 1 := depths_map fun r _ => by simp [PyData.depth, PyData.depthAll]
  have t1 : tkDs (R.map rd) ≤ R.length * 4 := tkDs_map fun r _ => by simp [tkD', tkDs]
  have l := f.len
  refine ⟨?_, ?_, ?_⟩
  · simp only [smD, smDs, (sm_rd o f).1, Bool.and_true, decide_eq_true_eq]
    omega
  · simp only [PyData.depth, PyData.depthAll]; omega
  · simp only [tkD', tkDs]; omega
theorem rep_st {h : Int} {R : List Rw} (o : NOk h R) (f : Few R) : smD (stD R) = true ∧ PyData.depth (stD R) ≤ 10 ∧ tkD' (stD R) ≤ 10000 := by
  have d1 : PyData.depthAll (R.map fun r : Rw => PyData.int r.2.2.2) ≤ 0 := depths_map fun r _ => by simp [PyData.depth]
  have t1 : tkDs (R.map fun r : Rw => PyData.int r.2.2.2) ≤ R.length * 1 := tkDs_map fun r _ => by simp [tkD']
  have l := f.len
  refine ⟨?_, ?_, ?_⟩
  · simp only [smD, (sm_rd o f).2]
  · simp only [PyData.depth]; omega
  · simp only [tkD']; omega
theorem rep_out {h : Int} {R : List Rw} (o : NOk h R) (f : Few R) : Rep (outD h R) := by
  obtain ⟨a1, a2, a3⟩ := rep_net o f
  obtain ⟨b1, b2, b3⟩ := rep_st o f
  refine ⟨?_, ?_, ?_⟩
  · rw [show smD (outD h R) = (smD (netD h R) && (smD (stD R) && true)) from rfl, a1, b1]; rfl
  · rw [show PyData.depth (outD h R) = max (PyData.depth (netD h R)) (max (PyData.depth (stD R)) 0) + 1 from rfl]; omega
  · rw [show tkD' (outD h R) = 1 + (tkD' (netD h R) + (tkD' (stD R) + 0)) from rfl]; omega
theorem rep_two {h : Int} {R : List Rw} (o : NOk h R) (f : Few R) : Rep (.list [netD h R, stD R]) := ⟨(rep_out o f).sm, (rep_out o f).dp, (rep_out o f).tk⟩
theorem rows_few {h B : Int} {ks : KS} (o : KOk h B ks) (hh : h ≤ 8) (hB : B ≤ 1000) : Few (rowsOf ks) := ⟨by have := rows_len o hh; omega, fun r hr => by have := (rows_rd o hr).2; omega⟩
theorem filterMap_ite {α β : Type} (p : α → Bool) (f : α → β) (L : List α) : L.filterMap (fun a => if p a = true then some (f a) else none) = (L.filter p).map f := by
  induction L with
  | nil => rfl
  | cons a L ih =>
    by_cases h : p a = true
    · rw [List.filterMap_cons_some (b := f a) (by simp [h]), List.filter_cons_of_pos h, List.map_cons, ih]
    · rw [List.filterMap_cons_none (by simp [h]), List.filter_cons_of_neg h, ih]
theorem s43 (hk : 1 ≤ k) {h B : Int} {ks : KS} (o : KOk h B ks) (hl : ks.length ≤ 1000) : sem T wf k 43 [.int h, dK ks] = some (.dp (outD h (rowsOf ks)), .none) := by
  obtain ⟨k, rfl, q⟩ := up hk
  have kl : (keysOf ks).length = ks.length := by simp [keysOf]
  have fl := List.length_filter_le (fun p : Int × Int => decide (p.1 < p.2)) (keysOf ks)
  have pl : (prs ks).length ≤ 1000 := by
    unfold prs
    rw [(srtB_perm _).length_eq]
    omega
  have it : iterD .val [dK ks] = some ((keysOf ks).map kD) := by simp [iterD, keysOf, Function.comp_def]
  have lk : ∀ p ∈ prs ks, ∃ x y, look ks (p.1, p.2) = some x ∧ look ks (p.2, p.1) = some y := fun p hp => by
    obtain ⟨x, hx⟩ := o.look (mem_prs.mp hp).1
    obtain ⟨y, hy, _⟩ := o.sy p.1 p.2 x hx
    exact ⟨x, y, hx, hy⟩
  rw [sem43]
  refine run_of rfl rfl ?_
  simp only [f43, env0, Nat.reduceSub, List.map, List.length, List.replicate, List.append_nil, shN, imm_int, imm_none, imm_tup, imm_list, imm_dict, imms_cons, imms_nil, Bool.and_self, Bool.and_false, Bool.false_and, Bool.false_eq_true, if_true, if_false, List.cons_append, List.nil_append]
  refine seq_asg (by
    conv => lhs; simp
    rw [ev_comp kD (fun p : Int × Int => if decide (p.1 < p.2) = true then some (kD p) else none) (keysOf ks) (by conv => lhs; simp [asgMode]) (by simp [dictOk]) (by exact it) (by omega) fun p hp => by
      by_cases c : p.1 < p.2 <;> simp [Turn, wipeS, c]]
    rw [filterMap_ite]
    conv => lhs; simp only [Option.bind_some, List.map_cons, List.map_nil, d_dp]
    rw [blt_sorted (enc := kD) key2 (fun _ => rfl) (by omega) fun _ _ => by simp [key2]]
    rw [show srtB (fun a b => leI (key2 a) (key2 b)) ((keysOf ks).filter fun p => decide (p.1 < p.2)) = prs ks from rfl]
    conv => lhs; simp) ?_
  refine seq_ret (by
    conv => lhs; simp
    rw [ev_comp_map kD (fun p => rd (rowAt ks p)) (prs ks) (by conv => lhs; simp) (by simp [dictOk]) rfl (by omega) fun p hp => by
      obtain ⟨x, y, hx, hy⟩ := lk p hp
      have hx' : look ks p = some x := hx
      simp [Turn, wipeS, item_k hx, item_k hy, rowAt, hx', hy]]
    conv => lhs; simp
    rw [ev_comp_map kD (fun p => .int (rowAt ks p).2.2.2) (prs ks) (by conv => lhs; simp) (by simp [dictOk]) rfl (by omega) fun p hp => by
      obtain ⟨x, y, hx, hy⟩ := lk p hp
      have hx' : look ks p = some x := hx
      simp [Turn, wipeS, item_k hx, rowAt, hx']]
    conv => lhs; simp) rfl ?_
  simp [rowsOf, Function.comp_def]
theorem s42 (hk : 4 ≤ k) {g : Gn} {n : Nat} {h B : Int} (hg : GOk n g) (hn : n + 1000 < 1000000000) (h1 : 1 ≤ h) (hh : h ≤ 8) (B1 : 1 ≤ B) (BB : B ≤ 900) : ∃ ks g', KOk h B ks ∧ GOk (n + 200) g' ∧ sem T wf k 42 [.list (gL g), .int h, .int B] = some (.dp (dK ks), .list (gL g')) := by
  obtain ⟨k, rfl, q⟩ := up hk
  suffices hs : ∃ ks g', KOk h B ks ∧ GOk (n + 200) g' ∧ Ends (mutOf T) (sem T wf k) wf f42.body (env0 f42 [.list (gL g), .int h, .int B]) fun f e => f = .rt (.dp (dK ks)) ∧ List.head? (e : List Sl) = some (.bw (.list (gL g'))) by
    obtain ⟨ks, g', a1, a2, a3⟩ := hs
    exact ⟨ks, g', a1, a2, by rw [sem42]; exact runM_of rfl rfl a3⟩
  suffices hs : Ends (mutOf T) (sem T wf k) wf f42.body (env0 f42 [.list (gL g), .int h, .int B]) fun f e => ∃ ks g', KOk h B ks ∧ GOk (n + 200) g' ∧ f = .rt (.dp (dK ks)) ∧ List.head? (e : List Sl) = some (.bw (.list (gL g'))) by
    obtain ⟨f, e, q1, ks, g', a1, a2, a3, a4⟩ := hs
    exact ⟨ks, g', a1, a2, f, e, q1, a3, a4⟩
  simp only [f42, env0, Nat.reduceSub, List.map, List.length, List.replicate, List.append_nil, shN, imm_int, imm_none, imm_tup, imm_list, imm_dict, imms_cons, imms_nil, Bool.and_self, Bool.and_false, Bool.false_and, Bool.false_eq_true, if_true, if_false, List.cons_append, List.nil_append]
  refine seq_asg (by conv => lhs; simp [asgMode]) ?_
  have o0 : KOk h B [] := ⟨by simp [keysOf], fun p x hx => (by cases hx), fun a b x hx => (by cases hx)⟩
  refine ends_seq ?_
  refine ends_loop (fun i : Nat => .int (i : Int)) (List.range h.toNat) (fun p env => ∃ ks g' a b c, env = [.bw (.list (gL g')), .dp (.int h), .dp (.int B), .dp (dK ks), a, b, c] ∧ Free a ∧ Free b ∧ Free c ∧ KOk h B ks ∧ GOk (n + 24 * p.length) g') (by (conv => lhs; simp) <;> rfl) (by simp [dictOk]) (by exact iter_rng1 (by omega) (by omega)) ⟨[], g, .un, .un, .un, rfl, free_un, free_un, free_un, o0, by simpa using hg⟩ ?_ ?_
  · rintro p lw rest env e ⟨ks, g', a, b, c, rfl, fa, fb, fc, o, hg'⟩
    obtain ⟨ep, hlw⟩ := range_split e
    refine ⟨_, by simp [fa]; rfl, ?_⟩
    refine ends_seq ?_
    refine ends_loop (fun i : Nat => .int ((lw : Int) + 1 + (i : Int))) (List.range (h - ((lw : Int) + 1)).toNat) (fun p2 env => ∃ ks g' b c, env = [.bw (.list (gL g')), .dp (.int h), .dp (.int B), .dp (dK ks), .dp (.int (lw : Int)), b, c] ∧ Free b ∧ Free c ∧ KOk h B ks ∧ GOk (n + 24 * p.length + 3 * p2.length) g') (by (conv => lhs; simp) <;> rfl) (by simp [dictOk]) (by exact iter_rng2 (by omega) (by omega) (by omega) (by omega)) ⟨ks, g', b, c, rfl, fb, fc, o, by simpa using hg'⟩ ?_ ?_
    · clear hg' o ks g' fb fc b c
      rintro p2 i rest2 env e2 ⟨ks, g', b, c, rfl, fb, fc, o, hg'⟩
      obtain ⟨ei, hi⟩ := range_split e2
      refine ⟨_, by simp [fb]; rfl, ?_⟩
      generalize hH : (lw : Int) + 1 + (i : Int) = hgh
      have l0 : (0 : Int) ≤ lw := by omega
      have lh : (lw : Int) < h := by omega
      have g0 : 0 ≤ hgh := by omega
      have gh : hgh < h := by omega
      have ne : (lw : Int) ≠ hgh := by omega
      obtain ⟨r, g2, r0, r1, hg2, hr⟩ := s37 (wf := wf) (k := k) (by omega) hg' (by omega) (show (0 : Int) < 3 by decide) (by decide)
      by_cases cr : 0 < r
      · obtain ⟨m, g3, m0, m1, hg3, hm⟩ := s40 (wf := wf) (k := k) (by omega) hg2 (by omega) (show (1 : Int) ≤ B by omega) (by omega)
        obtain ⟨x, g4, x0, x1, hg4, hx⟩ := s37 (wf := wf) (k := k) (by omega) hg3 (by omega) (show (0 : Int) < m + 1 by omega) (by omega)
        have kl := o.len hh
        have kl2 := len_put ks ((lw : Int), hgh) x
        refine seq_yes (by
          conv => lhs; simp
          rw [ev_callM (i := 0) mu37 (by conv => lhs; simp) (by simp [fb.vo, fc.vo]) (by simp [unS]) (by exact .inr rfl) rfl hr rfl rfl]
          conv => lhs; simp [cr]) ?_
        refine seq_asg (by
          conv => lhs; simp [asgMode]
          rw [ev_callM (i := 0) mu40 (by conv => lhs; simp) (by simp [fb.vo, fc.vo]) (by simp [unS]) (by exact .inr rfl) rfl hm rfl rfl]
          conv => lhs; simp [fc]) ?_
        refine seq_asg (by
          conv => lhs; simp [asgMode]
          rw [ev_callM (i := 0) mu37 (by conv => lhs; simp) (by simp [fb.vo, fc.vo]) (by simp [unS]) (by exact .inr rfl) rfl hx rfl rfl]
          conv => lhs; simp [unS, set_k (ks := ks) (a := (lw : Int)) (b := hgh) (x := x) (by omega)]) ?_
        have lx : look (put ks ((lw : Int), hgh) x) ((lw : Int), hgh) = some x := by rw [look_put, if_pos rfl]
        refine seq_asg (by conv => lhs; simp [asgMode, item_k lx, unS, set_k (ks := put ks ((lw : Int), hgh) x) (a := hgh) (b := (lw : Int)) (x := m - x) (by omega)]) ?_
        refine ends_nop (ends_nop ⟨.inl rfl, _, g4, _, _, rfl, free_dp, free_dp, ok_put2 o l0 lh g0 gh ne x0 (by omega) (by omega) (by omega) (by omega), hg4.more (by simp; omega)⟩)
      · refine seq_no (by
          conv => lhs; simp
          rw [ev_callM (i := 0) mu37 (by conv => lhs; simp) (by simp [fb.vo, fc.vo]) (by simp [unS]) (by exact .inr rfl) rfl hr rfl rfl]
          conv => lhs; simp [cr]) ?_
        exact ends_nop ⟨.inl rfl, ks, g2, _, _, rfl, free_dp, fc, o, hg2.more (by simp; omega)⟩
    · rintro env ⟨ks, g', b, c, rfl, fb, fc, o, hg'⟩
      refine ends_nop ⟨.inl rfl, ks, g', _, _, _, rfl, free_dp, fb, fc, o, hg'.more (by simp; omega)⟩
  · rintro env ⟨ks, g', a, b, c, rfl, fa, fb, fc, o, hg'⟩
    exact seq_ret (by conv => lhs; simp) rfl ⟨ks, g', o, hg'.more (by simp; omega), rfl, rfl⟩
end Tv.B
/-! TxH: a house less, a house more. -/
namespace Tv.B
open PySem
variable {wf k : Nat}
/-! ### a house less -/
def dn (x a : Int) : Int := a - (if x < a then 1 else 0)
def upH (x a : Int) : Int := if a < x then a else a + 1
theorem up_dn {x a b : Int} (h : a ≠ x) : dn x a = b ↔ a = upH x b := by
  unfold dn upH
  by_cases c : x < a
  · rw [if_pos c]
    by_cases d : b < x
    · rw [if_pos d]; omega
    · rw [if_neg d]; omega
  · rw [if_neg c]
    by_cases d : b < x
    · rw [if_pos d]; omega
    · rw [if_neg d]; omega
theorem up_ne (x a : Int) : upH x a ≠ x := by
  unfold upH
  split <;> omega
theorem up_lt {x a b : Int} : a < b ↔ upH x a < upH x b := by
  unfold upH
  split <;> split <;> omega
def woS (x : Int) (f : KS) (e : (Int × Int) × Int) : KS := if x = e.1.1 ∨ x = e.1.2 then f else put f (dn x e.1.1, dn x e.1.2) e.2
def wo (x : Int) (ks : KS) : KS := ks.foldl (woS x) []
theorem wo_app (x : Int) (p : KS) (e : (Int × Int) × Int) : wo x (p ++ [e]) = woS x (wo x p) e := by simp [wo, List.foldl_append]
theorem rev_ind {α : Type} {P : List α → Prop} (h0 : P []) (h1 : ∀ p a, P p → P (p ++ [a])) (l : List α) : P l := by
  rw [← List.reverse_reverse l]
  induction l.reverse with
  | nil => exact h0
  | cons a l ih => rw [List.reverse_cons]; exact h1 _ _ ih
theorem wo_len (x : Int) : ∀ p : KS, (wo x p).length ≤ p.length := rev_ind (by simp [wo]) fun p e ih => by
  rw [wo_app]
  unfold woS
  split
  · simp; omega
  · have := len_put (wo x p) (dn x e.1.1, dn x e.1.2) e.2
    simp; omega
theorem wo_nd (x : Int) : ∀ p : KS, (keysOf (wo x p)).Nodup := rev_ind (by simp [wo, keysOf]) fun p e ih => by
  rw [wo_app]
  unfold woS
  split
  · exact ih
  · exact nodup_put ih _ _
theorem look_wo (x : Int) (q : Int × Int) : ∀ p : KS, (keysOf p).Nodup → look (wo x p) q = look p (upH x q.1, upH x q.2) := rev_ind (fun _ => rfl) fun p e ih nd => by
  have e1 : keysOf (p ++ [e]) = keysOf p ++ [e.1] := by simp [keysOf]
  rw [e1] at nd
  obtain ⟨n1, n2, n3⟩ := List.nodup_append.mp nd
  have ih := ih n1
  obtain ⟨⟨a, b⟩, v⟩ := e
  have u1 := up_ne x q.1
  have u2 := up_ne x q.2
  rw [wo_app, look_app]
  unfold woS
  simp only [look]
  by_cases c : x = a ∨ x = b
  · rw [if_pos c, ih]
    have : ¬ (a, b) = (upH x q.1, upH x q.2) := fun z => by
      simp only [Prod.mk.injEq] at z
      rcases c with c | c
      · exact u1 (by rw [← z.1, c])
      · exact u2 (by rw [← z.2, c])
    rw [if_neg this]
    cases look p (upH x q.1, upH x q.2) <;> rfl
  · rw [if_neg c, look_put, ih]
    have ca : a ≠ x := fun z => c (.inl z.symm)
    have cb : b ≠ x := fun z => c (.inr z.symm)
    have iff : q = (dn x a, dn x b) ↔ (a, b) = (upH x q.1, upH x q.2) := by
      obtain ⟨q1, q2⟩ := q
      simp only [Prod.mk.injEq]
      rw [← up_dn ca, ← up_dn cb]
      exact ⟨fun z => ⟨z.1.symm, z.2.symm⟩, fun z => ⟨z.1.symm, z.2.symm⟩⟩
    by_cases d : (a, b) = (upH x q.1, upH x q.2)
    · rw [if_pos (iff.mpr d), if_pos d]
      have : look p (upH x q.1, upH x q.2) = none := look_none.mpr fun m => n3 _ m (a, b) (by simp) d.symm
      rw [this]; rfl
    · rw [if_neg (fun z => d (iff.mp z)), if_neg d]
      cases look p (upH x q.1, upH x q.2) <;> rfl
theorem ok_wo {h B x : Int} {ks : KS} (o : KOk h B ks) (x0 : 0 ≤ x) (xh : x ≤ h - 1) : KOk (h - 1) B (wo x ks) := by
  refine ⟨wo_nd x ks, fun p z hz => ?_, fun a b z hz => ?_⟩
  · rw [look_wo x p ks o.nd] at hz
    obtain ⟨a1, a2, a3, a4, a5, a6, a7⟩ := o.rg _ _ hz
    simp only [upH] at a1 a2 a3 a4 a5
    refine ⟨?_, ?_, ?_, ?_, fun z => a5 (by rw [z]), a6, a7⟩
    · split at a1 <;> omega
    · split at a2 <;> omega
    · split at a3 <;> omega
    · split at a4 <;> omega
  · rw [look_wo x _ ks o.nd] at hz ⊢
    exact o.sy _ _ _ hz
def upR (x : Int) (r : Rw) : Rw := (upH x r.1, upH x r.2.1, r.2.2.1, r.2.2.2)
theorem shift_iff {x : Int} {s r : Rw} : shiftR x s = some r ↔ s = upR x r := by
  obtain ⟨a, b, m, i⟩ := s
  obtain ⟨c, d, n, j⟩ := r
  unfold shiftR upR
  simp only
  by_cases h : x = a ∨ x = b
  · rw [if_pos h]
    constructor
    · intro z; cases z
    · intro z
      simp only [Prod.mk.injEq] at z
      rcases h with h | h
      · exact absurd (z.1.symm.trans h.symm) (up_ne x c)
      · exact absurd (z.2.1.symm.trans h.symm) (up_ne x d)
  · rw [if_neg h]
    have ha : a ≠ x := fun z => h (.inl z.symm)
    have hb : b ≠ x := fun z => h (.inr z.symm)
    simp only [Option.some.injEq, Prod.mk.injEq]
    rw [← up_dn ha, ← up_dn hb]
    rfl
theorem rows_less {h B x : Int} {ks : KS} (o : KOk h B ks) (x0 : 0 ≤ x) (xh : x ≤ h - 1) : srt4 ((rowsOf ks).filterMap (shiftR x)) = rowsOf (wo x ks) := by
  refine srt_rows (ok_wo o x0 xh) ?_ fun r => ?_
  · refine List.pairwise_map.mpr (List.pairwise_filterMap.mpr ((rows_asc o.nd).imp fun {s t} hl a ha b hb e => ?_))
    rw [shift_iff.mp ha, shift_iff.mp hb] at hl
    simp only [pr, List.cons.injEq, and_true] at e
    rw [show pr (upR x a) = pr (upR x b) by simp [pr, upR, e.1, e.2], ltI_irr] at hl
    cases hl
  · rw [List.mem_filterMap]
    have e : (∃ a, a ∈ rowsOf ks ∧ shiftR x a = some r) ↔ upR x r ∈ rowsOf ks := by
      constructor
      · rintro ⟨a, ha, hs⟩
        rw [← shift_iff.mp hs]; exact ha
      · exact fun m => ⟨_, m, shift_iff.mpr rfl⟩
    rw [e, mem_rows o]
    unfold Mem upR
    simp only [look_wo x _ ks o.nd]
    rw [← up_lt]
theorem s44 (hk : 1 ≤ k) {h B x : Int} {ks : KS} (o : KOk h B ks) (hl : ks.length ≤ 1000) : sem T wf k 44 [dK ks, .int x] = some (.dp (dK (wo x ks)), .none) := by
  obtain ⟨k, rfl, q⟩ := up hk
  rw [sem44]
  refine run_of rfl rfl ?_
  simp only [f44, env0, Nat.reduceSub, List.map, List.length, List.replicate, List.append_nil, shN, imm_int, imm_none, imm_tup, imm_list, imm_dict, imms_cons, imms_nil, Bool.and_self, Bool.and_false, Bool.false_and, Bool.false_eq_true, if_true, if_false, List.cons_append, List.nil_append]
  have it : iterD .val [dK ks] = some (ks.map fun e => kD e.1) := by simp [iterD, Function.comp_def]
  refine seq_asg (by conv => lhs; simp [asgMode]) ?_
  refine ends_seq ?_
  refine ends_loop (fun e : (Int × Int) × Int => kD e.1) ks (fun p env => ∃ a b, env = [.sh (dK ks), .dp (.int x), .dp (dK (wo x p)), a, b] ∧ Free a ∧ Free b) (by (conv => lhs; simp) <;> rfl) (by simp [dictOk]) (by exact it) ⟨.un, .un, rfl, free_un, free_un⟩ ?_ ?_
  · rintro p e rest env es ⟨a, b, rfl, fa, fb⟩
    have lx : look ks (e.1.1, e.1.2) = some e.2 := look_of_mem o.nd (e := e) (by rw [es]; simp)
    have pl : p.length < ks.length := by rw [es]; simp
    have wl := wo_len x p
    refine ⟨[.sh (dK ks), .dp (.int x), .dp (dK (wo x p)), .dp (.int e.1.1), .dp (.int e.1.2)], by simp [fa, fb], ?_⟩
    by_cases c : x = e.1.1 ∨ x = e.1.2
    · refine seq_no (by
        conv => lhs; simp
        rw [show cmpD .nin (.int x) (.list [.int e.1.1, .int e.1.2]) = _ from cmp_nin_lI x [e.1.1, e.1.2]]
        conv => lhs; simp [c]) ?_
      refine ends_nop ⟨.inl rfl, .dp (.int e.1.1), .dp (.int e.1.2), ?_, free_dp, free_dp⟩
      rw [wo_app, show woS x (wo x p) e = wo x p by simp [woS, c]]
    · refine seq_yes (by
        conv => lhs; simp
        rw [show cmpD .nin (.int x) (.list [.int e.1.1, .int e.1.2]) = _ from cmp_nin_lI x [e.1.1, e.1.2]]
        conv => lhs; simp [c]) ?_
      refine seq_asg (by conv => lhs; simp [asgMode, item_k lx, unS, set_k (ks := wo x p) (by omega)]) ?_
      refine ends_nop (ends_nop ⟨.inl rfl, .dp (.int e.1.1), .dp (.int e.1.2), ?_, free_dp, free_dp⟩)
      rw [wo_app, show woS x (wo x p) e = put (wo x p) (dn x e.1.1, dn x e.1.2) e.2 by simp [woS, c]]
      rfl
  · rintro env ⟨a, b, rfl, fa, fb⟩
    exact seq_ret (by conv => lhs; simp) rfl rfl
/-! ### a house more -/
def ltrS (h : Int) (f : KS) (e : En) : KS := put (put f (e.1, h) e.2.1) (h, e.1) e.2.2
def ltr (ks : KS) (h : Int) (E : List En) : KS := E.foldl (ltrS h) ks
theorem ltr_app (ks : KS) (h : Int) (E : List En) (e : En) : ltr ks h (E ++ [e]) = ltrS h (ltr ks h E) e := by simp [ltr, List.foldl_append]
theorem look_ltrS (h : Int) (f : KS) (e : En) (q : Int × Int) : look (ltrS h f e) q = if q = (h, e.1) then some e.2.2 else if q = (e.1, h) then some e.2.1 else look f q := by
  unfold ltrS
  rw [look_put, look_put]
theorem look_ltr (ks : KS) (h : Int) {q : Int × Int} (h1 : q.1 ≠ h) (h2 : q.2 ≠ h) : ∀ E : List En, look (ltr ks h E) q = look ks q := rev_ind rfl fun E e ih => by
  rw [ltr_app, look_ltrS, if_neg (fun z => h1 (by rw [z])), if_neg (fun z => h2 (by rw [z])), ih]
/-- what is known of a new house's roads -/
structure LOk (h B : Int) (ks : KS) (E : List En) : Prop where
  k : KOk (h + 1) B (ltr ks h E)
  m : ∀ r, Mem (ltr ks h E) r ↔ Mem ks r ∨ r ∈ E.map fun e => rowOf h e.1 e.2.1 e.2.2
  n : ∀ a, a ∉ E.map (·.1) → look (ltr ks h E) (a, h) = none ∧ look (ltr ks h E) (h, a) = none
theorem lok_nil {h B : Int} {ks : KS} (o : KOk h B ks) (hB : B ≤ B') : LOk h B' ks [] := by
  refine ⟨ok_more o (by omega) hB, fun r => by simp [ltr], fun a _ => ⟨?_, ?_⟩⟩
  · show look ks (a, h) = none
    cases z : look ks (a, h) with
    | none => rfl
    | some y => have := (o.rg _ _ z).2.2.2.1; simp only at this; omega
  · show look ks (h, a) = none
    cases z : look ks (h, a) with
    | none => rfl
    | some y => have := (o.rg _ _ z).2.1; simp only at this; omega
theorem lok_app {h B : Int} {ks : KS} {E : List En} {e : En} (l : LOk h B ks E) (he : EOk h e) (b1 : e.2.1 ≤ B) (b2 : e.2.2 ≤ B) (hn : e.1 ∉ E.map (·.1)) : LOk h B ks (E ++ [e]) := by
  obtain ⟨n1, n2⟩ := l.n _ hn
  have hh : e.1 ≠ h := by have := he.ah; omega
  have a0 := he.a0
  have ah := he.ah
  have b0 := he.b0
  have c0 := he.c0
  have nz := he.nz
  have k' : KOk (h + 1) B (ltrS h (ltr ks h E) e) := ok_put2 l.k a0 (by omega) (by omega) (by omega) hh b0 b1 c0 b2 (by omega)
  refine ⟨by rw [ltr_app]; exact k', fun r => ?_, fun a ha => ?_⟩
  · rw [ltr_app, mem_in (ks := ltr ks h E) (u := h) (v := e.1) (a := e.2.1) (b := e.2.2) (fun z => hh z.symm) n2 n1 (fun q => look_ltrS h _ e q), l.m]
    simp only [List.map_append, List.map_cons, List.map_nil, List.mem_append, List.mem_singleton, or_assoc]
  · simp only [List.map_append, List.map_cons, List.map_nil, List.mem_append, List.mem_singleton, not_or] at ha
    obtain ⟨m1, m2⟩ := l.n a ha.1
    rw [ltr_app, look_ltrS, look_ltrS]
    have d1 : ¬ (a, h) = (h, e.1) := fun z => by simp only [Prod.mk.injEq] at z; omega
    have d2 : ¬ (a, h) = (e.1, h) := fun z => by simp only [Prod.mk.injEq] at z; exact ha.2 z.1
    have d3 : ¬ (h, a) = (h, e.1) := fun z => by simp only [Prod.mk.injEq] at z; exact ha.2 z.2
    have d4 : ¬ (h, a) = (e.1, h) := fun z => by simp only [Prod.mk.injEq] at z; omega
    rw [if_neg d1, if_neg d2, if_neg d3, if_neg d4]
    exact ⟨m1, m2⟩
theorem rows_more {h B B' : Int} {ks : KS} {E : List En} (o : KOk h B ks) (l : LOk h B' ks E) (hE : EsOk h E) : srt4 (rowsOf ks ++ E.map fun e => rowOf h e.1 e.2.1 e.2.2) = rowsOf (ltr ks h E) := by
  have pe : ∀ e ∈ E, pr (rowOf h e.1 e.2.1 e.2.2) = [e.1, h] := fun e he => by
    rw [row_ends]
    have := (hE.ok e he).ah
    have h2 : ¬ h < e.1 := by omega
    simp [lo, hi, this, h2]
  refine srt_rows l.k ?_ fun r => ?_
  · rw [List.map_append]
    refine List.nodup_append.mpr ⟨nd_rows o.nd, ?_, fun x hx y hy e => ?_⟩
    · rw [List.map_map]
      refine List.pairwise_map.mpr (List.Pairwise.imp_of_mem (fun {a b} ha hb hab e => ?_) hE.asc)
      simp only [Function.comp_apply] at e
      rw [pe a ha, pe b hb] at e
      simp at e
      omega
    · obtain ⟨r, hr, rfl⟩ := List.mem_map.mp hx
      obtain ⟨s, hs, rfl⟩ := List.mem_map.mp hy
      obtain ⟨t, ht, rfl⟩ := List.mem_map.mp hs
      rw [pe t ht] at e
      simp [pr] at e
      have := (rows_rd o hr).1.bh
      omega
  · rw [List.mem_append, mem_rows o, l.m]
theorem ltr_back {h B B' : Int} {ks : KS} {E : List En} (o : KOk h B ks) (l : LOk h B' ks E) (h1 : 1 ≤ h) : rowsOf (wo h (ltr ks h E)) = rowsOf ks := by
  have ow := ok_wo l.k (x := h) (by omega) (by omega)
  refine rows_congr ow o fun q => ?_
  rw [look_wo h q _ l.k.nd]
  by_cases c : q.1 < h ∧ q.2 < h
  · have e : ((upH h q.1, upH h q.2) : Int × Int) = q := by simp [upH, c.1, c.2]
    rw [e, look_ltr ks h (by omega) (by omega)]
  · have e1 : look ks q = none := by
      cases z : look ks q with
      | none => rfl
      | some y => obtain ⟨_, a2, _, a4, _⟩ := o.rg _ _ z; exact absurd ⟨a2, a4⟩ c
    have e2 : look (ltr ks h E) (upH h q.1, upH h q.2) = none := by
      cases z : look (ltr ks h E) (upH h q.1, upH h q.2) with
      | none => rfl
      | some y =>
        obtain ⟨_, a2, _, a4, _⟩ := l.k.rg _ _ z
        simp only [upH] at a2 a4
        refine absurd ⟨?_, ?_⟩ c
        · split at a2 <;> omega
        · split at a4 <;> omega
    rw [e1, e2]
end Tv.B
set_option maxHeartbeats 4000000
/-! TxI: the law's look at roads and keys. -/
namespace Tv.B
open PySem
variable {wf k : Nat}
theorem seq_popK {mf : Nat → Bool} {Φ : Nat → List D → Option (Sl × D)} {s : St} {env e1 : Ev} {Q : Fl → Ev → Prop} {e : Ex} {i : Nat} {ks : KS} {a b : Int} (h : ev mf Φ .val e env = some (.dp (.tuple [.int a, .int b]), e1)) (h1 : (!isDictS env i || e1.any (·.isVo)) = false) (h2 : e1[i]? = some (.dp (dK ks))) (h3 : (look ks (a, b)).isSome = true)
    (k : Ends mf Φ wf s (e1.set i (.dp (dK (drp ks (a, b))))) Q) : Ends mf Φ wf (.seq (.pop i e) s) env Q := by
  refine seq_pop h (by simpa using h1) h2 (by rw [imms_k]; exact (any_k ks a b).trans h3) ?_
  rw [show dropD (ks.map eKV) (Sl.dp (.tuple [.int a, .int b])).d = (drp ks (a, b)).map eKV from drp_k ks a b]
  exact k
theorem poke1 {x y : D} {R : List Rw} (h : R.length ≤ 1000) : pokeD y [1] (.tuple [x, stD R]) = some (.tuple [x, .list (R.map (fun r => .int r.2.2.2) ++ [y])]) := by
  have : R.length + 1 ≤ 100000 := by omega
  simp [pokeD, this]
theorem poke01 {y : D} {h : Int} {R : List Rw} (hl : R.length ≤ 1000) : pokeD y [0, 1] (outD h R) = some (.tuple [.tuple [.int h, .list (R.map rd ++ [y])], stD R]) := by
  have : R.length + 1 ≤ 100000 := by omega
  simp [pokeD, this]
theorem kin_sum {r : Rw} {u v : Int} (h : u ≠ v) : kin r u v + kin r v u = r.2.2.1 := by
  unfold kin
  by_cases c : u < v
  · have : ¬ v < u := by omega
    simp [c, this]; omega
  · have : v < u := by omega
    simp [c, this]
theorem s45 (hk : 10 ≤ k) {g : Gn} {n : Nat} {h : Int} {ks : KS} (hg : GOk n g) (hn : n + 1000 < 1000000000) (o : KOk h 3 ks) (h1 : 1 ≤ h) (hh : h ≤ 7) : ∃ g', GOk (n + 200) g' ∧ sem T wf k 45 [.list (gL g), .int h, dK ks] = some (.dp (.bool true), .list (gL g')) := by
  obtain ⟨k, rfl, q⟩ := up hk
  suffices hs : Ends (mutOf T) (sem T wf k) wf f45.body (env0 f45 [.list (gL g), .int h, dK ks]) fun f e => ∃ g', GOk (n + 200) g' ∧ f = .rt (.dp (.bool true)) ∧ List.head? (e : List Sl) = some (.bw (.list (gL g'))) by
    obtain ⟨f, e, q1, g', a2, a3, a4⟩ := hs
    exact ⟨g', a2, by rw [sem45]; exact runM_of rfl rfl ⟨f, e, q1, a3, a4⟩⟩
  have rk := rows_ok o h1 (by omega)
  have rf := rows_few o (by omega) (by omega)
  have kl := o.len (by omega)
  have dk := fun ow => blt_dict (o := ow) o.nd (o.sm (by omega)) (by omega)
  have same := fun (d : D) (hr : Rep d) (hi : imm d = false) => s41 (wf := wf) (k := k) (by omega) hr hi
  simp only [f45, env0, Nat.reduceSub, List.map, List.length, List.replicate, List.append_nil, shN, imm_int, imm_none, imm_tup, imm_list, imm_dict, imms_cons, imms_nil, Bool.and_self, Bool.and_false, Bool.false_and, Bool.false_eq_true, if_true, if_false, List.cons_append, List.nil_append]
  refine seq_asg (by conv => lhs; simp [asgMode, ev_call, s43 (show 1 ≤ k by omega) o (by omega)]) ?_
  refine seq_asg (by conv => lhs; simp [asgMode, (rep_two rk rf).shown]) ?_
  refine ends_seq ?_
  refine ends_loop (fun i : Nat => .int (i : Int)) (List.range h.toNat) (fun p env => ∃ g' z4 z7 z8 z9 z10 z11 z12 z13, env = [.bw (.list (gL g')), .dp (.int h), .sh (dK ks), .dp (.str (PyData.shown (.list [netD h (rowsOf ks), stD (rowsOf ks)]))), z4, .sh (netD h (rowsOf ks)), .sh (stD (rowsOf ks)), z7, z8, z9, z10, z11, z12, z13] ∧ Free z4 ∧ Free z7 ∧ Free z8 ∧ Free z9 ∧ Free z10 ∧ Free z11 ∧ Free z12 ∧ Free z13 ∧ GOk (n + 20 * p.length) g')
    (by (conv => lhs; simp) <;> rfl) (by simp [dictOk]) (by exact iter_rng1 (by omega) (by omega)) ⟨g, .un, .un, .un, .un, .un, .un, .un, .un, rfl, free_un, free_un, free_un, free_un, free_un, free_un, free_un, free_un, by simpa using hg⟩ ?_ ?_
  rotate_left
  · rintro env ⟨g', z4, z7, z8, z9, z10, z11, z12, z13, rfl, f4, f7, f8, f9, f10, f11, f12, f13, hg'⟩
    exact seq_ret (by conv => lhs; simp) rfl ⟨g', hg'.more (by simp; omega), rfl, rfl⟩
  rintro p u rest env e ⟨g', z4, z7, z8, z9, z10, z11, z12, z13, rfl, f4, f7, f8, f9, f10, f11, f12, f13, hg'⟩
  obtain ⟨ep, hu⟩ := range_split e
  refine ⟨_, by simp [f4]; rfl, ?_⟩
  generalize hU : (u : Int) = U
  have u0 : 0 ≤ U := by omega
  have uh : U < h := by omega
  refine ends_seq ?_
  refine ends_loop (fun i : Nat => .int (i : Int)) (List.range h.toNat) (fun p2 env => ∃ g' z7 z8 z9 z10 z11 z12 z13, env = [.bw (.list (gL g')), .dp (.int h), .sh (dK ks), .dp (.str (PyData.shown (.list [netD h (rowsOf ks), stD (rowsOf ks)]))), .dp (.int U), .sh (netD h (rowsOf ks)), .sh (stD (rowsOf ks)), z7, z8, z9, z10, z11, z12, z13] ∧ Free z7 ∧ Free z8 ∧ Free z9 ∧ Free z10 ∧ Free z11 ∧ Free z12 ∧ Free z13 ∧ GOk (n + 20 * p.length + 2 * p2.length) g')
    (by (conv => lhs; simp) <;> rfl) (by simp [dictOk]) (by exact iter_rng1 (by omega) (by omega)) ⟨g', z7, z8, z9, z10, z11, z12, z13, rfl, f7, f8, f9, f10, f11, f12, f13, by simpa using hg'⟩ ?_ ?_
  rotate_left
  · rintro env ⟨g', z7, z8, z9, z10, z11, z12, z13, rfl, f7, f8, f9, f10, f11, f12, f13, hg'⟩
    exact ends_nop ⟨.inl rfl, g', _, _, _, _, _, _, _, _, rfl, free_dp, f7, f8, f9, f10, f11, f12, f13, hg'.more (by simp; omega)⟩
  clear hg' f7 f8 f9 f10 f11 f12 f13 z7 z8 z9 z10 z11 z12 z13 g'
  rintro p2 v rest2 env e2 ⟨g', z7, z8, z9, z10, z11, z12, z13, rfl, f7, f8, f9, f10, f11, f12, f13, hg'⟩
  obtain ⟨ev2, hv⟩ := range_split e2
  refine ⟨_, by simp [f7]; rfl, ?_⟩
  generalize hV : (v : Int) = V
  have v0 : 0 ≤ V := by omega
  have vh : V < h := by omega
  refine seq_asg (by conv => lhs; simp [asgMode, dk, f8]) ?_
  cases hx : look ks (U, V) with
  | none =>
    by_cases ne : U = V
    · subst ne
      refine seq_no (by conv => lhs; simp) ?_
      refine seq_no (by conv => lhs; simp [cmp_inn_k, hx]) ?_
      refine seq_no (by conv => lhs; simp [(rep_two rk rf).shown]) ?_
      exact ends_nop ⟨.inl rfl, g', _, _, _, _, _, _, _, rfl, free_dp, free_dp, f9, f10, f11, f12, f13, hg'.more (by simp; omega)⟩
    · have hy : look ks (V, U) = none := by
        cases z : look ks (V, U) with
        | none => rfl
        | some y =>
          obtain ⟨w, hw, _⟩ := o.sy _ _ _ z
          rw [hx] at hw; cases hw
      have uv : ¬ ((U, V) : Int × Int) = (V, U) := fun z => ne (Prod.mk.inj z).1
      have vu : ¬ ((V, U) : Int × Int) = (U, V) := fun z => ne (Prod.mk.inj z).2
      obtain ⟨a, g2, a0, a1, hg2, ha⟩ := s37 (wf := wf) (k := k) (by omega) hg' (by omega) (show (0 : Int) < 3 by decide) (by decide)
      obtain ⟨b, g3, b0, b1, hg3, hb⟩ := s40 (wf := wf) (k := k) (l := if a = 0 then 1 else 0) (m := 3) (by omega) hg2 (by omega) (by split <;> omega) (by split <;> omega)
      have b00 : 0 ≤ b := by split at b0 <;> omega
      have ab : 1 ≤ b + a := by split at b0 <;> omega
      have o' := ok_put2 o (x := b) (y := a) u0 uh v0 vh ne b00 b1 a0 (by omega) ab
      have eq : ∀ q, look (put (put ks (U, V) b) (V, U) a) q = if q = (U, V) then some b else if q = (V, U) then some a else look ks q := fun q => by
        rw [look_put, look_put]
        by_cases c1 : q = (V, U)
        · have : ¬ q = (U, V) := fun z => uv (z.symm.trans c1)
          rw [if_pos c1, if_neg this, if_pos c1]
        · rw [if_neg c1, if_neg c1]
      have rk' := rows_ok o' h1 (by omega)
      have rf' := rows_few o' (by omega) (by omega)
      have kl' := o'.len (by omega)
      have h43 := s43 (wf := wf) (k := k) (by omega) o' (by omega)
      have h30 := s30 (wf := wf) (k := k) (h := h) (u := U) (v := V) (a := a) (b := b) (by omega) rk u0 (by omega) v0 (by omega) (fun z => ne z.symm) (by rw [nbs_iff o, hx]; simp) a0 b00 (by omega)
      rw [rows_in o o' ne hx hy eq] at h30
      have hva : look (put (put ks (U, V) b) (V, U) a) (V, U) = some a := by rw [look_put, if_pos rfl]
      obtain ⟨j, r, A, A', _, _, hm, hp⟩ := at_of o' hva
      have h29 := s29 (wf := wf) (k := k) (h := h) (u := V) (v := U) (by omega) rk' v0 (by omega) u0 (by omega) ne (by rw [nbs_iff o', hva]; rfl) A
      rw [rows_out o' o hm A.get hp (fun q => by
        rw [eq]
        by_cases c1 : q = (U, V)
        · rw [if_pos (.inr c1), c1, hx]
        · by_cases c2 : q = (V, U)
          · rw [if_pos (.inl c2), c2, hy]
          · rw [if_neg (fun z => z.elim c2 c1), if_neg c1, if_neg c2])] at h29
      have kl1 := len_put ks (U, V) b
      have s1 := same _ (rep_out rk rf) rfl
      have s2 := same _ (rep_out rk' rf') rfl
      have l' := rf'.len
      generalize hks : put (put ks (U, V) b) (V, U) a = ks' at *
      refine seq_yes (by conv => lhs; simp [cmp_nin_k, hx, ne]) ?_
      refine seq_asg (by
        conv => lhs; simp [asgMode]
        rw [ev_callM (i := 0) mu37 (by conv => lhs; simp) (by simp [f7.vo, f8.vo, f9.vo, f10.vo, f11.vo, f12.vo, f13.vo, isCst, isListS, isDictS]) (by simp [unS]) (by exact .inr rfl) rfl ha rfl rfl]
        conv => lhs; simp [f9]) ?_
      refine seq_asg (by
        conv => lhs; simp [asgMode]
        rw [ev_callM (i := 0) mu40 (by conv => lhs; simp) (by simp [f7.vo, f8.vo, f9.vo, f10.vo, f11.vo, f12.vo, f13.vo, isCst, isListS, isDictS]) (by simp [unS]) (by exact .inr rfl) rfl hb rfl rfl]
        conv => lhs; simp [f10]) ?_
      refine seq_asg (by conv => lhs; simp [asgMode, unS, set_k (ks := ks) (by omega), set_k (ks := put ks (U, V) b) (by omega), hks, f7.vo, f8.vo, f9.vo, f10.vo, f11.vo, f12.vo, f13.vo, isCst, isListS, isDictS]) ?_
      refine seq_asg (by conv => lhs; simp [asgMode, ev_call, h30, f11]) ?_
      refine seq_no (by conv => lhs; simp [ev_call, h43, h29, s1, s2]) ?_
      refine seq_poke (by conv => lhs; simp) (by simp [f7.vo, f8.vo, f9.vo, f10.vo, f11.vo, f12.vo, f13.vo, isCst, isListS, isDictS]) (by rfl) rfl (by exact poke01 l') ?_
      refine seq_poke (by conv => lhs; simp) (by simp [f7.vo, f8.vo, f9.vo, f10.vo, f11.vo, f12.vo, f13.vo, isCst, isListS, isDictS]) (by rfl) rfl (by exact poke1 l') ?_
      refine ends_nop ?_
      refine seq_no (by conv => lhs; simp [cmp_inn_k, hx]) ?_
      refine seq_no (by conv => lhs; simp [(rep_two rk rf).shown]) ?_
      exact ends_nop ⟨.inl rfl, g3, _, _, _, _, _, _, _, rfl, free_dp, free_dp, free_dp, free_dp, free_dp, f12, f13, hg3.more (by simp; omega)⟩
  | some x =>
    have ne : U ≠ V := (o.rg _ _ hx).2.2.2.2.1
    have x0 : 0 ≤ x := (o.rg _ _ hx).2.2.2.2.2.1
    have uv : ¬ ((U, V) : Int × Int) = (V, U) := fun z => ne (Prod.mk.inj z).1
    have vu : ¬ ((V, U) : Int × Int) = (U, V) := fun z => ne (Prod.mk.inj z).2
    obtain ⟨j, r, A, A', kuv, hy, hm, hp⟩ := at_of o hx
    have o1 := ok_drp2 o U V
    have eq1 : ∀ q, look (drp (drp ks (U, V)) (V, U)) q = if q = (U, V) ∨ q = (V, U) then none else look ks q := fun q => by
      rw [look_drp, look_drp]
      by_cases c1 : q = (V, U)
      · rw [if_pos c1, if_pos (.inr c1)]
      · rw [if_neg c1]
        by_cases c2 : q = (U, V)
        · rw [if_pos c2, if_pos (.inl c2)]
        · rw [if_neg c2, if_neg (fun z => z.elim c2 c1)]
    have n1 : look (drp (drp ks (U, V)) (V, U)) (U, V) = none := by rw [eq1, if_pos (.inl rfl)]
    have n2 : look (drp (drp ks (U, V)) (V, U)) (V, U) = none := by rw [eq1, if_pos (.inr rfl)]
    have rk1 := rows_ok o1 h1 (by omega)
    have rf1 := rows_few o1 (by omega) (by omega)
    have kl1 := o1.len (by omega)
    have h43a := s43 (wf := wf) (k := k) (by omega) o1 (by omega)
    have nb : V ∈ nbs (rowsOf ks) U := by rw [nbs_iff o, hx]; rfl
    have out1 := rows_out o o1 hm A.get hp eq1
    have h29 := s29 (wf := wf) (k := k) (h := h) (u := U) (v := V) (by omega) rk u0 (by omega) v0 (by omega) (fun z => ne z.symm) nb A
    rw [out1] at h29
    have o2 := ok_put1 o hx
    have rk2 := rows_ok o2 h1 (by omega)
    have rf2 := rows_few o2 (by omega) (by omega)
    have kl2 := o2.len (by omega)
    have h43b := s43 (wf := wf) (k := k) (by omega) o2 (by omega)
    have eq2 : ∀ q, look (put ks (U, V) (x + 1)) q = if q = (U, V) then some (x + 1) else if q = (V, U) then some (kin r V U) else look (drp (drp ks (U, V)) (V, U)) q := fun q => by
      rw [look_put, eq1]
      by_cases c1 : q = (U, V)
      · rw [if_pos c1, if_pos c1]
      · rw [if_neg c1, if_neg c1]
        by_cases c2 : q = (V, U)
        · rw [if_pos c2, c2, hy]
        · rw [if_neg c2, if_neg (fun z => z.elim c1 c2)]
    have h31 := s31 (wf := wf) (k := k) (h := h) (u := U) (v := V) (by omega) rk u0 (by omega) v0 (by omega) (fun z => ne z.symm) nb A A'
    rw [out1, kuv, rows_in o1 o2 ne n1 n2 eq2] at h31
    have hx2 : look (put ks (U, V) (x + 1)) (U, V) = some (x + 1) := by rw [look_put, if_pos rfl]
    obtain ⟨j2, r2, B1, B2, kuv2, hy2, hm2, hp2⟩ := at_of o2 hx2
    have ky : kin r2 V U = kin r V U := by
      rw [look_put, if_neg vu, hy] at hy2
      exact (Option.some.inj hy2).symm
    have nb2 : V ∈ nbs (rowsOf (put ks (U, V) (x + 1))) U := by rw [nbs_iff o2, hx2]; rfl
    have y1 : 1 ≤ x + kin r V U := by
      obtain ⟨y, hy', hxy⟩ := o.sy _ _ _ hx
      rw [hy] at hy'
      cases hy'
      exact hxy
    have m2 : 1 < r2.2.2.1 := by
      have := kin_sum (r := r2) ne
      omega
    have h33 := s33 (wf := wf) (k := k) (h := h) (u := U) (v := V) (by omega) rk2 u0 (by omega) v0 (by omega) (fun z => ne z.symm) nb2 B1 B2 (by omega) m2
    have out2 := rows_out o2 o1 hm2 B1.get hp2 (fun q => by
      rw [eq1, look_put]
      by_cases c1 : q = (U, V)
      · rw [if_pos (.inl c1), if_pos (.inl c1)]
      · by_cases c2 : q = (V, U)
        · rw [if_pos (.inr c2), if_pos (.inr c2)]
        · rw [if_neg (fun z => z.elim c1 c2), if_neg (fun z => z.elim c1 c2), if_neg c1])
    rw [out2, rows_in o1 o ne n1 n2 (fun q => by
      rw [eq1, kuv2, ky]
      by_cases c1 : q = (U, V)
      · rw [if_pos c1, c1, hx]
        exact congrArg some (by omega)
      · rw [if_neg c1]
        by_cases c2 : q = (V, U)
        · rw [if_pos c2, c2, hy]
        · rw [if_neg c2, if_neg (fun z => z.elim c1 c2)])] at h33
    have s1 := same _ (rep_out rk rf) rfl
    have s2 := same _ (rep_out rk1 rf1) rfl
    have s3 := same _ (rep_out rk2 rf2) rfl
    have sh2 := fun ow => (rep_out rk2 rf2).shown (o := ow)
    have l0 := rf.len
    have l2 := rf2.len
    have p1 : (look (drp ks (U, V)) (V, U)).isSome = true := by rw [look_drp, if_neg vu, hy]; rfl
    generalize hk1 : drp (drp ks (U, V)) (V, U) = ks1 at *
    generalize hk2 : put ks (U, V) (x + 1) = ks2 at *
    refine seq_no (by conv => lhs; simp [cmp_nin_k, hx, ne]) ?_
    refine seq_yes (by conv => lhs; simp [cmp_inn_k, hx]) ?_
    refine seq_popK (ks := ks) (a := U) (b := V) (by conv => lhs; simp) (by simp [f7.vo, f8.vo, f9.vo, f10.vo, f11.vo, f12.vo, f13.vo, isCst, isListS, isDictS]) (by rfl) (by rw [hx]; rfl) ?_
    refine seq_popK (ks := drp ks (U, V)) (a := V) (b := U) (by conv => lhs; simp) (by simp [f7.vo, f8.vo, f9.vo, f10.vo, f11.vo, f12.vo, f13.vo, isCst, isListS, isDictS]) (by rfl) p1 ?_
    rw [hk1]
    refine seq_no (by conv => lhs; simp [ev_call, h29, h43a, s2]) ?_
    refine seq_asg (by conv => lhs; simp [asgMode, dk]) ?_
    refine seq_asg (by conv => lhs; simp [asgMode, item_k hx, unS, set_k (ks := ks) (by omega), hk2, f7.vo, f8.vo, f9.vo, f10.vo, f11.vo, f12.vo, f13.vo, isCst, isListS, isDictS]) ?_
    refine seq_asg (by conv => lhs; simp [asgMode, ev_call, h31, f11]) ?_
    refine seq_asg (by conv => lhs; simp [asgMode, sh2, f12]) ?_
    refine seq_asg (by conv => lhs; simp [asgMode, ev_call, h33, f13]) ?_
    refine seq_no (by conv => lhs; simp [ev_call, h43b, s1, s3]) ?_
    refine seq_poke (by conv => lhs; simp) (by simp [f7.vo, f8.vo, f9.vo, f10.vo, f11.vo, f12.vo, f13.vo, isCst, isListS, isDictS]) (by rfl) rfl (by exact poke01 l0) ?_
    refine seq_poke (by conv => lhs; simp) (by simp [f7.vo, f8.vo, f9.vo, f10.vo, f11.vo, f12.vo, f13.vo, isCst, isListS, isDictS]) (by rfl) rfl (by exact poke1 l0) ?_
    refine seq_no (by conv => lhs; simp [sh2]) ?_
    refine seq_poke (by conv => lhs; simp) (by simp [f7.vo, f8.vo, f9.vo, f10.vo, f11.vo, f12.vo, f13.vo, isCst, isListS, isDictS]) (by rfl) rfl (by exact poke1 l2) ?_
    refine ends_nop ?_
    refine seq_no (by conv => lhs; simp [(rep_two rk rf).shown]) ?_
    exact ends_nop ⟨.inl rfl, g', _, _, _, _, _, _, _, rfl, free_dp, free_dp, f9, f10, free_dp, free_dp, free_dp, hg'.more (by simp; omega)⟩
end Tv.B
set_option maxHeartbeats 4000000
/-! TxJ: the law. -/
namespace Tv.B
open PySem
variable {wf k : Nat}
theorem ie3 (E : List En) : imms (E.map e3) = true := imms_map (fun _ => rfl) E
theorem s46 (hk : 11 ≤ k) {g : Gn} {n : Nat} (hg : GOk n g) (hn : n ≤ 100000) : ∃ g', sem T wf k 46 [.list (gL g)] = some (.dp (.bool true), .list (gL g')) := by
  obtain ⟨k, rfl, q⟩ := up hk
  suffices hs : Ends (mutOf T) (sem T wf k) wf f46.body (env0 f46 [.list (gL g)]) fun f e => ∃ g' : Gn, f = .rt (.dp (.bool true)) ∧ List.head? (e : List Sl) = some (.bw (.list (gL g'))) by
    obtain ⟨f, e, q1, g', a3, a4⟩ := hs
    exact ⟨g', by rw [sem46]; exact runM_of rfl rfl ⟨f, e, q1, a3, a4⟩⟩
  obtain ⟨h, ga, h1, h5, hga, ha⟩ := s40 (wf := wf) (k := k) (by omega) hg (by omega) (show (1 : Int) ≤ 5 by decide) (by decide)
  obtain ⟨ks, gb, o, hgb, hb⟩ := s42 (wf := wf) (k := k) (h := h) (B := 3) (by omega) hga (by omega) h1 (by omega) (by decide) (by decide)
  obtain ⟨gc, hgc, hc⟩ := s45 (wf := wf) (k := k) (by omega) hgb (by omega) o h1 (by omega)
  have rk := rows_ok o h1 (by omega)
  have rf := rows_few o (by omega) (by omega)
  have kl := o.len (by omega)
  have dk := fun ow => blt_dict (o := ow) o.nd (o.sm (by omega)) (by omega)
  have same := fun (d : D) (hr : Rep d) (hi : imm d = false) => s41 (wf := wf) (k := k) (by omega) hr hi
  simp only [f46, env0, Nat.reduceSub, List.map, List.length, List.replicate, List.append_nil, shN, imm_int, imm_none, imm_tup, imm_list, imm_dict, imms_cons, imms_nil, Bool.and_self, Bool.and_false, Bool.false_and, Bool.false_eq_true, if_true, if_false, List.cons_append, List.nil_append]
  refine seq_asg (by
    conv => lhs; simp [asgMode]
    rw [ev_callM (i := 0) mu40 (by conv => lhs; simp) (by simp) (by simp [unS]) (by exact .inr rfl) rfl ha rfl rfl]
    conv => lhs; simp []) ?_
  refine seq_asg (by
    conv => lhs; simp [asgMode]
    rw [ev_callM (i := 0) mu42 (by conv => lhs; simp) (by simp) (by simp [unS]) (by exact .inr rfl) rfl hb rfl rfl]
    conv => lhs; simp []) ?_
  refine seq_no (by
    conv => lhs; simp
    rw [ev_callM (i := 0) mu45 (by conv => lhs; simp) (by simp) (by simp [unS]) (by exact .inr rfl) rfl hc rfl rfl]
    conv => lhs; simp []) ?_
  refine seq_asg (by conv => lhs; simp [asgMode, ev_call, s43 (show 1 ≤ k by omega) o (by omega)]) ?_
  refine seq_asg (by conv => lhs; simp [asgMode, dk, (rep_two rk rf).shown]) ?_
  refine ends_seq ?_
  refine ends_loop (fun i : Nat => .int (i : Int)) (List.range h.toNat) (fun p env => ∃ g' E z3 z14 z15, env = [.bw (.list (gL g')), .dp (.int h), .sh (dK ks), z3, .un, .un, .un, .un, .sh (netD h (rowsOf ks)), .sh (stD (rowsOf ks)), .dp (.list (E.map e3)), .dp (dK (ltr ks h E)), .dp (.str (PyData.shown (.list [netD h (rowsOf ks), stD (rowsOf ks)]))), .un, z14, z15] ∧ Free z3 ∧ Free z14 ∧ Free z15 ∧ LOk h 3 ks E ∧ EsOk h E ∧ (∀ e ∈ E, e.1 < p.length) ∧ E.length ≤ p.length ∧ GOk (n + 500 + 3 * p.length) g')
    (by (conv => lhs; simp) <;> rfl) (by simp [dictOk]) (by exact iter_rng1 (by omega) (by omega)) ⟨gc, [], .un, .un, .un, rfl, free_un, free_un, free_un, lok_nil o (by omega), ⟨fun e he => by simp at he, List.Pairwise.nil, by simp⟩, fun e he => by simp at he, by simp, hgc.more (by simp)⟩ ?_ ?_
  · rintro p u rest env e ⟨g', E, z3, z14, z15, rfl, f3, f14, f15, l, hE, hlt, hlen, hg'⟩
    obtain ⟨ep, hu⟩ := range_split e
    refine ⟨_, by simp [f3]; rfl, ?_⟩
    have ll := l.k.len (by omega)
    generalize hU : (u : Int) = U
    have u0 : 0 ≤ U := by omega
    have uh : U < h := by omega
    obtain ⟨r, g2, r0, r1, hg2, hr⟩ := s37 (wf := wf) (k := k) (by omega) hg' (by omega) (show (0 : Int) < 2 by decide) (by decide)
    by_cases cr : r = 0
    · obtain ⟨a, g3, a0, a1, hg3, ha⟩ := s37 (wf := wf) (k := k) (by omega) hg2 (by omega) (show (0 : Int) < 3 by decide) (by decide)
      obtain ⟨b, g4, b0, b1, hg4, hb⟩ := s40 (wf := wf) (k := k) (l := if a = 0 then 1 else 0) (m := 2) (by omega) hg3 (by omega) (by split <;> omega) (by split <;> omega)
      have b00 : 0 ≤ b := by split at b0 <;> omega
      have ab : ¬ (a = 0 ∧ b = 0) := by split at b0 <;> omega
      have he : EOk h (U, a, b) := ⟨u0, uh, a0, b00, ab⟩
      have hn : U ∉ E.map (·.1) := fun m => by
        obtain ⟨e, he, eu⟩ := List.mem_map.mp m
        have := hlt e he
        omega
      have hE' : EsOk h (E ++ [(U, a, b)]) := by
        refine ⟨fun e he' => ?_, List.pairwise_append.mpr ⟨hE.asc, by simp, fun x hx y hy => ?_⟩, by simp; omega⟩
        · rcases List.mem_append.mp he' with z | z
          · exact hE.ok e z
          · have : e = (U, a, b) := by simpa using z
            rw [this]; exact he
        · have : y = (U, a, b) := by simpa using hy
          have := hlt x hx
          subst y
          show x.1 < U
          omega
      have sl1 := len_put (ltr ks h E) (U, h) a
      refine seq_yes (by
        conv => lhs; simp
        rw [ev_callM (i := 0) mu37 (by conv => lhs; simp) (by simp [f3.vo, f14.vo, f15.vo, isCst, isListS, isDictS]) (by simp [unS]) (by exact .inr rfl) rfl hr rfl rfl]
        conv => lhs; simp [cr]) ?_
      refine seq_asg (by
        conv => lhs; simp [asgMode]
        rw [ev_callM (i := 0) mu37 (by conv => lhs; simp) (by simp [f3.vo, f14.vo, f15.vo, isCst, isListS, isDictS]) (by simp [unS]) (by exact .inr rfl) rfl ha rfl rfl]
        conv => lhs; simp [f14]) ?_
      refine seq_asg (by
        conv => lhs; simp [asgMode]
        rw [ev_callM (i := 0) mu40 (by conv => lhs; simp) (by simp [f3.vo, f14.vo, f15.vo, isCst, isListS, isDictS]) (by simp [unS]) (by exact .inr rfl) rfl hb rfl rfl]
        conv => lhs; simp [f15]) ?_
      refine seq_app (by conv => lhs; simp) (by simp [f3.vo, f14.vo, f15.vo, isCst, isListS, isDictS]) (by conv => lhs; simp [addItem, show ¬ 99999 < E.length by omega]) ?_
      refine seq_asg (by conv => lhs; simp [asgMode, unS, set_k (ks := ltr ks h E) (a := U) (b := h) (x := a) (by omega), set_k (ks := put (ltr ks h E) (U, h) a) (a := h) (b := U) (x := b) (by omega), f3.vo, f14.vo, f15.vo, isCst, isListS, isDictS]) ?_
      refine ends_nop (ends_nop ⟨.inl rfl, g4, E ++ [(U, a, b)], .dp (.int U), .dp (.int a), .dp (.int b), by rw [List.map_append, ltr_app]; rfl, free_dp, free_dp, free_dp, lok_app l he (by show a ≤ 3; omega) (by show b ≤ 3; omega) hn, hE', fun e he => ?_, by simp; omega, hg4.more (by simp; omega)⟩)
      rcases List.mem_append.mp he with z | z
      · have := hlt e z
        simp; omega
      · have : e = (U, a, b) := by simpa using z
        subst this
        simp; omega
    · refine seq_no (by
        conv => lhs; simp
        rw [ev_callM (i := 0) mu37 (by conv => lhs; simp) (by simp [f3.vo, f14.vo, f15.vo, isCst, isListS, isDictS]) (by simp [unS]) (by exact .inr rfl) rfl hr rfl rfl]
        conv => lhs; simp [cr]) ?_
      exact ends_nop ⟨.inl rfl, g2, E, .dp (.int U), z14, z15, rfl, free_dp, f14, f15, l, hE, fun e he => by have := hlt e he; simp; omega, by simp; omega, hg2.more (by simp; omega)⟩
  · rintro env ⟨g', E, z3, z14, z15, rfl, f3, f14, f15, l, hE, hlt, hlen, hg'⟩
    have eh : h + 1 - 1 = h := by omega
    have rk2 := rows_ok l.k (by omega) (by omega)
    have rf2 := rows_few l.k (by omega) (by omega)
    have kl2 := l.k.len (by omega)
    have h34 := s34 (wf := wf) (k := k) (by omega) rk hE
    rw [rows_more o l hE] at h34
    have h43 := s43 (wf := wf) (k := k) (by omega) l.k (by omega)
    have h35 := s35 (wf := wf) (k := k) (h := h + 1) (x := h) (by omega) rk2 (by omega) (by omega) (by omega)
    rw [rows_less l.k (by omega) (by omega), ltr_back o l h1, eh] at h35
    obtain ⟨x, g3, x0, x1, hg3, hx⟩ := s37 (wf := wf) (k := k) (b := h + 1) (by simp at hlen ⊢; omega) hg' (by simp; omega) (by omega) (by omega)
    have h35b := s35 (wf := wf) (k := k) (h := h + 1) (x := x) (by omega) rk2 x0 (by omega) (by omega)
    rw [rows_less l.k x0 (by omega), eh] at h35b
    have ow := ok_wo l.k x0 (show x ≤ h + 1 - 1 by omega)
    rw [eh] at ow
    have wl := wo_len x (ltr ks h E)
    have h44 := s44 (wf := wf) (k := k) (x := x) (by omega) l.k (by omega)
    have h43w := s43 (wf := wf) (k := k) (by omega) ow (by omega)
    have rk3 := rows_ok ow (by omega) (by omega)
    have rf3 := rows_few ow (by omega) (by omega)
    have h34b : sem T wf k 34 [netD h (rowsOf ks), stD (rowsOf ks), .list []] = some (.dp (outD (h + 1) (srt4 (rowsOf ks ++ []))), .none) := s34 (wf := wf) (k := k) (E := []) (by omega) rk ⟨fun e he => by simp at he, List.Pairwise.nil, by simp⟩
    have s1 := same _ (rep_out rk rf) rfl
    have s2 := same _ (rep_out rk2 rf2) rfl
    have s3 := same _ (rep_out rk3 rf3) rfl
    have sh2 := fun ow => (rep_out rk2 rf2).shown (o := ow)
    have sh0 := fun ow => (rep_two rk rf).shown (o := ow)
    have ne0 := cmp_ne_self (enc := e3) (fun e : En => [e.1, e.2.1, e.2.2]) (fun _ => rfl) E
    have l2 := rf2.len
    have l3 := rf3.len
    have l4 : (srt4 (rowsOf ks ++ [])).length ≤ 1000 := by rw [srt4_len, List.append_nil]; exact rf.len
    generalize hR2 : rowsOf (ltr ks h E) = R2 at *
    generalize hR3 : rowsOf (wo x (ltr ks h E)) = R3 at *
    generalize hR4 : srt4 (rowsOf ks ++ []) = R4 at *
    generalize hR : rowsOf ks = R at *
    generalize hL : ltr ks h E = L at *
    refine seq_asg (by conv => lhs; simp [asgMode, ie3]) ?_
    refine seq_asg (by conv => lhs; simp [asgMode, ev_call, h34]) ?_
    refine seq_no (by conv => lhs; simp [ev_call, h43, s2, ne0, h35, s1]) ?_
    refine seq_asg (by
      conv => lhs; simp [asgMode]
      rw [ev_callM (i := 0) mu37 (by conv => lhs; simp) (by simp [f3.vo, f14.vo, f15.vo, isCst, isListS, isDictS]) (by simp [unS]) (by exact .inr rfl) rfl hx rfl rfl]
      conv => lhs; simp [sh2, f3]) ?_
    refine seq_asg (by conv => lhs; simp [asgMode, ev_call, h35b]) ?_
    refine seq_no (by conv => lhs; simp [ev_call, h44, h43w, s3]) ?_
    refine seq_poke (by conv => lhs; simp) (by simp [f3.vo, f14.vo, f15.vo, isCst, isListS, isDictS]) (by rfl) rfl (by exact poke01 l3) ?_
    refine seq_poke (by conv => lhs; simp) (by simp [f3.vo, f14.vo, f15.vo, isCst, isListS, isDictS]) (by rfl) rfl (by exact poke1 l3) ?_
    refine seq_no (by conv => lhs; simp [sh2]) ?_
    refine seq_poke (by conv => lhs; simp) (by simp [f3.vo, f14.vo, f15.vo, isCst, isListS, isDictS]) (by rfl) rfl (by exact poke01 l2) ?_
    refine seq_poke (by conv => lhs; simp) (by simp [f3.vo, f14.vo, f15.vo, isCst, isListS, isDictS]) (by rfl) rfl (by exact poke1 l2) ?_
    refine seq_asg (by conv => lhs; simp [asgMode, ev_call, h34b]) ?_
    refine seq_poke (by conv => lhs; simp) (by simp [f3.vo, f14.vo, f15.vo, isCst, isListS, isDictS]) (by rfl) rfl (by exact poke01 l4) ?_
    refine seq_poke (by conv => lhs; simp) (by simp [f3.vo, f14.vo, f15.vo, isCst, isListS, isDictS]) (by rfl) rfl (by exact poke1 l4) ?_
    exact seq_ret (by conv => lhs; simp [ev_call, h34, h43, s2, sh0]) rfl ⟨g3, rfl, rfl⟩
end Tv.B
set_option maxHeartbeats 4000000
/-! TxK: the law tells True. -/
namespace Tv.B
open PySem
def chkR : Option (Fl × Ev) → Bool
  | some (.rt (.dp (.bool true)), _) => true
  | _ => false
theorem chkR_ok {x : Option (Fl × Ev)} (h : chkR x = true) : ∃ e, x = some (.rt (.dp (.bool true)), e) := by
  unfold chkR at h
  split at h
  · exact ⟨_, rfl⟩
  · cases h
theorem ends_kernel {mf : Nat → Bool} {Φ : Nat → List D → Option (Sl × D)} {wf : Nat} {s : St} {env : Ev} (h : chkR (exS mf Φ wf s env) = true) : Ends mf Φ wf s env fun f _ => f = .rt (.dp (.bool true)) := by
  obtain ⟨e, he⟩ := chkR_ok h
  exact ⟨_, e, he, rfl⟩
theorem s47 (S : List Int) : sem T 1 30 47 [lI S] = some (.dp (.bool true), .none) := by
  show sem T 1 (29 + 1) 47 [lI S] = some (.dp (.bool true), .none)
  rw [sem47]
  refine run_of rfl rfl ?_
  simp only [f47, env0, Nat.reduceSub, List.map, List.length, List.replicate, List.append_nil, shN, imm_int, imm_none, imm_tup, imm_list, imm_dict, imms_cons, imms_nil, Bool.and_self, Bool.and_false, Bool.false_and, Bool.false_eq_true, if_true, if_false, List.cons_append, List.nil_append]
  refine ends_seq ?_
  refine ends_loop (fun i : Nat => .int (i : Int)) (List.range 3) (fun p env => ∃ z1, env = [.sh (lI S), z1, .un, .un, .un, .un] ∧ Free z1) (by (conv => lhs; simp) <;> rfl) (by simp [dictOk]) (by exact iter_rng1 (j := 3) (by omega) (by omega)) ⟨.un, rfl, free_un⟩ ?_ ?_
  · rintro p u rest env e ⟨z1, rfl, f1⟩
    obtain ⟨ep, hu⟩ := range_split e
    refine ⟨_, by simp [f1]; rfl, ?_⟩
    obtain ⟨g, hg, hx⟩ := s39 (wf := 1) (k := 29) (by omega) S (i := (u : Int)) (by omega) (by omega)
    obtain ⟨g', hy⟩ := s46 (wf := 1) (k := 29) (by omega) hg (by omega)
    refine seq_no (by
      conv => lhs; simp
      rw [ev_callM1 mu46 (fun i z => by cases z) (by conv => lhs; simp [ev_call, hx]) (by simp) rfl hy rfl rfl]
      conv => lhs; simp) ?_
    exact ends_nop ⟨.inl rfl, _, rfl, free_dp⟩
  · rintro env ⟨z1, rfl, f1⟩
    exact ends_kernel (by kernel_rfl)
end Tv.B
set_option maxHeartbeats 0
/-! The end: the linked text's defs, the head's facts, the statement (printed by genfin.py). -/
namespace Tv
open PySem PySem.Spec PyProof.Rows L2
theorem walk_ofG {l : PySem.W.OpenLaw} {n k : Nat} {q : Program} {loose : List Str} {XP : (Str → Option Value) → Heap → Prop} {YP : World → Heap → Prop} {d : DefRec} {x : Str}
    (hn : l.most = some n) (hn2 : n ≤ sizeLine) (hdf : d.params.defaults = []) (hr : Room k callerA)
    (F : ∀ (w : World) (mg : Str → Option Value) (fa : Addr) (h : Heap), YP w h → h.Ns mainGlobals mg → mg d.name = some (.ref fa) →
      ∃ (K : PySem.W.Frag) (fd : FuncData) (run : List D → Option (Sl × D)), K.In h ∧ (∀ (s : Shared) (u : Value), BindsTo s fd ⟨[u], []⟩ [(x, u)]) ∧ (∀ ns : List Int, ns.length ≤ n → run [.list (ns.map .int)] = some (.dp (.bool true), .none)) ∧
        ∀ base : Heap, K.In base → base.Ns mainGlobals mg → FnG l.prog w K mg base k fa fd [x] (spT K false run)) :
    PySem.W.WalkO q loose XP YP l.row.toRowW d [] (fun f vs => PySem.call f vs) := by
  refine Att.attach_call hn hdf fun w s₀ s₁ mg mb fa o pm cd doc a vs ns G Y ho hd hcd hmg hobj hints hlen hg => ?_
  obtain ⟨K, fd, run, KX, hb, hrun, hF⟩ := F w mg fa _ Y G.T.g hmg
  exact lawG KX G.T.g G.T.b G.T.builtins G.T.nolimit hg hobj hints (Nat.le_trans hlen hn2) hr hF hb (hrun ns hlen)
theorem law_fn {P : Program} {w : World} {K : PySem.W.Frag} {mg : Str → Option Value} {T : Tbl} {fs : List (Str × Nat)} {wf k : Nat} (hD : DictR) (E : Facts K mg T fs) {x : Str} {id : Nat} {st : Stmt} {f : Addr} {fd : FuncData} {N ps : List Str} {d : FDef} (h1 : T id = some d) (h2 : FunD K x x (defArgs st) (defBody st) (defScope st) [] [] f fd)
    (h5 : C8.scC N ps (defScope st) = true) (h6 : ps.length = d.np) (h7 : N.length = d.ns) (h8 : chkSs (mutOf T) ⟨N, defScope st, fun _ => true, fs⟩ d.body (defBody st) = true) (base : Heap) : FnG P w K mg base (k + 1) f fd ps (spT K (mutOf T id) (sem T wf (k + 1) id)) := by
  have es : sem T wf (k + 1) id = runF (mutOf T) (sem T wf k) wf d := by
    funext ds
    show (match T id with
      | some fd => runF (mutOf T) (sem T wf k) wf fd ds
      | none => none) = _
    rw [h1]
  have em : mutOf T id = d.mu := by
    unfold mutOf
    rw [h1]
  rw [es, em]
  have sc := C8.fnScope_by h5
  refine fnG_of h2 sc h6 h7 fun cdv A outer s H hroom hg => ?_
  refine sndSs (mf := mutOf T) (Φ := sem T wf k) (k := k) hD (c := ⟨N, defScope st, fun _ => true, fs⟩) ?_ d.body (defBody st) h8
  exact ⟨rfl, sc.nd, rfl, rfl, sc.kind, rfl, hroom, hg, rfl, E.blt, fun y id' hy => allG hD E k y id' hy⟩
theorem lookup_mem {x : Str} {id : Nat} : ∀ {l : List (Str × Nat)}, l.lookup x = some id → (x, id) ∈ l
  | [], h => by cases h
  | (y, j) :: l, h => by
    rw [List.lookup_cons] at h
    cases q : (x == y) with
    | true =>
      rw [q] at h
      cases h
      have : x = y := by simpa using q
      rw [this]; simp
    | false =>
      rw [q] at h
      exact List.mem_cons_of_mem _ (lookup_mem h)
/-- a def of the text: its name, number, place in the top, slots' names, how many of them are parameters -/
structure Ent where
  x : Str
  id : Nat
  i : Nat
  N : List Str
  np : Nat
def Ent.ps (e : Ent) : List Str := e.N.take e.np
def BindOk (a : Arguments) (ps : List Str) : Prop := ∀ (x q : Str) (body : List Stmt) (sc : Scope) (kV doc pm : Value) (an : Option Addr) (cdv ct : Value) (us : List Value), us.length = ps.length → bindArgs (PySem.W.fnOf x q a body sc .none kV doc pm an cdv ct) ⟨us, []⟩ = pure (ps.zip us)
def AllB (top : Nat → Stmt) : List Ent → Prop
  | [] => True
  | e :: r => BindOk (defArgs (top e.i)) e.ps ∧ AllB top r
theorem AllB.mem {top : Nat → Stmt} : ∀ {l : List Ent}, AllB top l → ∀ e ∈ l, BindOk (defArgs (top e.i)) e.ps
  | [], _, e, he => by simp at he
  | a :: l, h, e, he => by
    rcases List.mem_cons.mp he with rfl | he
    · exact h.1
    · exact AllB.mem h.2 e he
def Ent.ok (T : Tbl) (fs : List (Str × Nat)) (top : Nat → Stmt) (e : Ent) : Bool := match T e.id with
  | some d => C8.scC e.N e.ps (defScope (top e.i)) && decide (e.ps.length = d.np) && decide (e.N.length = d.ns) && chkSs (mutOf T) ⟨e.N, defScope (top e.i), fun _ => true, fs⟩ d.body (defBody (top e.i))
  | none => false
def entD (top : Nat → Stmt) (e : Ent) : He.DefD := ⟨(e.x, none), e.x, e.x, defArgs (top e.i), defBody (top e.i), defScope (top e.i), [], []⟩
/-- facts of the text's defs by the head's -/
theorem facts_of {T : Tbl} {fs : List (Str × Nat)} {top : Nat → Stmt} {ents : List Ent} {bl : List He.Fa} {K : PySem.W.Frag} {h : Heap} {mg : Str → Option Value} (X : K.In h) (G : h.Ns mainGlobals mg)
    (c : He.SaysD (ents.map (fun e => .glo e.x) ++ bl) (ents.map (entD top)) K) (hf : fs = ents.map fun e => (e.x, e.id)) (ok : (ents.all (Ent.ok T fs top)) = true) (hb : AllB top ents)
    (hbl : ∀ b ∈ (["isinstance", "len", "min", "max", "sum", "sorted", "repr", "range", "zip", "enumerate", "int", "bool", "tuple", "list", "str", "dict"] : List String), He.Fa.free (Str.ofString b) ∈ bl) : Facts K mg T fs := by
  have c1 := (He.ba (show ((ents.map (fun e => He.Fa.glo e.x) ++ bl).all (fun f => f.ok K) && (ents.map (entD top)).all (fun d => d.ok K)) = true from congrArg (fun z : He.AlD => z.1) c)).1
  have c2 := List.all_eq_true.mp c1
  refine ⟨fun x id hx => ?_, fun b hb' => He.free_ok X G (c2 _ (List.mem_append_right _ (hbl b hb')))⟩
  rw [hf] at hx
  obtain ⟨e, he, ee⟩ := List.mem_map.mp (lookup_mem hx)
  cases ee
  obtain ⟨i, hi⟩ := List.getElem?_of_mem he
  obtain ⟨fd, F⟩ := c.def_ i (d := entD top e) (by rw [List.getElem?_map, hi]; rfl)
  have o := List.all_eq_true.mp ok e he
  unfold Ent.ok at o
  cases ht : T e.id with
  | none => rw [ht] at o; cases o
  | some d =>
    rw [ht] at o
    simp only [Bool.and_eq_true, decide_eq_true_eq] at o
    obtain ⟨⟨⟨o1, o2⟩, o3⟩, o4⟩ := o
    refine ⟨top e.i, _, fd, e.N, e.ps, d, rfl, F, He.glo_ok X G (c2 _ (List.mem_append_left _ (List.mem_map.mpr ⟨e, he, rfl⟩))), ?_, o1, o2, o3, o4⟩
    exact FunD.bindsN F (hb.mem e he _ _ _ _)
end Tv
namespace Tv.B
open PySem PySem.Spec PyProof.Rows L2
def top (i : Nat) : Stmt := PySem.Challenge.pw_bestbeats_k75_nets_changed.main.body.getD i (.Pass ⟨0, 0, 0, 0⟩)
def ents0 : List Ent := [⟨Str.ofString "is_whole", 0, 8, n0, 1⟩, ⟨Str.ofString "is_between", 1, 9, n1, 3⟩, ⟨Str.ofString "check_number", 2, 10, n2, 3⟩, ⟨Str.ofString "is_road", 3, 11, n3, 2⟩, ⟨Str.ofString "is_net", 4, 12, n4, 1⟩, ⟨Str.ofString "check_net", 5, 13, n5, 1⟩, ⟨Str.ofString "is_standing", 6, 14, n6, 2⟩, ⟨Str.ofString "check_standing", 7, 15, n7, 2⟩, ⟨Str.ofString "is_house", 8, 16, n8, 2⟩, ⟨Str.ofString "check_house", 9, 17, n9, 2⟩, ⟨Str.ofString "neighbours_of", 10, 18, n10, 2⟩, ⟨Str.ofString "road_at", 11, 19, n11, 3⟩, ⟨Str.ofString "keys_many", 12, 20, n12, 3⟩, ⟨Str.ofString "keys_in", 13, 21, n13, 4⟩, ⟨Str.ofString "check_both", 14, 23, n14, 2⟩, ⟨Str.ofString "check_two", 15, 24, n15, 3⟩]
def ents1 : List Ent := [⟨Str.ofString "check_neighbours", 16, 25, n16, 3⟩, ⟨Str.ofString "check_new_road", 17, 26, n17, 5⟩, ⟨Str.ofString "is_end", 18, 27, n18, 2⟩, ⟨Str.ofString "are_ends", 19, 28, n19, 2⟩, ⟨Str.ofString "check_ends", 20, 29, n20, 2⟩, ⟨Str.ofString "of_rows", 21, 30, n21, 2⟩, ⟨Str.ofString "rows_of", 22, 31, n22, 2⟩, ⟨Str.ofString "row_of", 23, 32, n23, 4⟩, ⟨Str.ofString "without_road", 24, 33, n24, 4⟩, ⟨Str.ofString "with_road", 25, 34, n25, 6⟩, ⟨Str.ofString "with_keys", 26, 35, n26, 5⟩, ⟨Str.ofString "with_house", 27, 36, n27, 3⟩, ⟨Str.ofString "without_house", 28, 37, n28, 3⟩, ⟨Str.ofString "road_out", 29, 38, n29, 4⟩, ⟨Str.ofString "road_in", 30, 39, n30, 6⟩, ⟨Str.ofString "key_in", 31, 40, n31, 4⟩]
def ents2 : List Ent := [⟨Str.ofString "may_give", 32, 41, n32, 4⟩, ⟨Str.ofString "key_out", 33, 42, n33, 4⟩, ⟨Str.ofString "house_in", 34, 43, n34, 3⟩, ⟨Str.ofString "house_out", 35, 44, n35, 3⟩, ⟨Str.ofString "_law_hash", 36, 46, n36, 2⟩, ⟨Str.ofString "_law_random", 37, 47, n37, 2⟩, ⟨Str.ofString "_law_cell", 38, 48, n38, 2⟩, ⟨Str.ofString "_law_generator", 39, 49, n39, 2⟩, ⟨Str.ofString "_law_size", 40, 50, n40, 3⟩, ⟨Str.ofString "_law_same", 41, 51, n41, 2⟩, ⟨Str.ofString "_law_net", 42, 52, n42, 3⟩, ⟨Str.ofString "_law_told", 43, 53, n43, 2⟩, ⟨Str.ofString "_law_without", 44, 58, n44, 2⟩, ⟨Str.ofString "_law_roads_right", 45, 59, n45, 3⟩, ⟨Str.ofString "_law_right", 46, 60, n46, 1⟩, ⟨Str.ofString "law", 47, 61, n47, 1⟩]
def ents : List Ent := ents0 ++ ents1 ++ ents2
def eLaw : Ent := ⟨Str.ofString "law", 47, 61, n47, 1⟩
def bl : List He.Fa := [.free (Str.ofString "isinstance"), .free (Str.ofString "len"), .free (Str.ofString "min"), .free (Str.ofString "max"), .free (Str.ofString "sum"), .free (Str.ofString "sorted"), .free (Str.ofString "repr"), .free (Str.ofString "range"), .free (Str.ofString "zip"), .free (Str.ofString "enumerate"), .free (Str.ofString "int"), .free (Str.ofString "bool"), .free (Str.ofString "tuple"), .free (Str.ofString "list"), .free (Str.ofString "str"), .free (Str.ofString "dict")]
def loose0 : List PySem.Str := ["__name__", "RoadError", "InvalidNumber", "InvalidNet", "InvalidStanding", "InvalidHouse", "InvalidHouses", "is_whole", "is_between", "check_number", "is_road", "is_net", "check_net", "is_standing", "check_standing", "is_house", "check_house", "neighbours_of", "road_at", "keys_many", "keys_in", "check_both", "check_two", "check_neighbours", "check_new_road", "is_end", "are_ends", "check_ends", "of_rows", "rows_of"]
def loose1 : List PySem.Str := ["row_of", "without_road", "with_road", "with_keys", "with_house", "without_house", "road_out", "road_in", "key_in", "may_give", "key_out", "house_in", "house_out", "_law_hash", "_law_random", "_law_cell", "_law_generator", "_law_size", "_law_same", "_law_net", "_law_told", "_law_rings", "_law_lengths", "_law_can", "_law_worked", "_law_without", "_law_roads_right", "_law_right"]
def loose : List PySem.Str := loose0 ++ loose1
theorem bind8 : BindOk (defArgs (top 8)) [Str.ofString "value"] := fun _ _ _ _ _ _ _ _ _ _ us hl => match us, hl with | [_], _ => rfl
theorem bind9 : BindOk (defArgs (top 9)) [Str.ofString "value", Str.ofString "low", Str.ofString "high"] := fun _ _ _ _ _ _ _ _ _ _ us hl => match us, hl with | [_, _, _], _ => rfl
theorem bind10 : BindOk (defArgs (top 10)) [Str.ofString "number", Str.ofString "low", Str.ofString "high"] := fun _ _ _ _ _ _ _ _ _ _ us hl => match us, hl with | [_, _, _], _ => rfl
theorem bind11 : BindOk (defArgs (top 11)) [Str.ofString "houses", Str.ofString "value"] := fun _ _ _ _ _ _ _ _ _ _ us hl => match us, hl with | [_, _], _ => rfl
theorem bind12 : BindOk (defArgs (top 12)) [Str.ofString "value"] := fun _ _ _ _ _ _ _ _ _ _ us hl => match us, hl with | [_], _ => rfl
theorem bind13 : BindOk (defArgs (top 13)) [Str.ofString "net"] := fun _ _ _ _ _ _ _ _ _ _ us hl => match us, hl with | [_], _ => rfl
theorem bind14 : BindOk (defArgs (top 14)) [Str.ofString "net", Str.ofString "value"] := fun _ _ _ _ _ _ _ _ _ _ us hl => match us, hl with | [_, _], _ => rfl
theorem bind15 : BindOk (defArgs (top 15)) [Str.ofString "net", Str.ofString "standing"] := fun _ _ _ _ _ _ _ _ _ _ us hl => match us, hl with | [_, _], _ => rfl
theorem bind16 : BindOk (defArgs (top 16)) [Str.ofString "net", Str.ofString "value"] := fun _ _ _ _ _ _ _ _ _ _ us hl => match us, hl with | [_, _], _ => rfl
theorem bind17 : BindOk (defArgs (top 17)) [Str.ofString "net", Str.ofString "house"] := fun _ _ _ _ _ _ _ _ _ _ us hl => match us, hl with | [_, _], _ => rfl
theorem bind18 : BindOk (defArgs (top 18)) [Str.ofString "net", Str.ofString "house"] := fun _ _ _ _ _ _ _ _ _ _ us hl => match us, hl with | [_, _], _ => rfl
theorem bind19 : BindOk (defArgs (top 19)) [Str.ofString "net", Str.ofString "one", Str.ofString "other"] := fun _ _ _ _ _ _ _ _ _ _ us hl => match us, hl with | [_, _, _], _ => rfl
theorem bind20 : BindOk (defArgs (top 20)) [Str.ofString "net", Str.ofString "one", Str.ofString "other"] := fun _ _ _ _ _ _ _ _ _ _ us hl => match us, hl with | [_, _, _], _ => rfl
theorem bind21 : BindOk (defArgs (top 21)) [Str.ofString "net", Str.ofString "standing", Str.ofString "one", Str.ofString "other"] := fun _ _ _ _ _ _ _ _ _ _ us hl => match us, hl with | [_, _, _, _], _ => rfl
theorem bind23 : BindOk (defArgs (top 23)) [Str.ofString "net", Str.ofString "standing"] := fun _ _ _ _ _ _ _ _ _ _ us hl => match us, hl with | [_, _], _ => rfl
theorem bind24 : BindOk (defArgs (top 24)) [Str.ofString "net", Str.ofString "u", Str.ofString "v"] := fun _ _ _ _ _ _ _ _ _ _ us hl => match us, hl with | [_, _, _], _ => rfl
theorem bind25 : BindOk (defArgs (top 25)) [Str.ofString "net", Str.ofString "u", Str.ofString "v"] := fun _ _ _ _ _ _ _ _ _ _ us hl => match us, hl with | [_, _, _], _ => rfl
theorem bind26 : BindOk (defArgs (top 26)) [Str.ofString "net", Str.ofString "u", Str.ofString "v", Str.ofString "at_u", Str.ofString "at_v"] := fun _ _ _ _ _ _ _ _ _ _ us hl => match us, hl with | [_, _, _, _, _], _ => rfl
theorem bind27 : BindOk (defArgs (top 27)) [Str.ofString "net", Str.ofString "value"] := fun _ _ _ _ _ _ _ _ _ _ us hl => match us, hl with | [_, _], _ => rfl
theorem bind28 : BindOk (defArgs (top 28)) [Str.ofString "net", Str.ofString "value"] := fun _ _ _ _ _ _ _ _ _ _ us hl => match us, hl with | [_, _], _ => rfl
theorem bind29 : BindOk (defArgs (top 29)) [Str.ofString "net", Str.ofString "ends"] := fun _ _ _ _ _ _ _ _ _ _ us hl => match us, hl with | [_, _], _ => rfl
theorem bind30 : BindOk (defArgs (top 30)) [Str.ofString "houses", Str.ofString "rows"] := fun _ _ _ _ _ _ _ _ _ _ us hl => match us, hl with | [_, _], _ => rfl
theorem bind31 : BindOk (defArgs (top 31)) [Str.ofString "net", Str.ofString "standing"] := fun _ _ _ _ _ _ _ _ _ _ us hl => match us, hl with | [_, _], _ => rfl
theorem bind32 : BindOk (defArgs (top 32)) [Str.ofString "u", Str.ofString "v", Str.ofString "at_u", Str.ofString "at_v"] := fun _ _ _ _ _ _ _ _ _ _ us hl => match us, hl with | [_, _, _, _], _ => rfl
theorem bind33 : BindOk (defArgs (top 33)) [Str.ofString "net", Str.ofString "standing", Str.ofString "u", Str.ofString "v"] := fun _ _ _ _ _ _ _ _ _ _ us hl => match us, hl with | [_, _, _, _], _ => rfl
theorem bind34 : BindOk (defArgs (top 34)) [Str.ofString "net", Str.ofString "standing", Str.ofString "u", Str.ofString "v", Str.ofString "at_u", Str.ofString "at_v"] := fun _ _ _ _ _ _ _ _ _ _ us hl => match us, hl with | [_, _, _, _, _, _], _ => rfl
theorem bind35 : BindOk (defArgs (top 35)) [Str.ofString "net", Str.ofString "standing", Str.ofString "u", Str.ofString "v", Str.ofString "more"] := fun _ _ _ _ _ _ _ _ _ _ us hl => match us, hl with | [_, _, _, _, _], _ => rfl
theorem bind36 : BindOk (defArgs (top 36)) [Str.ofString "net", Str.ofString "standing", Str.ofString "ends"] := fun _ _ _ _ _ _ _ _ _ _ us hl => match us, hl with | [_, _, _], _ => rfl
theorem bind37 : BindOk (defArgs (top 37)) [Str.ofString "net", Str.ofString "standing", Str.ofString "house"] := fun _ _ _ _ _ _ _ _ _ _ us hl => match us, hl with | [_, _, _], _ => rfl
theorem bind38 : BindOk (defArgs (top 38)) [Str.ofString "net", Str.ofString "standing", Str.ofString "u", Str.ofString "v"] := fun _ _ _ _ _ _ _ _ _ _ us hl => match us, hl with | [_, _, _, _], _ => rfl
theorem bind39 : BindOk (defArgs (top 39)) [Str.ofString "net", Str.ofString "standing", Str.ofString "u", Str.ofString "v", Str.ofString "at_u", Str.ofString "at_v"] := fun _ _ _ _ _ _ _ _ _ _ us hl => match us, hl with | [_, _, _, _, _, _], _ => rfl
theorem bind40 : BindOk (defArgs (top 40)) [Str.ofString "net", Str.ofString "standing", Str.ofString "u", Str.ofString "v"] := fun _ _ _ _ _ _ _ _ _ _ us hl => match us, hl with | [_, _, _, _], _ => rfl
theorem bind41 : BindOk (defArgs (top 41)) [Str.ofString "net", Str.ofString "standing", Str.ofString "u", Str.ofString "v"] := fun _ _ _ _ _ _ _ _ _ _ us hl => match us, hl with | [_, _, _, _], _ => rfl
theorem bind42 : BindOk (defArgs (top 42)) [Str.ofString "net", Str.ofString "standing", Str.ofString "u", Str.ofString "v"] := fun _ _ _ _ _ _ _ _ _ _ us hl => match us, hl with | [_, _, _, _], _ => rfl
theorem bind43 : BindOk (defArgs (top 43)) [Str.ofString "net", Str.ofString "standing", Str.ofString "ends"] := fun _ _ _ _ _ _ _ _ _ _ us hl => match us, hl with | [_, _, _], _ => rfl
theorem bind44 : BindOk (defArgs (top 44)) [Str.ofString "net", Str.ofString "standing", Str.ofString "house"] := fun _ _ _ _ _ _ _ _ _ _ us hl => match us, hl with | [_, _, _], _ => rfl
theorem bind46 : BindOk (defArgs (top 46)) [Str.ofString "seed", Str.ofString "index"] := fun _ _ _ _ _ _ _ _ _ _ us hl => match us, hl with | [_, _], _ => rfl
theorem bind47 : BindOk (defArgs (top 47)) [Str.ofString "generator", Str.ofString "bound"] := fun _ _ _ _ _ _ _ _ _ _ us hl => match us, hl with | [_, _], _ => rfl
theorem bind48 : BindOk (defArgs (top 48)) [Str.ofString "script", Str.ofString "index"] := fun _ _ _ _ _ _ _ _ _ _ us hl => match us, hl with | [_, _], _ => rfl
theorem bind49 : BindOk (defArgs (top 49)) [Str.ofString "script", Str.ofString "index"] := fun _ _ _ _ _ _ _ _ _ _ us hl => match us, hl with | [_, _], _ => rfl
theorem bind50 : BindOk (defArgs (top 50)) [Str.ofString "generator", Str.ofString "least", Str.ofString "most"] := fun _ _ _ _ _ _ _ _ _ _ us hl => match us, hl with | [_, _, _], _ => rfl
theorem bind51 : BindOk (defArgs (top 51)) [Str.ofString "one_told", Str.ofString "other_told"] := fun _ _ _ _ _ _ _ _ _ _ us hl => match us, hl with | [_, _], _ => rfl
theorem bind52 : BindOk (defArgs (top 52)) [Str.ofString "generator", Str.ofString "houses", Str.ofString "most"] := fun _ _ _ _ _ _ _ _ _ _ us hl => match us, hl with | [_, _, _], _ => rfl
theorem bind53 : BindOk (defArgs (top 53)) [Str.ofString "houses", Str.ofString "keys"] := fun _ _ _ _ _ _ _ _ _ _ us hl => match us, hl with | [_, _], _ => rfl
theorem bind58 : BindOk (defArgs (top 58)) [Str.ofString "keys", Str.ofString "house"] := fun _ _ _ _ _ _ _ _ _ _ us hl => match us, hl with | [_, _], _ => rfl
theorem bind59 : BindOk (defArgs (top 59)) [Str.ofString "generator", Str.ofString "houses", Str.ofString "keys"] := fun _ _ _ _ _ _ _ _ _ _ us hl => match us, hl with | [_, _, _], _ => rfl
theorem bind60 : BindOk (defArgs (top 60)) [Str.ofString "generator"] := fun _ _ _ _ _ _ _ _ _ _ us hl => match us, hl with | [_], _ => rfl
theorem bind61 : BindOk (defArgs (top 61)) [Str.ofString "script"] := fun _ _ _ _ _ _ _ _ _ _ us hl => match us, hl with | [_], _ => rfl
theorem binds : AllB top ents := ⟨bind8, bind9, bind10, bind11, bind12, bind13, bind14, bind15, bind16, bind17, bind18, bind19, bind20, bind21, bind23, bind24, bind25, bind26, bind27, bind28, bind29, bind30, bind31, bind32, bind33, bind34, bind35, bind36, bind37, bind38, bind39, bind40, bind41, bind42, bind43, bind44, bind46, bind47, bind48, bind49, bind50, bind51, bind52, bind53, bind58, bind59, bind60, bind61, trivial⟩
theorem ents_fs : fs = ents.map fun e => (e.x, e.id) := by kernel_rfl
theorem ents_ok : (ents.all (Ent.ok T fs top)) = true := by kernel_rfl
abbrev R : PySem.W.OpenRow := PySem.W.OpenLaw.row PySem.Challenge.rw_bestbeats_k75_nets_changed
def fa : List He.Fa := ents.map (fun e => .glo e.x) ++ bl
def fn : List He.DefD := ents.map (entD top)
abbrev hk : PySem.W.Hook := He.hookD 4 fa fn
def ob (s : PySem.W.SharedT) : He.AlD := He.obsDG 4 fa fn (HandSHeadRun.getT s)
theorem ob_eq (s : PySem.W.SharedT) : ob s = hk.obs s.abs := He.obsDG_eq (HandSHeadRun.getT_eq s)
theorem run (w : World) : HandSHeadRun.RunEq R (PySem.W.view R.prog [61]) hk ob 20000 loose w := by
  intro os
  kernel_rfl
end Tv.B
open PySem PySem.W PySem.Calls PyProof.Rows
theorem PySem.Challenge.cw_bestbeats_k75_nets_changed_holds : PySem.Challenge.rw_bestbeats_k75_nets_changed.Holds := by
  w_on; o_law
  refine HandSHeadRun.head_any (r := OpenLaw.row PySem.Challenge.rw_bestbeats_k75_nets_changed) (q := view (OpenLaw.row PySem.Challenge.rw_bestbeats_k75_nets_changed).prog [61]) (H := Tv.B.hk) (ob := Tv.B.ob) (M := 20000) (loose := Tv.B.loose) (d := HandSHeadRun.topDef (OpenLaw.row PySem.Challenge.rw_bestbeats_k75_nets_changed).prog 61) (kwd := []) Tv.B.ob_eq
    (by kernel_rfl) (fun s => by kernel_rfl) Tv.B.run (by kernel_rfl) (by kernel_rfl) (by kernel_rfl) (by rfl) (by first | assumption | decide +kernel) (by decide +kernel) ⟨rfl, rfl, rfl, rfl, rfl, by decide +kernel⟩ ?hw ?hc
  case hw => w_witness2
  case hc =>
    refine Tv.walk_ofG (l := PySem.Challenge.rw_bestbeats_k75_nets_changed) (n := 63) (k := 30) (x := "script") rfl (by decide) (by kernel_rfl) ⟨rfl, by decide, by decide⟩ ?F
    intro w mg fa h Y G hmg0
    obtain ⟨K, KX, c⟩ := Y
    have hmg : mg (PySem.Str.ofString "law") = some (.ref fa) := by
      have e : (HandSHeadRun.topDef (OpenLaw.row PySem.Challenge.rw_bestbeats_k75_nets_changed).prog 61).name = PySem.Str.ofString "law" := by kernel_rfl
      rw [← e]
      exact hmg0
    have E := fun (base : Heap) (X : K.In base) (G' : base.Ns mainGlobals mg) => Tv.facts_of (T := Tv.B.T) (fs := Tv.B.fs) X G' c Tv.B.ents_fs Tv.B.ents_ok Tv.B.binds (by
      intro b hb
      simp only [List.mem_cons, List.not_mem_nil, or_false] at hb
      rcases hb with rfl | rfl | rfl | rfl | rfl | rfl | rfl | rfl | rfl | rfl | rfl | rfl | rfl | rfl | rfl | rfl <;> simp [Tv.B.bl])
    obtain ⟨fd, F⟩ := He.SaysD.def_ c 47 (d := Tv.entD Tv.B.top Tv.B.eLaw) rfl
    have o := List.all_eq_true.mp Tv.B.ents_ok Tv.B.eLaw (List.mem_of_getElem? (i := 47) rfl)
    have o' : (C8.scC Tv.B.eLaw.N Tv.B.eLaw.ps (L2.defScope (Tv.B.top Tv.B.eLaw.i)) && decide (Tv.B.eLaw.ps.length = Tv.B.f47.np) && decide (Tv.B.eLaw.N.length = Tv.B.f47.ns) && Tv.chkSs (Tv.mutOf Tv.B.T) ⟨Tv.B.eLaw.N, L2.defScope (Tv.B.top Tv.B.eLaw.i), fun _ => true, Tv.B.fs⟩ Tv.B.f47.body (L2.defBody (Tv.B.top Tv.B.eLaw.i))) = true := o
    simp only [Bool.and_eq_true, decide_eq_true_eq] at o'
    obtain ⟨⟨⟨o1, o2⟩, o3⟩, o4⟩ := o'
    have mgl := He.glo_ok KX G (List.all_eq_true.mp (He.ba (show ((Tv.B.fa).all (fun f => f.ok K) && (Tv.B.fn).all (fun d => d.ok K)) = true from congrArg (fun z : He.AlD => z.1) c)).1 (He.Fa.glo (PySem.Str.ofString "law")) (List.mem_of_getElem? (i := 47) rfl))
    have ef := hmg.symm.trans mgl
    cases ef
    refine ⟨K, fd, Tv.sem Tv.B.T 1 30 47, KX, fun s u => L2.FunD.bindsA (ps := [PySem.Str.ofString "script"]) F (Tv.B.bind61 _ _ _ _) s [u] rfl, fun ns _ => Tv.B.s47 ns, fun base X G' => ?_⟩
    have F' : L2.FunD K (PySem.Str.ofString "law") (PySem.Str.ofString "law") (L2.defArgs (Tv.B.top Tv.B.eLaw.i)) (L2.defBody (Tv.B.top Tv.B.eLaw.i)) (L2.defScope (Tv.B.top Tv.B.eLaw.i)) [] [] (He.ga K (PySem.Str.ofString "law")) fd := F
    exact Tv.law_fn (k := 29) (id := 47) (T := Tv.B.T) (fs := Tv.B.fs) (wf := 1) (st := Tv.B.top Tv.B.eLaw.i) (N := Tv.B.eLaw.N) (ps := Tv.B.eLaw.ps) (d := Tv.B.f47) Tv.dictR (E base X G') rfl F' o1 o2 o3 o4 base
