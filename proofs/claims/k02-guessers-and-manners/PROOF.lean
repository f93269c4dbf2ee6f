import PyProof.Rows.All
import Wide.All
import OpenK.AllK
import Wide.FinOn
import HandS.ForMost
import HandS.ForExc
import HandS.Deep
import HandS.TupAny
import HandS.TupMul
import HandS.IsInst
import HandS.Wide
import HandS.Style
import HandS.TupLe
import HandS.Zip
import HandS.Strs
import HandS.Lambda
import HandS.Head2
import HandS.HeadHook2
import HandS.HeadEnd
import HandS.Flow
import HandS.TupSets
import KE.DataEq
import HandS.SetFor
import HandS.Conv
import KE.GoesMore
import HandS.HeadHook3
import HandS.HeadHook4
import PySem.Challenge.RW_fillhandles_k02_guessers_and_manners
set_option Elab.async false
set_option linter.all false
set_option maxRecDepth 100000
set_option maxHeartbeats 0
/-! A small language over plain data: its syntax and its run. -/
namespace Z
open PySem

/-- a value: plain data; a list that may be changed, by its place in the store; a list that is read alone -/
inductive Val where
  | d (x : PyData)
  | r (n : Nat)
  | s (xs : List PyData)
/-- what stands at a place of the store -/
inductive SE where
  | lst (xs : List PyData)
  | gone
abbrev Sto := List SE
/-- how a run ends: a value, an exception of a class, or nothing is said -/
inductive R (α : Type) where
  | ok (a : α) (S : Sto)
  | ex (c : Str) (S : Sto)
  | no
def R.bind {α β : Type} (x : R α) (f : α → Sto → R β) : R β := match x with
  | .ok a S => f a S
  | .ex c S => .ex c S
  | .no => .no
abbrev Env := List (Option Val)

inductive Op2 where
  | add | sub | mul | fdiv | mod | pow
  deriving DecidableEq
inductive CO where
  | eq | ne | lt | le | gt | ge | is | isn | in_ | nin
  deriving DecidableEq
inductive BI where
  | len | abs | sum | all | max | min | int | str | bool | tuple | list
  deriving DecidableEq
inductive TY where
  | int | bool | str | tuple | list
  deriving DecidableEq
/-- what a loop walks -/
inductive IK where
  | seq | range | enum | zip
  deriving DecidableEq
/-- a target: one name, or several out of a tuple -/
inductive Tg where
  | one (i : Nat)
  | many (is : List Nat)
  deriving DecidableEq

/-- further operations by values -/
inductive XO where
  | mlist | lrange | madd | mmul
  | ddix (t : List (Str × PyData))
/-- methods with one argument -/
inductive MO where
  | index | join | split
inductive LE where
  | var (i : Nat)
  | frz (i : Nat)
  | lit (d : PyData)
  | glo (x : Str) (d : PyData)
  | neg (a : LE)
  | bin (o : Op2) (a b : LE)
  | cmp (o : CO) (a b : LE)
  | chain (o p : CO) (a b c : LE)
  | and (a b : LE)
  | or (a b : LE)
  | not (a : LE)
  | ite (c a b : LE)
  | tup (es : List LE)
  | lst (m : Bool) (es : List LE)
  | ix (a i : LE)
  | sl (a : LE) (lo hi : Option LE)
  | call (f : Nat) (es : List LE)
  | bi (b : BI) (es : List LE)
  | isi (a : LE) (t : TY)
  | comp (m : Bool) (k : IK) (args : List LE) (tg : Tg) (own : List Nat) (cond : Option LE) (elt : LE)
  | lenset (a : LE)
  | dix (x : Str) (t : List (Str × PyData)) (i : LE)
  | din (x : Str) (t : List (Str × PyData)) (a : LE)
  | dnin (x : Str) (t : List (Str × PyData)) (a : LE)
  | ext (o : XO) (es : List LE)
  | meth (m : MO) (a b : LE)
  | slst (a : LE) (lo hi : Option LE) (st : LE)
  | comp2 (m : Bool) (k : IK) (args : List LE) (tg : Tg) (cond : Option LE) (k1 : IK) (args1 : List LE) (tg1 : Tg) (own1 : List Nat) (cond1 : Option LE) (own : List Nat) (elt : LE)

inductive LS where
  | asg (i : Nat) (e : LE)
  | asgT (is : List Nat) (es : List LE)
  | unp (is : List Nat) (e : LE)
  | setix (o i e : LE)
  | app (o e : LE)
  | aug (i : Nat) (o : Op2) (e : LE)
  | exp (e : LE)
  | ret (e : LE)
  | ite (c : LE) (a b : List LS)
  | for (k : IK) (args : List LE) (tg : Tg) (body : List LS)
  | whil (c : LE) (body : List LS)
  | raise (c : Str)
  | brk
  | cont
  | pass

/-! ### operations on data -/
abbrev lim : Nat := 1000000
def fitM (i : Int) : Bool := decide (i.natAbs.log2 < 100000)
def fitD (i : Int) : Bool := decide (i.natAbs.log2 < 8000)
/-- the data of a value: a list that may be changed, as it stands -/
def toD (v : Val) (S : Sto) : Option PyData := match v with
  | .d x => some x
  | .r n => match S[n]? with
    | some (.lst xs) => some (.list xs)
    | _ => none
  | .s _ => none
def binD (o : Op2) (x y : PyData) : Option PyData := match o, x, y with
  | .add, .int i, .int j => some (.int (i + j))
  | .add, .str s, .str t => if s.cps.size + t.cps.size ≤ lim then some (.str ⟨s.cps ++ t.cps⟩) else none
  | .add, .tuple xs, .tuple ys => if xs.length + ys.length ≤ lim then some (.tuple (xs ++ ys)) else none
  | .add, .list xs, .list ys => if xs.length + ys.length ≤ lim then some (.list (xs ++ ys)) else none
  | .sub, .int i, .int j => some (.int (i - j))
  | .mul, .int i, .int j => if fitM i && fitM j then some (.int (i * j)) else none
  | .mul, .tuple xs, .int k => if xs.length ≤ 1000 ∧ 2 ≤ k ∧ k ≤ 1000 ∧ xs.isEmpty = false then some (.tuple (List.replicate k.toNat xs).flatten) else none
  | .mul, .list xs, .int k => if xs.length ≤ 1000 ∧ 0 ≤ k ∧ k ≤ 1000 then some (.list (List.replicate k.toNat xs).flatten) else none
  | .fdiv, .int i, .int j => if j ≠ 0 ∧ fitD j = true then some (.int (i.fdiv j)) else none
  | .mod, .int i, .int j => if j ≠ 0 then some (.int (i.fmod j)) else none
  | .pow, .int i, .int j => if 0 ≤ j ∧ j ≤ 1000 ∧ i.natAbs < 2 ^ 64 then some (.int (i ^ j.toNat)) else none
  | _, _, _ => none
/-- the pairs that == tells apart at once -/
def scalD : PyData → PyData → Bool
  | .none, .none => true | .none, .int _ => true | .int _, .none => true | .none, .bool _ => true | .bool _, .none => true | .none, .str _ => true | .str _, .none => true
  | .int _, .int _ => true | .bool _, .bool _ => true | .str _, .str _ => true
  | .int _, .str _ => true | .str _, .int _ => true | .bool _, .str _ => true | .str _, .bool _ => true
  | _, _ => false
def eqD (x y : PyData) : Option Bool := if scalD x y then some (PyData.eqv x y) else if SeqAt.shaped x && SeqAt.shaped y then some (PyData.eqv x y) else none
def isNone : PyData → Bool
  | .none => true
  | _ => false
def inD (x : PyData) (y : PyData) : Option Bool := match x, y with
  | .str s, .str t => match s.cps.toList with
    | [c] => some (decide (c ∈ t.cps.toList))
    | _ => none
  | x, .list ys => if SeqAt.shaped x && SeqAt.shaped (.list ys) then some (ys.any fun z => PyData.eqv z x) else none
  | x, .tuple ys => if SeqAt.shaped x && SeqAt.shaped (.tuple ys) then some (ys.any fun z => PyData.eqv z x) else none
  | _, _ => none
def cmpD (o : CO) (x y : PyData) : Option Bool := match o with
  | .eq => eqD x y
  | .ne => (eqD x y).map (!·)
  | .lt => match x, y with | .int i, .int j => some (decide (i < j)) | _, _ => none
  | .le => match x, y with | .int i, .int j => some (decide (i ≤ j)) | _, _ => none
  | .gt => match x, y with | .int i, .int j => some (decide (j < i)) | _, _ => none
  | .ge => match x, y with | .int i, .int j => some (decide (j ≤ i)) | _, _ => none
  | .is => match x, y with | x, .none => some (isNone x) | .bool a, .bool b => some (decide (a = b)) | _, _ => none
  | .isn => match x, y with | x, .none => some (!isNone x) | .bool a, .bool b => some (!decide (a = b)) | _, _ => none
  | .in_ => inD x y
  | .nin => (inD x y).map (!·)
def ixD (x i : PyData) : Option PyData := match x, i with
  | .list xs, .int i => L2.atI xs i
  | .tuple xs, .int i => L2.atI xs i
  | .str z, .int i => if z.cps.size ≤ lim then (L2.atI z.cps.toList i).map fun c => .str ⟨#[c]⟩ else none
  | _, _ => none
def cut {α : Type} (xs : List α) (lo hi : Option Int) : List α := (xs.drop (HT.sIx xs.length 0 lo)).take (HT.sIx xs.length xs.length hi - HT.sIx xs.length 0 lo)
def slD (x : PyData) (lo hi : Option Int) : Option PyData := match x with
  | .list xs => some (.list (cut xs lo hi))
  | .tuple xs => some (.tuple (cut xs lo hi))
  | .str z => if z.cps.size ≤ lim then some (.str ⟨(cut z.cps.toList lo hi).toArray⟩) else none
  | _ => none
def intsOf : List PyData → Option (List Int)
  | [] => some []
  | .int i :: r => (intsOf r).map (i :: ·)
  | _ => none
def boolsOf : List PyData → Option (List Bool)
  | [] => some []
  | .bool i :: r => (boolsOf r).map (i :: ·)
  | _ => none
def maxL : List Int → Option Int
  | [] => none
  | i :: r => some (r.foldl (fun a b => if b > a then b else a) i)
def minL : List Int → Option Int
  | [] => none
  | i :: r => some (r.foldl (fun a b => if b < a then b else a) i)
def biD (b : BI) (xs : List PyData) : Option PyData := match b, xs with
  | .len, [.list ys] => some (.int ys.length)
  | .len, [.tuple ys] => some (.int ys.length)
  | .len, [.str z] => if z.cps.size ≤ lim then some (.int z.cps.size) else none
  | .abs, [.int i] => some (.int (if i < 0 then -i else i))
  | .sum, [.list ys] => (intsOf ys).map fun ns => .int ns.sum
  | .sum, [.tuple ys] => (intsOf ys).map fun ns => .int ns.sum
  | .all, [.list ys] => (boolsOf ys).map fun bs => .bool (bs.all id)
  | .max, [.int i, .int j] => some (.int (if j > i then j else i))
  | .max, [.list ys] => (intsOf ys).bind fun ns => (maxL ns).map .int
  | .max, [.tuple ys] => (intsOf ys).bind fun ns => (maxL ns).map .int
  | .min, [.int i, .int j] => some (.int (if j < i then j else i))
  | .min, [.list ys] => (intsOf ys).bind fun ns => (minL ns).map .int
  | .min, [.tuple ys] => (intsOf ys).bind fun ns => (minL ns).map .int
  | .int, [.int i] => some (.int i)
  | .int, [.bool b] => some (.int (if b then 1 else 0))
  | .bool, [.bool b] => some (.bool b)
  | .str, [.int i] => if i.natAbs.log2 < 1920 then some (.str (toString i)) else none
  | .tuple, [.list ys] => some (.tuple ys)
  | .tuple, [.tuple ys] => some (.tuple ys)
  | .tuple, [.str z] => if z.cps.size ≤ 1000 then some (.tuple (z.cps.toList.map fun c => .str ⟨#[c]⟩)) else none
  | .list, [.list ys] => some (.list ys)
  | .list, [.tuple ys] => some (.list ys)
  | _, _ => none
def isiD (t : TY) : PyData → Bool
  | .none => false
  | .bool _ => t == .bool || t == .int
  | .int _ => t == .int
  | .str _ => t == .str
  | .list _ => t == .list
  | .tuple _ => t == .tuple
  | .dict _ => false
def truD : PyData → Option Bool
  | .none => some false
  | .bool b => some b
  | .int i => some (i != 0)
  | .str y => if y.cps.size ≤ lim then some ((y.cps.size : Int) != 0) else none
  | .list xs => some (!xs.isEmpty)
  | .tuple xs => some (!xs.isEmpty)
  | .dict _ => none
/-- what a loop walks: its items -/
def rng (lo : Int) (n : Nat) : List PyData := (List.range n).map fun (k : Nat) => .int (lo + (k : Int))
def enumL : Nat → List PyData → List PyData
  | _, [] => []
  | i, x :: r => .tuple [.int i, x] :: enumL (i + 1) r
def zipL : List PyData → List PyData → List PyData
  | x :: xs, y :: ys => .tuple [x, y] :: zipL xs ys
  | _, _ => []
def smallI (i : Int) : Bool := decide (-1000000000000000000 ≤ i) && decide (i < 1000000000000000000)
def itSeq : List PyData → Option (List PyData)
  | [.list ys] => some ys
  | [.tuple ys] => some ys
  | [.str z] => if z.cps.size ≤ lim then some (z.cps.toList.map fun c => .str ⟨#[c]⟩) else none
  | _ => none
/-- a, a + c, .. (n of them) -/
def rngC (a c : Int) (n : Nat) : List PyData := (List.range n).map fun (k : Nat) => .int (a + (k : Int) * c)
def itRng : List PyData → Option (List PyData)
  | [.int n] => if smallI n then some (rng 0 n.toNat) else none
  | [.int a, .int b] => if smallI a && smallI b then some (rng a (b - a).toNat) else none
  | [.int a, .int b, .int c] => if smallI a && smallI b && c == -1 then some (rngC a c (a - b).toNat) else none
  | _ => none
def itEnm : List PyData → Option (List PyData)
  | [.list ys] => some (enumL 0 ys)
  | [.tuple ys] => some (enumL 0 ys)
  | _ => none
def itZip : List PyData → Option (List PyData)
  | [.list xs, .list ys] => some (zipL xs ys)
  | [.tuple xs, .tuple ys] => some (zipL xs ys)
  | _ => none
def itD (k : IK) (xs : List PyData) : Option (List PyData) := match k with
  | .seq => itSeq xs
  | .range => itRng xs
  | .enum => itEnm xs
  | .zip => itZip xs
def allD (S : Sto) : List Val → Option (List PyData)
  | [] => some []
  | v :: r => match toD v S, allD S r with
    | some x, some xs => some (x :: xs)
    | _, _ => none
/-- only what is data already -/
def plain : List Val → Option (List PyData)
  | [] => some []
  | .d x :: r => (plain r).map (x :: ·)
  | .r _ :: _ => none
  | .s _ :: _ => none
def setMany (ρ : Env) : List Nat → List PyData → Option Env
  | [], [] => some ρ
  | i :: is, x :: xs => setMany (ρ.set i (some (.d x))) is xs
  | _, _ => none
def bindTg (tg : Tg) (x : PyData) (ρ : Env) : Option Env := match tg with
  | .one i => some (ρ.set i (some (.d x)))
  | .many is => match x with
    | .tuple xs => setMany ρ is xs
    | _ => none
def wipeE (ρ : Env) : List Nat → Env
  | [] => ρ
  | v :: vs => (wipeE ρ vs).set v none
def lift {α : Type} (o : Option α) (S : Sto) : R α := match o with
  | some a => .ok a S
  | none => .no
def ret1 (m : Bool) (x : PyData) (S : Sto) : R Val := match m, x with
  | false, x => .ok (.d x) S
  | true, .list xs => .ok (.r S.length) (S ++ [.lst xs])
  | true, _ => .no
/-- the turns of a comprehension: what each gives (none: the item is left out) -/
def loopC (f : PyData → Sto → R (Option PyData)) : List PyData → List PyData → Sto → R (List PyData)
  | [], acc, S => .ok acc S
  | x :: r, acc, S => match f x S with
    | .ok none S' => loopC f r acc S'
    | .ok (some y) S' => if acc.length < lim then loopC f r (acc ++ [y]) S' else .no
    | .ex _ _ => .no
    | .no => .no
/-- the same, each turn a loop of its own -/
def loopA (f : PyData → List PyData → Sto → R (List PyData)) : List PyData → List PyData → Sto → R (List PyData)
  | [], acc, S => .ok acc S
  | x :: r, acc, S => match f x acc S with
    | .ok acc' S' => loopA f r acc' S'
    | .ex _ _ => .no
    | .no => .no
/-- the texts without those that came before -/
def dd (xs : List Str) : List Str := xs.foldl (fun acc x => if x ∈ acc then acc else acc ++ [x]) []
def strsOf : List PyData → Option (List Str)
  | [] => some []
  | .str s :: r => (strsOf r).map (s :: ·)
  | _ => none
mutual
/-- hashable here: numbers, texts, tuples of such -/
def okH : PyData → Bool
  | .int _ => true
  | .str _ => true
  | .tuple ds => okA ds
  | _ => false
def okA : List PyData → Bool
  | [] => true
  | d :: ds => okH d && okA ds
end
/-- a tuple of such, not too deep -/
def okT : PyData → Bool
  | .tuple ds => okA ds && decide (PyData.depth (.tuple ds) ≤ 8)
  | _ => false
/-- the data without those equal to one before -/
def ddD (xs : List PyData) : List PyData := xs.foldl (fun acc x => if acc.any (PyData.eqv x) then acc else acc ++ [x]) []
def lenS (x : PyData) : Option PyData := match x with
  | .tuple xs => match strsOf xs with
    | some ss => if ss.length ≤ 60 then some (.int (dd ss).length) else none
    | none => if xs.all okT && decide (xs.length < 60) then some (.int (ddD xs).length) else none
  | _ => none
/-- the first place -/
def idxD (x : PyData) : List PyData → Nat → Option Nat
  | [], _ => none
  | y :: r, i => if PyData.eqv y x then some i else idxD x r (i + 1)
/-- x[lo:hi:c] -/
def stepG {α : Type} (xs : List α) (lo hi : Option Int) (c : Int) : List α := (List.range (Builtin.Slice.slicePlaces (Builtin.Slice.sliceAdjust lo hi c xs.length).1 (Builtin.Slice.sliceAdjust lo hi c xs.length).2 c)).filterMap fun (k : Nat) => xs[((Builtin.Slice.sliceAdjust lo hi c xs.length).1 + (k : Int) * c).toNat]?
def xoD (o : XO) (xs : List PyData) : Option PyData := match o, xs with
  | .lrange, [.int n] => if 0 ≤ n ∧ n ≤ 1000000 then some (.list (rng 0 n.toNat)) else none
  | .ddix t, [.str z] => t.lookup z
  | _, _ => none
def asBool (v : Val) (S : Sto) : R Bool := match v with
  | .d (.bool b) => .ok b S
  | _ => .no

def okD (o : Option PyData) (S : Sto) : R Val := match o with
  | some x => .ok (.d x) S
  | none => .no
def negV (v : Val) (S : Sto) : R Val := match v with
  | .d (.int i) => .ok (.d (.int (-i))) S
  | _ => .no
def binV (o : Op2) (v w : Val) (S : Sto) : R Val := match toD v S, toD w S with
  | some x, some y => okD (binD o x y) S
  | _, _ => .no
def cmpV (o : CO) (v w : Val) (S : Sto) : R Bool := match toD v S, toD w S with
  | some x, some y => lift (cmpD o x y) S
  | _, _ => .no
def ixV (v w : Val) (S : Sto) : R Val := match w with
  | .d y => (match v with
    | .s xs => okD (ixD (.list xs) y) S
    | v => match toD v S with
      | some x => okD (ixD x y) S
      | none => .no)
  | _ => .no
def slV (v : Val) (l h : Option Int) (S : Sto) : R Val := match toD v S with
  | some x => okD (slD x l h) S
  | none => .no
def biV (b : BI) (vs : List Val) (S : Sto) : R Val := match b, vs with
  | .len, [.s xs] => .ok (.d (.int xs.length)) S
  | b, vs => match allD S vs with
    | some xs => okD (biD b xs) S
    | none => .no
def lenSV (v : Val) (S : Sto) : R Val := match v with
  | .d x => okD (lenS x) S
  | _ => .no
def dixV (t : List (Str × PyData)) (v : Val) (S : Sto) : R Val := match v with
  | .d (.str z) => okD (t.lookup z) S
  | _ => .no
def dinV (t : List (Str × PyData)) (v : Val) (S : Sto) : R Bool := match v with
  | .d (.str z) => .ok (t.lookup z).isSome S
  | _ => .no
/-- what a method is asked of -/
def preV (m : MO) (v : Val) (S : Sto) : R Unit := match m, v with
  | .index, .d (.list _) => .ok () S
  | .join, .d (.str _) => .ok () S
  | .split, .d (.str _) => .ok () S
  | _, _ => .no
def moD (m : MO) (x y : PyData) : Option PyData := match m, x, y with
  | .index, .list ys, y => if SeqAt.shaped (.list ys) && SeqAt.shaped y then (idxD y ys 0).map fun (i : Nat) => .int i else none
  | .join, .str a, .list ys => (strsOf ys).bind fun zs => if (zs.map (·.length)).sum + zs.length * a.length ≤ 1000000 then some (.str (Txt.join a zs)) else none
  | .join, .str a, .tuple ys => (strsOf ys).bind fun zs => if (zs.map (·.length)).sum + zs.length * a.length ≤ 1000000 then some (.str (Txt.join a zs)) else none
  | .split, .str a, .str b => if (b.length == 0) = false ∧ a.length ≤ 1000000 then some (.list ((Txt.split a b).map .str)) else none
  | _, _, _ => none
def moV (m : MO) (v w : Val) (S : Sto) : R Val := match v, toD w S with
  | .d x, some y => okD (moD m x y) S
  | _, _ => .no
def xoV (o : XO) (vs : List Val) (S : Sto) : R Val := match o with
  | .madd => (match allD S vs with
    | some [.list xs, .list ys] => if xs.length + ys.length ≤ lim then ret1 true (.list (xs ++ ys)) S else .no
    | _ => .no)
  | .mmul => (match allD S vs with
    | some [.list xs, .int k] => if xs.length ≤ 1000 ∧ 0 ≤ k ∧ k ≤ 1000 then ret1 true (.list (List.replicate k.toNat xs).flatten) S else .no
    | _ => .no)
  | .mlist => (match allD S vs with
    | some [.list ys] => ret1 true (.list ys) S
    | some [.tuple ys] => ret1 true (.list ys) S
    | _ => .no)
  | o => (match allD S vs with
    | some xs => okD (xoD o xs) S
    | none => .no)
def stpD (x : PyData) (lo hi c : Option Int) : Option PyData := match x, c with
  | .tuple ys, some c => if 2 ≤ c ∨ c = -1 then some (.tuple (stepG ys lo hi c)) else none
  | .list ys, some c => if lo = none ∧ hi = none ∧ c = -1 then some (.list ys.reverse) else none
  | _, _ => none
def stpV (v : Val) (lo hi c : Option Int) (S : Sto) : R Val := match toD v S with
  | some x => okD (stpD x lo hi c) S
  | none => .no
def isiV (t : TY) (v : Val) (S : Sto) : R Bool := match v with
  | .d x => .ok (isiD t x) S
  | _ => .no
def truV (v : Val) (S : Sto) : R Bool := match toD v S with
  | some x => lift (truD x) S
  | none => .no
def tupV (vs : List Val) (S : Sto) : R Val := match plain vs with
  | some xs => .ok (.d (.tuple xs)) S
  | none => .no
def lstV (m : Bool) (vs : List Val) (S : Sto) : R Val := match plain vs with
  | some xs => ret1 m (.list xs) S
  | none => .no
def dat1 (v : Val) (S : Sto) : R (Option PyData) := match v with
  | .d y => .ok (some y) S
  | _ => .no
def bV (b : Bool) (S : Sto) : R Val := .ok (.d (.bool b)) S
def itV (k : IK) (vs : List Val) (S : Sto) : R (List PyData) := match plain vs with
  | some xs => lift (itD k xs) S
  | none => .no
def onTg {α : Type} (tg : Tg) (x : PyData) (ρ : Env) (f : Env → R α) : R α := match bindTg tg x ρ with
  | some ρ' => f ρ'
  | none => .no
section
variable (C : Nat → List Val → Sto → R Val)
mutual
def evE : LE → Env → Sto → R Val
  | .var i, ρ, S => match ρ[i]? with
    | some (some v) => .ok v S
    | _ => .no
  | .frz i, ρ, S => match ρ[i]? with
    | some (some (.r n)) => match S[n]? with
      | some (.lst xs) => .ok (.d (.list xs)) (S.set n .gone)
      | _ => .no
    | _ => .no
  | .lit d, _, S => .ok (.d d) S
  | .glo _ d, _, S => .ok (.d d) S
  | .neg a, ρ, S => (evE a ρ S).bind negV
  | .bin o a b, ρ, S => (evE a ρ S).bind fun v S => (evE b ρ S).bind fun w S => binV o v w S
  | .cmp o a b, ρ, S => (evE a ρ S).bind fun v S => (evE b ρ S).bind fun w S => (cmpV o v w S).bind bV
  | .chain o p a b c, ρ, S => (evE a ρ S).bind fun v S => (evE b ρ S).bind fun w S => (cmpV o v w S).bind fun z S =>
      if z then (evE c ρ S).bind fun u S => (cmpV p w u S).bind bV else bV false S
  | .and a b, ρ, S => (evE a ρ S).bind fun v S => (asBool v S).bind fun x S => if x then evE b ρ S else bV false S
  | .or a b, ρ, S => (evE a ρ S).bind fun v S => (asBool v S).bind fun x S => if x then bV true S else evE b ρ S
  | .not a, ρ, S => (evE a ρ S).bind fun v S => (asBool v S).bind fun x S => bV (!x) S
  | .ite c a b, ρ, S => (evT c ρ S).bind fun x S => if x then evE a ρ S else evE b ρ S
  | .tup es, ρ, S => (evL es ρ S).bind tupV
  | .lst m es, ρ, S => (evL es ρ S).bind (lstV m)
  | .ix a i, ρ, S => (evE a ρ S).bind fun v S => (evE i ρ S).bind fun w S => ixV v w S
  | .sl a lo hi, ρ, S => (evE a ρ S).bind fun v S => (evP lo ρ S).bind fun l S => (evP hi ρ S).bind fun h S => slV v l h S
  | .call f es, ρ, S => (evL es ρ S).bind fun vs S => C f vs S
  | .bi b es, ρ, S => (evL es ρ S).bind fun vs S => biV b vs S
  | .isi a t, ρ, S => (evE a ρ S).bind fun v S => (isiV t v S).bind bV
  | .comp m k args tg own cond elt, ρ, S => (evL args ρ S).bind fun vs S => (itV k vs S).bind fun items S =>
      (loopC (fun x S => onTg tg x (wipeE ρ own) fun ρ' => (evO cond ρ' S).bind fun c S => if c then (evE elt ρ' S).bind dat1 else .ok none S) items [] S).bind fun ys S => ret1 m (.list ys) S
  | .lenset a, ρ, S => (evE a ρ S).bind lenSV
  | .dix _ t i, ρ, S => (evE i ρ S).bind (dixV t)
  | .din _ t a, ρ, S => (evE a ρ S).bind fun v S => (dinV t v S).bind bV
  | .dnin _ t a, ρ, S => (evE a ρ S).bind fun v S => (dinV t v S).bind fun b S => bV (!b) S
  | .slst a lo hi st, ρ, S => (evE a ρ S).bind fun v S => (evP lo ρ S).bind fun l S => (evP hi ρ S).bind fun h S => (evE st ρ S).bind fun c S => match c with
    | .d (.int c) => stpV v l h (some c) S
    | _ => .no
  | .ext o es, ρ, S => (evL es ρ S).bind (xoV o)
  | .meth m a b, ρ, S => (evE a ρ S).bind fun v S => (preV m v S).bind fun _ S => (evE b ρ S).bind fun w S => moV m v w S
  | .comp2 m k args tg cond k1 args1 tg1 own1 cond1 own elt, ρ, S => (evL args ρ S).bind fun vs S => (itV k vs S).bind fun items S =>
      (loopA (fun x acc S => onTg tg x (wipeE ρ own) fun ρ' => (evO cond ρ' S).bind fun c S => if c then (evL args1 ρ' S).bind fun vs S => (itV k1 vs S).bind fun items1 S =>
        loopC (fun x S => onTg tg1 x (wipeE ρ' own1) fun ρ2 => (evO cond1 ρ2 S).bind fun c S => if c then (evE elt ρ2 S).bind dat1 else .ok none S) items1 acc S else .ok acc S) items [] S).bind fun ys S => ret1 m (.list ys) S
def evT : LE → Env → Sto → R Bool
  | .and a b, ρ, S => (evT a ρ S).bind fun x S => if x then evT b ρ S else .ok false S
  | .or a b, ρ, S => (evT a ρ S).bind fun x S => if x then .ok true S else evT b ρ S
  | .not a, ρ, S => (evT a ρ S).bind fun x S => .ok (!x) S
  | .cmp o a b, ρ, S => (evE a ρ S).bind fun v S => (evE b ρ S).bind fun w S => cmpV o v w S
  | .chain o p a b c, ρ, S => (evE a ρ S).bind fun v S => (evE b ρ S).bind fun w S => (cmpV o v w S).bind fun z S =>
      if z then (evE c ρ S).bind fun u S => cmpV p w u S else .ok false S
  | .var i, ρ, S => match ρ[i]? with
    | some (some v) => truV v S
    | _ => .no
  | .call f es, ρ, S => (evL es ρ S).bind fun vs S => (C f vs S).bind truV
  | .bi b es, ρ, S => (evL es ρ S).bind fun vs S => (biV b vs S).bind truV
  | .isi a t, ρ, S => (evE a ρ S).bind fun v S => isiV t v S
  | .ix a i, ρ, S => (evE a ρ S).bind fun v S => (evE i ρ S).bind fun w S => (ixV v w S).bind truV
  | .din _ t a, ρ, S => (evE a ρ S).bind fun v S => dinV t v S
  | .dnin _ t a, ρ, S => (evE a ρ S).bind fun v S => (dinV t v S).bind fun b S => .ok (!b) S
  | _, _, _ => .no
def evL : List LE → Env → Sto → R (List Val)
  | [], _, S => .ok [] S
  | e :: es, ρ, S => (evE e ρ S).bind fun v S => (evL es ρ S).bind fun vs S => .ok (v :: vs) S
def evP : Option LE → Env → Sto → R (Option Int)
  | none, _, S => .ok none S
  | some e, ρ, S => (evE e ρ S).bind fun v S => match v with
    | .d (.int i) => .ok (some i) S
    | _ => .no
def evO : Option LE → Env → Sto → R Bool
  | none, _, S => .ok true S
  | some e, ρ, S => evT e ρ S
end

inductive Fl where
  | nx (ρ : Env)
  | ret (v : Val)
  | bk (ρ : Env)
  | ct (ρ : Env)
/-- the turns of a loop -/
def loopF (f : PyData → Env → Sto → R Fl) : List PyData → Env → Sto → R Fl
  | [], ρ, S => .ok (.nx ρ) S
  | x :: r, ρ, S => (f x ρ S).bind fun fl S => match fl with
    | .nx ρ => loopF f r ρ S
    | .ct ρ => loopF f r ρ S
    | .bk ρ => .ok (.nx ρ) S
    | .ret v => .ok (.ret v) S
/-- a while: at most so many turns -/
def loopW (c : Env → Sto → R Bool) (f : Env → Sto → R Fl) : Nat → Env → Sto → R Fl
  | 0, _, _ => .no
  | n + 1, ρ, S => (c ρ S).bind fun b S => if b then (f ρ S).bind fun fl S => match fl with
      | .nx ρ => loopW c f n ρ S
      | .ct ρ => loopW c f n ρ S
      | .bk ρ => .ok (.nx ρ) S
      | .ret v => .ok (.ret v) S
    else .ok (.nx ρ) S
def fuelW : Nat := 100000000000000000000
def setVals (ρ : Env) : List Nat → List Val → Option Env
  | [], [] => some ρ
  | i :: is, x :: xs => setVals (ρ.set i (some x)) is xs
  | _, _ => none
def nxO (o : Option Env) (S : Sto) : R Fl := match o with
  | some ρ => .ok (.nx ρ) S
  | none => .no
def unpV (is : List Nat) (v : Val) (ρ : Env) (S : Sto) : R Fl := match v with
  | .d (.tuple xs) => nxO (setMany ρ is xs) S
  | .d (.list xs) => nxO (setMany ρ is xs) S
  | _ => .no
def setV (v k w : Val) (S : Sto) : R Unit := match v, k, w with
  | .r n, .d (.int j), .d x => (match S[n]? with
    | some (.lst xs) => (match L2.ixN xs.length j with
      | some q => .ok () (S.set n (.lst (xs.set q x)))
      | none => .no)
    | _ => .no)
  | _, _, _ => .no
def appV (v w : Val) (S : Sto) : R Unit := match v, w with
  | .r n, .d x => (match S[n]? with
    | some (.lst xs) => if xs.length < lim then .ok () (S.set n (.lst (xs ++ [x]))) else .no
    | _ => .no)
  | _, _ => .no
def needL (v : Val) (S : Sto) : R Unit := match v with
  | .r n => (match S[n]? with
    | some (.lst _) => .ok () S
    | _ => .no)
  | _ => .no
def augV (o : Op2) (v w : Val) (S : Sto) : R Val := match o, v, w with
  | .add, .d (.int x), .d (.int y) => .ok (.d (.int (x + y))) S
  | .sub, .d (.int x), .d (.int y) => .ok (.d (.int (x - y))) S
  | _, _, _ => .no
mutual
def exS : LS → Env → Sto → R Fl
  | .asg i e, ρ, S => (evE C e ρ S).bind fun v S => .ok (.nx (ρ.set i (some v))) S
  | .asgT is es, ρ, S => (evL C es ρ S).bind fun vs S => nxO (setVals ρ is vs) S
  | .unp is e, ρ, S => (evE C e ρ S).bind fun v S => unpV is v ρ S
  | .setix o i e, ρ, S => (evE C e ρ S).bind fun w S => (evE C o ρ S).bind fun v S => (evE C i ρ S).bind fun k S => (setV v k w S).bind fun _ S => .ok (.nx ρ) S
  | .app o e, ρ, S => (evE C o ρ S).bind fun v S => (needL v S).bind fun _ S => (evE C e ρ S).bind fun w S => (appV v w S).bind fun _ S => .ok (.nx ρ) S
  | .aug i o e, ρ, S => match ρ[i]? with
    | some (some x) => (evE C e ρ S).bind fun w S => (augV o x w S).bind fun z S => .ok (.nx (ρ.set i (some z))) S
    | _ => .no
  | .exp e, ρ, S => (evE C e ρ S).bind fun _ S => .ok (.nx ρ) S
  | .ret e, ρ, S => (evE C e ρ S).bind fun v S => .ok (.ret v) S
  | .ite c a b, ρ, S => (evT C c ρ S).bind fun x S => if x then exB a ρ S else exB b ρ S
  | .for k args tg body, ρ, S => (evL C args ρ S).bind fun vs S => (itV k vs S).bind fun items S =>
      loopF (fun x ρ S => onTg tg x ρ fun ρ' => exB body ρ' S) items ρ S
  | .whil c body, ρ, S => loopW (fun ρ S => evT C c ρ S) (fun ρ S => exB body ρ S) fuelW ρ S
  | .raise c, _, S => .ex c S
  | .brk, ρ, S => .ok (.bk ρ) S
  | .cont, ρ, S => .ok (.ct ρ) S
  | .pass, ρ, S => .ok (.nx ρ) S
def exB : List LS → Env → Sto → R Fl
  | [], ρ, S => .ok (.nx ρ) S
  | s :: r, ρ, S => (exS s ρ S).bind fun fl S => match fl with
    | .nx ρ => exB r ρ S
    | fl => .ok fl S
end
end

structure LDef where
  np : Nat
  nn : Nat
  body : List LS
abbrev Tab := Nat → Option LDef
/-- a call's end: what the callee left behind is let go, unless the value names it -/
def fin (n : Nat) (v : Val) (S : Sto) : R Val := match v with
  | .d x => .ok (.d x) (S.take n)
  | .r k => .ok (.r k) S
  | .s _ => .no
def start (np nn : Nat) (vs : List Val) : Env := vs.map some ++ List.replicate (nn - np) none
def callF (F : Tab) : Nat → Nat → List Val → Sto → R Val
  | 0, _, _, _ => .no
  | k + 1, f, vs, S => match F f with
    | none => .no
    | some d => if vs.length = d.np then match exB (callF F k) d.body (start d.np d.nn vs) S with
        | .ok (.ret v) S' => fin S.length v S'
        | .ok (.nx _) S' => .ok (.d .none) (S'.take S.length)
        | .ok _ _ => .no
        | .ex c S' => .ex c (S'.take S.length)
        | .no => .no
      else .no
end Z

/-! That a text is a given text of the small language. -/
namespace Z
open PySem

mutual
def pdEq : PyData → PyData → Bool
  | .none, .none => true
  | .bool a, .bool b => a == b
  | .int a, .int b => decide (a = b)
  | .str a, .str b => decide (a = b)
  | .list a, .list b => pdEqL a b
  | .tuple a, .tuple b => pdEqL a b
  | _, _ => false
def pdEqL : List PyData → List PyData → Bool
  | [], [] => true
  | x :: xs, y :: ys => pdEq x y && pdEqL xs ys
  | _, _ => false
end
mutual
theorem pdEq_ok : ∀ {a b : PyData}, pdEq a b = true → a = b
  | .none, b, h => by cases b <;> first | rfl | (simp [pdEq] at h)
  | .bool x, b, h => by cases b <;> first | (simp only [pdEq, beq_iff_eq] at h; rw [h]) | (simp [pdEq] at h)
  | .int x, b, h => by cases b <;> first | (simp only [pdEq, decide_eq_true_eq] at h; rw [h]) | (simp [pdEq] at h)
  | .str x, b, h => by cases b <;> first | (simp only [pdEq, decide_eq_true_eq] at h; rw [h]) | (simp [pdEq] at h)
  | .list x, b, h => by cases b <;> first | (simp only [pdEq] at h; rw [pdEqL_ok h]) | (simp [pdEq] at h)
  | .tuple x, b, h => by cases b <;> first | (simp only [pdEq] at h; rw [pdEqL_ok h]) | (simp [pdEq] at h)
  | .dict x, b, h => by cases b <;> simp [pdEq] at h
theorem pdEqL_ok : ∀ {a b : List PyData}, pdEqL a b = true → a = b
  | [], b, h => by cases b <;> first | rfl | (simp [pdEqL] at h)
  | x :: xs, b, h => by
    cases b with
    | nil => simp [pdEqL] at h
    | cons y ys =>
      simp only [pdEqL, Bool.and_eq_true] at h
      rw [pdEq_ok h.1, pdEqL_ok h.2]
end

structure SC where
  N : List Str
  sc : Scope
  fns : List (Str × Nat)
  cons : List (Str × PyData)
  excs : List Str
  blt : List Str
  tabs : List (Str × List (Str × PyData))

def gl (c : SC) (x : Str) : Bool := decide (c.sc.names.lookup x = some .globalImplicit) && !(x == ("__debug__" : Str))
def isVis (c : SC) (x : Str) : Bool := match c.sc.names.lookup x with
  | some .local => true
  | some .cell => true
  | some .free => true
  | _ => false
def isLoc (sc : Scope) (x : Str) : Bool := match sc.names.lookup x with
  | some .local => true
  | some .cell => true
  | _ => false
def okVar (c : SC) (i : Nat) (x : Str) : Bool := decide (c.N[i]? = some x) && isVis c x && !(x == ("__debug__" : Str)) && !(x == ("__classdict__" : Str))
def okSet (c : SC) (i : Nat) (x : Str) : Bool := decide (c.N[i]? = some x) && isLoc c.sc x
def inCons (c : SC) (x : Str) (d : PyData) : Bool := match c.cons.lookup x with
  | some e => pdEq d e
  | none => false
def tEq : List (Str × PyData) → List (Str × PyData) → Bool
  | [], [] => true
  | p :: r, q :: s => decide (p.1 = q.1) && (pdEq p.2 q.2 && tEq r s)
  | _, _ => false
theorem tEq_ok : ∀ {a b : List (Str × PyData)}, tEq a b = true → a = b
  | [], [], _ => rfl
  | [], _ :: _, h => by cases h
  | _ :: _, [], h => by cases h
  | (x, d) :: r, (y, e) :: s, h => by
    simp only [tEq, Bool.and_eq_true, decide_eq_true_eq] at h
    rw [h.1, pdEq_ok h.2.1, tEq_ok h.2.2]
def inTab (c : SC) (x : Str) (t : List (Str × PyData)) : Bool := match c.tabs.lookup x with
  | some u => tEq t u
  | none => false
def opOf : Op2 → Operator
  | .add => .Add | .sub => .Sub | .mul => .Mult | .fdiv => .FloorDiv | .mod => .Mod | .pow => .Pow
def coOf : CO → CmpOp
  | .eq => .Eq | .ne => .NotEq | .lt => .Lt | .le => .LtE | .gt => .Gt | .ge => .GtE | .is => .Is | .isn => .IsNot | .in_ => .In | .nin => .NotIn
def isSet : Expr → Bool
  | .Set .. => true
  | _ => false
def biName : BI → Str
  | .len => "len" | .abs => "abs" | .sum => "sum" | .all => "all" | .max => "max" | .min => "min" | .int => "int" | .str => "str" | .bool => "bool" | .tuple => "tuple" | .list => "list"
def tyName : TY → Str
  | .int => "int" | .bool => "bool" | .str => "str" | .tuple => "tuple" | .list => "list"
def itName : IK → Str
  | .seq => "" | .range => "range" | .enum => "enumerate" | .zip => "zip"
/-- a free name: a built-in's -/
def isBlt (c : SC) (x : Str) : Bool := gl c x && decide (x ∈ c.blt)
def ownP (N : List Str) (own : List Nat) : List (Str × Nat) := own.map fun i => (N.getD i Str.empty, i)
def chkTg1 (N : List Str) (sc : Scope) (i : Nat) : Expr → Bool
  | .Name x _ => decide (N[i]? = some x) && isLoc sc x
  | _ => false
def chkTgs (N : List Str) (sc : Scope) : List Nat → List Expr → Bool
  | [], [] => true
  | i :: is, e :: es => chkTg1 N sc i e && chkTgs N sc is es
  | _, _ => false
/-- a target -/
def chkTg (N : List Str) (sc : Scope) : Tg → Expr → Bool
  | .one i, e => chkTg1 N sc i e
  | .many is, .Tuple es _ _ => chkTgs N sc is es
  | .many _, _ => false
def tgIx : Tg → List Nat
  | .one i => [i]
  | .many is => is
def constEq : PyData → Const → Bool
  | .none, .none => true
  | .bool a, .bool b => a == b
  | .int a, .int b => decide (a = b)
  | .str a, .str b => decide (a = b)
  | _, _ => false
def slicy : Expr → Bool
  | .Slice .. => true
  | _ => false

def arity : IK → Nat → Bool
  | .seq, _ => false
  | .range, n => n == 1 || n == 2 || n == 3
  | .enum, n => n == 1
  | .zip, n => n == 2
def tgFor : IK → Tg → Bool
  | .range, _ => true
  | _, .many _ => true
  | _, _ => false
/-- the pairs of a written dict, keys texts, values written data -/
def litC : Expr → Option PyData
  | .Constant .none _ _ => some .none
  | .Constant (.bool b) _ _ => some (.bool b)
  | .Constant (.int i) _ _ => some (.int i)
  | .Constant (.str s) _ _ => some (.str s)
  | _ => none
def litCs : List Expr → Option (List PyData)
  | [] => some []
  | e :: es => match litC e, litCs es with
    | some d, some ds => some (d :: ds)
    | _, _ => none
/-- a written constant, or a tuple of such -/
def litT : Expr → Option PyData
  | .Tuple es _ _ => (litCs es).map .tuple
  | e => litC e
def tupSmall : Expr → Bool
  | .Tuple es _ _ => decide (es.length ≤ 1000)
  | _ => true
def dispEq : List (Str × PyData) → List (Option Expr) → List Expr → Bool
  | [], [], [] => true
  | (k, d) :: r, some (.Constant (.str z) _ _) :: ks, v :: vs => decide (k = z) && tupSmall v && (match litT v with
    | some e => pdEq d e
    | none => false) && dispEq r ks vs
  | _, _, _ => false
/-- not super() -/
def noSup : Expr → Bool
  | .Call (.Name _ _) [] [] _ => false
  | _ => true
def moName : MO → Str
  | .index => "index" | .join => "join" | .split => "split"
/-- the parts that a further operation asks, one by one -/
def subs (c : SC) (o : XO) (e : Expr) : Option (List Expr) := match o, e with
  | .mlist, .Call (.Name x _) [e] [] _ => if isBlt c x && decide (x = "list") then some [e] else none
  | .lrange, .Call (.Name x _) [.Call (.Name y _) [e] [] _] [] _ => if isBlt c x && decide (x = "list") && (isBlt c y && decide (y = "range")) then some [e] else none
  | .madd, .BinOp e .Add f _ => some [e, f]
  | .mmul, .BinOp e .Mult f _ => some [e, f]
  | .ddix t, .Subscript (.Dict ks vs _) f _ => if dispEq t ks vs && !slicy f && decide ((t.map (·.1)).Nodup) && decide (1 ≤ t.length ∧ t.length ≤ 15) then some [f] else none
  | _, _ => none
mutual
def chkE (c : SC) (l : LE) (e : Expr) : Bool := match l with
  | .var i => (match e with
    | .Name x _ => okVar c i x
    | _ => false)
  | .frz i => (match e with
    | .Name x _ => okVar c i x
    | _ => false)
  | .lit d => (match e with
    | .Constant k _ _ => constEq d k
    | _ => false)
  | .glo x d => (match e with
    | .Name y _ => decide (y = x) && gl c x && inCons c x d
    | _ => false)
  | .neg a => (match e with
    | .UnaryOp .USub e _ => chkE c a e
    | _ => false)
  | .bin o a b => (match e with
    | .BinOp e p f _ => decide (p = opOf o) && (chkE c a e && chkE c b f)
    | _ => false)
  | .cmp o a b => (match e with
    | .Compare e [p] [f] _ => decide (p = coOf o) && !isSet f && (chkE c a e && chkE c b f)
    | _ => false)
  | .chain o p a b d => (match e with
    | .Compare e [q, r] [f, g] _ => decide (q = coOf o) && decide (r = coOf p) && !isSet g && (chkE c a e && (chkE c b f && chkE c d g))
    | _ => false)
  | .and a b => (match e with
    | .BoolOp .And (e :: f :: r) p => chkE c a e && (match r with
      | [] => chkE c b f
      | r => chkE c b (.BoolOp .And (f :: r) p))
    | _ => false)
  | .or a b => (match e with
    | .BoolOp .Or (e :: f :: r) p => chkE c a e && (match r with
      | [] => chkE c b f
      | r => chkE c b (.BoolOp .Or (f :: r) p))
    | _ => false)
  | .not a => (match e with
    | .UnaryOp .Not e _ => chkE c a e
    | _ => false)
  | .ite t a b => (match e with
    | .IfExp e f g _ => chkE c t e && (chkE c a f && chkE c b g)
    | _ => false)
  | .tup es => (match e with
    | .Tuple fs _ _ => decide (es.length ≤ 1000) && chkL c es fs
    | _ => false)
  | .lst _ es => (match e with
    | .List fs _ => decide (es.length ≤ 1000) && chkL c es fs
    | _ => false)
  | .ix a i => (match e with
    | .Subscript e f _ => !slicy f && (chkE c a e && chkE c i f)
    | _ => false)
  | .sl a lo hi => (match e with
    | .Subscript e (.Slice l h none _) _ => chkE c a e && (chkP c lo l && chkP c hi h)
    | _ => false)
  | .call n es => (match e with
    | .Call (.Name x _) fs [] _ => gl c x && decide (c.fns.lookup x = some n) && chkL c es fs
    | _ => false)
  | .bi b es => (match e with
    | .Call (.Name x _) fs [] _ => isBlt c x && decide (x = biName b) && !es.isEmpty && chkL c es fs
    | _ => false)
  | .isi a t => (match e with
    | .Call (.Name x _) [e, .Name y _] [] _ => isBlt c x && decide (x = "isinstance") && isBlt c y && decide (y = tyName t) && chkE c a e
    | _ => false)
  | .dix x t i => (match e with
    | .Subscript (.Name y _) f _ => decide (y = x) && gl c x && inTab c x t && !slicy f && chkE c i f
    | _ => false)
  | .din x t a => (match e with
    | .Compare e [.In] [.Name y _] _ => decide (y = x) && gl c x && inTab c x t && chkE c a e
    | _ => false)
  | .dnin x t a => (match e with
    | .Compare e [.NotIn] [.Name y _] _ => decide (y = x) && gl c x && inTab c x t && chkE c a e
    | _ => false)
  | .lenset a => (match e with
    | .Call (.Name x _) [.Call (.Name y _) [e] [] _] [] _ => isBlt c x && decide (x = "len") && isBlt c y && decide (y = "set") && chkE c a e
    | _ => false)
  | .comp _ k args tg own cond elt => (match e with
    | .ListComp e gs scope _ => (match gs with
      | [⟨t, it, ifs, ay⟩] => decide (ay = 0) &&
    L2.blkC c.N c.sc scope (ownP c.N own) && own.all (fun i => decide (i < c.N.length)) && chkTg c.N scope tg t && (tgIx tg).all (fun i => decide (i ∈ own)) && !isSet it &&
      (match k with
       | .seq => chkA c args it
       | k => (match it with
         | .Call (.Name x _) fs [] _ => isBlt c x && decide (x = itName k) && arity k fs.length && chkL c args fs && tgFor k tg
         | _ => false)) && chkIfs { c with sc := L2.relS scope c.sc } cond ifs && chkE { c with sc := L2.relS scope c.sc } elt e
      | _ => false)
    | _ => false)
  | .ext o es => (match subs c o e with
    | some fs => chkL c es fs
    | none => false)
  | .slst a lo hi st => (match e with
    | .Subscript e (.Slice l h (some t) _) _ => chkE c a e && (chkP c lo l && (chkP c hi h && chkE c st t))
    | _ => false)
  | .meth mo a b => (match e with
    | .Call (.Attribute e m ap) [f] [] cp => decide (m = moName mo) && (ap.endLine == cp.line) && noSup e && (chkE c a e && chkE c b f)
    | _ => false)
  | .comp2 _ k args tg cond k1 args1 tg1 own1 cond1 own elt => (match e with
    | .ListComp e gs scope _ => (match gs with
      | [⟨t, it, ifs, ay⟩, ⟨t1, it1, ifs1, ay1⟩] => decide (ay = 0) && decide (ay1 = 0) &&
    L2.blkC c.N c.sc scope (ownP c.N own) && own.all (fun i => decide (i < c.N.length)) && chkTg c.N scope tg t && chkTg c.N scope tg1 t1 && (tgIx tg).all (fun i => decide (i ∈ own)) && (tgIx tg1).all (fun i => decide (i ∈ own1)) && own1.all (fun i => decide (i ∈ own)) && !isSet it && !isSet it1 &&
      (match k with
       | .seq => chkA c args it
       | k => (match it with
         | .Call (.Name x _) fs [] _ => isBlt c x && decide (x = itName k) && arity k fs.length && chkL c args fs && tgFor k tg
         | _ => false)) &&
      (match k1 with
       | .seq => chkA { c with sc := L2.relS scope c.sc } args1 it1
       | k1 => (match it1 with
         | .Call (.Name x _) fs [] _ => isBlt { c with sc := L2.relS scope c.sc } x && decide (x = itName k1) && arity k1 fs.length && chkL { c with sc := L2.relS scope c.sc } args1 fs && tgFor k1 tg1
         | _ => false)) && chkIfs { c with sc := L2.relS scope c.sc } cond ifs && chkIfs { c with sc := L2.relS scope c.sc } cond1 ifs1 && chkE { c with sc := L2.relS scope c.sc } elt e
      | _ => false)
    | _ => false)
def chkA (c : SC) : List LE → Expr → Bool
  | [], _ => false
  | a :: r, e => (match r with
    | [] => chkE c a e
    | _ => false)
def chkL (c : SC) : List LE → List Expr → Bool
  | [], [] => true
  | a :: as, e :: es => chkE c a e && chkL c as es
  | _, _ => false
def chkP (c : SC) : Option LE → Option Expr → Bool
  | none, none => true
  | some a, some e => chkE c a e
  | _, _ => false
def chkIfs (c : SC) : Option LE → List Expr → Bool
  | none, [] => true
  | some a, [e] => chkE c a e
  | _, _ => false
end

theorem chkE_var {c : SC} {i} {e : Expr} : chkE c (.var i) e = (match e with
    | .Name x _ => okVar c i x
    | _ => false) := rfl
theorem chkE_frz {c : SC} {i} {e : Expr} : chkE c (.frz i) e = (match e with
    | .Name x _ => okVar c i x
    | _ => false) := rfl
theorem chkE_lit {c : SC} {d} {e : Expr} : chkE c (.lit d) e = (match e with
    | .Constant k _ _ => constEq d k
    | _ => false) := rfl
theorem chkE_glo {c : SC} {x} {d} {e : Expr} : chkE c (.glo x d) e = (match e with
    | .Name y _ => decide (y = x) && gl c x && inCons c x d
    | _ => false) := rfl
theorem chkE_neg {c : SC} {a} {e : Expr} : chkE c (.neg a) e = (match e with
    | .UnaryOp .USub e _ => chkE c a e
    | _ => false) := rfl
theorem chkE_bin {c : SC} {o} {a} {b} {e : Expr} : chkE c (.bin o a b) e = (match e with
    | .BinOp e p f _ => decide (p = opOf o) && (chkE c a e && chkE c b f)
    | _ => false) := rfl
theorem chkE_cmp {c : SC} {o} {a} {b} {e : Expr} : chkE c (.cmp o a b) e = (match e with
    | .Compare e [p] [f] _ => decide (p = coOf o) && !isSet f && (chkE c a e && chkE c b f)
    | _ => false) := rfl
theorem chkE_chain {c : SC} {o} {p} {a} {b} {d} {e : Expr} : chkE c (.chain o p a b d) e = (match e with
    | .Compare e [q, r] [f, g] _ => decide (q = coOf o) && decide (r = coOf p) && !isSet g && (chkE c a e && (chkE c b f && chkE c d g))
    | _ => false) := rfl
theorem chkE_and {c : SC} {a} {b} {e : Expr} : chkE c (.and a b) e = (match e with
    | .BoolOp .And (e :: f :: r) p => chkE c a e && (match r with
      | [] => chkE c b f
      | r => chkE c b (.BoolOp .And (f :: r) p))
    | _ => false) := rfl
theorem chkE_or {c : SC} {a} {b} {e : Expr} : chkE c (.or a b) e = (match e with
    | .BoolOp .Or (e :: f :: r) p => chkE c a e && (match r with
      | [] => chkE c b f
      | r => chkE c b (.BoolOp .Or (f :: r) p))
    | _ => false) := rfl
theorem chkE_not {c : SC} {a} {e : Expr} : chkE c (.not a) e = (match e with
    | .UnaryOp .Not e _ => chkE c a e
    | _ => false) := rfl
theorem chkE_ite {c : SC} {t} {a} {b} {e : Expr} : chkE c (.ite t a b) e = (match e with
    | .IfExp e f g _ => chkE c t e && (chkE c a f && chkE c b g)
    | _ => false) := rfl
theorem chkE_tup {c : SC} {es} {e : Expr} : chkE c (.tup es) e = (match e with
    | .Tuple fs _ _ => decide (es.length ≤ 1000) && chkL c es fs
    | _ => false) := rfl
theorem chkE_lst {c : SC} {u0} {es} {e : Expr} : chkE c (.lst u0 es) e = (match e with
    | .List fs _ => decide (es.length ≤ 1000) && chkL c es fs
    | _ => false) := rfl
theorem chkE_ix {c : SC} {a} {i} {e : Expr} : chkE c (.ix a i) e = (match e with
    | .Subscript e f _ => !slicy f && (chkE c a e && chkE c i f)
    | _ => false) := rfl
theorem chkE_sl {c : SC} {a} {lo} {hi} {e : Expr} : chkE c (.sl a lo hi) e = (match e with
    | .Subscript e (.Slice l h none _) _ => chkE c a e && (chkP c lo l && chkP c hi h)
    | _ => false) := rfl
theorem chkE_call {c : SC} {n} {es} {e : Expr} : chkE c (.call n es) e = (match e with
    | .Call (.Name x _) fs [] _ => gl c x && decide (c.fns.lookup x = some n) && chkL c es fs
    | _ => false) := rfl
theorem chkE_bi {c : SC} {b} {es} {e : Expr} : chkE c (.bi b es) e = (match e with
    | .Call (.Name x _) fs [] _ => isBlt c x && decide (x = biName b) && !es.isEmpty && chkL c es fs
    | _ => false) := rfl
theorem chkE_isi {c : SC} {a} {t} {e : Expr} : chkE c (.isi a t) e = (match e with
    | .Call (.Name x _) [e, .Name y _] [] _ => isBlt c x && decide (x = "isinstance") && isBlt c y && decide (y = tyName t) && chkE c a e
    | _ => false) := rfl
theorem chkE_dix {c : SC} {x} {t} {i} {e : Expr} : chkE c (.dix x t i) e = (match e with
    | .Subscript (.Name y _) f _ => decide (y = x) && gl c x && inTab c x t && !slicy f && chkE c i f
    | _ => false) := rfl
theorem chkE_din {c : SC} {x} {t} {a} {e : Expr} : chkE c (.din x t a) e = (match e with
    | .Compare e [.In] [.Name y _] _ => decide (y = x) && gl c x && inTab c x t && chkE c a e
    | _ => false) := rfl
theorem chkE_dnin {c : SC} {x : Str} {t : List (Str × PyData)} {a : LE} {e : Expr} : chkE c (.dnin x t a) e = (match e with
    | .Compare e [.NotIn] [.Name y _] _ => decide (y = x) && gl c x && inTab c x t && chkE c a e
    | _ => false) := rfl
theorem chkE_lenset {c : SC} {a} {e : Expr} : chkE c (.lenset a) e = (match e with
    | .Call (.Name x _) [.Call (.Name y _) [e] [] _] [] _ => isBlt c x && decide (x = "len") && isBlt c y && decide (y = "set") && chkE c a e
    | _ => false) := rfl
theorem chkE_comp {c : SC} {u0} {k} {args} {tg} {own} {cond} {elt} {e : Expr} : chkE c (.comp u0 k args tg own cond elt) e = (match e with
    | .ListComp e gs scope _ => (match gs with
      | [⟨t, it, ifs, ay⟩] => decide (ay = 0) &&
    L2.blkC c.N c.sc scope (ownP c.N own) && own.all (fun i => decide (i < c.N.length)) && chkTg c.N scope tg t && (tgIx tg).all (fun i => decide (i ∈ own)) && !isSet it &&
      (match k with
       | .seq => chkA c args it
       | k => (match it with
         | .Call (.Name x _) fs [] _ => isBlt c x && decide (x = itName k) && arity k fs.length && chkL c args fs && tgFor k tg
         | _ => false)) && chkIfs { c with sc := L2.relS scope c.sc } cond ifs && chkE { c with sc := L2.relS scope c.sc } elt e
      | _ => false)
    | _ => false) := rfl
theorem chkE_ext {c : SC} {o} {es} {e : Expr} : chkE c (.ext o es) e = (match subs c o e with
    | some fs => chkL c es fs
    | none => false) := rfl
theorem chkE_slst {c : SC} {a} {lo} {hi} {st} {e : Expr} : chkE c (.slst a lo hi st) e = (match e with
    | .Subscript e (.Slice l h (some t) _) _ => chkE c a e && (chkP c lo l && (chkP c hi h && chkE c st t))
    | _ => false) := rfl
theorem chkE_meth {c : SC} {mo} {a} {b} {e : Expr} : chkE c (.meth mo a b) e = (match e with
    | .Call (.Attribute e m ap) [f] [] cp => decide (m = moName mo) && (ap.endLine == cp.line) && noSup e && (chkE c a e && chkE c b f)
    | _ => false) := rfl
theorem chkE_comp2 {c : SC} {u0} {k} {args} {tg} {cond} {k1} {args1} {tg1} {own1} {cond1} {own} {elt} {e : Expr} : chkE c (.comp2 u0 k args tg cond k1 args1 tg1 own1 cond1 own elt) e = (match e with
    | .ListComp e gs scope _ => (match gs with
      | [⟨t, it, ifs, ay⟩, ⟨t1, it1, ifs1, ay1⟩] => decide (ay = 0) && decide (ay1 = 0) &&
    L2.blkC c.N c.sc scope (ownP c.N own) && own.all (fun i => decide (i < c.N.length)) && chkTg c.N scope tg t && chkTg c.N scope tg1 t1 && (tgIx tg).all (fun i => decide (i ∈ own)) && (tgIx tg1).all (fun i => decide (i ∈ own1)) && own1.all (fun i => decide (i ∈ own)) && !isSet it && !isSet it1 &&
      (match k with
       | .seq => chkA c args it
       | k => (match it with
         | .Call (.Name x _) fs [] _ => isBlt c x && decide (x = itName k) && arity k fs.length && chkL c args fs && tgFor k tg
         | _ => false)) &&
      (match k1 with
       | .seq => chkA { c with sc := L2.relS scope c.sc } args1 it1
       | k1 => (match it1 with
         | .Call (.Name x _) fs [] _ => isBlt { c with sc := L2.relS scope c.sc } x && decide (x = itName k1) && arity k1 fs.length && chkL { c with sc := L2.relS scope c.sc } args1 fs && tgFor k1 tg1
         | _ => false)) && chkIfs { c with sc := L2.relS scope c.sc } cond ifs && chkIfs { c with sc := L2.relS scope c.sc } cond1 ifs1 && chkE { c with sc := L2.relS scope c.sc } elt e
      | _ => false)
    | _ => false) := rfl
theorem chkA_nil {c : SC} {e : Expr} : chkA c [] e = false := rfl
theorem chkA_one {c : SC} {a : LE} {e : Expr} : chkA c [a] e = chkE c a e := rfl
theorem chkA_two {c : SC} {a b : LE} {r : List LE} {e : Expr} : chkA c (a :: b :: r) e = false := rfl
theorem chkL_nil {c : SC} : chkL c [] [] = true := rfl
theorem chkL_nc {c : SC} {e : Expr} {es : List Expr} : chkL c [] (e :: es) = false := rfl
theorem chkL_cn {c : SC} {a : LE} {as : List LE} : chkL c (a :: as) [] = false := rfl
theorem chkL_cons {c : SC} {a : LE} {as : List LE} {e : Expr} {es : List Expr} : chkL c (a :: as) (e :: es) = (chkE c a e && chkL c as es) := rfl
theorem chkP_nn {c : SC} : chkP c none none = true := rfl
theorem chkP_ns {c : SC} {e : Expr} : chkP c none (some e) = false := rfl
theorem chkP_sn {c : SC} {a : LE} : chkP c (some a) none = false := rfl
theorem chkP_ss {c : SC} {a : LE} {e : Expr} : chkP c (some a) (some e) = chkE c a e := rfl
theorem chkIfs_nn {c : SC} : chkIfs c none [] = true := rfl
theorem chkIfs_nc {c : SC} {e : Expr} {es : List Expr} : chkIfs c none (e :: es) = false := rfl
theorem chkIfs_s {c : SC} {a : LE} {es : List Expr} : chkIfs c (some a) es = (match es with
  | [e] => chkE c a e
  | _ => false) := by
  match es with
  | [] => rfl
  | [e] => rfl
  | _ :: _ :: _ => rfl

/-- what a loop walks -/
def chkIt (c : SC) (k : IK) (args : List LE) (tg : Tg) (it : Expr) : Bool := !isSet it && match k with
  | .seq => (match args with
    | [a] => chkE c a it
    | _ => false)
  | k => (match it with
    | .Call (.Name x _) fs [] _ => isBlt c x && decide (x = itName k) && arity k fs.length && chkL c args fs && tgFor k tg
    | _ => false)
def isComp : Expr → Bool
  | .ListComp .. => true
  | .SetComp .. => true
  | .DictComp .. => true
  | _ => false
def isTup : Expr → Bool
  | .Tuple .. => true
  | _ => false
def namesAll (sc : Scope) (line : Nat) : List Expr → Option (List Str)
  | [] => some []
  | .Name x p :: r => if decide (sc.names.lookup x = some .local) && p.line == line then (namesAll sc line r).map (x :: ·) else none
  | _ => none
/-- the stores are swapped: two or three local names, not all constants -/
def swapT (sc : Scope) (ts vs : List Expr) : Bool := (ts.length == 2 || ts.length == 3) && (match namesAll sc ((ts.head?.map (·.pos.line)).getD 0) ts with
  | some ns => decide ns.Nodup && !vs.all (foldedForSure 8) && !vs.all (constantsAlone 8)
  | none => false)
def nameLoc (sc : Scope) : Expr → Bool
  | .Name x _ => decide (sc.names.lookup x = some .local)
  | _ => false
/-- they are not: another number of names, a name that is a cell, constants -/
def noSwapT (sc : Scope) (ts vs : List Expr) : Bool := !(ts.length == 2 || ts.length == 3) || !ts.all (nameLoc sc) || vs.all (foldedForSure 8)
mutual
def chkS (c : SC) : LS → Stmt → Bool
  | .asg i e, .Assign [.Name x _] f _ => okSet c i x && chkE c e f
  | .asgT is es, .Assign [.Tuple ts _ _] (.Tuple fs _ _) _ => chkTgs c.N c.sc is ts && decide (ts.length = fs.length) && decide (es.length ≤ 1000) && (swapT c.sc ts fs || noSwapT c.sc ts fs) && chkL c es fs
  | .unp is e, .Assign [.Tuple ts _ _] f _ => chkTgs c.N c.sc is ts && !isTup f && chkE c e f
  | .setix o i e, .Assign [.Subscript f g _] h _ => !isComp h && !slicy g && (chkE c o f && (chkE c i g && chkE c e h))
  | .app (.var o) e, .Expr (.Call (.Attribute (.Name x _) m ap) [g] [] cp) _ => decide (m = "append") && (ap.endLine == cp.line) && (okVar c o x && chkE c e g)
  | .aug i o e, .AugAssign (.Name x _) p f _ => okSet c i x && decide (p = opOf o) && chkE c e f
  | .exp e, .Expr f _ => !isComp f && chkE c e f
  | .ret e, .Return (some f) _ => chkE c e f
  | .ite t a b, .If f g h _ => chkE c t f && (chkB c a g && chkB c b h)
  | .for k args tg body, .For t it g [] _ => chkTg c.N c.sc tg t && chkIt c k args tg it && chkB c body g
  | .whil t b, .While f g [] _ => chkE c t f && chkB c b g
  | .raise x, .Raise (some (.Call (.Name y _) [.Constant (.str _) _ _] [] _)) none _ => decide (y = x) && gl c x && decide (x ∈ c.excs)
  | .brk, .Break _ => true
  | .cont, .Continue _ => true
  | .pass, .Pass _ => true
  | .pass, .Expr (.Constant (.str _) _ _) _ => true
  | _, _ => false
def chkB (c : SC) : List LS → List Stmt → Bool
  | [], [] => true
  | a :: as, s :: ss => chkS c a s && chkB c as ss
  | _, _ => false
end
end Z

/-! What stands for data in the abstract heap; how the heap may go on. -/
namespace Z
open PySem PySem.Spec PyProof.Rows L2

/-- m: the store's places (none: let go); z: lists that are being made, which nothing may name -/
structure MM where
  m : List (Option Addr)
  z : List Addr
def Fre (M : MM) (a : Addr) : Prop := some a ∉ M.m ∧ a ∉ M.z
mutual
/-- the value v is the data d; the places at M may be changed, so no list of d stands there -/
def Rep (K : PySem.W.Frag) (M : MM) (H : Hp) : PyData → V → Prop
  | .none, v => v = .non
  | .bool b, v => v = .bl b
  | .int i, v => v = .int i
  | .str s, v => v = .str s
  | .list ds, v => ∃ a vs, v = .ref a ∧ Fre M a ∧ H a = some (.lst vs) ∧ RepL K M H ds vs
  | .tuple ds, v => ∃ a vs, v = .ref a ∧ SqT K H a vs ∧ RepL K M H ds vs
  | .dict _, _ => False
def RepL (K : PySem.W.Frag) (M : MM) (H : Hp) : List PyData → List V → Prop
  | [], vs => vs = []
  | d :: ds, vs => ∃ v r, vs = v :: r ∧ Rep K M H d v ∧ RepL K M H ds r
end
def RepV (K : PySem.W.Frag) (M : MM) (H : Hp) : Val → V → Prop
  | .d x, v => Rep K M H x v
  | .r n, v => ∃ a, v = .ref a ∧ (M.m[n]? = some none ∨ M.m[n]? = some (some a))
  | .s xs, v => ∃ a vs, v = .ref a ∧ ((∃ o, H a = some (.frz o (.lst vs))) ∨ ∃ (o : Obj) (its : Array Value) (n : Nat), K.lookup a = some o ∧ o.cls = .type "list" ∧ o.dict = none ∧ o.data = .seq its n ∧ its.size ≤ sizeLine ∧ Vals vs its.toList) ∧ ∃ ns : List Int, vs = ns.map V.int ∧ xs = ns.map PyData.int
def RepVs (K : PySem.W.Frag) (M : MM) (H : Hp) : List Val → List V → Prop
  | [], vs => vs = []
  | d :: ds, vs => ∃ v r, vs = v :: r ∧ RepV K M H d v ∧ RepVs K M H ds r

structure Ext (M : MM) (H : Hp) (M' : MM) (H' : Hp) : Prop where
  len : M.m.length ≤ M'.m.length
  old : ∀ n, n < M.m.length → M'.m[n]? = some none ∨ M'.m[n]? = M.m[n]?
  new : ∀ a, some a ∈ M'.m → some a ∈ M.m ∨ H a = none
  zz : M'.z = M.z
  lst : ∀ a xs, H a = some (.lst xs) → some a ∉ M.m → H' a = some (.lst xs)
  tup : ∀ a xs, H a = some (.tup xs) → H' a = some (.tup xs)
  frz : ∀ a o u, H a = some (.frz o u) → H' a = some (.frz o u)
  dk : ∀ a xs, H a = some (.dK xs) → some a ∉ M.m → H' a = some (.dK xs)
  nn : ∀ a, H a ≠ none → H' a ≠ none

theorem Ext.refl (M : MM) (H : Hp) : Ext M H M H := ⟨Nat.le_refl _, fun _ _ => .inr rfl, fun _ h => .inl h, rfl, fun _ _ h _ => h, fun _ _ h => h, fun _ _ _ h => h, fun _ _ h _ => h, fun _ h => h⟩
theorem Ext.notin {M M' : MM} {H H' : Hp} (e : Ext M H M' H') {a : Addr} {o : HO} (h : H a = some o) (n : some a ∉ M.m) : some a ∉ M'.m := fun z => by
  rcases e.new a z with q | q
  · exact n q
  · rw [h] at q; cases q
theorem Ext.fre {M M' : MM} {H H' : Hp} (e : Ext M H M' H') {a : Addr} {o : HO} (h : H a = some o) (n : Fre M a) : Fre M' a := ⟨e.notin h n.1, by rw [e.zz]; exact n.2⟩
theorem Ext.trans {M M' M'' : MM} {H H' H'' : Hp} (e : Ext M H M' H') (f : Ext M' H' M'' H'') : Ext M H M'' H'' where
  len := Nat.le_trans e.len f.len
  old := fun n hn => by
    rcases f.old n (Nat.lt_of_lt_of_le hn e.len) with q | q
    · exact .inl q
    · rw [q]; exact e.old n hn
  new := fun a h => by
    rcases f.new a h with q | q
    · exact e.new a q
    · by_cases z : H a = none
      · exact .inr z
      · exact absurd q (e.nn a z)
  zz := f.zz.trans e.zz
  lst := fun a xs h n => f.lst a xs (e.lst a xs h n) (e.notin h n)
  tup := fun a xs h => f.tup a xs (e.tup a xs h)
  frz := fun a o u h => f.frz a o u (e.frz a o u h)
  dk := fun a xs h n => f.dk a xs (e.dk a xs h n) (e.notin h n)
  nn := fun a h => f.nn a (e.nn a h)

section
variable {K : PySem.W.Frag} {M M' : MM} {H H' : Hp}
theorem sqT_ext (e : Ext M H M' H') {a : Addr} {xs : List V} (h : SqT K H a xs) : SqT K H' a xs := by
  rcases h with (h | ⟨o, h⟩) | h
  · exact .inl (.inl (e.tup _ _ h))
  · exact .inl (.inr ⟨o, e.frz _ _ _ h⟩)
  · exact .inr h
mutual
theorem Rep.ext (e : Ext M H M' H') : ∀ {d : PyData} {v : V}, Rep K M H d v → Rep K M' H' d v
  | .none, _, h => h
  | .bool _, _, h => h
  | .int _, _, h => h
  | .str _, _, h => h
  | .list ds, v, h => by
    obtain ⟨a, vs, e1, e2, e3, e4⟩ := (show ∃ a vs, v = .ref a ∧ Fre M a ∧ H a = some (.lst vs) ∧ RepL K M H ds vs from h)
    exact ⟨a, vs, e1, e.fre e3 e2, e.lst _ _ e3 e2.1, RepL.ext e e4⟩
  | .tuple ds, v, h => by
    obtain ⟨a, vs, e1, e2, e3⟩ := (show ∃ a vs, v = .ref a ∧ SqT K H a vs ∧ RepL K M H ds vs from h)
    exact ⟨a, vs, e1, sqT_ext e e2, RepL.ext e e3⟩
  | .dict _, _, h => h
theorem RepL.ext (e : Ext M H M' H') : ∀ {ds : List PyData} {vs : List V}, RepL K M H ds vs → RepL K M' H' ds vs
  | [], _, h => h
  | d :: ds, vs, h => by
    obtain ⟨v, r, e1, e2, e3⟩ := (show ∃ v r, vs = v :: r ∧ Rep K M H d v ∧ RepL K M H ds r from h)
    exact ⟨v, r, e1, Rep.ext e e2, RepL.ext e e3⟩
end
theorem RepV.ext (e : Ext M H M' H') {d : Val} {v : V} (h : RepV K M H d v) : RepV K M' H' d v := by
  cases d with
  | d x => exact Rep.ext e h
  | r n =>
    obtain ⟨a, e1, e2⟩ := h
    refine ⟨a, e1, ?_⟩
    have hn : n < M.m.length := by
      rcases e2 with q | q <;> exact (List.getElem?_eq_some_iff.mp q).1
    rcases e.old n hn with q | q
    · exact .inl q
    · rw [q]; exact e2
  | s xs =>
    obtain ⟨a, vs, e1, e2, e3⟩ := h
    refine ⟨a, vs, e1, ?_, e3⟩
    rcases e2 with ⟨o, q⟩ | q
    · exact .inl ⟨o, e.frz _ _ _ q⟩
    · exact .inr q
theorem RepVs.ext (e : Ext M H M' H') : ∀ {ds : List Val} {vs : List V}, RepVs K M H ds vs → RepVs K M' H' ds vs
  | [], _, h => h
  | d :: ds, vs, h => by
    obtain ⟨v, r, e1, e2, e3⟩ := (show ∃ v r, vs = v :: r ∧ RepV K M H d v ∧ RepVs K M H ds r from h)
    exact ⟨v, r, e1, e2.ext e, RepVs.ext e e3⟩
theorem RepL.length : ∀ {ds : List PyData} {vs : List V}, RepL K M H ds vs → ds.length = vs.length
  | [], vs, h => by rw [show vs = [] from h]; rfl
  | d :: ds, vs, h => by
    obtain ⟨v, r, e1, _, e3⟩ := (show ∃ v r, vs = v :: r ∧ Rep K M H d v ∧ RepL K M H ds r from h)
    rw [e1, List.length_cons, List.length_cons, RepL.length e3]
theorem RepVs.length : ∀ {ds : List Val} {vs : List V}, RepVs K M H ds vs → ds.length = vs.length
  | [], vs, h => by rw [show vs = [] from h]; rfl
  | d :: ds, vs, h => by
    obtain ⟨v, r, e1, _, e3⟩ := (show ∃ v r, vs = v :: r ∧ RepV K M H d v ∧ RepVs K M H ds r from h)
    rw [e1, List.length_cons, List.length_cons, RepVs.length e3]
theorem RepL.get : ∀ {ds : List PyData} {vs : List V} {i : Nat} {d : PyData}, RepL K M H ds vs → ds[i]? = some d → ∃ v, vs[i]? = some v ∧ Rep K M H d v
  | [], _, _, _, _, e => by simp at e
  | d :: ds, vs, i, x, h, e => by
    obtain ⟨v, r, e1, e2, e3⟩ := (show ∃ v r, vs = v :: r ∧ Rep K M H d v ∧ RepL K M H ds r from h)
    subst e1
    cases i with
    | zero => simp only [List.getElem?_cons_zero, Option.some.injEq] at e; subst e; exact ⟨v, rfl, e2⟩
    | succ i => simp only [List.getElem?_cons_succ] at e ⊢; exact RepL.get e3 e
theorem RepL.append : ∀ {ds es : List PyData} {vs ws : List V}, RepL K M H ds vs → RepL K M H es ws → RepL K M H (ds ++ es) (vs ++ ws)
  | [], es, vs, ws, h, g => by rw [show vs = [] from h]; exact g
  | d :: ds, es, vs, ws, h, g => by
    obtain ⟨v, r, e1, e2, e3⟩ := (show ∃ v r, vs = v :: r ∧ Rep K M H d v ∧ RepL K M H ds r from h)
    subst e1
    exact ⟨v, r ++ ws, rfl, e2, RepL.append e3 g⟩
theorem RepL.take : ∀ (n : Nat) {ds : List PyData} {vs : List V}, RepL K M H ds vs → RepL K M H (ds.take n) (vs.take n)
  | 0, _, _, _ => rfl
  | n + 1, [], vs, h => by rw [show vs = [] from h]; rfl
  | n + 1, d :: ds, vs, h => by
    obtain ⟨v, r, e1, e2, e3⟩ := (show ∃ v r, vs = v :: r ∧ Rep K M H d v ∧ RepL K M H ds r from h)
    subst e1
    exact ⟨v, r.take n, rfl, e2, RepL.take n e3⟩
theorem RepL.drop : ∀ (n : Nat) {ds : List PyData} {vs : List V}, RepL K M H ds vs → RepL K M H (ds.drop n) (vs.drop n)
  | 0, _, _, h => h
  | n + 1, [], vs, h => by rw [show vs = [] from h]; rfl
  | n + 1, d :: ds, vs, h => by
    obtain ⟨v, r, e1, e2, e3⟩ := (show ∃ v r, vs = v :: r ∧ Rep K M H d v ∧ RepL K M H ds r from h)
    subst e1
    exact RepL.drop n e3
theorem RepL.set {d : PyData} {v : V} (h0 : Rep K M H d v) : ∀ (i : Nat) {ds : List PyData} {vs : List V}, RepL K M H ds vs → RepL K M H (ds.set i d) (vs.set i v)
  | _, [], vs, h => by rw [show vs = [] from h]; rfl
  | 0, x :: ds, vs, h => by
    obtain ⟨v', r, e1, e2, e3⟩ := (show ∃ v r, vs = v :: r ∧ Rep K M H x v ∧ RepL K M H ds r from h)
    subst e1
    exact ⟨v, r, rfl, h0, e3⟩
  | i + 1, x :: ds, vs, h => by
    obtain ⟨v', r, e1, e2, e3⟩ := (show ∃ v r, vs = v :: r ∧ Rep K M H x v ∧ RepL K M H ds r from h)
    subst e1
    exact ⟨v', r.set i v, rfl, e2, RepL.set h0 i e3⟩
theorem RepL.rep {ds : List PyData} {vs : List V} (h : RepL K M H ds vs) : ∀ n : Nat, RepL K M H (List.replicate n ds).flatten (List.replicate n vs).flatten
  | 0 => rfl
  | n + 1 => by
    rw [List.replicate_succ, List.replicate_succ, List.flatten_cons, List.flatten_cons]
    exact h.append (RepL.rep h n)
mutual
theorem Rep.dp : ∀ {d : PyData} {v : V}, Rep K M H d v → Dp K H v d
  | .none, v, h => by rw [show v = .non from h]; exact .non
  | .bool b, v, h => by rw [show v = .bl b from h]; exact .bl b
  | .int i, v, h => by rw [show v = .int i from h]; exact .int i
  | .str s, v, h => by rw [show v = .str s from h]; exact .str s
  | .list ds, v, h => by
    obtain ⟨a, vs, e1, e2, e3, e4⟩ := (show ∃ a vs, v = .ref a ∧ Fre M a ∧ H a = some (.lst vs) ∧ RepL K M H ds vs from h)
    subst e1
    exact .lst (SqL.of e3) (RepL.dp e4)
  | .tuple ds, v, h => by
    obtain ⟨a, vs, e1, e2, e3⟩ := (show ∃ a vs, v = .ref a ∧ SqT K H a vs ∧ RepL K M H ds vs from h)
    subst e1
    exact .tup e2 (RepL.dp e3)
  | .dict _, _, h => h.elim
theorem RepL.dp : ∀ {ds : List PyData} {vs : List V}, RepL K M H ds vs → DpAll K H vs ds
  | [], vs, h => by rw [show vs = [] from h]; exact .nil
  | d :: ds, vs, h => by
    obtain ⟨v, r, e1, e2, e3⟩ := (show ∃ v r, vs = v :: r ∧ Rep K M H d v ∧ RepL K M H ds r from h)
    subst e1
    exact .cons (Rep.dp e2) (RepL.dp e3)
end
theorem RepL.ints : ∀ {ds : List PyData} {ns : List Int} {vs : List V}, intsOf ds = some ns → RepL K M H ds vs → vs = ns.map V.int
  | [], ns, vs, e, h => by
    simp only [intsOf, Option.some.injEq] at e
    subst e
    exact h
  | d :: ds, ns, vs, e, h => by
    obtain ⟨v, r, e1, e2, e3⟩ := (show ∃ v r, vs = v :: r ∧ Rep K M H d v ∧ RepL K M H ds r from h)
    subst e1
    cases d with
    | int i =>
      simp only [intsOf, Option.map_eq_some_iff] at e
      obtain ⟨ms, h1, h2⟩ := e
      subst h2
      rw [RepL.ints h1 e3, show v = .int i from e2]
      rfl
    | _ => simp [intsOf] at e
theorem RepL.bools : ∀ {ds : List PyData} {ns : List Bool} {vs : List V}, boolsOf ds = some ns → RepL K M H ds vs → vs = ns.map V.bl
  | [], ns, vs, e, h => by
    simp only [boolsOf, Option.some.injEq] at e
    subst e
    exact h
  | d :: ds, ns, vs, e, h => by
    obtain ⟨v, r, e1, e2, e3⟩ := (show ∃ v r, vs = v :: r ∧ Rep K M H d v ∧ RepL K M H ds r from h)
    subst e1
    cases d with
    | bool i =>
      simp only [boolsOf, Option.map_eq_some_iff] at e
      obtain ⟨ms, h1, h2⟩ := e
      subst h2
      rw [RepL.bools h1 e3, show v = .bl i from e2]
      rfl
    | _ => simp [boolsOf] at e
end

/-- the store as it stands in the heap -/
structure StoreOk (T : List (Addr × Str)) (K : PySem.W.Frag) (M : MM) (H : Hp) (S : Sto) : Prop where
  len : M.m.length = S.length
  inj : ∀ (n m : Nat) (a : Addr), M.m[n]? = some (some a) → M.m[m]? = some (some a) → n = m
  ent : ∀ (n : Nat) xs, S[n]? = some (.lst xs) → ∃ a vs, M.m[n]? = some (some a) ∧ H a = some (.lst vs) ∧ RepL K M H xs vs
  gon : ∀ n : Nat, S[n]? = some .gone → M.m[n]? = some none
  prv : ∀ a, a ∈ M.z → some a ∉ M.m ∧ ∃ vs, H a = some (.lst vs)
  tab : LamX.Tabs T H
section
variable {T : List (Addr × Str)} {K : PySem.W.Frag} {M M' : MM} {H H' : Hp} {S : Sto}
/-- what may be changed is a list -/
theorem StoreOk.mut (s : StoreOk T K M H S) {a : Addr} (h : some a ∈ M.m) : ∃ (n : Nat) (xs : List PyData) (vs : List V), S[n]? = some (SE.lst xs) ∧ M.m[n]? = some (some a) ∧ H a = some (HO.lst vs) := by
  obtain ⟨n, hn⟩ := List.mem_iff_getElem?.mp h
  have hl : n < S.length := by rw [← s.len]; exact (List.getElem?_eq_some_iff.mp hn).1
  cases e : S[n]? with
  | none => exact absurd (List.getElem?_eq_none_iff.mp e) (by omega)
  | some x =>
    cases x with
    | lst xs =>
      obtain ⟨b, vs, h1, h2, _⟩ := s.ent n xs e
      rw [hn] at h1
      cases h1
      exact ⟨n, xs, vs, e, hn, h2⟩
    | gone =>
      have := s.gon n e
      rw [hn] at this
      cases this
theorem StoreOk.fresh (s : StoreOk T K M H S) {p : Addr} (hp : H p = none) : some p ∉ M.m := fun z => by
  obtain ⟨_, _, _, _, _, h⟩ := s.mut z
  rw [hp] at h; cases h
theorem StoreOk.fre (s : StoreOk T K M H S) {p : Addr} (hp : H p = none) : Fre M p := ⟨s.fresh hp, fun z => by
  obtain ⟨_, _, h⟩ := s.prv p z
  rw [hp] at h; cases h⟩
theorem StoreOk.notTup (s : StoreOk T K M H S) {a : Addr} {o : HO} (h : H a = some o) (ho : ∀ xs, o ≠ .lst xs) : some a ∉ M.m := fun z => by
  obtain ⟨_, _, vs, _, _, h'⟩ := s.mut z
  rw [h] at h'; cases h'; exact ho _ rfl
/-- a new object is laid -/
theorem ext_new {p : Addr} {o : HO} (hp : H p = none) : Ext M H M (upd H p o) where
  len := Nat.le_refl _
  old := fun _ _ => .inr rfl
  new := fun _ h => .inl h
  zz := rfl
  lst := fun a xs h _ => by rw [upd_ne (ne_of_none h hp)]; exact h
  tup := fun a xs h => by rw [upd_ne (ne_of_none h hp)]; exact h
  frz := fun a o u h => by rw [upd_ne (ne_of_none h hp)]; exact h
  dk := fun a xs h _ => by rw [upd_ne (ne_of_none h hp)]; exact h
  nn := fun a h z => by
    cases q : H a with
    | none => exact h q
    | some u =>
      rw [upd_ne (ne_of_none q hp), q] at z
      cases z
theorem upd_keep {p : Addr} {o : HO} (hp : H p = none) : ∀ b u, H b = some u → upd H p o b = some u := fun b u e => by rw [upd_ne (ne_of_none e hp)]; exact e
theorem StoreOk.new (s : StoreOk T K M H S) {p : Addr} {o : HO} (hp : H p = none) : StoreOk T K M (upd H p o) S where
  len := s.len
  inj := s.inj
  ent := fun n xs e => by
    obtain ⟨a, vs, h1, h2, h3⟩ := s.ent n xs e
    exact ⟨a, vs, h1, upd_keep hp _ _ h2, h3.ext (ext_new hp)⟩
  gon := s.gon
  prv := fun a h => by
    obtain ⟨h1, vs, h2⟩ := s.prv a h
    exact ⟨h1, vs, upd_keep hp _ _ h2⟩
  tab := s.tab.ext (upd_keep hp)
theorem rep_new_tup {p : Addr} {ds : List PyData} {vs : List V} (hp : H p = none) (r : RepL K M H ds vs) : Rep K M (upd H p (.tup vs)) (.tuple ds) (.ref p) :=
  ⟨p, vs, rfl, .inl (.inl upd_same), r.ext (ext_new hp)⟩
theorem rep_new_lst (s : StoreOk T K M H S) {p : Addr} {ds : List PyData} {vs : List V} (hp : H p = none) (r : RepL K M H ds vs) : Rep K M (upd H p (.lst vs)) (.list ds) (.ref p) :=
  ⟨p, vs, rfl, s.fre hp, upd_same, r.ext (ext_new hp)⟩
/-- a new list that may be changed -/
def MM.push (M : MM) (p : Addr) : MM := ⟨M.m ++ [some p], M.z⟩
theorem ext_push {p : Addr} {o : HO} (hp : H p = none) : Ext M H (M.push p) (upd H p o) where
  len := by simp [MM.push]
  old := fun n hn => .inr (List.getElem?_append_left hn)
  new := fun a h => by
    rcases List.mem_append.mp h with q | q
    · exact .inl q
    · simp only [List.mem_singleton, Option.some.injEq] at q
      subst q
      exact .inr hp
  zz := rfl
  lst := fun a xs h _ => upd_keep hp _ _ h
  tup := fun a xs h => upd_keep hp _ _ h
  frz := fun a o u h => upd_keep hp _ _ h
  dk := fun a xs h _ => upd_keep hp _ _ h
  nn := (ext_new (M := M) hp).nn
theorem StoreOk.push (s : StoreOk T K M H S) {p : Addr} {ds : List PyData} {vs : List V} (hp : H p = none) (r : RepL K M H ds vs) : StoreOk T K (M.push p) (upd H p (.lst vs)) (S ++ [.lst ds]) where
  len := by simp [MM.push, s.len]
  inj := fun n m a h1 h2 => by
    have key : ∀ {n : Nat}, (M.m ++ [some p])[n]? = some (some a) → (n < M.m.length ∧ M.m[n]? = some (some a)) ∨ (n = M.m.length ∧ a = p) := fun {n} h => by
      by_cases hn : n < M.m.length
      · rw [List.getElem?_append_left hn] at h; exact .inl ⟨hn, h⟩
      · have hlt : n < (M.m ++ [some p]).length := (List.getElem?_eq_some_iff.mp h).1
        have hn' : n = M.m.length := by simp at hlt; omega
        subst hn'
        simp at h
        exact .inr ⟨rfl, h.symm⟩
    rcases key h1 with ⟨l1, q1⟩ | ⟨l1, q1⟩ <;> rcases key h2 with ⟨l2, q2⟩ | ⟨l2, q2⟩
    · exact s.inj n m a q1 q2
    · subst q2; exact absurd (List.mem_of_getElem? q1) (s.fresh hp)
    · subst q1; exact absurd (List.mem_of_getElem? q2) (s.fresh hp)
    · rw [l1, l2]
  ent := fun n xs e => by
    by_cases hn : n < S.length
    · rw [List.getElem?_append_left hn] at e
      obtain ⟨a, ws, h1, h2, h3⟩ := s.ent n xs e
      exact ⟨a, ws, by rw [show (M.push p).m = M.m ++ [some p] from rfl, List.getElem?_append_left (by rw [s.len]; exact hn)]; exact h1, upd_keep hp _ _ h2, h3.ext (ext_push hp)⟩
    · have hlt : n < (S ++ [SE.lst ds]).length := (List.getElem?_eq_some_iff.mp e).1
      have hn' : n = S.length := by simp at hlt; omega
      subst hn'
      simp at e
      subst e
      exact ⟨p, vs, by rw [← s.len]; simp [MM.push], upd_same, r.ext (ext_push hp)⟩
  gon := fun n e => by
    by_cases hn : n < S.length
    · rw [List.getElem?_append_left hn] at e
      rw [show (M.push p).m = M.m ++ [some p] from rfl, List.getElem?_append_left (by rw [s.len]; exact hn)]
      exact s.gon n e
    · have hlt : n < (S ++ [SE.lst ds]).length := (List.getElem?_eq_some_iff.mp e).1
      have hn' : n = S.length := by simp at hlt; omega
      subst hn'
      simp at e
  prv := fun a h => by
    obtain ⟨h1, vs, h2⟩ := s.prv a h
    refine ⟨fun z => ?_, vs, upd_keep hp _ _ h2⟩
    rcases List.mem_append.mp z with q | q
    · exact h1 q
    · simp only [List.mem_singleton, Option.some.injEq] at q
      subst q
      rw [hp] at h2; cases h2
  tab := s.tab.ext (upd_keep hp)
/-- a list is changed -/
theorem ext_write {n : Nat} {a : Addr} {vs ws : List V} (s : StoreOk T K M H S) (hn : M.m[n]? = some (some a)) (ha : H a = some (.lst vs)) : Ext M H M (upd H a (.lst ws)) where
  len := Nat.le_refl _
  old := fun _ _ => .inr rfl
  new := fun _ h => .inl h
  zz := rfl
  lst := fun b xs h z => by
    rw [upd_ne fun e => z (by rw [e]; exact List.mem_of_getElem? hn)]
    exact h
  tup := fun b xs h => by
    rw [upd_ne fun e => by rw [e, ha] at h; cases h]
    exact h
  frz := fun b o u h => by
    rw [upd_ne fun e => by rw [e, ha] at h; cases h]
    exact h
  dk := fun b xs h z => by
    rw [upd_ne fun e => z (by rw [e]; exact List.mem_of_getElem? hn)]
    exact h
  nn := fun b h => by
    by_cases e : b = a
    · subst e; rw [upd_same]; intro z; cases z
    · rw [upd_ne e]; exact h
theorem StoreOk.write {n : Nat} {a : Addr} {vs ws : List V} {ds : List PyData} (s : StoreOk T K M H S) (hn : M.m[n]? = some (some a)) (ha : H a = some (.lst vs)) (r : RepL K M H ds ws) : StoreOk T K M (upd H a (.lst ws)) (S.set n (.lst ds)) where
  len := by rw [List.length_set]; exact s.len
  inj := s.inj
  ent := fun m xs e => by
    have hl : n < S.length := by rw [← s.len]; exact (List.getElem?_eq_some_iff.mp hn).1
    by_cases hm : n = m
    · subst hm
      rw [List.getElem?_set_self hl] at e
      cases e
      exact ⟨a, ws, hn, upd_same, r.ext (ext_write s hn ha)⟩
    · rw [List.getElem?_set_ne hm] at e
      obtain ⟨b, us, h1, h2, h3⟩ := s.ent m xs e
      exact ⟨b, us, h1, by rw [upd_ne fun z => hm (s.inj n m a hn (by rw [← z]; exact h1))]; exact h2, h3.ext (ext_write s hn ha)⟩
  gon := fun m e => by
    have hl : n < S.length := by rw [← s.len]; exact (List.getElem?_eq_some_iff.mp hn).1
    by_cases hm : n = m
    · subst hm
      rw [List.getElem?_set_self hl] at e
      cases e
    · rw [List.getElem?_set_ne hm] at e
      exact s.gon m e
  prv := fun b h => by
    obtain ⟨h1, us, h2⟩ := s.prv b h
    exact ⟨h1, us, by rw [upd_ne fun z => h1 (by rw [z]; exact List.mem_of_getElem? hn)]; exact h2⟩
  tab := fun p hp => by
    obtain ⟨ps, h1, h2, h3⟩ := s.tab p hp
    refine ⟨ps, by rw [upd_ne fun e => by rw [e, ha] at h1; cases h1]; exact h1, h2, fun pos cv hc => ?_⟩
    obtain ⟨c, q1, q2⟩ := h3 pos cv hc
    exact ⟨c, q1, by rw [upd_ne fun e => by rw [e, ha] at q2; unfold LamX.CodeO at q2; cases q2]; exact q2⟩
/-- a list is let go: it is plain from now on -/
def MM.gone (M : MM) (n : Nat) : MM := ⟨M.m.set n none, M.z⟩
theorem ext_gone {n : Nat} : Ext M H (M.gone n) H where
  len := by simp [MM.gone]
  old := fun m hm => by
    by_cases e : n = m
    · subst e; exact .inl (List.getElem?_set_self hm)
    · exact .inr (List.getElem?_set_ne e)
  new := fun a h => by
    obtain ⟨m, hm⟩ := List.mem_iff_getElem?.mp h
    by_cases e : n = m
    · subst e
      have hm : (M.m.set n none)[n]? = some (some a) := hm
      have hl : n < M.m.length := by
        have := (List.getElem?_eq_some_iff.mp hm).1
        simpa using this
      rw [List.getElem?_set_self hl] at hm
      cases hm
    · have hm : (M.m.set n none)[m]? = some (some a) := hm
      rw [List.getElem?_set_ne e] at hm
      exact .inl (List.mem_of_getElem? hm)
  zz := rfl
  lst := fun _ _ h _ => h
  tup := fun _ _ h => h
  frz := fun _ _ _ h => h
  dk := fun _ _ h _ => h
  nn := fun _ h => h
theorem StoreOk.gone (s : StoreOk T K M H S) {n : Nat} : StoreOk T K (M.gone n) H (S.set n .gone) where
  len := by simp [MM.gone, s.len]
  inj := fun i j a h1 h2 => by
    have key : ∀ {i : Nat}, (M.m.set n none)[i]? = some (some a) → M.m[i]? = some (some a) := fun {i} h => by
      by_cases e : n = i
      · subst e
        have hl : n < M.m.length := by
          have := (List.getElem?_eq_some_iff.mp h).1
          simpa using this
        rw [List.getElem?_set_self hl] at h
        cases h
      · rwa [List.getElem?_set_ne e] at h
    exact s.inj i j a (key h1) (key h2)
  ent := fun m xs e => by
    by_cases hm : n = m
    · subst hm
      have hl : n < S.length := by
        have := (List.getElem?_eq_some_iff.mp e).1
        simpa using this
      rw [List.getElem?_set_self hl] at e
      cases e
    · rw [List.getElem?_set_ne hm] at e
      obtain ⟨a, vs, h1, h2, h3⟩ := s.ent m xs e
      exact ⟨a, vs, by show (M.m.set n none)[m]? = _; rw [List.getElem?_set_ne hm]; exact h1, h2, h3.ext ext_gone⟩
  gon := fun m e => by
    by_cases hm : n = m
    · subst hm
      have hl : n < S.length := by
        have := (List.getElem?_eq_some_iff.mp e).1
        simpa using this
      exact List.getElem?_set_self (by rw [s.len]; exact hl)
    · rw [List.getElem?_set_ne hm] at e
      show (M.m.set n none)[m]? = _
      rw [List.getElem?_set_ne hm]
      exact s.gon m e
  prv := fun b h => by
    obtain ⟨h1, us, h2⟩ := s.prv b h
    refine ⟨fun z => h1 ?_, us, h2⟩
    obtain ⟨m, hm⟩ := List.mem_iff_getElem?.mp z
    have hm : (M.m.set n none)[m]? = some (some b) := hm
    by_cases e : n = m
    · subst e
      have hl : n < M.m.length := by
        have := (List.getElem?_eq_some_iff.mp hm).1
        simpa using this
      rw [List.getElem?_set_self hl] at hm
      cases hm
    · rw [List.getElem?_set_ne e] at hm
      exact List.mem_of_getElem? hm
  tab := s.tab
theorem rep_gone (s : StoreOk T K M H S) {n : Nat} {xs : List PyData} {a : Addr} (hn : S[n]? = some (.lst xs)) (hm : M.m[n]? = some (some a)) : Rep K (M.gone n) H (.list xs) (.ref a) := by
  obtain ⟨b, vs, h1, h2, h3⟩ := s.ent n xs hn
  rw [hm] at h1
  cases h1
  refine ⟨a, vs, rfl, ⟨fun z => ?_, fun z => (s.prv a z).1 (List.mem_of_getElem? hm)⟩, h2, h3.ext ext_gone⟩
  obtain ⟨m, hm'⟩ := List.mem_iff_getElem?.mp z
  have hm' : (M.m.set n none)[m]? = some (some a) := hm'
  by_cases e : n = m
  · subst e
    rw [List.getElem?_set_self (List.getElem?_eq_some_iff.mp hm).1] at hm'
    cases hm'
  · rw [List.getElem?_set_ne e] at hm'
    exact e (s.inj n m a hm hm')
/-- behind a call: the callee's own places are forgotten -/
def MM.take (M : MM) (n : Nat) : MM := ⟨M.m.take n, M.z⟩
theorem ext_take (e : Ext M H M' H') : Ext M H (M'.take M.m.length) H' where
  len := by show _ ≤ (M'.m.take M.m.length).length; rw [List.length_take]; have := e.len; omega
  old := fun n hn => by show (M'.m.take M.m.length)[n]? = _ ∨ (M'.m.take M.m.length)[n]? = _; rw [List.getElem?_take_of_lt hn]; exact e.old n hn
  new := fun a h => e.new a (List.mem_of_mem_take h)
  zz := e.zz
  lst := e.lst
  tup := e.tup
  frz := e.frz
  dk := e.dk
  nn := e.nn
theorem fre_take (n : Nat) {a : Addr} (h : Fre M a) : Fre (M.take n) a := ⟨fun z => h.1 (List.mem_of_mem_take z), h.2⟩
mutual
theorem Rep.cut (h : ∀ a, Fre M a → Fre M' a) : ∀ {d : PyData} {v : V}, Rep K M H d v → Rep K M' H d v
  | .none, _, r => r
  | .bool _, _, r => r
  | .int _, _, r => r
  | .str _, _, r => r
  | .list ds, v, r => by
    obtain ⟨a, vs, e1, e2, e3, e4⟩ := (show ∃ a vs, v = .ref a ∧ Fre M a ∧ H a = some (.lst vs) ∧ RepL K M H ds vs from r)
    exact ⟨a, vs, e1, h a e2, e3, RepL.cut h e4⟩
  | .tuple ds, v, r => by
    obtain ⟨a, vs, e1, e2, e3⟩ := (show ∃ a vs, v = .ref a ∧ SqT K H a vs ∧ RepL K M H ds vs from r)
    exact ⟨a, vs, e1, e2, RepL.cut h e3⟩
  | .dict _, _, r => r
theorem RepL.cut (h : ∀ a, Fre M a → Fre M' a) : ∀ {ds : List PyData} {vs : List V}, RepL K M H ds vs → RepL K M' H ds vs
  | [], _, r => r
  | d :: ds, vs, r => by
    obtain ⟨v, q, e1, e2, e3⟩ := (show ∃ v r, vs = v :: r ∧ Rep K M H d v ∧ RepL K M H ds r from r)
    exact ⟨v, q, e1, Rep.cut h e2, RepL.cut h e3⟩
end
theorem StoreOk.take (s : StoreOk T K M H S) (n : Nat) : StoreOk T K (M.take n) H (S.take n) where
  len := by simp [MM.take, s.len]
  inj := fun i j a h1 h2 => by
    have key : ∀ {i : Nat}, (M.m.take n)[i]? = some (some a) → M.m[i]? = some (some a) := fun {i} h => by
      rw [List.getElem?_take] at h
      split at h
      · exact h
      · cases h
    exact s.inj i j a (key h1) (key h2)
  ent := fun m xs e => by
    rw [List.getElem?_take] at e
    split at e
    · rename_i hm
      obtain ⟨a, vs, h1, h2, h3⟩ := s.ent m xs e
      exact ⟨a, vs, by show (M.m.take n)[m]? = _; rw [List.getElem?_take_of_lt hm]; exact h1, h2, h3.cut fun _ => fre_take n⟩
    · cases e
  gon := fun m e => by
    rw [List.getElem?_take] at e
    split at e
    · rename_i hm
      show (M.m.take n)[m]? = _
      rw [List.getElem?_take_of_lt hm]
      exact s.gon m e
    · cases e
  prv := fun b h => by
    obtain ⟨h1, us, h2⟩ := s.prv b h
    exact ⟨fun z => h1 (List.mem_of_mem_take z), us, h2⟩
  tab := s.tab
theorem toD_rep (s : StoreOk T K M H S) {v : Val} {x : PyData} {y : V} (h : toD v S = some x) (r : RepV K M H v y) : Dp K H y x ∧ (∀ xs, x = .list xs → ∃ a vs, y = .ref a ∧ H a = some (.lst vs) ∧ RepL K M H xs vs) ∧ ((∀ xs, x ≠ .list xs) → Rep K M H x y) := by
  cases v with
  | d z =>
    simp only [toD, Option.some.injEq] at h
    subst h
    have r : Rep K M H z y := r
    refine ⟨r.dp, fun xs e => ?_, fun _ => r⟩
    subst e
    obtain ⟨a, vs, e1, e2, e3, e4⟩ := (show ∃ a vs, y = .ref a ∧ Fre M a ∧ H a = some (.lst vs) ∧ RepL K M H xs vs from r)
    exact ⟨a, vs, e1, e3, e4⟩
  | r n =>
    simp only [toD] at h
    cases e : S[n]? with
    | none => rw [e] at h; cases h
    | some o =>
      rw [e] at h
      cases o with
      | gone => cases h
      | lst xs =>
        simp only [Option.some.injEq] at h
        subst h
        obtain ⟨a, vs, h1, h2, h3⟩ := s.ent n xs e
        obtain ⟨b, e1, e2⟩ := r
        rw [h1] at e2
        have eb : a = b := by
          rcases e2 with q | q
          · cases q
          · cases q; rfl
        subst eb
        subst e1
        refine ⟨.lst (SqL.of h2) h3.dp, fun ys e' => ?_, fun q => absurd rfl (q xs)⟩
        cases e'
        exact ⟨a, vs, rfl, h2, h3⟩
  | s xs => simp [toD] at h
end
end Z

/-! Operations by values. -/
namespace Z
open PySem PySem.Spec PyProof.Rows L2

/-- the run ends so that what is wanted holds -/
def Post {α β : Type} (X : Cx) (T : List (Addr × Str)) (W : WX) (σ : L2.St) (M : MM) (H : Hp) (rep : MM → Hp → α → β → Prop) (res : R α) (Q : β → Hp → Prop) : Prop := match res with
  | .ok a S' => ∀ b M' H', Ext M H M' H' → StoreOk T X.K M' H' S' → rep M' H' a b → Q b H'
  | .ex c S' => ∀ M' H' C, Ext M H M' H' → StoreOk T X.K M' H' S' → X.mg c = some (.ref C) → W (.ref C) none σ H'
  | .no => False
section
variable {α β γ δ : Type} {X : Cx} {T : List (Addr × Str)} {W : WX} {σ : L2.St} {M M1 : MM} {H H1 : Hp} {rep : MM → Hp → α → β → Prop} {rep2 : MM → Hp → γ → δ → Prop} {Q : β → Hp → Prop} {Q2 : δ → Hp → Prop}
theorem Post.ext (e : Ext M H M1 H1) {res : R α} (h : Post X T W σ M H rep res Q) : Post X T W σ M1 H1 rep res Q := by
  cases res with
  | ok a S' => exact fun b M' H' e' s r => h b M' H' (e.trans e') s r
  | ex c S' => exact fun M' H' C e' s r => h M' H' C (e.trans e') s r
  | no => exact h
theorem Post.bind {x : R α} {f : α → Sto → R γ} (h : Post X T W σ M H rep2 (x.bind f) Q2) : Post X T W σ M H rep x (fun b H1 => ∃ a S1 M1, Ext M H M1 H1 ∧ StoreOk T X.K M1 H1 S1 ∧ rep M1 H1 a b ∧ x = .ok a S1 ∧ Post X T W σ M1 H1 rep2 (f a S1) Q2) := by
  cases x with
  | ok a S' => exact fun b M' H' e s r => ⟨a, S', M', e, s, r, rfl, Post.ext e h⟩
  | ex c S' => exact h
  | no => exact h
end

section
variable (X : Cx) (T : List (Addr × Str)) (W : WX) (σ : L2.St)
def rBin (o : Op2) : R2 := fun x y H Q => ∃ v w S M, StoreOk T X.K M H S ∧ RepV X.K M H v x ∧ RepV X.K M H w y ∧ Post X T W σ M H (RepV X.K) (binV o v w S) Q
def rCmp (o : CO) : R2 := fun x y H Q => ∃ v w S M, StoreOk T X.K M H S ∧ RepV X.K M H v x ∧ RepV X.K M H w y ∧ Post X T W σ M H (fun _ _ a (b : V) => b = .bl a) (cmpV o v w S) Q
def rIxG : R2 := fun x y H Q => ∃ v w S M, StoreOk T X.K M H S ∧ RepV X.K M H v x ∧ RepV X.K M H w y ∧ Post X T W σ M H (RepV X.K) (ixV v w S) Q
def rSlG : V → Option Int → Option Int → Hp → VK → Prop := fun x lo hi H Q => ∃ v S M, StoreOk T X.K M H S ∧ RepV X.K M H v x ∧ Post X T W σ M H (RepV X.K) (slV v lo hi S) Q
def rBi (b : BI) : List V → Hp → VK → Prop := fun xs H Q => ∃ vs S M, StoreOk T X.K M H S ∧ RepVs X.K M H vs xs ∧ Post X T W σ M H (RepV X.K) (biV b vs S) Q
end

section
variable {X : Cx} {T : List (Addr × Str)} {W : WX} {σ : L2.St} {M : MM} {H : Hp} {S : Sto}
theorem lim_line : lim ≤ sizeLine := by rw [sizeLine_eq]; decide
theorem op_fdivNW : OpR X (binaryOp .FloorDiv) (rI (fun _ j => j ≠ 0 ∧ j.natAbs.log2 < 9000) fun i j => .int (i.fdiv j)) := opI fun i j _ _ _ _ _ hc q => floordiv_int hc.1 q (.inl (PyProof.noPylong_of_log2 hc.2))
/-- the data behind two values -/
theorem two_D {v w : Val} {f : PyData → PyData → R Val} {Q : VK} (h : Post X T W σ M H (RepV X.K) (match toD v S, toD w S with
  | some x, some y => f x y
  | _, _ => .no) Q) : ∃ x y, toD v S = some x ∧ toD w S = some y ∧ Post X T W σ M H (RepV X.K) (f x y) Q := by
  cases e1 : toD v S with
  | none => rw [e1] at h; exact (show False from h).elim
  | some x =>
    cases e2 : toD w S with
    | none => rw [e1, e2] at h; exact (show False from h).elim
    | some y => rw [e1, e2] at h; exact ⟨x, y, rfl, rfl, h⟩
theorem post_okD {o : Option PyData} {Q : VK} (h : Post X T W σ M H (RepV X.K) (okD o S) Q) : ∃ z, o = some z ∧ ∀ b M' H', Ext M H M' H' → StoreOk T X.K M' H' S → Rep X.K M' H' z b → Q b H' := by
  cases o with
  | none => exact (show False from h).elim
  | some z => exact ⟨z, rfl, h⟩
theorem SqT.len_ok {a : Addr} {xs : List V} {pins : List (Addr × Obj)} {σ' : L2.St} {s : Shared} (I : Inv X pins σ' H s) (h : SqT X.K H a xs) : xs.length ≤ sizeLine := by
  obtain ⟨_, _, _, z⟩ := I.tuple h
  exact z
theorem op_binG (o : Op2) : OpR X (binaryOp (opOf o)) (rBin X T W σ o) := by
  intro pins s σ' H x y v u Q I rx ry h
  obtain ⟨p, q, S, M, so, rp, rq, hP⟩ := h
  obtain ⟨dx, dy, e1, e2, hP⟩ := two_D hP
  obtain ⟨z, ez, hQ⟩ := post_okD hP
  obtain ⟨px, lx, nx⟩ := toD_rep so e1 rp
  obtain ⟨py, ly, ny⟩ := toD_rep so e2 rq
  have fin0 : ∀ b, Rep X.K M H z b → Q b H := fun b r => hQ b M H (Ext.refl _ _) so r
  have finN : ∀ (p : Addr) (ob : HO), H p = none → (∀ r : Rep X.K M (upd H p ob) z (.ref p), Q (.ref p) (upd H p ob)) := fun p ob hp r => hQ _ M _ (ext_new hp) (so.new hp) r
  cases o with
  | add =>
    cases dx with
    | int i =>
      cases dy with
      | int j =>
        simp only [binD, Option.some.injEq] at ez; subst ez
        rw [show x = .int i from nx (by intro _ z; cases z)] at rx
        rw [show y = .int j from ny (by intro _ z; cases z)] at ry
        exact op_add pins s σ' H _ _ v u Q I rx ry ⟨i, j, rfl, rfl, fin0 _ rfl⟩
      | _ => simp [binD] at ez
    | str i =>
      cases dy with
      | str j =>
        simp only [binD] at ez
        split at ez
        · rename_i hl
          simp only [Option.some.injEq] at ez; subst ez
          rw [show x = .str i from nx (by intro _ z; cases z)] at rx
          rw [show y = .str j from ny (by intro _ z; cases z)] at ry
          refine op_add_str pins s σ' H _ _ v u Q I rx ry ⟨i, j, rfl, rfl, Nat.le_trans hl lim_line, fin0 _ rfl⟩
        · cases ez
      | _ => simp [binD] at ez
    | tuple xs =>
      cases dy with
      | tuple ys =>
        simp only [binD] at ez
        split at ez
        · rename_i hl
          simp only [Option.some.injEq] at ez; subst ez
          obtain ⟨a, vs, r1, r2, r3⟩ := (show ∃ a vs, x = .ref a ∧ SqT X.K H a vs ∧ RepL X.K M H xs vs from nx (by intro _ z; cases z))
          obtain ⟨b, ws, q1, q2, q3⟩ := (show ∃ a vs, y = .ref a ∧ SqT X.K H a vs ∧ RepL X.K M H ys vs from ny (by intro _ z; cases z))
          refine op_catA pins s σ' H _ _ v u Q I rx ry ⟨a, b, vs, ws, r1, q1, r2, q2, ?_, fun e => ?_, fun _ e => ?_, fun _ _ p hp => ?_⟩
          · rw [← r3.length, ← q3.length]; exact Nat.le_trans hl lim_line
          · subst e
            have : xs = [] := List.length_eq_zero_iff.mp (by rw [r3.length]; rfl)
            subst this
            exact fin0 _ ⟨b, ws, rfl, q2, by simpa using q3⟩
          · subst e
            have : ys = [] := List.length_eq_zero_iff.mp (by rw [q3.length]; rfl)
            subst this
            exact fin0 _ ⟨a, vs, rfl, r2, by simpa using r3⟩
          · exact finN p _ hp (rep_new_tup hp (r3.append q3))
        · cases ez
      | _ => simp [binD] at ez
    | list xs =>
      cases dy with
      | list ys =>
        simp only [binD] at ez
        split at ez
        · rename_i hl
          simp only [Option.some.injEq] at ez; subst ez
          obtain ⟨a, vs, r1, r2, r3⟩ := lx xs rfl
          obtain ⟨b, ws, q1, q2, q3⟩ := ly ys rfl
          refine op_cat pins s σ' H _ _ v u Q I rx ry ⟨a, b, vs, ws, r1, q1, r2, q2, ?_, fun p hp => ?_⟩
          · rw [← r3.length, ← q3.length]; exact Nat.le_trans hl lim_line
          · exact finN p _ hp (rep_new_lst so hp (r3.append q3))
        · cases ez
      | _ => simp [binD] at ez
    | _ => cases dy <;> simp [binD] at ez
  | sub =>
    cases dx with
    | int i =>
      cases dy with
      | int j =>
        simp only [binD, Option.some.injEq] at ez; subst ez
        rw [show x = .int i from nx (by intro _ z; cases z)] at rx
        rw [show y = .int j from ny (by intro _ z; cases z)] at ry
        exact op_sub pins s σ' H _ _ v u Q I rx ry ⟨i, j, rfl, rfl, fin0 _ rfl⟩
      | _ => simp [binD] at ez
    | _ => cases dy <;> simp [binD] at ez
  | mul =>
    cases dx with
    | int i =>
      cases dy with
      | int j =>
        simp only [binD] at ez
        split at ez
        · rename_i hl
          simp only [Option.some.injEq] at ez; subst ez
          simp only [fitM, Bool.and_eq_true, decide_eq_true_eq] at hl
          rw [show x = .int i from nx (by intro _ z; cases z)] at rx
          rw [show y = .int j from ny (by intro _ z; cases z)] at ry
          refine op_mulW pins s σ' H _ _ v u Q I rx ry ⟨i, j, rfl, rfl, ?_, fin0 _ rfl⟩
          show i.natAbs.log2 + j.natAbs.log2 < 1000000
          omega
        · cases ez
      | _ => simp [binD] at ez
    | tuple xs =>
      cases dy with
      | int k =>
        simp only [binD] at ez
        split at ez
        · rename_i hl
          simp only [Option.some.injEq] at ez; subst ez
          obtain ⟨a, vs, r1, r2, r3⟩ := (show ∃ a vs, x = .ref a ∧ SqT X.K H a vs ∧ RepL X.K M H xs vs from nx (by intro _ z; cases z))
          rw [show y = .int k from ny (by intro _ z; cases z)] at ry
          refine op_repT pins s σ' H _ _ v u Q I rx ry ⟨a, k, vs, r1, rfl, r2, fun e => ?_, hl.2.1, hl.2.2.1, by rw [← r3.length]; exact hl.1, fun p hp => finN p _ hp (rep_new_tup hp (r3.rep _))⟩
          subst e
          have : xs = [] := List.length_eq_zero_iff.mp (by rw [r3.length]; rfl)
          subst this
          exact absurd hl.2.2.2 (by simp)
        · cases ez
      | _ => simp [binD] at ez
    | list xs =>
      cases dy with
      | int k =>
        simp only [binD] at ez
        split at ez
        · rename_i hl
          simp only [Option.some.injEq] at ez; subst ez
          obtain ⟨a, vs, r1, r2, r3⟩ := lx xs rfl
          rw [show y = .int k from ny (by intro _ z; cases z)] at ry
          refine op_rep pins s σ' H _ _ v u Q I rx ry ⟨a, k, vs, r1, rfl, r2, by omega, by omega, ?_, fun p hp => finN p _ hp (rep_new_lst so hp (r3.rep _))⟩
          rw [← r3.length]
          have h1 : xs.length * k.toNat ≤ 1000 * 1000 := Nat.mul_le_mul hl.1 (by omega)
          exact Nat.le_trans h1 lim_line
        · cases ez
      | _ => simp [binD] at ez
    | _ => cases dy <;> simp [binD] at ez
  | fdiv =>
    cases dx with
    | int i =>
      cases dy with
      | int j =>
        simp only [binD] at ez
        split at ez
        · rename_i hl
          simp only [Option.some.injEq] at ez; subst ez
          simp only [fitD, decide_eq_true_eq] at hl
          rw [show x = .int i from nx (by intro _ z; cases z)] at rx
          rw [show y = .int j from ny (by intro _ z; cases z)] at ry
          exact op_fdivNW pins s σ' H _ _ v u Q I rx ry ⟨i, j, rfl, rfl, ⟨hl.1, by omega⟩, fin0 _ rfl⟩
        · cases ez
      | _ => simp [binD] at ez
    | _ => cases dy <;> simp [binD] at ez
  | mod =>
    cases dx with
    | int i =>
      cases dy with
      | int j =>
        simp only [binD] at ez
        split at ez
        · rename_i hl
          simp only [Option.some.injEq] at ez; subst ez
          rw [show x = .int i from nx (by intro _ z; cases z)] at rx
          rw [show y = .int j from ny (by intro _ z; cases z)] at ry
          exact op_modN pins s σ' H _ _ v u Q I rx ry ⟨i, j, rfl, rfl, hl, fin0 _ rfl⟩
        · cases ez
      | _ => simp [binD] at ez
    | _ => cases dy <;> simp [binD] at ez
  | pow =>
    cases dx with
    | int i =>
      cases dy with
      | int j =>
        simp only [binD] at ez
        split at ez
        · rename_i hl
          simp only [Option.some.injEq] at ez; subst ez
          rw [show x = .int i from nx (by intro _ z; cases z)] at rx
          rw [show y = .int j from ny (by intro _ z; cases z)] at ry
          exact op_pow pins s σ' H _ _ v u Q I rx ry ⟨i, j, rfl, rfl, ⟨hl.1, by omega, hl.2.2⟩, fin0 _ rfl⟩
        · cases ez
      | _ => simp [binD] at ez
    | _ => cases dy <;> simp [binD] at ez
end
end Z

/-! Comparisons, subscripts, slices, built-ins by values. -/
namespace Z
open PySem PySem.Spec PyProof.Rows L2
section
variable {X : Cx} {T : List (Addr × Str)} {W : WX} {σ : L2.St} {M : MM} {H : Hp} {S : Sto}
theorem op_inT (hu : X.A.units + 65 < cLine) : OpR X (compareOp .In) (fun x y H Q => ∃ d ds, Dp X.K H x d ∧ Dp X.K H y (.tuple ds) ∧ SeqAt.shaped d = true ∧ SeqAt.shaped (.tuple ds) = true ∧ Q (.bl (ds.any fun z => PyData.eqv z d)) H) := by
  intro pins s σ H x y v u Q I rx ry h
  obtain ⟨d, ds, hd, he, sd, se, q⟩ := h
  obtain ⟨as, r1⟩ := Dp.reads I d x v hd rx
  obtain ⟨bs, r2⟩ := Dp.reads I (.tuple ds) y u he ry
  exact SeqAt.in_tuple_reads r2 r1 (SeqAt.canLay_of_shaped se) (SeqAt.canLay_of_shaped sd) (room_in_shaped sd hu) ⟨.bl _, H, I, rfl, q⟩
theorem op_notInT (hu : X.A.units + 65 < cLine) : OpR X (compareOp .NotIn) (fun x y H Q => ∃ d ds, Dp X.K H x d ∧ Dp X.K H y (.tuple ds) ∧ SeqAt.shaped d = true ∧ SeqAt.shaped (.tuple ds) = true ∧ Q (.bl (!ds.any fun z => PyData.eqv z d)) H) := by
  intro pins s σ H x y v u Q I rx ry h
  obtain ⟨d, ds, hd, he, sd, se, q⟩ := h
  obtain ⟨as, r1⟩ := Dp.reads I d x v hd rx
  obtain ⟨bs, r2⟩ := Dp.reads I (.tuple ds) y u he ry
  exact SeqAt.notIn_tuple_reads r2 r1 (SeqAt.canLay_of_shaped se) (SeqAt.canLay_of_shaped sd) (room_in_shaped sd hu) ⟨.bl _, H, I, rfl, q⟩
theorem post_cmp {o : CO} {v w : Val} {Q : VK} (h : Post X T W σ M H (fun _ _ a (b : V) => b = .bl a) (cmpV o v w S) Q) (so : StoreOk T X.K M H S) : ∃ x y c, toD v S = some x ∧ toD w S = some y ∧ cmpD o x y = some c ∧ Q (.bl c) H := by
  unfold cmpV at h
  cases e1 : toD v S with
  | none => rw [e1] at h; exact (show False from h).elim
  | some x =>
    cases e2 : toD w S with
    | none => rw [e1, e2] at h; exact (show False from h).elim
    | some y =>
      rw [e1, e2] at h
      dsimp only at h
      cases e3 : cmpD o x y with
      | none => rw [e3] at h; exact (show False from h).elim
      | some c => rw [e3] at h; exact ⟨x, y, c, rfl, rfl, e3, h _ M H (Ext.refl _ _) so rfl⟩
theorem scal_of {x y : PyData} {v w : V} (h : scalD x y = true) (r1 : Rep X.K M H x v) (r2 : Rep X.K M H y w) : scal v w = true ∧ decide (v = w) = PyData.eqv x y := by
  cases x <;> cases y <;> first | (exact absurd (show false = true from h) Bool.false_ne_true) | skip
  all_goals
    simp only [Rep] at r1 r2
    subst r1 r2
    refine ⟨rfl, ?_⟩
    first
      | (simp [PyData.eqv]; done)
      | (simp only [PyData.eqv]; first | exact dec_int | exact dec_bl | exact dec_str)
theorem scal_nl {x y : PyData} (h : scalD x y = true) : (∀ xs, x ≠ .list xs) ∧ (∀ xs, y ≠ .list xs) := by
  cases x <;> cases y <;> first | (exact absurd (show false = true from h) Bool.false_ne_true) | exact ⟨fun _ z => (nomatch z), fun _ z => (nomatch z)⟩
theorem shaped_eq (x : PyData) : SeqAt.shaped x = SeqAt.shaped x := rfl
theorem op_cmpG (hu : X.A.units + 65 < cLine) (o : CO) : OpR X (compareOp (coOf o)) (rCmp X T W σ o) := by
  intro pins s σ' H x y v u Q I rx ry h
  obtain ⟨p, q, S, M, so, rp, rq, hP⟩ := h
  obtain ⟨dx, dy, c, e1, e2, ec, hQ⟩ := post_cmp hP so
  obtain ⟨px, lx, nx⟩ := toD_rep so e1 rp
  obtain ⟨py, ly, ny⟩ := toD_rep so e2 rq
  have isInt : ∀ {d : PyData} {i : Int} {z : V}, ((∀ xs, d ≠ .list xs) → Rep X.K M H d z) → d = .int i → z = .int i := fun {d i z} n e => by
    subst e; exact n (by intro _ z; cases z)
  have twoI : ∀ {f : Int → Int → Bool} {g : PyData → PyData → Option Bool}, (∀ i j, g (.int i) (.int j) = some (f i j)) → (∀ a b c, g a b = some c → ∃ i j, a = .int i ∧ b = .int j) → g dx dy = some c → ∃ i j, x = .int i ∧ y = .int j ∧ Q (.bl (f i j)) H := fun {f g} h1 h2 e => by
    obtain ⟨i, j, rfl, rfl⟩ := h2 _ _ _ e
    rw [h1] at e
    cases e
    exact ⟨i, j, isInt nx rfl, isInt ny rfl, hQ⟩
  have eqc : ∀ b, eqD dx dy = some b → (scal x y = true ∧ decide (x = y) = b) ∨ (SeqAt.shaped dx = true ∧ SeqAt.shaped dy = true ∧ PyData.eqv dx dy = b) := fun b e => by
    unfold eqD at e
    split at e
    · rename_i hs
      cases e
      obtain ⟨n1, n2⟩ := scal_nl hs
      exact .inl (scal_of hs (nx n1) (ny n2))
    · split at e
      · rename_i hs
        cases e
        simp only [Bool.and_eq_true] at hs
        exact .inr ⟨hs.1, hs.2, rfl⟩
      · cases e
  have hu64 : X.A.units + 64 < cLine := by omega
  have inc : ∀ b, inD dx dy = some b → (∃ (c : Nat) (z : Str), x = .str ⟨#[c]⟩ ∧ y = .str z ∧ decide (c ∈ z.cps.toList) = b) ∨ (∃ ds, dy = .list ds ∧ SeqAt.shaped dx = true ∧ SeqAt.shaped (.list ds) = true ∧ (ds.any fun z => PyData.eqv z dx) = b) ∨ (∃ ds, dy = .tuple ds ∧ SeqAt.shaped dx = true ∧ SeqAt.shaped (.tuple ds) = true ∧ (ds.any fun z => PyData.eqv z dx) = b) := fun b e => by
    have lst : ∀ ds, dy = .list ds → inD dx dy = (if SeqAt.shaped dx && SeqAt.shaped (.list ds) then some (ds.any fun z => PyData.eqv z dx) else none) := fun ds e => by
      subst e
      cases dx <;> rfl
    have tpl : ∀ ds, dy = .tuple ds → inD dx dy = (if SeqAt.shaped dx && SeqAt.shaped (.tuple ds) then some (ds.any fun z => PyData.eqv z dx) else none) := fun ds e => by
      subst e
      cases dx <;> rfl
    cases hdy : dy with
    | list ds =>
      rw [lst ds hdy] at e
      split at e
      · rename_i hs
        simp only [Bool.and_eq_true] at hs
        cases e
        exact .inr (.inl ⟨ds, rfl, hs.1, hs.2, rfl⟩)
      · cases e
    | tuple ds =>
      rw [tpl ds hdy] at e
      split at e
      · rename_i hs
        simp only [Bool.and_eq_true] at hs
        cases e
        exact .inr (.inr ⟨ds, rfl, hs.1, hs.2, rfl⟩)
      · cases e
    | str t =>
      rw [hdy] at e ny
      cases hdx : dx with
      | str z =>
        rw [hdx] at e nx
        simp only [inD] at e
        split at e
        · rename_i c' hl
          cases e
          have es : z = ⟨#[c']⟩ := by
            obtain ⟨⟨l⟩⟩ := z
            simp only at hl
            subst hl
            rfl
          rw [es] at nx
          exact .inl ⟨c', t, nx (by intro _ z; cases z), ny (by intro _ z; cases z), rfl⟩
        · cases e
      | _ => rw [hdx] at e; simp [inD] at e
    | _ => rw [hdy] at e; cases dx <;> simp [inD] at e
  cases o with
  | eq =>
    rcases eqc c ec with ⟨h1, h2⟩ | ⟨h1, h2, h3⟩
    · exact op_eq pins s σ' H x y v u Q I rx ry ⟨h1, by rw [h2]; exact hQ⟩
    · exact op_eqD hu64 pins s σ' H x y v u Q I rx ry ⟨dx, dy, px, py, h1, h2, by rw [h3]; exact hQ⟩
  | ne =>
    simp only [cmpD, Option.map_eq_some_iff] at ec
    obtain ⟨b, eb, hb⟩ := ec
    rcases eqc b eb with ⟨h1, h2⟩ | ⟨h1, h2, h3⟩
    · exact op_ne pins s σ' H x y v u Q I rx ry ⟨h1, by rw [h2, hb]; exact hQ⟩
    · exact op_neD hu64 pins s σ' H x y v u Q I rx ry ⟨dx, dy, px, py, h1, h2, by rw [h3, hb]; exact hQ⟩
  | lt =>
    refine op_lt pins s σ' H x y v u Q I rx ry (twoI (g := cmpD .lt) (fun _ _ => rfl) (fun a b c e => ?_) ec)
    cases a <;> cases b <;> first | exact ⟨_, _, rfl, rfl⟩ | (simp [cmpD] at e)
  | le =>
    refine op_le pins s σ' H x y v u Q I rx ry (twoI (g := cmpD .le) (fun _ _ => rfl) (fun a b c e => ?_) ec)
    cases a <;> cases b <;> first | exact ⟨_, _, rfl, rfl⟩ | (simp [cmpD] at e)
  | gt =>
    refine op_gt pins s σ' H x y v u Q I rx ry (twoI (g := cmpD .gt) (fun _ _ => rfl) (fun a b c e => ?_) ec)
    cases a <;> cases b <;> first | exact ⟨_, _, rfl, rfl⟩ | (simp [cmpD] at e)
  | ge =>
    refine op_ge pins s σ' H x y v u Q I rx ry (twoI (g := cmpD .ge) (fun _ _ => rfl) (fun a b c e => ?_) ec)
    cases a <;> cases b <;> first | exact ⟨_, _, rfl, rfl⟩ | (simp [cmpD] at e)
  | is =>
    by_cases hy : dy = .none
    · subst hy
      have ey : y = .non := ny (by intro _ z; cases z)
      have ex : decide (x = .non) = isNone dx := by
        cases px <;> simp [isNone]
      have : cmpD .is dx .none = some (isNone dx) := by cases dx <;> rfl
      rw [this] at ec
      cases ec
      exact op_isN pins s σ' H x y v u Q I rx ry ⟨ey, by rw [ex]; exact hQ⟩
    · cases dx <;> cases dy <;> first | (exact absurd rfl hy) | (simp [cmpD] at ec; done) | skip
      rename_i a b
      simp only [cmpD, Option.some.injEq] at ec
      subst ec
      exact op_isBl pins s σ' H x y v u Q I rx ry ⟨a, b, nx (by intro _ z; cases z), ny (by intro _ z; cases z), hQ⟩
  | isn =>
    by_cases hy : dy = .none
    · subst hy
      have ey : y = .non := ny (by intro _ z; cases z)
      have ex : decide (x = .non) = isNone dx := by
        cases px <;> simp [isNone]
      have : cmpD .isn dx .none = some (!isNone dx) := by cases dx <;> rfl
      rw [this] at ec
      cases ec
      exact op_notN pins s σ' H x y v u Q I rx ry ⟨ey, by rw [ex]; exact hQ⟩
    · cases dx <;> cases dy <;> first | (exact absurd rfl hy) | (simp [cmpD] at ec; done) | skip
      rename_i a b
      simp only [cmpD, Option.some.injEq] at ec
      subst ec
      exact op_notBl pins s σ' H x y v u Q I rx ry ⟨a, b, nx (by intro _ z; cases z), ny (by intro _ z; cases z), hQ⟩
  | in_ =>
    rcases inc c ec with ⟨k, z, h1, h2, h3⟩ | ⟨ds, h1, h2, h3, h4⟩ | ⟨ds, h1, h2, h3, h4⟩
    · exact op_in_sign pins s σ' H x y v u Q I rx ry ⟨k, z, h1, h2, by rw [h3]; exact hQ⟩
    · subst h1
      exact op_inD hu pins s σ' H x y v u Q I rx ry ⟨dx, ds, px, py, h2, h3, by rw [h4]; exact hQ⟩
    · subst h1
      exact op_inT hu pins s σ' H x y v u Q I rx ry ⟨dx, ds, px, py, h2, h3, by rw [h4]; exact hQ⟩
  | nin =>
    simp only [cmpD, Option.map_eq_some_iff] at ec
    obtain ⟨b, eb, hb⟩ := ec
    rcases inc b eb with ⟨k, z, h1, h2, h3⟩ | ⟨ds, h1, h2, h3, h4⟩ | ⟨ds, h1, h2, h3, h4⟩
    · exact op_notIn_sign pins s σ' H x y v u Q I rx ry ⟨k, z, h1, h2, by rw [h3, hb]; exact hQ⟩
    · subst h1
      exact op_notInD hu pins s σ' H x y v u Q I rx ry ⟨dx, ds, px, py, h2, h3, by rw [h4, hb]; exact hQ⟩
    · subst h1
      exact op_notInT hu pins s σ' H x y v u Q I rx ry ⟨dx, ds, px, py, h2, h3, by rw [h4, hb]; exact hQ⟩

/-! ### subscripts -/
theorem RepL.atI {ds : List PyData} {vs : List V} {i : Int} {d : PyData} (r : RepL X.K M H ds vs) (h : atI ds i = some d) : ∃ v, L2.atI vs i = some v ∧ Rep X.K M H d v := by
  unfold L2.atI at h ⊢
  rw [← r.length]
  cases e : ixN ds.length i with
  | none => rw [e] at h; cases h
  | some j =>
    rw [e] at h
    obtain ⟨v, h1, h2⟩ := r.get h
    exact ⟨v, h1, h2⟩
theorem atI_map {α β : Type} (f : α → β) (xs : List α) (i : Int) : L2.atI (xs.map f) i = (L2.atI xs i).map f := by
  unfold L2.atI
  rw [List.length_map]
  cases ixN xs.length i with
  | none => rfl
  | some j => simp
theorem ix_G : IxR X (rIxG X T W σ) := by
  intro value slice pins s σ' H x y v u Q I rx ry h hs
  obtain ⟨p, q, S, M, so, rp, rq, hP⟩ := h
  unfold ixV at hP
  cases q with
  | r n => exact (show False from hP).elim
  | s n => exact (show False from hP).elim
  | d k =>
    dsimp only at hP
    cases p with
    | s xs =>
      dsimp only at hP
      obtain ⟨z, ez, hQ⟩ := post_okD hP
      cases k with
      | int i =>
        simp only [ixD] at ez
        obtain ⟨a, vs, r1, r2, ns, r3, r4⟩ := rp
        subst r4 r3
        rw [atI_map] at ez
        obtain ⟨j, e1, e2⟩ := Option.map_eq_some_iff.mp ez
        subst e2
        have ey : y = .int i := rq
        refine ix_list value slice pins s σ' H x y v u Q I rx ry ⟨a, ns.map V.int, i, .int j, r1, ey, ?_, by rw [atI_map, e1] <;> rfl, hQ _ M H (Ext.refl _ _) so rfl⟩ hs
        rcases r2 with ⟨o, q⟩ | q
        · exact .inl (.inr ⟨o, q⟩)
        · exact .inr q
      | _ => simp [ixD] at ez
    | d w =>
      dsimp only at hP
      simp only [toD] at hP
      obtain ⟨z, ez, hQ⟩ := post_okD hP
      cases k with
      | int i =>
        have ey : y = .int i := rq
        cases w with
        | list xs =>
          obtain ⟨a, vs, r1, r2, r3, r4⟩ := (show ∃ a vs, x = .ref a ∧ Fre M a ∧ H a = some (.lst vs) ∧ RepL X.K M H xs vs from rp)
          obtain ⟨b, h1, h2⟩ := r4.atI ez
          exact ix_list value slice pins s σ' H x y v u Q I rx ry ⟨a, vs, i, b, r1, ey, SqL.of r3, h1, hQ _ M H (Ext.refl _ _) so h2⟩ hs
        | tuple xs =>
          obtain ⟨a, vs, r1, r2, r3⟩ := (show ∃ a vs, x = .ref a ∧ SqT X.K H a vs ∧ RepL X.K M H xs vs from rp)
          obtain ⟨b, h1, h2⟩ := r3.atI ez
          exact ix_tup value slice pins s σ' H x y v u Q I rx ry ⟨a, vs, i, b, r1, ey, r2, h1, hQ _ M H (Ext.refl _ _) so h2⟩ hs
        | str t =>
          simp only [ixD] at ez
          split at ez
          · rename_i hl
            obtain ⟨c, e1, e2⟩ := Option.map_eq_some_iff.mp ez
            subst e2
            exact ix_str value slice pins s σ' H x y v u Q I rx ry ⟨t, i, c, rp, ey, Nat.le_trans hl lim_line, e1, hQ _ M H (Ext.refl _ _) so rfl⟩ hs
          · cases ez
        | _ => simp [ixD] at ez
      | _ => cases w <;> simp [ixD] at ez
    | r n =>
      dsimp only at hP
      cases e1 : toD (.r n) S with
      | none => rw [e1] at hP; exact (show False from hP).elim
      | some w =>
        rw [e1] at hP
        obtain ⟨z, ez, hQ⟩ := post_okD hP
        obtain ⟨_, lx, _⟩ := toD_rep so e1 rp
        simp only [toD] at e1
        split at e1
        · rename_i xs _
          cases e1
          obtain ⟨a, vs, r1, r2, r3⟩ := lx xs rfl
          cases k with
          | int i =>
            have ey : y = .int i := rq
            obtain ⟨b, h1, h2⟩ := r3.atI ez
            exact ix_list value slice pins s σ' H x y v u Q I rx ry ⟨a, vs, i, b, r1, ey, SqL.of r2, h1, hQ _ M H (Ext.refl _ _) so h2⟩ hs
          | _ => simp [ixD] at ez
        · cases e1
/-! ### slices -/
theorem RepL.cutR {ds : List PyData} {vs : List V} (r : RepL X.K M H ds vs) (lo hi : Option Int) : RepL X.K M H (Z.cut ds lo hi) (cutV vs lo hi) := by
  unfold Z.cut cutV
  rw [r.length]
  exact (r.drop _).take _
theorem cut_whole {α : Type} {xs : List α} {lo hi : Option Int} (h : HT.sIx xs.length 0 lo = 0 ∧ HT.sIx xs.length xs.length hi = xs.length) : Z.cut xs lo hi = xs := by
  unfold Z.cut
  rw [h.1, h.2]
  simp
theorem sl_G : SlR X (rSlG X T W σ) := by
  intro pins s σ' H x v vl vu lo hi sl Q I rx hs pl pu h
  obtain ⟨p, S, M, so, rp, hP⟩ := h
  unfold slV at hP
  cases e1 : toD p S with
  | none => rw [e1] at hP; exact (show False from hP).elim
  | some w =>
    rw [e1] at hP
    dsimp only at hP
    obtain ⟨z, ez, hQ⟩ := post_okD hP
    obtain ⟨_, lx, nx⟩ := toD_rep so e1 rp
    cases w with
    | list xs =>
      simp only [slD, Option.some.injEq] at ez; subst ez
      obtain ⟨a, vs, r1, r2, r3⟩ := lx xs rfl
      exact sl_list pins s σ' H x v vl vu lo hi sl Q I rx hs pl pu ⟨a, vs, r1, SqL.of r2, fun p hp => hQ _ M _ (ext_new hp) (so.new hp) (rep_new_lst so hp (r3.cutR lo hi))⟩
    | tuple xs =>
      simp only [slD, Option.some.injEq] at ez; subst ez
      obtain ⟨a, vs, r1, r2, r3⟩ := (show ∃ a vs, x = .ref a ∧ SqT X.K H a vs ∧ RepL X.K M H xs vs from nx (by intro _ z; cases z))
      refine sl_tupA pins s σ' H x v vl vu lo hi sl Q I rx hs pl pu ⟨a, vs, r1, r2, fun hw => ?_, fun _ p hp => hQ _ M _ (ext_new hp) (so.new hp) (rep_new_tup hp (r3.cutR lo hi))⟩
      refine hQ _ M H (Ext.refl _ _) so ?_
      rw [← r3.length] at hw
      rw [cut_whole hw]
      exact ⟨a, vs, rfl, r2, r3⟩
    | str t =>
      simp only [slD] at ez
      split at ez
      · rename_i hl
        simp only [Option.some.injEq] at ez; subst ez
        refine sl_str pins s σ' H x v vl vu lo hi sl Q I rx hs pl pu ⟨t, nx (by intro _ z; cases z), Nat.le_trans hl lim_line, hQ _ M H (Ext.refl _ _) so ?_⟩
        show V.str (cutS t lo hi) = V.str ⟨(Z.cut t.cps.toList lo hi).toArray⟩
        unfold cutS Z.cut Str.length
        simp
      · cases ez
    | _ => simp [slD] at ez
end
end Z

/-! sum, min, max of a tuple of numbers. -/
namespace Z
open PySem PySem.Spec PyProof.Rows L2
section
variable {prog : Program} {w : World} {A : Around} {E : Value → Shared → Prop} {s : Shared} {l : Addr} {xs : Array (Int × Tok)}
theorem iter_intTuple {Q : Value → Shared → Prop} (hl : s.heap.IsTuple l (intItems xs))
    (h : ∀ s₂ : Shared, s₂ = { s with heap := s.heap.push { cls := .type "tuple_iterator", data := .fields #[.ref l, .int 0 0] } } →
      (s₂.heap.get? s.heap.objs.size = some { cls := .type "tuple_iterator", data := .fields #[.ref l, .int 0 0] } ∧ s₂.heap.IsTuple l (intItems xs)) → (∀ b ∈ [s.heap.objs.size, l], b < s₂.heap.objs.size) → l ≠ s.heap.objs.size → Q (.ref s.heap.objs.size) s₂) :
    wpAny (model prog w) A (pyIter (.ref l)) Q E s := by
  have hlt : l < s.heap.objs.size := by obtain ⟨_, e, _⟩ := hl; exact Heap.lt_size e
  refine wpAny_pyIter_tuple hl (h _ rfl ⟨Heap.get?_push_size _ rfl, hl.push _⟩ (fun b hb => ?_) (Nat.ne_of_lt hlt))
  show b < (s.heap.push _).objs.size
  rw [Heap.size_push]
  rcases List.mem_cons.mp hb with rfl | hb
  · exact Nat.lt_succ_self _
  · rcases List.mem_cons.mp hb with rfl | hb
    · exact Nat.lt_succ_of_lt hlt
    · cases hb
theorem old_keptT {h' : Heap} (hk : ∀ b o, b ∉ [s.heap.objs.size] → (s.heap.push { cls := .type "tuple_iterator", data := .fields #[.ref l, .int 0 0] }).get? b = some o → h'.get? b = some o) :
    ∀ b o, s.heap.get? b = some o → h'.get? b = some o := fun b o e => by
  refine hk b o (fun hm => ?_) (Heap.get?_push_of_some _ e)
  rcases List.mem_cons.mp hm with e1 | hm
  · exact absurd (e1 ▸ Heap.lt_size e) (Nat.lt_irrefl _)
  · cases hm
theorem sum_intTuple {Q : Value → Shared → Prop} (hh : A.handled = none) (hl : s.heap.IsTuple l (intItems xs))
    (h : ∀ h' tk t', (∀ b o, s.heap.get? b = some o → h'.get? b = some o) → Q (.int (preSum (numAt xs) xs.size) t') { s with heap := h', toks := tk }) :
    wpAny (model prog w) A (call (.builtin "sum") [.ref l]) Q E s := by
  refine call_sum_walkG (iter_intTuple hl fun s₂ e st hfp hlI => ?_)
  subst e
  refine ⟨_, _, _, _, _, _, numAt xs, rfl, Walks.tuple (A := A.in1) hh _ l hlI (intItems xs), ⟨⟨_, st.1, rfl, rfl⟩, st.2⟩, hfp, (fun _ _ => intItems_at), fun h' tk t' hk => ?_⟩
  have := h h' tk t' (old_keptT hk)
  simpa [intItems] using this
theorem max_intTuple {Q : Value → Shared → Prop} (hh : A.handled = none) (hl : s.heap.IsTuple l (intItems xs)) (hne : 0 < xs.size)
    (h : ∀ v h' tk, (intItems xs)[argBest (fun i j => decide (numAt xs i > numAt xs j)) (xs.size - 1)]? = some v → (∀ b o, s.heap.get? b = some o → h'.get? b = some o) → Q v { s with heap := h', toks := tk }) :
    wpAny (model prog w) A (call (.builtin "max") [.ref l]) Q E s := by
  refine call_max_walk (iter_intTuple hl fun s₂ e st hfp hlI => ?_)
  subst e
  refine ⟨_, _, _, _, _, _, _, rfl, Walks.tuple (A := A.in1) hh _ l hlI (intItems xs), ⟨⟨_, st.1, rfl, rfl⟩, st.2⟩, hfp, by simpa [intItems] using hne, CmpOf.ints_gt (numAt xs) (fun _ _ => intItems_at), fun v h' tk hP hk => ?_⟩
  exact h v h' tk (by simpa [intItems] using hP) (old_keptT hk)
theorem min_intTuple {Q : Value → Shared → Prop} (hh : A.handled = none) (hl : s.heap.IsTuple l (intItems xs)) (hne : 0 < xs.size)
    (h : ∀ v h' tk, (intItems xs)[argBest (fun i j => decide (numAt xs i < numAt xs j)) (xs.size - 1)]? = some v → (∀ b o, s.heap.get? b = some o → h'.get? b = some o) → Q v { s with heap := h', toks := tk }) :
    wpAny (model prog w) A (call (.builtin "min") [.ref l]) Q E s := by
  refine call_min_walk (iter_intTuple hl fun s₂ e st hfp hlI => ?_)
  subst e
  refine ⟨_, _, _, _, _, _, _, rfl, Walks.tuple (A := A.in1) hh _ l hlI (intItems xs), ⟨⟨_, st.1, rfl, rfl⟩, st.2⟩, hfp, by simpa [intItems] using hne, CmpOf.ints_lt (numAt xs) (fun _ _ => intItems_at), fun v h' tk hP hk => ?_⟩
  exact h v h' tk (by simpa [intItems] using hP) (old_keptT hk)
end
section
variable {prog : Program} {w : World} {A : Around} {E : Value → Shared → Prop} {s : Shared} {l : Addr} {its : List Value} {ns : List Int} {Q : Value → Shared → Prop}
theorem sum_rawT (hh : A.handled = none) (hl : s.heap.IsTuple l its.toArray) (hi : IntsAre its ns)
    (h : ∀ h' tk t', (∀ b o, s.heap.get? b = some o → h'.get? b = some o) → Q (.int ns.sum t') { s with heap := h', toks := tk }) : wpAny (model prog w) A (call (.builtin "sum") [.ref l]) Q E s := by
  obtain ⟨xs, e⟩ := hi.allInts.items
  have hn : numsOf (intItems xs).toList = ns := by rw [← e]; exact hi.numsOf
  rw [nums_intItems] at hn
  rw [e] at hl
  refine sum_intTuple hh hl fun h' tk t' hk => ?_
  have := h h' tk t' hk
  rw [preSum_eq, List.take_of_length_le (by simp), hn]; exact this
theorem max_rawT (hh : A.handled = none) (hl : s.heap.IsTuple l its.toArray) (hi : IntsAre its ns) (hne : 0 < ns.length)
    (h : ∀ h' tk M t', (∀ b o, s.heap.get? b = some o → h'.get? b = some o) → M ∈ ns → (∀ a, a ∈ ns → a ≤ M) → Q (.int M t') { s with heap := h', toks := tk }) : wpAny (model prog w) A (call (.builtin "max") [.ref l]) Q E s := by
  obtain ⟨xs, e⟩ := hi.allInts.items
  have hn : numsOf (intItems xs).toList = ns := by rw [← e]; exact hi.numsOf
  rw [nums_intItems] at hn
  subst hn
  rw [e] at hl
  have hsz : 0 < xs.size := by simpa using hne
  refine max_intTuple hh hl hsz fun v h' tk hv hk => ?_
  obtain ⟨t, rfl⟩ := intItems_at hv
  obtain ⟨h1, h2⟩ := argBest_gt (numAt xs) (xs.size - 1)
  refine h h' tk _ t hk ?_ fun a ha => ?_
  · rw [numAt_eq]; exact PySem.getD_mem (by rw [List.length_map, Array.length_toList]; omega)
  · obtain ⟨j, hj, rfl⟩ := mem_getD ha
    rw [List.length_map, Array.length_toList] at hj
    rw [← numAt_eq]; exact h2 j (by omega)
theorem min_rawT (hh : A.handled = none) (hl : s.heap.IsTuple l its.toArray) (hi : IntsAre its ns) (hne : 0 < ns.length)
    (h : ∀ h' tk M t', (∀ b o, s.heap.get? b = some o → h'.get? b = some o) → M ∈ ns → (∀ a, a ∈ ns → M ≤ a) → Q (.int M t') { s with heap := h', toks := tk }) : wpAny (model prog w) A (call (.builtin "min") [.ref l]) Q E s := by
  obtain ⟨xs, e⟩ := hi.allInts.items
  have hn : numsOf (intItems xs).toList = ns := by rw [← e]; exact hi.numsOf
  rw [nums_intItems] at hn
  subst hn
  rw [e] at hl
  have hsz : 0 < xs.size := by simpa using hne
  refine min_intTuple hh hl hsz fun v h' tk hv hk => ?_
  obtain ⟨t, rfl⟩ := intItems_at hv
  obtain ⟨h1, h2⟩ := argBest_lt (numAt xs) (xs.size - 1)
  refine h h' tk _ t hk ?_ fun a ha => ?_
  · rw [numAt_eq]; exact PySem.getD_mem (by rw [List.length_map, Array.length_toList]; omega)
  · obtain ⟨j, hj, rfl⟩ := mem_getD ha
    rw [List.length_map, Array.length_toList] at hj
    rw [← numAt_eq]; exact h2 j (by omega)
end
theorem maxL_ok {ns : List Int} {m : Int} (h : maxL ns = some m) : 0 < ns.length ∧ ∀ M, M ∈ ns → (∀ a, a ∈ ns → a ≤ M) → M = m := by
  cases ns with
  | nil => cases h
  | cons i r =>
    simp only [maxL, Option.some.injEq] at h
    refine ⟨Nat.succ_pos _, fun M hM hB => ?_⟩
    have key : ∀ (r : List Int) (i : Int), (r.foldl (fun a b => if b > a then b else a) i) ∈ i :: r ∧ ∀ a, a ∈ i :: r → a ≤ r.foldl (fun a b => if b > a then b else a) i := by
      intro r
      induction r with
      | nil => exact fun i => ⟨List.mem_singleton.mpr rfl, fun a ha => by rw [List.mem_singleton.mp ha]; exact Int.le_refl _⟩
      | cons j r ih =>
        intro i
        rw [List.foldl_cons]
        obtain ⟨h1, h2⟩ := ih (if j > i then j else i)
        have h3 := h2 _ List.mem_cons_self
        refine ⟨?_, fun a ha => ?_⟩
        · rcases List.mem_cons.mp h1 with e | e
          · rw [e]; split
            · exact List.mem_cons_of_mem _ List.mem_cons_self
            · exact List.mem_cons_self
          · exact List.mem_cons_of_mem _ (List.mem_cons_of_mem _ e)
        · rcases List.mem_cons.mp ha with e | ha
          · subst e; exact Int.le_trans (by split <;> omega) h3
          · rcases List.mem_cons.mp ha with e | ha
            · subst e; exact Int.le_trans (by split <;> omega) h3
            · exact h2 a (List.mem_cons_of_mem _ ha)
    obtain ⟨h1, h2⟩ := key r i
    rw [h] at h1 h2
    exact Int.le_antisymm (h2 M hM) (hB m h1)
theorem minL_ok {ns : List Int} {m : Int} (h : minL ns = some m) : 0 < ns.length ∧ ∀ M, M ∈ ns → (∀ a, a ∈ ns → M ≤ a) → M = m := by
  cases ns with
  | nil => cases h
  | cons i r =>
    simp only [minL, Option.some.injEq] at h
    refine ⟨Nat.succ_pos _, fun M hM hB => ?_⟩
    have key : ∀ (r : List Int) (i : Int), (r.foldl (fun a b => if b < a then b else a) i) ∈ i :: r ∧ ∀ a, a ∈ i :: r → r.foldl (fun a b => if b < a then b else a) i ≤ a := by
      intro r
      induction r with
      | nil => exact fun i => ⟨List.mem_singleton.mpr rfl, fun a ha => by rw [List.mem_singleton.mp ha]; exact Int.le_refl _⟩
      | cons j r ih =>
        intro i
        rw [List.foldl_cons]
        obtain ⟨h1, h2⟩ := ih (if j < i then j else i)
        have h3 := h2 _ List.mem_cons_self
        refine ⟨?_, fun a ha => ?_⟩
        · rcases List.mem_cons.mp h1 with e | e
          · rw [e]; split
            · exact List.mem_cons_of_mem _ List.mem_cons_self
            · exact List.mem_cons_self
          · exact List.mem_cons_of_mem _ (List.mem_cons_of_mem _ e)
        · rcases List.mem_cons.mp ha with e | ha
          · subst e; exact Int.le_trans h3 (by split <;> omega)
          · rcases List.mem_cons.mp ha with e | ha
            · subst e; exact Int.le_trans h3 (by split <;> omega)
            · exact h2 a (List.mem_cons_of_mem _ ha)
    obtain ⟨h1, h2⟩ := key r i
    rw [h] at h1 h2
    exact Int.le_antisymm (hB m h1) (h2 M hM)
section
variable {X : Cx}
theorem cr_sumT (hc : X.calm = true) : CallR X (.builtin "sum") (fun vs H Q => ∃ (a : Addr) (ns : List Int), vs = [V.ref a] ∧ SqT X.K H a (ns.map V.int) ∧ Q (.int ns.sum) H) := by
  intro pins s σ H vs us Q I r h
  obtain ⟨a, ns, rfl, hs, q⟩ := h
  obtain ⟨its, rv, hl, _⟩ := I.tuple hs
  rw [Vals.ref1 r]
  exact sum_rawT (I.ok.hd hc) hl rv.ints fun h' tk t' hk => ⟨.int _, H, I.kept hk, ⟨_, rfl⟩, q⟩
theorem cr_maxT (hc : X.calm = true) : CallR X (.builtin "max") (fun vs H Q => ∃ (a : Addr) (ns : List Int), vs = [V.ref a] ∧ SqT X.K H a (ns.map V.int) ∧ 0 < ns.length ∧ ∀ m, m ∈ ns → (∀ y, y ∈ ns → y ≤ m) → Q (.int m) H) := by
  intro pins s σ H vs us Q I r h
  obtain ⟨a, ns, rfl, hs, hne, q⟩ := h
  obtain ⟨its, rv, hl, _⟩ := I.tuple hs
  rw [Vals.ref1 r]
  exact max_rawT (I.ok.hd hc) hl rv.ints hne fun h' tk m t' hk h1 h2 => ⟨.int _, H, I.kept hk, ⟨_, rfl⟩, q m h1 h2⟩
theorem cr_minT (hc : X.calm = true) : CallR X (.builtin "min") (fun vs H Q => ∃ (a : Addr) (ns : List Int), vs = [V.ref a] ∧ SqT X.K H a (ns.map V.int) ∧ 0 < ns.length ∧ ∀ m, m ∈ ns → (∀ y, y ∈ ns → m ≤ y) → Q (.int m) H) := by
  intro pins s σ H vs us Q I r h
  obtain ⟨a, ns, rfl, hs, hne, q⟩ := h
  obtain ⟨its, rv, hl, _⟩ := I.tuple hs
  rw [Vals.ref1 r]
  exact min_rawT (I.ok.hd hc) hl rv.ints hne fun h' tk m t' hk h1 h2 => ⟨.int _, H, I.kept hk, ⟨_, rfl⟩, q m h1 h2⟩
end
/-! ### tuple(text) -/
theorem vals_of_at : ∀ (us : List Value) (f : Nat → V), (∀ j u, us[j]? = some u → RelV (f j) u) → Vals ((List.range us.length).map f) us
  | [], _, _ => .nil
  | u :: r, f, h => by
    rw [List.length_cons, List.range_succ_eq_map, List.map_cons, List.map_map]
    exact .cons (h 0 u rfl) (vals_of_at r (f ∘ Nat.succ) fun j v e => h (j + 1) v e)
theorem signs_vals {z : Str} {acc : Array Value} (h : ItemsOf (SignAt z) acc z.cps.size) : Vals (z.cps.toList.map fun c => V.str ⟨#[c]⟩) acc.toList := by
  have e : acc.toList.length = z.cps.size := by rw [Array.length_toList]; exact h.1
  have e2 : (z.cps.toList.map fun c => V.str ⟨#[c]⟩) = (List.range acc.toList.length).map fun i => V.str ⟨#[z.cps.getD i 0]⟩ := by
    rw [e]
    apply List.ext_getElem
    · simp
    · intro i h1 h2
      simp at h1
      simp [Array.getD_eq_getD_getElem?, h1]
  rw [e2]
  refine vals_of_at acc.toList _ fun j u hj => ?_
  obtain ⟨c, t, h1, h2⟩ := h.2 j u (by rw [← hj, Array.getElem?_toList])
  refine ⟨t, ?_⟩
  rw [h2]
  simp [Array.getD_eq_getD_getElem?, h1]
section
variable {X : Cx}
theorem cr_tupleS (hc : X.calm = true) : CallR X (.type "tuple") (fun xs H Q => ∃ z : Str, xs = [.str z] ∧ z.cps.size ≤ sizeLine ∧ ∀ p, H p = none → Q (.ref p) (upd H p (.tup (z.cps.toList.map fun c => V.str ⟨#[c]⟩)))) := by
  intro pins s σ H vs us Q I r h
  obtain ⟨z, rfl, hz, q⟩ := h
  cases r with
  | cons r rr =>
    cases rr
    obtain ⟨t, rfl⟩ := r
    refine call_tuple_str (I.ok.hd hc) z t (fun h' tk acc hk hi => ?_) hz
    have I1 : Inv X pins σ H { s with heap := h', toks := tk } := I.kept hk
    have hv := signs_vals hi
    refine ⟨.ref h'.objs.size, upd H h'.objs.size (.tup (z.cps.toList.map fun c => V.str ⟨#[c]⟩)), I1.laid (t' := tk) (fun c o e => Heap.get?_push_of_some _ e) (Nat.le_refl _) (show ObjOk X.prog X.w _ _ _ (.tup (z.cps.toList.map fun c => V.str ⟨#[c]⟩)) from ⟨by simpa using hz, acc.toList, hv, ?_⟩), rfl, q _ (I1.hok.fresh (Nat.le_refl _))⟩
    rw [Array.toArray_toList]
    exact IsTup.new _ _
end
end Z

/-! Built-ins by values. -/
namespace Z
open PySem PySem.Spec PyProof.Rows L2
def biVal : BI → Value
  | .len => .builtin "len" | .abs => .builtin "abs" | .sum => .builtin "sum" | .all => .builtin "all" | .max => .builtin "max" | .min => .builtin "min" | .int => .type "int" | .str => .type "str" | .bool => .type "bool" | .tuple => .type "tuple" | .list => .type "list"
section
variable {X : Cx} {T : List (Addr × Str)} {W : WX} {σ : L2.St} {M : MM} {H : Hp} {S : Sto}
theorem allD_nil {vs : List Val} (h : allD S vs = some []) : vs = [] := by
  cases vs with
  | nil => rfl
  | cons v r =>
    simp only [allD] at h
    split at h <;> cases h
theorem allD_cons {vs : List Val} {x : PyData} {xs : List PyData} (h : allD S vs = some (x :: xs)) : ∃ v r, vs = v :: r ∧ toD v S = some x ∧ allD S r = some xs := by
  cases vs with
  | nil => simp [allD] at h
  | cons v r =>
    simp only [allD] at h
    split at h
    · rename_i e1 e2
      cases h
      exact ⟨v, r, rfl, e1, e2⟩
    · cases h
theorem arg1 {vs : List Val} {ys : List V} {x : PyData} (h : allD S vs = some [x]) (r : RepVs X.K M H vs ys) : ∃ v y, vs = [v] ∧ ys = [y] ∧ toD v S = some x ∧ RepV X.K M H v y := by
  obtain ⟨v, q, e1, e2, e3⟩ := allD_cons h
  have := allD_nil e3
  subst this
  subst e1
  obtain ⟨y, z, r1, r2, r3⟩ := r
  have r3 : z = [] := r3
  subst r3
  exact ⟨v, y, rfl, r1, e2, r2⟩
theorem arg2 {vs : List Val} {ys : List V} {x x' : PyData} (h : allD S vs = some [x, x']) (r : RepVs X.K M H vs ys) : ∃ v v' y y', vs = [v, v'] ∧ ys = [y, y'] ∧ toD v S = some x ∧ toD v' S = some x' ∧ RepV X.K M H v y ∧ RepV X.K M H v' y' := by
  obtain ⟨v, q, e1, e2, e3⟩ := allD_cons h
  subst e1
  obtain ⟨y, z, r1, r2, r3⟩ := r
  obtain ⟨v', y', e4, e5, e6, e7⟩ := arg1 e3 r3
  subst e4 e5 r1
  exact ⟨v, v', y, y', rfl, rfl, e2, e6, r2, e7⟩
theorem post_bi {b : BI} {vs : List Val} {Q : VK} (h : Post X T W σ M H (RepV X.K) (biV b vs S) Q) : (b = .len ∧ ∃ xs, vs = [.s xs] ∧ Post X T W σ M H (RepV X.K) (.ok (.d (.int xs.length)) S) Q) ∨ ∃ xs z, allD S vs = some xs ∧ biD b xs = some z ∧ ∀ b M' H', Ext M H M' H' → StoreOk T X.K M' H' S → Rep X.K M' H' z b → Q b H' := by
  have gen : Post X T W σ M H (RepV X.K) (match allD S vs with
    | some xs => okD (biD b xs) S
    | none => .no) Q → ∃ xs z, allD S vs = some xs ∧ biD b xs = some z ∧ ∀ b M' H', Ext M H M' H' → StoreOk T X.K M' H' S → Rep X.K M' H' z b → Q b H' := fun h => by
    cases e : allD S vs with
    | none => rw [e] at h; exact (show False from h).elim
    | some xs =>
      rw [e] at h
      obtain ⟨z, ez, hQ⟩ := post_okD h
      exact ⟨xs, z, rfl, ez, hQ⟩
  unfold biV at h
  split at h
  · exact .inl ⟨rfl, _, rfl, h⟩
  · exact .inr (gen h)
theorem call_G (hc : X.calm = true) (b : BI) : CallR X (biVal b) (rBi X T W σ b) := by
  intro pins s σ' H xs us Q I r h
  obtain ⟨vs, S, M, so, rv, hP⟩ := h
  rcases post_bi hP with ⟨rfl, zs, rfl, hQ⟩ | ⟨ds, z, ea, ez, hQ⟩
  · obtain ⟨y, q, r1, ⟨a, ws, r2, r3, ns, r4, r5⟩, r6⟩ := rv
    have r6 : q = [] := r6
    subst r6 r1 r2 r5 r4
    refine call_len pins s σ' H _ us Q I r ⟨_, ns.length, rfl, .inl ⟨ns.map V.int, ?_, by simp⟩, hQ _ M H (Ext.refl _ _) so ?_⟩
    · rcases r3 with ⟨o, q⟩ | q
      · exact .inl (.inr ⟨o, q⟩)
      · exact .inr q
    · show V.int _ = V.int _
      simp
  · have fin0 : ∀ b, Rep X.K M H z b → Q b H := fun b r => hQ b M H (Ext.refl _ _) so r
    have finN : ∀ (p : Addr) (ob : HO), H p = none → (∀ r : Rep X.K M (upd H p ob) z (.ref p), Q (.ref p) (upd H p ob)) := fun p ob hp r => hQ _ M _ (ext_new hp) (so.new hp) r
    have one : ∀ {d : PyData}, ds = [d] → ∃ y, xs = [y] ∧ (∀ ys, d = .list ys → ∃ a vs, y = .ref a ∧ H a = some (.lst vs) ∧ RepL X.K M H ys vs) ∧ ((∀ ys, d ≠ .list ys) → Rep X.K M H d y) := fun {d} e => by
      subst e
      obtain ⟨v, y, e1, e2, e3, e4⟩ := arg1 ea rv
      obtain ⟨_, h2, h3⟩ := toD_rep so e3 e4
      exact ⟨y, e2, h2, h3⟩
    have two : ∀ {d d' : PyData}, ds = [d, d'] → ∃ y y', xs = [y, y'] ∧ ((∀ ys, d ≠ .list ys) → Rep X.K M H d y) ∧ ((∀ ys, d' ≠ .list ys) → Rep X.K M H d' y') := fun {d d'} e => by
      subst e
      obtain ⟨v, v', y, y', e1, e2, e3, e4, e5, e6⟩ := arg2 ea rv
      exact ⟨y, y', e2, (toD_rep so e3 e5).2.2, (toD_rep so e4 e6).2.2⟩
    unfold biD at ez
    split at ez
    · rename_i ys
      cases ez
      obtain ⟨y, rfl, h1, _⟩ := one rfl
      obtain ⟨a, vs, rfl, h2, h3⟩ := h1 ys rfl
      exact call_len pins s σ' H _ us Q I r ⟨_, vs.length, rfl, .inl ⟨vs, SqL.of h2, rfl⟩, fin0 _ (by rw [h3.length] <;> rfl)⟩
    · rename_i ys
      cases ez
      obtain ⟨y, rfl, _, h1⟩ := one rfl
      obtain ⟨a, vs, rfl, h2, h3⟩ := (show ∃ a vs, y = .ref a ∧ SqT X.K H a vs ∧ RepL X.K M H ys vs from h1 (by intro _ z; cases z))
      exact call_len pins s σ' H _ us Q I r ⟨_, vs.length, rfl, .inr ⟨vs, h2, rfl⟩, fin0 _ (by rw [h3.length] <;> rfl)⟩
    · rename_i t
      split at ez
      · rename_i hl
        cases ez
        obtain ⟨y, rfl, _, h1⟩ := one rfl
        obtain rfl : y = .str t := h1 (by intro _ z; cases z)
        exact call_len pins s σ' H _ us Q I r ⟨_, t.cps.size, rfl, ⟨Nat.le_trans hl lim_line, rfl⟩, fin0 _ rfl⟩
      · cases ez
    · rename_i i
      cases ez
      obtain ⟨y, rfl, _, h1⟩ := one rfl
      obtain rfl : y = .int i := h1 (by intro _ z; cases z)
      exact call_abs pins s σ' H _ us Q I r ⟨i, rfl, fin0 _ rfl⟩
    · rename_i ys
      obtain ⟨ns, e1, e2⟩ := Option.map_eq_some_iff.mp ez
      cases e2
      obtain ⟨y, rfl, h1, _⟩ := one rfl
      obtain ⟨a, vs, rfl, h2, h3⟩ := h1 ys rfl
      rw [h3.ints e1] at h2
      exact cr_sum hc pins s σ' H _ us Q I r ⟨a, ns, rfl, SqL.of h2, fin0 _ rfl⟩
    · rename_i ys
      obtain ⟨ns, e1, e2⟩ := Option.map_eq_some_iff.mp ez
      cases e2
      obtain ⟨y, rfl, _, h1⟩ := one rfl
      obtain ⟨a, vs, rfl, h2, h3⟩ := (show ∃ a vs, y = .ref a ∧ SqT X.K H a vs ∧ RepL X.K M H ys vs from h1 (by intro _ z; cases z))
      rw [h3.ints e1] at h2
      exact cr_sumT hc pins s σ' H _ us Q I r ⟨a, ns, rfl, h2, fin0 _ rfl⟩
    · rename_i ys
      obtain ⟨ns, e1, e2⟩ := Option.map_eq_some_iff.mp ez
      cases e2
      obtain ⟨y, rfl, h1, _⟩ := one rfl
      obtain ⟨a, vs, rfl, h2, h3⟩ := h1 ys rfl
      rw [h3.bools e1] at h2
      exact cr_all hc pins s σ' H _ us Q I r ⟨a, ns, rfl, SqL.of h2, fin0 _ rfl⟩
    · rename_i i j
      cases ez
      obtain ⟨y, y', rfl, h1, h2⟩ := two rfl
      obtain rfl : y = .int i := h1 (by intro _ z; cases z)
      obtain rfl : y' = .int j := h2 (by intro _ z; cases z)
      exact call_max2 hc pins s σ' H _ us Q I r ⟨i, j, rfl, fin0 _ rfl⟩
    · rename_i ys
      obtain ⟨ns, e1, e2⟩ := Option.bind_eq_some_iff.mp ez
      obtain ⟨m, e3, e4⟩ := Option.map_eq_some_iff.mp e2
      cases e4
      obtain ⟨y, rfl, h1, _⟩ := one rfl
      obtain ⟨a, vs, rfl, h2, h3⟩ := h1 ys rfl
      rw [h3.ints e1] at h2
      exact cr_max hc pins s σ' H _ us Q I r ⟨a, ns, rfl, SqL.of h2, (maxL_ok e3).1, fun m' q1 q2 => by rw [(maxL_ok e3).2 m' q1 q2]; exact fin0 _ rfl⟩
    · rename_i ys
      obtain ⟨ns, e1, e2⟩ := Option.bind_eq_some_iff.mp ez
      obtain ⟨m, e3, e4⟩ := Option.map_eq_some_iff.mp e2
      cases e4
      obtain ⟨y, rfl, _, h1⟩ := one rfl
      obtain ⟨a, vs, rfl, h2, h3⟩ := (show ∃ a vs, y = .ref a ∧ SqT X.K H a vs ∧ RepL X.K M H ys vs from h1 (by intro _ z; cases z))
      rw [h3.ints e1] at h2
      exact cr_maxT hc pins s σ' H _ us Q I r ⟨a, ns, rfl, h2, (maxL_ok e3).1, fun m' q1 q2 => by rw [(maxL_ok e3).2 m' q1 q2]; exact fin0 _ rfl⟩
    · rename_i i j
      cases ez
      obtain ⟨y, y', rfl, h1, h2⟩ := two rfl
      obtain rfl : y = .int i := h1 (by intro _ z; cases z)
      obtain rfl : y' = .int j := h2 (by intro _ z; cases z)
      exact call_min2 hc pins s σ' H _ us Q I r ⟨i, j, rfl, fin0 _ rfl⟩
    · rename_i ys
      obtain ⟨ns, e1, e2⟩ := Option.bind_eq_some_iff.mp ez
      obtain ⟨m, e3, e4⟩ := Option.map_eq_some_iff.mp e2
      cases e4
      obtain ⟨y, rfl, h1, _⟩ := one rfl
      obtain ⟨a, vs, rfl, h2, h3⟩ := h1 ys rfl
      rw [h3.ints e1] at h2
      exact cr_min hc pins s σ' H _ us Q I r ⟨a, ns, rfl, SqL.of h2, (minL_ok e3).1, fun m' q1 q2 => by rw [(minL_ok e3).2 m' q1 q2]; exact fin0 _ rfl⟩
    · rename_i ys
      obtain ⟨ns, e1, e2⟩ := Option.bind_eq_some_iff.mp ez
      obtain ⟨m, e3, e4⟩ := Option.map_eq_some_iff.mp e2
      cases e4
      obtain ⟨y, rfl, _, h1⟩ := one rfl
      obtain ⟨a, vs, rfl, h2, h3⟩ := (show ∃ a vs, y = .ref a ∧ SqT X.K H a vs ∧ RepL X.K M H ys vs from h1 (by intro _ z; cases z))
      rw [h3.ints e1] at h2
      exact cr_minT hc pins s σ' H _ us Q I r ⟨a, ns, rfl, h2, (minL_ok e3).1, fun m' q1 q2 => by rw [(minL_ok e3).2 m' q1 q2]; exact fin0 _ rfl⟩
    · rename_i i
      cases ez
      obtain ⟨y, rfl, _, h1⟩ := one rfl
      obtain rfl : y = .int i := h1 (by intro _ z; cases z)
      exact call_int1 pins s σ' H _ us Q I r (.inl ⟨i, rfl, fin0 _ rfl⟩)
    · rename_i k
      cases ez
      obtain ⟨y, rfl, _, h1⟩ := one rfl
      obtain rfl : y = .bl k := h1 (by intro _ z; cases z)
      exact call_int1 pins s σ' H _ us Q I r (.inr ⟨k, rfl, fin0 _ rfl⟩)
    · rename_i k
      cases ez
      obtain ⟨y, rfl, _, h1⟩ := one rfl
      obtain rfl : y = .bl k := h1 (by intro _ z; cases z)
      exact call_bool1 pins s σ' H _ us Q I r (.inr ⟨k, rfl, fin0 _ rfl⟩)
    · rename_i i
      split at ez
      · rename_i hl
        cases ez
        obtain ⟨y, rfl, _, h1⟩ := one rfl
        obtain rfl : y = .int i := h1 (by intro _ z; cases z)
        exact call_str_int pins s σ' H _ us Q I r ⟨i, rfl, hl, fin0 _ rfl⟩
      · cases ez
    · rename_i ys
      cases ez
      obtain ⟨y, rfl, h1, _⟩ := one rfl
      obtain ⟨a, vs, rfl, h2, h3⟩ := h1 ys rfl
      exact call_tuple_of pins s σ' H _ us Q I r ⟨a, vs, rfl, .inl ⟨SqL.of h2, fun p hp => finN p _ hp (rep_new_tup hp h3)⟩⟩
    · rename_i ys
      cases ez
      obtain ⟨y, rfl, _, h1⟩ := one rfl
      obtain ⟨a, vs, rfl, h2, h3⟩ := (show ∃ a vs, y = .ref a ∧ SqT X.K H a vs ∧ RepL X.K M H ys vs from h1 (by intro _ z; cases z))
      exact call_tuple_of pins s σ' H _ us Q I r ⟨a, vs, rfl, .inr ⟨h2, fin0 _ ⟨a, vs, rfl, h2, h3⟩⟩⟩
    · rename_i t
      split at ez
      · rename_i hl
        cases ez
        obtain ⟨y, rfl, _, h1⟩ := one rfl
        obtain rfl : y = .str t := h1 (by intro _ z; cases z)
        refine cr_tupleS hc pins s σ' H _ us Q I r ⟨t, rfl, Nat.le_trans hl (by rw [sizeLine_eq]; decide), fun p hp => finN p _ hp (rep_new_tup hp ?_)⟩
        have key : ∀ l : List Nat, RepL X.K M H (l.map fun c => PyData.str ⟨#[c]⟩) (l.map fun c => V.str ⟨#[c]⟩) := by
          intro l
          induction l with
          | nil => rfl
          | cons i l ih => exact ⟨_, _, rfl, rfl, ih⟩
        exact key _
      · cases ez
    · rename_i ys
      cases ez
      obtain ⟨y, rfl, h1, _⟩ := one rfl
      obtain ⟨a, vs, rfl, h2, h3⟩ := h1 ys rfl
      exact call_list_of pins s σ' H _ us Q I r ⟨a, vs, rfl, .inl (SqL.of h2), fun p hp => finN p _ hp (rep_new_lst so hp h3)⟩
    · rename_i ys
      cases ez
      obtain ⟨y, rfl, _, h1⟩ := one rfl
      obtain ⟨a, vs, rfl, h2, h3⟩ := (show ∃ a vs, y = .ref a ∧ SqT X.K H a vs ∧ RepL X.K M H ys vs from h1 (by intro _ z; cases z))
      exact call_list_of pins s σ' H _ us Q I r ⟨a, vs, rfl, .inr h2, fun p hp => finN p _ hp (rep_new_lst so hp h3)⟩
    · cases ez

/-! ### isinstance, truth -/
theorem tyX_of {d : PyData} {v : V} (r : Rep X.K M H d v) : ∃ n : String, TyX X.K H v (.type n) ∧ (∀ t : TY, kitB n (match t with | .int => "int" | .bool => "bool" | .str => "str" | .tuple => "tuple" | .list => "list") = some (isiD t d)) := by
  cases d with
  | none => obtain rfl : v = .non := r; exact ⟨"NoneType", .base .non, fun t => by cases t <;> decide +kernel⟩
  | bool b => obtain rfl : v = .bl b := r; exact ⟨"bool", .base (.bl b), fun t => by cases t <;> simp only [isiD] <;> decide +kernel⟩
  | int i => obtain rfl : v = .int i := r; exact ⟨"int", .base (.int i), fun t => by cases t <;> simp only [isiD] <;> decide +kernel⟩
  | str s => obtain rfl : v = .str s := r; exact ⟨"str", .base (.str s), fun t => by cases t <;> simp only [isiD] <;> decide +kernel⟩
  | list ds =>
    obtain ⟨a, vs, rfl, e2, e3, e4⟩ := (show ∃ a vs, v = .ref a ∧ Fre M a ∧ H a = some (.lst vs) ∧ RepL X.K M H ds vs from r)
    exact ⟨"list", .base (.lst e3), fun t => by cases t <;> simp only [isiD] <;> decide +kernel⟩
  | tuple ds =>
    obtain ⟨a, vs, rfl, e2, e3⟩ := (show ∃ a vs, v = .ref a ∧ SqT X.K H a vs ∧ RepL X.K M H ds vs from r)
    refine ⟨"tuple", ?_, fun t => by cases t <;> simp only [isiD] <;> decide +kernel⟩
    rcases e2 with (e2 | ⟨o, e2⟩) | ⟨o, its, n, e2, e4, _⟩
    · exact .base (.tup e2)
    · exact .fTuple e2
    · exact .kTuple e2 e4
  | dict ds => exact (show False from r).elim
theorem isi_G {t : TY} {v : Val} {x : V} {Q : VK} {n : String} (hn : n = (match t with | .int => "int" | .bool => "bool" | .str => "str" | .tuple => "tuple" | .list => "list")) (r : RepV X.K M H v x) (so : StoreOk T X.K M H S) (h : Post X T W σ M H (fun _ _ a (b : V) => b = .bl a) (isiV t v S) Q) : rIsi X.K [x, .ty n] H Q := by
  subst hn
  cases v with
  | r n => exact (show False from h).elim
  | s n => exact (show False from h).elim
  | d d =>
    obtain ⟨n, h1, h2⟩ := tyX_of (d := d) r
    exact ⟨x, _, _, _, isiD t d, rfl, .ty _, h1, kit_ty (h2 t), h _ M H (Ext.refl _ _) so rfl⟩
theorem tru_G {v : Val} {x : V} {Q : Bool → Hp → Prop} (r : RepV X.K M H v x) (so : StoreOk T X.K M H S) (h : Post X T W σ M H (fun _ _ a b => a = b) (truV v S) Q) : ∃ k, TruV X.K x H k ∧ Q k H := by
  unfold truV at h
  cases e : toD v S with
  | none => rw [e] at h; exact (show False from h).elim
  | some d =>
    rw [e] at h
    dsimp only at h
    obtain ⟨_, hl, hn⟩ := toD_rep so e r
    cases e2 : truD d with
    | none => rw [e2] at h; exact (show False from h).elim
    | some k =>
      rw [e2] at h
      refine ⟨k, ?_, h _ M H (Ext.refl _ _) so rfl⟩
      cases d with
      | none => cases e2; rw [show x = .non from hn (by intro _ z; cases z)]; rfl
      | bool b => cases e2; rw [show x = .bl _ from hn (by intro _ z; cases z)]; rfl
      | int i => cases e2; rw [show x = .int _ from hn (by intro _ z; cases z)]; rfl
      | str s =>
        simp only [truD] at e2
        split at e2
        · rename_i hz
          cases e2
          rw [show x = .str _ from hn (by intro _ z; cases z)]
          exact ⟨Nat.le_trans hz lim_line, rfl⟩
        · cases e2
      | list xs =>
        cases e2
        obtain ⟨a, vs, rfl, h2, h3⟩ := hl xs rfl
        refine .inl ⟨vs, SqL.of h2, ?_⟩
        have := h3.length
        cases xs <;> cases vs <;> first | rfl | (simp at this)
      | tuple xs =>
        cases e2
        obtain ⟨a, vs, rfl, h2, h3⟩ := (show ∃ a vs, x = .ref a ∧ SqT X.K H a vs ∧ RepL X.K M H xs vs from hn (by intro _ z; cases z))
        refine .inr (.inl ⟨vs, h2, ?_⟩)
        have := h3.length
        cases xs <;> cases vs <;> first | rfl | (simp at this)
      | dict _ => cases e2
end
end Z

/-! Readings; names, operators, displays, calls. -/
namespace Z
open PySem PySem.Spec PyProof.Rows L2

structure EnvOk (K : PySem.W.Frag) (M : MM) (H : Hp) (ρ : Z.Env) (σ : L2.St) : Prop where
  len : ρ.length = σ.length
  at_ : ∀ (i : Nat) v, ρ[i]? = some (some v) → ∃ x, σ[i]? = some (some x) ∧ RepV K M H v x
theorem EnvOk.ext {K : PySem.W.Frag} {M M' : MM} {H H' : Hp} {ρ : Z.Env} {σ : L2.St} (e : EnvOk K M H ρ σ) (x : Ext M H M' H') : EnvOk K M' H' ρ σ := ⟨e.len, fun i v h => by
  obtain ⟨y, h1, h2⟩ := e.at_ i v h
  exact ⟨y, h1, h2.ext x⟩⟩
theorem EnvOk.set {K : PySem.W.Frag} {M : MM} {H : Hp} {ρ : Z.Env} {σ : L2.St} (e : EnvOk K M H ρ σ) {v : Val} {x : V} (r : RepV K M H v x) (i : Nat) : EnvOk K M H (ρ.set i (some v)) (σ.set i (some x)) := ⟨by simp [e.len], fun j w h => by
  by_cases hj : i = j
  · subst hj
    have hl : i < ρ.length := by
      have := (List.getElem?_eq_some_iff.mp h).1
      simpa using this
    rw [List.getElem?_set_self hl] at h
    cases h
    exact ⟨x, List.getElem?_set_self (by rw [← e.len]; exact hl), r⟩
  · rw [List.getElem?_set_ne hj] at h ⊢
    exact e.at_ j w h⟩
theorem EnvOk.unset {K : PySem.W.Frag} {M : MM} {H : Hp} {ρ : Z.Env} {σ : L2.St} (e : EnvOk K M H ρ σ) (i : Nat) : EnvOk K M H (ρ.set i none) (σ.set i none) := ⟨by simp [e.len], fun j w h => by
  by_cases hj : i = j
  · subst hj
    have hl : i < ρ.length := by
      have := (List.getElem?_eq_some_iff.mp h).1
      simpa using this
    rw [List.getElem?_set_self hl] at h
    cases h
  · rw [List.getElem?_set_ne hj] at h ⊢
    exact e.at_ j w h⟩
theorem EnvOk.wipe {K : PySem.W.Frag} {M : MM} {H : Hp} {ρ : Z.Env} {σ : L2.St} (e : EnvOk K M H ρ σ) : ∀ vs : List Nat, EnvOk K M H (wipeE ρ vs) (L2.wipe σ vs)
  | [] => e
  | v :: vs => (EnvOk.wipe e vs).unset v

section
variable (X : Cx) (T : List (Addr × Str)) (W : WX)
/-- the reading of a run m -/
def rd {α β : Type} (rep : MM → Hp → α → β → Prop) (m : Z.Env → Sto → R α) : L2.St → Hp → (β → Hp → Prop) → Prop := fun σ H Q => ∃ ρ S M, EnvOk X.K M H ρ σ ∧ StoreOk T X.K M H S ∧ Post X T W σ M H rep (m ρ S) Q
abbrev rE (m : Z.Env → Sto → R Val) : TE := rd X T W (RepV X.K) m
abbrev rT (m : Z.Env → Sto → R Bool) : TT := rd X T W (fun _ _ a b => a = b) m
abbrev rA (m : Z.Env → Sto → R (List Val)) : TA := rd X T W (RepVs X.K) m
abbrev rO (m : Z.Env → Sto → R (Option Int)) : TO := rd X T W (fun _ _ a b => a = b) m
end
theorem PE.imp {X : Cx} {e : Expr} {t t' : TE} (h : PE X e t) (i : ∀ σ H Q, t' σ H Q → t σ H Q) : PE X e t' := ⟨fun pins s σ H Q I q => h.run pins s σ H Q I (i _ _ _ q)⟩
theorem PT.imp {X : Cx} {e : Expr} {t t' : TT} (h : PT X e t) (i : ∀ σ H Q, t' σ H Q → t σ H Q) : PT X e t' := ⟨fun pins s σ H Q I q => h.run pins s σ H Q I (i _ _ _ q)⟩
theorem PW.imp {X : Cx} {e : Expr} {t t' : TT} (h : PW X e t) (i : ∀ σ H Q, t' σ H Q → t σ H Q) : PW X e t' := ⟨fun wh pins s σ H Q I q => h.run wh pins s σ H Q I (i _ _ _ q)⟩
theorem PA.imp {X : Cx} {e : List Expr} {t t' : TA} (h : PA X e t) (i : ∀ σ H Q, t' σ H Q → t σ H Q) : PA X e t' := ⟨fun pos pins s σ H Q I q => h.run pos pins s σ H Q I (i _ _ _ q)⟩
theorem PO.imp {X : Cx} {e : Option Expr} {t t' : TO} (h : PO X e t) (i : ∀ σ H Q, t' σ H Q → t σ H Q) : PO X e t' := ⟨fun pins s σ H Q I q => h.run pins s σ H Q I (i _ _ _ q)⟩
theorem PTs.imp {X : Cx} {e : List Expr} {t t' : TT} (h : PTs X e t) (i : ∀ σ H Q, t' σ H Q → t σ H Q) : PTs X e t' := ⟨fun pins s σ H Q I q => h.run pins s σ H Q I (i _ _ _ q)⟩

/-- what the module gives -/
def spG (K : PySem.W.Frag) (mg : Str → Option Value) (T : List (Addr × Str)) (C : List Val → Sto → R Val) : Sp := fun vs H Q E => ∃ ds S M, StoreOk T K M H S ∧ RepVs K M H ds vs ∧ match C ds S with
  | .ok d S' => ∀ v M' H', Ext M H M' H' → StoreOk T K M' H' S' → RepV K M' H' d v → Q v H'
  | .ex c S' => ∀ M' H' C, Ext M H M' H' → StoreOk T K M' H' S' → mg c = some (.ref C) → E (.ref C) none H'
  | .no => False
/-- a dict of the module, its keys texts, its values data -/
def DctOk (K : PySem.W.Frag) (w : World) (mg : Str → Option Value) (x : Str) (t : List (Str × PyData)) : Prop := ∃ (a : Addr) (es : Array DictEntry) (n : Nat), mg x = some (.ref a) ∧ KDict K w a es n ∧
  ∀ z, match t.lookup z with
    | some d => ∃ u v, PySem.W.nsIn K a z = some (some u) ∧ RelV v u ∧ ∀ M H, Rep K M H d v
    | none => PySem.W.nsIn K a z = some none
structure GG (P : Program) (w : World) (K : PySem.W.Frag) (mg : Str → Option Value) (base : Heap) (T : List (Addr × Str)) (c : SC) (F : Tab) (k : Nat) : Prop where
  con : ∀ x d, inCons c x d = true → ∃ u v, mg x = some u ∧ RelV v u ∧ ∀ M H, Rep K M H d v
  fns : ∀ x n, c.fns.lookup x = some n → ∃ a fd ps, mg x = some (.ref a) ∧ PySem.W.keepIn K (.ref a) = true ∧ Binds K fd ps [] ∧ FnOk P w K mg base (L2.CX P w) k a fd ps (spG K mg T (callF F k n))
  blt : ∀ x, x ∈ c.blt → mg x = none
  exc : ∀ x, x ∈ c.excs → ∃ C : Addr, mg x = some (.ref C) ∧ PySem.W.excIn K C [.type "ValueError", .type "Exception", .type "BaseException", .type "object"] "ValueError.__new__" = true ∧ PySem.W.keepIn K (.ref C) = true ∧ PySem.W.subIn K (.ref C) (.type "BaseException") = some true ∧ PySem.W.typeIn K (.ref C) = some (.type "type")
  dct : ∀ x t, inTab c x t = true → DctOk K w mg x t
structure Good (X : Cx) (T : List (Addr × Str)) (W : WX) (c : SC) (F : Tab) (k : Nat) : Prop where
  N : X.N = c.N
  nd : c.N.Nodup
  sc : X.env.scope = c.sc
  calm : X.calm = true
  room : Room k X.A
  tk : Takes X W
  gg : GG X.prog X.w X.K X.mg X.base T c F k
section
variable {X : Cx} {T : List (Addr × Str)} {W : WX} {c : SC} {F : Tab} {k : Nat}
theorem Good.units (g : Good X T W c F k) : X.A.units + 65 < cLine := by have := g.room.un; omega
theorem Good.gl (g : Good X T W c F k) {x : Str} (h : Z.gl c x = true) : Gl X x ∧ (x == ("__debug__" : Str)) = false := by
  unfold Z.gl at h
  simp only [Bool.and_eq_true, decide_eq_true_eq, Bool.not_eq_true'] at h
  exact ⟨by show X.env.scope.names.lookup x = _; rw [g.sc]; exact h.1, h.2⟩
theorem Good.var (g : Good X T W c F k) {i : Nat} {x : Str} (h : okVar c i x = true) : X.N[i]? = some x ∧ Vis X.env.scope x ∧ (x == ("__debug__" : Str)) = false ∧ (x == ("__classdict__" : Str)) = false := by
  unfold okVar at h
  simp only [Bool.and_eq_true, decide_eq_true_eq, Bool.not_eq_true'] at h
  obtain ⟨⟨⟨h1, h2⟩, h3⟩, h4⟩ := h
  refine ⟨by rw [g.N]; exact h1, ?_, h3, h4⟩
  rw [g.sc]
  unfold isVis at h2
  split at h2
  · exact .inl (by assumption)
  · exact .inr (.inl (by assumption))
  · exact .inr (.inr (by assumption))
  · cases h2
theorem loc_of {sc : Scope} {x : Str} (h : isLoc sc x = true) : Loc sc x := by
  unfold isLoc at h
  split at h
  · exact .inl (by assumption)
  · exact .inr (by assumption)
  · cases h
theorem Good.set (g : Good X T W c F k) {i : Nat} {x : Str} (h : okSet c i x = true) : X.N[i]? = some x ∧ Loc X.env.scope x := by
  unfold okSet at h
  simp only [Bool.and_eq_true, decide_eq_true_eq] at h
  exact ⟨by rw [g.N]; exact h.1, by rw [g.sc]; exact loc_of h.2⟩
theorem Good.ndX (g : Good X T W c F k) : X.N.Nodup := by rw [g.N]; exact g.nd
theorem Good.blt (g : Good X T W c F k) {x : Str} (h : isBlt c x = true) : Gl X x ∧ (x == ("__debug__" : Str)) = false ∧ X.mg x = none := by
  unfold isBlt at h
  simp only [Bool.and_eq_true, decide_eq_true_eq] at h
  exact ⟨(g.gl h.1).1, (g.gl h.1).2, g.gg.blt x h.2⟩
/-- a step of a reading: the first part's run -/
theorem rd_bind {α β γ δ : Type} {rep : MM → Hp → α → β → Prop} {rep2 : MM → Hp → γ → δ → Prop} {m : Z.Env → Sto → R α} {f : Z.Env → α → Sto → R γ} {σ : L2.St} {H : Hp} {Q : δ → Hp → Prop}
    (h : rd X T W rep2 (fun ρ S => (m ρ S).bind (f ρ)) σ H Q) :
    rd X T W rep m σ H fun b H1 => ∃ ρ a S M, EnvOk X.K M H1 ρ σ ∧ StoreOk T X.K M H1 S ∧ rep M H1 a b ∧ Post X T W σ M H1 rep2 (f ρ a S) Q := by
  obtain ⟨ρ, S, M, e, s, p⟩ := h
  refine ⟨ρ, S, M, e, s, ?_⟩
  have q := Post.bind (rep := rep) p
  cases hm : m ρ S with
  | ok a S1 =>
    rw [hm] at q
    intro b M1 H1 x1 s1 r1
    obtain ⟨a', S1', M1', y1, y2, y3, y4, y5⟩ := q b M1 H1 x1 s1 r1
    cases y4
    exact ⟨ρ, _, _, _, e.ext y1, y2, y3, y5⟩
  | ex c S1 => rw [hm] at q; exact q
  | no => rw [hm] at q; exact q
/-- the same, told of a value's run -/
theorem post_step {α β γ δ : Type} {rep : MM → Hp → α → β → Prop} {rep2 : MM → Hp → γ → δ → Prop} {m : Sto → R α} {f : α → Sto → R γ} {σ : L2.St} {M : MM} {H : Hp} {S : Sto} {ρ : Z.Env} {Q : δ → Hp → Prop} (e : EnvOk X.K M H ρ σ) (s : StoreOk T X.K M H S)
    (h : Post X T W σ M H rep2 ((m S).bind f) Q) : Post X T W σ M H rep (m S) fun b H1 => ∃ a S' M', EnvOk X.K M' H1 ρ σ ∧ Ext M H M' H1 ∧ StoreOk T X.K M' H1 S' ∧ rep M' H1 a b ∧ Post X T W σ M' H1 rep2 (f a S') Q := by
  have q := Post.bind (rep := rep) h
  cases hm : m S with
  | ok a S1 =>
    rw [hm] at q
    intro b M1 H1 x1 s1 r1
    obtain ⟨a', S1', M1', y1, y2, y3, y4, y5⟩ := q b M1 H1 x1 s1 r1
    cases y4
    exact ⟨_, _, _, e.ext y1, y1, y2, y3, y5⟩
  | ex c S1 => rw [hm] at q; exact q
  | no => rw [hm] at q; exact q
/-- from by-values: the post of a value said of a truth -/
theorem post_bV {σ : L2.St} {M : MM} {H : Hp} {m : R Bool} {Q : VK} (h : Post X T W σ M H (RepV X.K) (m.bind bV) Q) : Post X T W σ M H (fun _ _ a (b : V) => b = .bl a) m Q := by
  cases m with
  | ok a S => exact fun b M' H' e s r => h b M' H' e s r
  | ex c S => exact h
  | no => exact h
theorem post_bT {σ : L2.St} {M : MM} {H : Hp} {m : R Bool} {Q : Bool → Hp → Prop} (h : Post X T W σ M H (fun _ _ a b => a = b) m Q) : Post X T W σ M H (fun _ _ a (b : V) => b = .bl a) m (fun x H' => ∃ k, x = .bl k ∧ Q k H') := by
  cases m with
  | ok a S => exact fun b M' H' e s r => ⟨a, r, h a M' H' e s rfl⟩
  | ex c S => exact h
  | no => exact h

/-! ### names, constants -/
theorem s_var (g : Good X T W c F k) {C : Nat → List Val → Sto → R Val} {i : Nat} {x : Str} {p : Pos} (h : okVar c i x = true) : PE X (.Name x p) (rE X T W (evE C (.var i))) := by
  obtain ⟨h1, h2, h3, h4⟩ := g.var h
  refine PE.imp (pe_var h1 h2 h3 h4) fun σ H Q q => ?_
  obtain ⟨ρ, S, M, e, s, q⟩ := q
  simp only [evE] at q
  split at q
  · rename_i v hv
    obtain ⟨y, e1, e2⟩ := e.at_ i v hv
    exact ⟨y, e1, q y M H (Ext.refl _ _) s e2⟩
  · exact q.elim
theorem s_frz (g : Good X T W c F k) {C : Nat → List Val → Sto → R Val} {i : Nat} {x : Str} {p : Pos} (h : okVar c i x = true) : PE X (.Name x p) (rE X T W (evE C (.frz i))) := by
  obtain ⟨h1, h2, h3, h4⟩ := g.var h
  refine PE.imp (pe_var h1 h2 h3 h4) fun σ H Q q => ?_
  obtain ⟨ρ, S, M, e, s, q⟩ := q
  simp only [evE] at q
  split at q
  · rename_i n hv
    split at q
    · rename_i xs hn
      obtain ⟨y, e1, a, e2, e3⟩ := e.at_ i _ hv
      subst e2
      have hm : M.m[n]? = some (some a) := by
        obtain ⟨b, _, z, _⟩ := s.ent n xs hn
        rcases e3 with e3 | e3
        · rw [z] at e3; cases e3
        · exact e3
      exact ⟨_, e1, q _ (M.gone n) H ext_gone s.gone (rep_gone s hn hm)⟩
    · exact q.elim
  · exact q.elim
theorem s_lit {C : Nat → List Val → Sto → R Val} {d : PyData} {kc : Const} {j : Nat} {p : Pos} (h : constEq d kc = true) : PE X (.Constant kc j p) (rE X T W (evE C (.lit d))) := by
  cases d <;> cases kc <;> first | (exact absurd (show false = true from h) Bool.false_ne_true) | skip
  · exact PE.imp pe_non fun σ H Q ⟨ρ, S, M, e, s, q⟩ => q _ M H (Ext.refl _ _) s rfl
  · rename_i a b
    have hb : a = b := by simpa [constEq] using h
    subst hb
    exact PE.imp pe_bl fun σ H Q ⟨ρ, S, M, e, s, q⟩ => q _ M H (Ext.refl _ _) s rfl
  · rename_i a b
    have hb : a = b := by simpa [constEq] using h
    subst hb
    exact PE.imp pe_int fun σ H Q ⟨ρ, S, M, e, s, q⟩ => q _ M H (Ext.refl _ _) s rfl
  · rename_i a b
    have hb : a = b := by simpa [constEq] using h
    subst hb
    exact PE.imp pe_str fun σ H Q ⟨ρ, S, M, e, s, q⟩ => q _ M H (Ext.refl _ _) s rfl
theorem s_glo (g : Good X T W c F k) {C : Nat → List Val → Sto → R Val} {x : Str} {d : PyData} {p : Pos} (h1 : gl c x = true) (h2 : inCons c x d = true) : PE X (.Name x p) (rE X T W (evE C (.glo x d))) := by
  obtain ⟨u, v, m1, m2, m3⟩ := g.gg.con x d h2
  obtain ⟨g1, g2⟩ := g.gl h1
  exact PE.imp (pe_glob g1 m1 m2 g2) fun σ H Q ⟨ρ, S, M, e, s, q⟩ => q v M H (Ext.refl _ _) s (m3 M H)

/-! ### operators -/
variable {C : Nat → List Val → Sto → R Val} {a b d : LE} {e f e' : Expr} {p : Pos}
theorem Post.mono {α β : Type} {rep : MM → Hp → α → β → Prop} {σ : L2.St} {M : MM} {H : Hp} {m : R α} {Q Q' : β → Hp → Prop} (h : Post X T W σ M H rep m Q) (i : ∀ b H', Q b H' → Q' b H') : Post X T W σ M H rep m Q' := by
  cases m with
  | ok a S => exact fun b M' H' e s r => i _ _ (h b M' H' e s r)
  | ex c S => exact h
  | no => exact h
theorem rd_mono {α β : Type} {rep : MM → Hp → α → β → Prop} {m : Z.Env → Sto → R α} {σ : L2.St} {H : Hp} {Q Q' : β → Hp → Prop} (h : rd X T W rep m σ H Q) (i : ∀ b H', Q b H' → Q' b H') : rd X T W rep m σ H Q' := by
  obtain ⟨ρ, S, M, e, s, p⟩ := h
  exact ⟨ρ, S, M, e, s, p.mono i⟩
theorem s_neg (h : PE X e (rE X T W (evE C a))) : PE X (.UnaryOp .USub e p) (rE X T W (evE C (.neg a))) := by
  refine PE.imp (pe_un un_neg h) fun σ H Q q => ?_
  refine rd_mono (rd_bind (rep := RepV X.K) (f := fun _ => negV) q) fun y H' ⟨ρ, v, S, M, e, s, r, p⟩ => ?_
  cases v with
  | d dd => cases dd with
    | int i => exact ⟨i, r, p _ M H' (Ext.refl _ _) s rfl⟩
    | _ => exact (show False from p).elim
  | _ => exact (show False from p).elim
theorem s_bin {o : Op2} (ha : PE X e (rE X T W (evE C a))) (hb : PE X f (rE X T W (evE C b))) : PE X (.BinOp e (opOf o) f p) (rE X T W (evE C (.bin o a b))) := by
  refine ⟨fun pins s σ H Q I q => ?_⟩
  refine (pe_op (op_binG (T := T) (W := W) (σ := σ) o) ha hb).run pins s σ H Q I ?_
  refine rd_mono (rd_bind (rep := RepV X.K) (f := fun ρ v S => (evE C b ρ S).bind fun w S => binV o v w S) q) fun x H1 ⟨ρ, v, S, M, e, s, r, p⟩ => ?_
  exact ⟨ρ, S, M, e, s, Post.mono (post_step (rep := RepV X.K) e s p) fun y H2 ⟨w, S', M', e', x', s', r', p'⟩ => ⟨v, w, S', M', s', r.ext x', r', p'⟩⟩
theorem s_cmp (g : Good X T W c F k) {o : CO} (ha : PE X e (rE X T W (evE C a))) (hb : PE X f (rE X T W (evE C b))) (hm : behindInMarks (coOf o) f = false) : PE X (.Compare e [coOf o] [f] p) (rE X T W (evE C (.cmp o a b))) := by
  refine ⟨fun pins s σ H Q I q => ?_⟩
  refine (pe_cmpR (op_cmpG (T := T) (W := W) (σ := σ) g.units o) ha hb hm).run pins s σ H Q I ?_
  refine rd_mono (rd_bind (rep := RepV X.K) (f := fun ρ v S => (evE C b ρ S).bind fun w S => (cmpV o v w S).bind bV) q) fun x H1 ⟨ρ, v, S, M, e, s, r, p⟩ => ?_
  exact ⟨ρ, S, M, e, s, Post.mono (post_step (rep := RepV X.K) e s p) fun y H2 ⟨w, S', M', e', x', s', r', p'⟩ => ⟨v, w, S', M', s', r.ext x', r', post_bV p'⟩⟩
theorem t_cmp (g : Good X T W c F k) {o : CO} (ha : PE X e (rE X T W (evE C a))) (hb : PE X f (rE X T W (evE C b))) (hm : behindInMarks (coOf o) f = false) : PT X (.Compare e [coOf o] [f] p) (rT X T W (evT C (.cmp o a b))) := by
  refine ⟨fun pins s σ H Q I q => ?_⟩
  refine (pt_cmpR (op_cmpG (T := T) (W := W) (σ := σ) g.units o) ha hb hm).run pins s σ H Q I ?_
  refine rd_mono (rd_bind (rep := RepV X.K) (f := fun ρ v S => (evE C b ρ S).bind fun w S => cmpV o v w S) q) fun x H1 ⟨ρ, v, S, M, e, s, r, p⟩ => ?_
  exact ⟨ρ, S, M, e, s, Post.mono (post_step (rep := RepV X.K) e s p) fun y H2 ⟨w, S', M', e', x', s', r', p'⟩ => ⟨v, w, S', M', s', r.ext x', r', post_bT p'⟩⟩
/-- the first answer of a chain, then the second -/
theorem chain_post {o q : CO} {σ : L2.St} {H2 : Hp} {M : MM} {S : Sto} {ρ : Z.Env} {v w : Val} {x y : V} {Q : VK} (e : EnvOk X.K M H2 ρ σ) (s : StoreOk T X.K M H2 S) (rv : RepV X.K M H2 v x) (rw' : RepV X.K M H2 w y)
    (h : Post X T W σ M H2 (RepV X.K) ((cmpV o v w S).bind fun z S => if z then (evE C d ρ S).bind fun u S => (cmpV q w u S).bind bV else bV false S) Q) :
    rCmp X T W σ o x y H2 fun z H3 => ∃ kk, z = .bl kk ∧ (if kk = true then rE X T W (evE C d) σ H3 fun w' H4 => rCmp X T W σ q y w' H4 Q else Q (.bl false) H3) := by
  refine ⟨v, w, S, M, s, rv, rw', ?_⟩
  cases hm : cmpV o v w S with
  | ex c S' => rw [hm] at h; exact h
  | no => rw [hm] at h; exact h
  | ok kk S' =>
    rw [hm] at h
    intro b M' H' e1 s1 r1
    refine ⟨kk, r1, ?_⟩
    cases kk with
    | false =>
      rw [if_neg Bool.false_ne_true]
      exact h _ M' H' e1 s1 rfl
    | true =>
      rw [if_pos rfl]
      have h1 : Post X T W σ M H2 (RepV X.K) ((evE C d ρ S').bind fun u S => (cmpV q w u S).bind bV) Q := h
      refine ⟨ρ, S', M', e.ext e1, s1, Post.mono (post_step (rep := RepV X.K) (e.ext e1) s1 (h1.ext e1)) fun u H4 ⟨w4, S4, M4, e4, x4, s4, r4, p4⟩ => ⟨w, w4, S4, M4, s4, (rw'.ext e1).ext x4, r4, post_bV p4⟩⟩
theorem chain_postT {o q : CO} {σ : L2.St} {H2 : Hp} {M : MM} {S : Sto} {ρ : Z.Env} {v w : Val} {x y : V} {Q : Bool → Hp → Prop} (e : EnvOk X.K M H2 ρ σ) (s : StoreOk T X.K M H2 S) (rv : RepV X.K M H2 v x) (rw' : RepV X.K M H2 w y)
    (h : Post X T W σ M H2 (fun _ _ a b => a = b) ((cmpV o v w S).bind fun z S => if z then (evE C d ρ S).bind fun u S => cmpV q w u S else .ok false S) Q) :
    rCmp X T W σ o x y H2 fun z H3 => ∃ kk, z = .bl kk ∧ (if kk = true then rE X T W (evE C d) σ H3 fun w' H4 => rCmp X T W σ q y w' H4 (fun x H' => ∃ k, x = V.bl k ∧ Q k H') else ∃ k, V.bl false = V.bl k ∧ Q k H3) := by
  refine ⟨v, w, S, M, s, rv, rw', ?_⟩
  cases hm : cmpV o v w S with
  | ex c S' => rw [hm] at h; exact h
  | no => rw [hm] at h; exact h
  | ok kk S' =>
    rw [hm] at h
    intro b M' H' e1 s1 r1
    refine ⟨kk, r1, ?_⟩
    cases kk with
    | false =>
      rw [if_neg Bool.false_ne_true]
      exact ⟨false, rfl, h _ M' H' e1 s1 rfl⟩
    | true =>
      rw [if_pos rfl]
      have h1 : Post X T W σ M H2 (fun _ _ a b => a = b) ((evE C d ρ S').bind fun u S => cmpV q w u S) Q := h
      refine ⟨ρ, S', M', e.ext e1, s1, Post.mono (post_step (rep := RepV X.K) (e.ext e1) s1 (h1.ext e1)) fun u H4 ⟨w4, S4, M4, e4, x4, s4, r4, p4⟩ => ⟨w, w4, S4, M4, s4, (rw'.ext e1).ext x4, r4, post_bT p4⟩⟩
theorem s_chain (g : Good X T W c F k) {o q : CO} (ha : PE X e (rE X T W (evE C a))) (hb : PE X f (rE X T W (evE C b))) (hd : PE X e' (rE X T W (evE C d))) (hm : lastMarks [coOf o, coOf q] [f, e'] = false) : PE X (.Compare e [coOf o, coOf q] [f, e'] p) (rE X T W (evE C (.chain o q a b d))) := by
  refine ⟨fun pins s σ H Q I q' => ?_⟩
  refine (pe_chain (op_cmpG (T := T) (W := W) (σ := σ) g.units o) (op_cmpG (T := T) (W := W) (σ := σ) g.units q) ha hb hd hm).run pins s σ H Q I ?_
  refine rd_mono (rd_bind (rep := RepV X.K) (f := fun ρ v S => (evE C b ρ S).bind fun w S => (cmpV o v w S).bind fun z S => if z then (evE C d ρ S).bind fun u S => (cmpV q w u S).bind bV else bV false S) q') fun x H1 ⟨ρ, v, S, M, e, s, r, p⟩ => ?_
  exact ⟨ρ, S, M, e, s, Post.mono (post_step (rep := RepV X.K) e s p) fun y H2 ⟨w, S', M', e', x', s', r', p'⟩ => chain_post e' s' (r.ext x') r' p'⟩
theorem t_chain (g : Good X T W c F k) {o q : CO} (ha : PE X e (rE X T W (evE C a))) (hb : PE X f (rE X T W (evE C b))) (hd : PE X e' (rE X T W (evE C d))) (hm : lastMarks [coOf o, coOf q] [f, e'] = false) : PT X (.Compare e [coOf o, coOf q] [f, e'] p) (rT X T W (evT C (.chain o q a b d))) := by
  refine ⟨fun pins s σ H Q I q' => ?_⟩
  refine (pt_chain (op_cmpG (T := T) (W := W) (σ := σ) g.units o) (op_cmpG (T := T) (W := W) (σ := σ) g.units q) ha hb hd hm).run pins s σ H Q I ?_
  refine rd_mono (rd_bind (rep := RepV X.K) (f := fun ρ v S => (evE C b ρ S).bind fun w S => (cmpV o v w S).bind fun z S => if z then (evE C d ρ S).bind fun u S => cmpV q w u S else .ok false S) q') fun x H1 ⟨ρ, v, S, M, e, s, r, p⟩ => ?_
  exact ⟨ρ, S, M, e, s, Post.mono (post_step (rep := RepV X.K) e s p) fun y H2 ⟨w, S', M', e', x', s', r', p'⟩ => chain_postT e' s' (r.ext x') r' p'⟩

/-! ### and, or, not, if -/
theorem asBool_d {v : Val} {S : Sto} {σ : L2.St} {M : MM} {H : Hp} {x : V} {α β : Type} {rep : MM → Hp → α → β → Prop} {f : Bool → Sto → R α} {Q : β → Hp → Prop} (r : RepV X.K M H v x) (h : Post X T W σ M H rep ((asBool v S).bind f) Q) : ∃ b, x = .bl b ∧ Post X T W σ M H rep (f b S) Q := by
  cases v with
  | d dd => cases dd with
    | bool b => exact ⟨b, r, h⟩
    | _ => exact (show False from h).elim
  | _ => exact (show False from h).elim
theorem s_and {rest : List Expr} (ha : PE X e (rE X T W (evE C a))) (hb : PE X (.BoolOp .And (f :: rest) p) (rE X T W (evE C b))) : PE X (.BoolOp .And (e :: f :: rest) p) (rE X T W (evE C (.and a b))) := by
  refine PE.imp (pe_and ha hb) fun σ H Q q => ?_
  refine rd_mono (rd_bind (rep := RepV X.K) (f := fun ρ v S => (asBool v S).bind fun x S => if x then evE C b ρ S else bV false S) q) fun x H1 ⟨ρ, v, S, M, e, s, r, p⟩ => ?_
  obtain ⟨bb, hx, p⟩ := asBool_d r p
  refine ⟨bb, hx, ?_⟩
  cases bb with
  | true => rw [if_pos rfl] at p ⊢; exact ⟨ρ, S, M, e, s, p⟩
  | false => rw [if_neg Bool.false_ne_true] at p ⊢; exact p _ M H1 (Ext.refl _ _) s rfl
theorem s_or {rest : List Expr} (ha : PE X e (rE X T W (evE C a))) (hb : PE X (.BoolOp .Or (f :: rest) p) (rE X T W (evE C b))) : PE X (.BoolOp .Or (e :: f :: rest) p) (rE X T W (evE C (.or a b))) := by
  refine PE.imp (pe_or ha hb) fun σ H Q q => ?_
  refine rd_mono (rd_bind (rep := RepV X.K) (f := fun ρ v S => (asBool v S).bind fun x S => if x then bV true S else evE C b ρ S) q) fun x H1 ⟨ρ, v, S, M, e, s, r, p⟩ => ?_
  obtain ⟨bb, hx, p⟩ := asBool_d r p
  refine ⟨bb, hx, ?_⟩
  cases bb with
  | true => rw [if_pos rfl] at p ⊢; exact p _ M H1 (Ext.refl _ _) s rfl
  | false => rw [if_neg Bool.false_ne_true] at p ⊢; exact ⟨ρ, S, M, e, s, p⟩
theorem s_not (ha : PE X e (rE X T W (evE C a))) : PE X (.UnaryOp .Not e p) (rE X T W (evE C (.not a))) := by
  refine PE.imp (pe_not ha) fun σ H Q q => ?_
  refine rd_mono (rd_bind (rep := RepV X.K) (f := fun ρ v S => (asBool v S).bind fun x S => bV (!x) S) q) fun x H1 ⟨ρ, v, S, M, e, s, r, p⟩ => ?_
  obtain ⟨bb, hx, p⟩ := asBool_d r p
  exact ⟨bb, hx, p _ M H1 (Ext.refl _ _) s rfl⟩
theorem t_and {rest : List Expr} (ha : PT X e (rT X T W (evT C a))) (hb : PW X (.BoolOp .And (f :: rest) p) (rT X T W (evT C b))) : PW X (.BoolOp .And (e :: f :: rest) p) (rT X T W (evT C (.and a b))) := by
  refine PW.imp (pw_and ha hb) fun σ H Q q => ?_
  refine rd_mono (rd_bind (rep := fun _ _ a b => a = b) (f := fun ρ x S => if x then evT C b ρ S else .ok false S) q) fun x H1 ⟨ρ, v, S, M, e, s, r, p⟩ => ?_
  subst r
  cases v with
  | true => rw [if_pos rfl] at p ⊢; exact ⟨ρ, S, M, e, s, p⟩
  | false => rw [if_neg Bool.false_ne_true] at p ⊢; exact p _ M H1 (Ext.refl _ _) s rfl
theorem t_or {rest : List Expr} (ha : PT X e (rT X T W (evT C a))) (hb : PW X (.BoolOp .Or (f :: rest) p) (rT X T W (evT C b))) : PW X (.BoolOp .Or (e :: f :: rest) p) (rT X T W (evT C (.or a b))) := by
  refine PW.imp (pw_or ha hb) fun σ H Q q => ?_
  refine rd_mono (rd_bind (rep := fun _ _ a b => a = b) (f := fun ρ x S => if x then .ok true S else evT C b ρ S) q) fun x H1 ⟨ρ, v, S, M, e, s, r, p⟩ => ?_
  subst r
  cases v with
  | true => rw [if_pos rfl] at p ⊢; exact p _ M H1 (Ext.refl _ _) s rfl
  | false => rw [if_neg Bool.false_ne_true] at p ⊢; exact ⟨ρ, S, M, e, s, p⟩
theorem t_not (ha : PT X e (rT X T W (evT C a))) : PT X (.UnaryOp .Not e p) (rT X T W (evT C (.not a))) := by
  refine PT.imp (pt_not ha) fun σ H Q q => ?_
  refine rd_mono (rd_bind (rep := fun _ _ a b => a = b) (f := fun ρ x S => .ok (!x) S) q) fun x H1 ⟨ρ, v, S, M, e, s, r, p⟩ => ?_
  subst r
  exact p _ M H1 (Ext.refl _ _) s rfl
theorem s_ite {t : LE} (hc : PT X e' (rT X T W (evT C t))) (ha : PE X e (rE X T W (evE C a))) (hb : PE X f (rE X T W (evE C b))) : PE X (.IfExp e' e f p) (rE X T W (evE C (.ite t a b))) := by
  refine PE.imp (pe_ifExp hc ha hb) fun σ H Q q => ?_
  refine rd_mono (rd_bind (rep := fun _ _ a b => a = b) (f := fun ρ x S => if x then evE C a ρ S else evE C b ρ S) q) fun x H1 ⟨ρ, v, S, M, e, s, r, p⟩ => ?_
  subst r
  cases v with
  | true => rw [if_pos rfl] at p ⊢; exact ⟨ρ, S, M, e, s, p⟩
  | false => rw [if_neg Bool.false_ne_true] at p ⊢; exact ⟨ρ, S, M, e, s, p⟩

/-! ### displays -/
theorem plain_rep {M : MM} {H : Hp} : ∀ {vs : List Val} {xs : List PyData} {ys : List V}, plain vs = some xs → RepVs X.K M H vs ys → RepL X.K M H xs ys
  | [], xs, ys, h, r => by
    simp only [plain, Option.some.injEq] at h
    subst h
    exact r
  | .d x :: vs, xs, ys, h, r => by
    simp only [plain, Option.map_eq_some_iff] at h
    obtain ⟨zs, h1, h2⟩ := h
    subst h2
    obtain ⟨v, q, r1, r2, r3⟩ := r
    exact ⟨v, q, r1, r2, plain_rep h1 r3⟩
  | .r n :: vs, xs, ys, h, r => by simp [plain] at h
  | .s n :: vs, xs, ys, h, r => by simp [plain] at h
theorem plain_len : ∀ {vs : List Val} {xs : List PyData}, plain vs = some xs → vs.length = xs.length
  | [], xs, h => by simp only [plain, Option.some.injEq] at h; subst h; rfl
  | .d x :: vs, xs, h => by
    simp only [plain, Option.map_eq_some_iff] at h
    obtain ⟨zs, h1, h2⟩ := h
    subst h2
    simp [plain_len h1]
  | .r n :: vs, xs, h => by simp [plain] at h
  | .s n :: vs, xs, h => by simp [plain] at h
theorem evL_len : ∀ {es : List LE} {ρ : Z.Env} {S S' : Sto} {vs : List Val}, evL C es ρ S = .ok vs S' → vs.length = es.length
  | [], ρ, S, S', vs, h => by simp only [evL] at h; cases h; rfl
  | e :: es, ρ, S, S', vs, h => by
    simp only [evL] at h
    cases h1 : evE C e ρ S with
    | ok v S1 =>
      rw [h1] at h
      cases h2 : evL C es ρ S1 with
      | ok ws S2 =>
        simp only [R.bind, h2] at h
        cases h
        simp [evL_len h2]
      | _ => simp [R.bind, h2] at h
    | _ => rw [h1] at h; simp [R.bind] at h
/-- a list's end: plain, or at a place of its own -/
theorem ret1_G {m : Bool} {σ : L2.St} {M : MM} {H : Hp} {S : Sto} {xs : List PyData} {ys : List V} {q : Addr} {Q : VK} (s : StoreOk T X.K M H S) (r : RepL X.K M H xs ys) (h : Post X T W σ M H (RepV X.K) (ret1 m (.list xs) S) Q) (hq : H q = none) : Q (.ref q) (upd H q (.lst ys)) := by
  cases m with
  | false => exact h _ M _ (ext_new hq) (s.new hq) (rep_new_lst s hq r)
  | true =>
    refine h _ (M.push q) _ (ext_push hq) (s.push hq r) ⟨q, rfl, .inr ?_⟩
    show (M.m ++ [some q])[S.length]? = _
    rw [← s.len]
    simp
theorem s_tup {es : List LE} {fs : List Expr} {k' : Nat} (hl : es.length ≤ 1000) (h : PA X fs (rA X T W (evL C es))) : PE X (.Tuple fs k' p) (rE X T W (evE C (.tup es))) := by
  refine PE.imp (pe_tup h) fun σ H Q q => ?_
  obtain ⟨ρ, S, M, e, s, q⟩ := q
  refine ⟨ρ, S, M, e, s, ?_⟩
  have q : Post X T W σ M H (RepV X.K) ((evL C es ρ S).bind tupV) Q := q
  cases hm : evL C es ρ S with
  | ex c S' => rw [hm] at q; exact q
  | no => rw [hm] at q; exact q
  | ok vs S1 =>
    have hlen := evL_len hm
    rw [hm] at q
    intro ys M' H' x1 s1 r1
    have q : Post X T W σ M' H' (RepV X.K) (tupV vs S1) Q := Post.ext x1 q
    unfold tupV at q
    cases hp : plain vs with
    | none => rw [hp] at q; exact q.elim
    | some xs =>
      rw [hp] at q
      have rl := plain_rep (X := X) hp r1
      refine ⟨?_, fun z hz => q _ M' _ (ext_new hz) (s1.new hz) (rep_new_tup hz rl)⟩
      rw [← rl.length, ← plain_len hp, hlen]
      exact Nat.le_trans hl (Nat.le_trans (by decide) lim_line)
theorem s_lst {m : Bool} {es : List LE} {fs : List Expr} (hl : es.length ≤ 1000) (h : PA X fs (rA X T W (evL C es))) : PE X (.List fs p) (rE X T W (evE C (.lst m es))) := by
  refine PE.imp (pe_lst h) fun σ H Q q => ?_
  obtain ⟨ρ, S, M, e, s, q⟩ := q
  refine ⟨ρ, S, M, e, s, ?_⟩
  have q : Post X T W σ M H (RepV X.K) ((evL C es ρ S).bind (lstV m)) Q := q
  cases hm : evL C es ρ S with
  | ex c S' => rw [hm] at q; exact q
  | no => rw [hm] at q; exact q
  | ok vs S1 =>
    have hlen := evL_len hm
    rw [hm] at q
    intro ys M' H' x1 s1 r1
    have q : Post X T W σ M' H' (RepV X.K) (lstV m vs S1) Q := Post.ext x1 q
    unfold lstV at q
    cases hp : plain vs with
    | none => rw [hp] at q; exact q.elim
    | some xs =>
      rw [hp] at q
      have rl := plain_rep (X := X) hp r1
      refine ⟨?_, fun z hz => ret1_G s1 rl q hz⟩
      rw [← rl.length, ← plain_len hp, hlen]
      exact Nat.le_trans hl (Nat.le_trans (by decide) lim_line)

/-! ### subscripts, slices -/
theorem s_ix (ha : PE X e (rE X T W (evE C a))) (hb : PE X f (rE X T W (evE C b))) (hs : PlainIx f) : PE X (.Subscript e f p) (rE X T W (evE C (.ix a b))) := by
  refine ⟨fun pins s σ H Q I q => ?_⟩
  refine (pe_ix (ix_G (T := T) (W := W) (σ := σ)) ha hb hs).run pins s σ H Q I ?_
  refine rd_mono (rd_bind (rep := RepV X.K) (f := fun ρ v S => (evE C b ρ S).bind fun w S => ixV v w S) q) fun x H1 ⟨ρ, v, S, M, e, s, r, p⟩ => ?_
  exact ⟨ρ, S, M, e, s, Post.mono (post_step (rep := RepV X.K) e s p) fun y H2 ⟨w, S', M', e', x', s', r', p'⟩ => ⟨v, w, S', M', s', r.ext x', r', p'⟩⟩
theorem s_sl {lo hi : Option LE} {l h : Option Expr} {p2 : Pos} (ha : PE X e (rE X T W (evE C a))) (hl : PO X l (rO X T W (evP C lo))) (hh : PO X h (rO X T W (evP C hi))) : PE X (.Subscript e (.Slice l h none p2) p) (rE X T W (evE C (.sl a lo hi))) := by
  refine ⟨fun pins s σ H Q I q => ?_⟩
  refine (pe_slice (sl_G (T := T) (W := W) (σ := σ)) ha hl hh).run pins s σ H Q I ?_
  refine rd_mono (rd_bind (rep := RepV X.K) (f := fun ρ v S => (evP C lo ρ S).bind fun l S => (evP C hi ρ S).bind fun h S => slV v l h S) q) fun x H1 ⟨ρ, v, S, M, e, s, r, p⟩ => ?_
  refine ⟨ρ, S, M, e, s, Post.mono (post_step (rep := fun _ _ a b => a = b) e s p) fun y H2 ⟨w, S', M', e', x', s', r', p'⟩ => ?_⟩
  subst r'
  refine ⟨ρ, S', M', e', s', Post.mono (post_step (rep := fun _ _ a b => a = b) e' s' p') fun y H2 ⟨w2, S2, M2, e2, x2, s2, r2, p2⟩ => ?_⟩
  subst r2
  exact ⟨v, S2, M2, s2, (r.ext x').ext x2, p2⟩
theorem s_none : PO X none (rO X T W (evP C none)) := PO.imp po_none fun σ H Q ⟨ρ, S, M, e, s, q⟩ => q _ M H (Ext.refl _ _) s rfl
theorem s_some (h : PE X e (rE X T W (evE C a))) : PO X (some e) (rO X T W (evP C (some a))) := by
  refine PO.imp (po_some h) fun σ H Q q => ?_
  refine rd_mono (rd_bind (rep := RepV X.K) (f := fun ρ v S => match v with
    | .d (.int i) => .ok (some i) S
    | _ => .no) q) fun x H1 ⟨ρ, v, S, M, e, s, r, p⟩ => ?_
  cases v with
  | d dd => cases dd with
    | int i => exact ⟨i, r, p _ M H1 (Ext.refl _ _) s rfl⟩
    | _ => exact (show False from p).elim
  | _ => exact (show False from p).elim

/-! ### arguments -/
theorem star_of (h : ∀ v p, e ≠ .Starred v p) (es : List Expr) (env : PySem.Env) : starEach (e :: es) env = (false, eval e env) :: starEach es env := by
  cases e <;> first | rfl | exact absurd rfl (h _ _)
theorem s_nil : PA X [] (rA X T W (evL C [])) := PA.imp pa_nil fun σ H Q ⟨ρ, S, M, e, s, q⟩ => q _ M H (Ext.refl _ _) s rfl
theorem s_cons {es : List LE} {fs : List Expr} (hs : ∀ v p, e ≠ .Starred v p) (ha : PE X e (rE X T W (evE C a))) (hr : PA X fs (rA X T W (evL C es))) : PA X (e :: fs) (rA X T W (evL C (a :: es))) := by
  refine PA.imp (pa_cons ha hr (star_of hs fs X.env)) fun σ H Q q => ?_
  refine rd_mono (rd_bind (rep := RepV X.K) (f := fun ρ v S => (evL C es ρ S).bind fun vs S => .ok (v :: vs) S) q) fun x H1 ⟨ρ, v, S, M, e, s, r, p⟩ => ?_
  refine ⟨ρ, S, M, e, s, Post.mono (post_step (rep := RepVs X.K) e s p) fun y H2 ⟨w, S', M', e', x', s', r', p'⟩ => ?_⟩
  exact p' _ M' H2 (Ext.refl _ _) s' ⟨x, y, rfl, r.ext x', r'⟩
theorem star_any {pos : Pos} {env : PySem.Env} : ∀ {fs : List Expr}, (∀ e ∈ fs, ∀ v p, e ≠ .Starred v p) → (backTo pos (starEach fs env)).any (·.1) = false
  | [], _ => rfl
  | e :: fs, h => by
    rw [star_of (h e List.mem_cons_self) fs env]
    show (false || (backTo pos (starEach fs env)).any (·.1)) = false
    rw [star_any fun e' he' => h e' (List.mem_cons_of_mem _ he')]
    rfl

/-! ### calls -/
theorem s_bi (g : Good X T W c F k) {bi : BI} {es : List LE} {fs : List Expr} {q : Pos} (hb : isBlt c (biName bi) = true) (hs : ∀ e' ∈ e :: fs, ∀ v p, e' ≠ .Starred v p) (h : PA X (e :: fs) (rA X T W (evL C es))) : PE X (.Call (.Name (biName bi) q) (e :: fs) [] p) (rE X T W (evE C (.bi bi es))) := by
  obtain ⟨g1, g2, g3⟩ := g.blt hb
  have fin : ∀ σ H Q, rE X T W (evE C (.bi bi es)) σ H Q → rA X T W (evL C es) σ H fun vs H1 => rBi X T W σ bi vs H1 Q := fun σ H Q q => by
    refine rd_mono (rd_bind (rep := RepVs X.K) (f := fun ρ vs S => biV bi vs S) q) fun x H1 ⟨ρ, v, S, M, e, s, r, p⟩ => ?_
    exact ⟨v, S, M, s, r, p⟩
  have hst := star_of (hs e List.mem_cons_self) fs X.env
  have hpl := star_any (pos := p) (env := X.env) (fs := fs) fun e' he' => hs e' (List.mem_cons_of_mem _ he')
  refine ⟨fun pins s σ H Q I q' => ?_⟩
  have hc := call_G (T := T) (W := W) (σ := σ) g.calm bi
  cases bi with
  | len => exact (pe_callB hc g1 g3 (by decide +kernel) h (by decide) g2 hst hpl).run pins s σ H Q I (fin σ H Q q')
  | abs => exact (pe_callB hc g1 g3 (by decide +kernel) h (by decide) g2 hst hpl).run pins s σ H Q I (fin σ H Q q')
  | sum => exact (pe_callB hc g1 g3 (by decide +kernel) h (by decide) g2 hst hpl).run pins s σ H Q I (fin σ H Q q')
  | all => exact (pe_callB hc g1 g3 (by decide +kernel) h (by decide) g2 hst hpl).run pins s σ H Q I (fin σ H Q q')
  | max => exact (pe_callB hc g1 g3 (by decide +kernel) h (by decide) g2 hst hpl).run pins s σ H Q I (fin σ H Q q')
  | min => exact (pe_callB hc g1 g3 (by decide +kernel) h (by decide) g2 hst hpl).run pins s σ H Q I (fin σ H Q q')
  | int => exact (pe_callTy hc g1 g3 (by decide +kernel) h (by decide) g2 hst hpl).run pins s σ H Q I (fin σ H Q q')
  | str => exact (pe_callTy hc g1 g3 (by decide +kernel) h (by decide) g2 hst hpl).run pins s σ H Q I (fin σ H Q q')
  | bool => exact (pe_callTy hc g1 g3 (by decide +kernel) h (by decide) g2 hst hpl).run pins s σ H Q I (fin σ H Q q')
  | tuple => exact (pe_callTy hc g1 g3 (by decide +kernel) h (by decide) g2 hst hpl).run pins s σ H Q I (fin σ H Q q')
  | list => exact (pe_callTy hc g1 g3 (by decide +kernel) h (by decide) g2 hst hpl).run pins s σ H Q I (fin σ H Q q')
def tyStr : TY → String
  | .int => "int" | .bool => "bool" | .str => "str" | .tuple => "tuple" | .list => "list"
theorem pe_isi (g : Good X T W c F k) {t : TY} {q q2 : Pos} (h1 : isBlt c "isinstance" = true) (h2 : isBlt c (tyName t) = true) (hs : ∀ v p, e ≠ .Starred v p) (ha : PE X e (rE X T W (evE C a))) : PE X (.Call (.Name "isinstance" q) [e, .Name (tyName t) q2] [] p) (tCB (rIsi X.K) (tCons (rE X T W (evE C a)) (tCons (tC (.ty (tyStr t))) tNil))) := by
  obtain ⟨g1, g2, g3⟩ := g.blt h1
  obtain ⟨k1, k2, k3⟩ := g.blt h2
  have hn : PE X (.Name (tyName t) q2) (tC (.ty (tyStr t))) := by
    cases t with
    | int => exact pe_bltn (u := .type "int") k1 k3 (by decide +kernel) rfl (by decide) k2
    | bool => exact pe_bltn (u := .type "bool") k1 k3 (by decide +kernel) rfl (by decide) k2
    | str => exact pe_bltn (u := .type "str") k1 k3 (by decide +kernel) rfl (by decide) k2
    | tuple => exact pe_bltn (u := .type "tuple") k1 k3 (by decide +kernel) rfl (by decide) k2
    | list => exact pe_bltn (u := .type "list") k1 k3 (by decide +kernel) rfl (by decide) k2
  exact pe_callB call_isi g1 g3 (by decide +kernel) (pa_cons ha (pa_cons hn pa_nil rfl) (star_of hs _ X.env)) (by decide) g2 (star_of hs _ X.env) rfl
theorem s_isi (g : Good X T W c F k) {t : TY} {q q2 : Pos} (h1 : isBlt c "isinstance" = true) (h2 : isBlt c (tyName t) = true) (hs : ∀ v p, e ≠ .Starred v p) (ha : PE X e (rE X T W (evE C a))) : PE X (.Call (.Name "isinstance" q) [e, .Name (tyName t) q2] [] p) (rE X T W (evE C (.isi a t))) := by
  refine PE.imp (pe_isi g h1 h2 hs ha) fun σ H Q q => ?_
  refine rd_mono (rd_bind (rep := RepV X.K) (f := fun ρ v S => (isiV t v S).bind bV) q) fun x H1 ⟨ρ, v, S, M, e, s, r, p⟩ => ?_
  exact isi_G (n := tyStr t) (by cases t <;> rfl) r s (post_bV p)
theorem s_call (g : Good X T W c F k) {n : Nat} {x : Str} {es : List LE} {fs : List Expr} {q : Pos} (hx : Z.gl c x = true) (hn : c.fns.lookup x = some n) (hl : es.length = fs.length) (hs : ∀ e' ∈ fs, ∀ v p, e' ≠ .Starred v p) (h : PA X fs (rA X T W (evL (callF F k) es))) : PE X (.Call (.Name x q) fs [] p) (rE X T W (evE (callF F k) (.call n es))) := by
  obtain ⟨g1, g2⟩ := g.gl hx
  have fin : ∀ σ H Q, rE X T W (evE (callF F k) (.call n es)) σ H Q → rA X T W (evL (callF F k) es) σ H fun vs H1 => spG X.K X.mg T (callF F k n) vs H1 Q (WE W σ) := fun σ H Q q => by
    refine rd_mono (rd_bind (rep := RepVs X.K) (f := fun ρ vs S => callF F k n vs S) q) fun x H1 ⟨ρ, v, S, M, e, s, r, p⟩ => ⟨v, S, M, s, r, ?_⟩
    revert p
    cases callF F k n v S with
    | ok d S' => exact fun p => p
    | ex c S' => exact fun p => p
    | no => exact fun p => p
  obtain ⟨f', fd, ps, m1, m2, m3, m4⟩ := g.gg.fns x n hn
  cases fs with
  | nil =>
    refine ⟨fun pins s σ H Q I q' => ?_⟩
    obtain ⟨ρ, S, M, e, so, p1⟩ := fin σ H Q q'
    cases es with
    | cons e1 es' =>
      -- no argument is written
      exact absurd (show False from by
        have := hl
        simp at this) id
    | nil =>
      have q1 := p1 [] M H (Ext.refl _ _) so rfl
      refine wpAny_Call_Name_kw (ld_glob I g1 m1 ?_ g2)
      exact PySem.W.callWith_K0 I.kIn m2 (run_fnS (us := []) m4 g.room m3 (passAt g.tk σ) I .nil q1)
  | cons e1 fs =>
    have hst := star_of (hs e1 List.mem_cons_self) fs X.env
    have hpl := star_any (pos := p) (env := X.env) (fs := fs) fun e' he' => hs e' (List.mem_cons_of_mem _ he')
    exact PE.imp (pe_callS m4 g.room g1 m1 m2 m3 (fun σ => passAt g.tk σ) h g2 hst hpl) fin
end
end Z

/-! len(set(..)) of a tuple of texts. -/
namespace Z
open PySem PySem.Spec PyProof.Rows L2
theorem dd_snoc (xs : List Str) (x : Str) : dd (xs ++ [x]) = if x ∈ dd xs then dd xs else dd xs ++ [x] := by
  unfold dd
  rw [List.foldl_append]
  rfl
theorem dd_at (xs : List Str) : ∀ (acc : List Str), (∀ x, x ∈ xs.foldl (fun acc x => if x ∈ acc then acc else acc ++ [x]) acc ↔ x ∈ acc ∨ x ∈ xs) ∧ (xs.foldl (fun acc x => if x ∈ acc then acc else acc ++ [x]) acc).length ≤ acc.length + xs.length := by
  induction xs with
  | nil => exact fun acc => ⟨fun x => by simp, Nat.le_refl _⟩
  | cons y ys ih =>
    intro acc
    rw [List.foldl_cons]
    by_cases h : y ∈ acc
    · rw [if_pos h]
      obtain ⟨h1, h2⟩ := ih acc
      refine ⟨fun x => (h1 x).trans ⟨fun q => q.elim .inl fun q => .inr (List.mem_cons_of_mem _ q), fun q => q.elim .inl fun q => (List.mem_cons.mp q).elim (fun e => .inl (e ▸ h)) .inr⟩, ?_⟩
      rw [List.length_cons]
      omega
    · rw [if_neg h]
      obtain ⟨h1, h2⟩ := ih (acc ++ [y])
      refine ⟨fun x => (h1 x).trans ?_, ?_⟩
      · rw [List.mem_append, List.mem_singleton, List.mem_cons, or_assoc]
      · rw [List.length_append, List.length_singleton] at h2
        rw [List.length_cons]
        omega
theorem dd_mem {xs : List Str} {x : Str} : x ∈ dd xs ↔ x ∈ xs := ((dd_at xs []).1 x).trans (by simp)
theorem dd_len (xs : List Str) : (dd xs).length ≤ xs.length := by
  have := (dd_at xs []).2
  rw [List.length_nil, Nat.zero_add] at this
  exact this
section
variable {P : Program} {w : World} {A : Around} {R : Result → Shared → Prop} {it : Addr} {fp wr : List Addr} {G : Array GenState → Array GenState → Prop} {n : Nat} {V : Nat → Value → Prop} {St : Nat → Shared → Prop}
theorem fill_strs (ws : WalksS P w A.in1 it fp wr G n V St) {S : Addr} (hf : S ∉ fp) {xs : List Str} (hn : xs.length = n) (hb : n + 1 < scanBound) (hv : ∀ i v, V i v → ∃ t, v = .str (xs.getD i Str.empty) t) :
    ∀ (k i : Nat) (s : Shared), n - i = k → i ≤ n → St i s → s.heap.SetOf (strKind P w) S (fun y => (xs.take i).any (· == y)) (dd (xs.take i)).length →
      (∀ s', Moved (S :: wr) G s s' → s'.heap.SetOf (strKind P w) S (fun y => xs.any (· == y)) (dd xs).length → R (.ok (.ret .none)) s') →
      codeAny (model P w) A (.builtin "set.update.loop" ⟨[.ref S, .ref it], []⟩) R s := by
  have nw : S ∉ wr := fun z => hf (ws.sub _ z)
  have kept : ∀ {s s' : Shared} {T : Str → Bool} {c : Nat}, Moved wr G s s' → s.heap.SetOf (strKind P w) S T c → s'.heap.SetOf (strKind P w) S T c := fun mv ⟨o, es, ep, t, ho, z⟩ => ⟨o, es, ep, t, mv.heap S _ nw ho, z⟩
  have wide : ∀ {s s' : Shared}, Moved wr G s s' → Moved (S :: wr) G s s' := fun mv => mv.mono fun b z => List.mem_cons_of_mem _ z
  intro k
  induction k with
  | zero =>
    intro i s e1 e2 st hS hR
    obtain rfl : i = n := by omega
    refine codeAny_builtin F.entry_set_update_loop ?_
    rw [Around.under_plainId F.plain_set_update_loop _]
    refine wpAny_bind (ws.done s _ _ st fun s' mv => wpAny_pure (hR s' (wide mv) ?_))
    have h2 := kept mv hS
    rw [List.take_of_length_le (Nat.le_of_eq hn)] at h2
    exact h2
  | succ k ih =>
    intro i s e1 e2 st hS hR
    have lt : i < n := by omega
    refine codeAny_builtin F.entry_set_update_loop ?_
    rw [Around.under_plainId F.plain_set_update_loop _]
    refine wpAny_bind (ws.item i s _ _ lt st fun v s' pv st' mv => ?_)
    obtain ⟨t, rfl⟩ := hv i v pv
    have h2 := kept mv hS
    have hx : xs.take (i + 1) = xs.take i ++ [xs.getD i Str.empty] := by
      rw [List.take_add_one, List.getElem?_eq_getElem (by omega), List.getD_eq_getElem?_getD, List.getElem?_eq_getElem (by omega)]
      rfl
    have hle : (dd (xs.take i)).length ≤ i := Nat.le_trans (dd_len _) (by rw [List.length_take]; omega)
    refine wpAny_bind (wpAny_holding ?_)
    unfold setAdd
    refine wpAny_holding (wpAny_bind ((strKind P w).pyHash (k := xs.getD i Str.empty) (strKind_is _ _ _ _) ?_))
    refine wpAny_setAddHashed_of (knd := strKind P w) (s := { s' with toks := s'.toks + 1 }) (strKind_is _ _ _ _) rfl h2 (by omega) fun h' sb hS2 => ?_
    have h3 : h'.SetOf (strKind P w) S (fun y => (xs.take (i + 1)).any (· == y)) (dd (xs.take (i + 1))).length := by
      refine SetOf_congr hS2 (fun y => ?_) ?_
      · rw [hx, List.any_append]
        congr 1
        by_cases q : y = xs.getD i Str.empty
        · subst q; simp
        · have q2 : (xs.getD i Str.empty == y) = false := beq_eq_false_iff_ne.mpr fun z => q z.symm
          simp only [List.any_cons, List.any_nil, Bool.or_false, q2, decide_eq_false q]
      · rw [hx, dd_snoc]
        by_cases q : xs.getD i Str.empty ∈ xs.take i
        · rw [if_pos (dd_mem.mpr q)]
          have q2 : ((xs.take i).any fun x => x == xs.getD i Str.empty) = true := List.any_eq_true.mpr ⟨_, q, beq_self_eq_true _⟩
          exact if_pos q2
        · rw [if_neg fun z => q (dd_mem.mp z), List.length_append]
          refine if_neg fun z => q ?_
          obtain ⟨y, hy, e⟩ := List.any_eq_true.mp z
          rw [← eq_of_beq e]
          exact hy
    refine wpAny_pure ⟨plainId_quiet F.plain_set_update_loop _, ih (i + 1) _ (by omega) lt (ws.frame _ s' _ _ st' (Nat.le_succ _) fun b z o e => ?_) h3 fun s'' mv2 h4 => hR s'' ?_ h4⟩
    · rw [sb.2 b fun q : b = S => hf (q ▸ z)]
      exact e
    · refine Moved.trans ws.gtrans ((wide mv).then_heap (Nat.le_succ _) fun b o z e => ?_) mv2
      rw [sb.2 b fun q : b = S => z (by rw [q]; exact List.mem_cons_self)]
      exact e
end
section
variable {P : Program} {w : World} {A : Around} {E : Value → Shared → Prop} {s : Shared}
/-- a new set, as it is laid -/
def emp (led : Bool) : Obj := { cls := .type "set", dict := none, data := .set #[] 0 (.fresh 0 0 led) }
/-- set(l), l a tuple of texts -/
theorem set_strs {l : Addr} {its : Array Value} {xs : List Str} {Q : Value → Shared → Prop} (hh : A.handled = none) (hl : s.heap.IsTuple l its) (hi : StrsAre its.toList xs) (hb : xs.length + 1 < scanBound)
    (hQ : ∀ (h' : Heap) (tk : Nat), h'.SetOf (strKind P w) s.heap.objs.size (fun y => xs.any (· == y)) (dd xs).length → (∀ b o, b < s.heap.objs.size → s.heap.get? b = some o → h'.get? b = some o) → Q (.ref s.heap.objs.size) { s with heap := h', toks := tk }) :
    wpAny (model P w) A (call (.type "set") [.ref l]) Q E s := by
  obtain ⟨c, tl, hmro⟩ := PySem.F.called_set.mro
  have made := PySem.F.called_set.made; have sub := PySem.F.called_set.sub; have n1 := PySem.F.called_set.notType; have n2 := PySem.F.called_set.canCreate; have tc := PySem.F.typeCall_set_1 (.ref l)
  refine wpAny_call (codeAny_of_tree (show wpAny _ _ (callAny (.type "set") _) _ _ _ from wpAny_pure ⟨Code.quiet_builtin _ (by decide +kernel), codeAny_builtin PySem.F.entry_type_call ?_⟩))
  rw [Around.under_plain (weight_type_call_type "set" [.ref l] []) rfl]
  repeat (any_goals (first | assumption | wp_step))
  refine codeAny_mono (code_set_new_1 (.ref l) (E := E) (Q₁ := fun u s1 => ∃ led : Bool, u = .ref s.heap.objs.size ∧ s1 = { s with heap := s.heap.push (emp led) }) fun led => ⟨led, rfl, rfl⟩) fun r s1 hr => ?_
  match r, hr with
  | .ok (.ret u), hr =>
    obtain ⟨led, rfl, rfl⟩ := hr
    have g0 : (s.heap.push (emp led)).get? s.heap.objs.size = some (emp led) := Heap.get?_push_size _ rfl
    have ty : Shared.TypeIs { s with heap := s.heap.push (emp led) } (.ref s.heap.objs.size) "set" := ⟨_, g0, rfl⟩
    have i1 := PySem.F.called_set.init.lookup; have i2 := PySem.F.called_set.init.bind (.ref s.heap.objs.size)
    repeat (any_goals (first | assumption | wp_step))
    refine codeAny_mono (codeAny_call_builtin (R := wants (fun r s2 => r = .none ∧ ∃ h' tk, s2 = { s with heap := h', toks := tk } ∧ h'.SetOf (strKind P w) s.heap.objs.size (fun y => xs.any (· == y)) (dd xs).length ∧ ∀ b o, b < s.heap.objs.size → s.heap.get? b = some o → h'.get? b = some o) E) PySem.F.called_set.init.plain PySem.F.entry_set_init (check_set_init_1 ty ?_)) fun r2 s2 hr2 => ?_
    · obtain ⟨⟨oc, od, dt, sl⟩, ho, hc, nl, hd⟩ := hl
      dsimp only at hc hd
      subst hc hd
      have ho1 : (s.heap.push (emp led)).get? l = some { cls := .type "tuple", dict := od, data := .seq its nl, slots := sl } := Heap.get?_push_of_some _ ho
      have j1 := PySem.F.sub_tuple_set; have j2 := PySem.F.sub_tuple_frozenset; have j3 : (Value.type "tuple" == Value.type "dict") = false := by decide
      have tp : (s.heap.push (emp led)).IsTuple l its := ⟨_, ho1, rfl, nl, rfl⟩
      unfold Builtin.«set.__init__» noKeywords Builtin.Frozenset.updateFrom
      generalize hPI : pyIter = PI
      wp_walk
      subst hPI
      refine wpAny_pyIter_tuple tp (wpAny_bind (wpAny_runValue ?_))
      have lt : l < s.heap.objs.size := Heap.lt_size ho
      have sz : (s.heap.push (emp led)).objs.size = s.heap.objs.size + 1 := Heap.size_push _ _
      have ne : l ≠ (s.heap.push (emp led)).objs.size := by rw [sz]; exact Nat.ne_of_lt (Nat.lt_succ_of_lt lt)
      have nf : s.heap.objs.size ∉ [(s.heap.push (emp led)).objs.size, l] := by
        rw [sz]
        simp only [List.mem_cons, List.not_mem_nil, or_false, not_or]
        exact ⟨Nat.ne_of_lt (Nat.lt_succ_self _), Nat.ne_of_gt lt⟩
      have hn : xs.length = its.size := by rw [← StrsAre.len_eq hi, Array.length_toList]
      refine fill_strs ((Walks.tuple (show A.in1.in1.in1.handled = none by simp [hh]) _ l ne its).toS) (S := s.heap.objs.size) nf hn (by omega) (fun i v hv => SS.strs_at hi i v (by rw [Array.getElem?_toList]; exact hv)) its.size 0 _ (by omega) (Nat.zero_le _) ⟨⟨_, Heap.get?_push_size _ rfl, rfl, rfl⟩, tp.push _⟩ ?hS ?hR
      case hS =>
        have g1 : ((s.heap.push (emp led)).push { cls := .type "tuple_iterator", data := .fields #[.ref l, .int 0 0] }).get? s.heap.objs.size = some (emp led) := Heap.get?_push_of_some _ g0
        exact SetOf_congr ((setObjOf_fresh (knd := strKind P w) led).setOf g1 (by unfold scanBound; omega)) (fun _ => rfl) rfl
      case hR =>
        rintro ⟨h', g', d', tk', os'⟩ mv hS
        obtain rfl : g' = s.gens := mv.gens
        obtain rfl : d' = s.drawn := mv.drawn
        obtain rfl : os' = s.os := mv.os
        refine wpAny_pure (wpAny_pure ⟨rfl, h', tk', rfl, hS, fun b o z e => mv.heap b o ?_ (Heap.get?_push_of_some _ (Heap.get?_push_of_some _ e))⟩)
        rw [sz]
        simp only [List.mem_cons, List.not_mem_nil, or_false, not_or]
        exact ⟨Nat.ne_of_lt z, Nat.ne_of_lt (Nat.lt_succ_of_lt z)⟩
    · match r2, hr2 with
      | .error e, hr2 => exact hr2
      | .ok (.ret r), hr2 =>
        obtain ⟨rfl, h', tk, rfl, hS, hk⟩ := hr2
        repeat (any_goals (first | assumption | wp_step))
        exact hQ _ _ hS hk
  | .error e, hr => exact hr
end
/-- len(set(a)), a a tuple of texts -/
def tLenS (K : PySem.W.Frag) (ta : TE) : TE := fun σ H Q => ta σ H fun x H1 => ∃ l, ∃ xs : List Str, x = .ref l ∧ SqT K H1 l (xs.map V.str) ∧ xs.length ≤ 60 ∧ Q (.int (dd xs).length) H1
theorem pe_lenS {X : Cx} {a : Expr} {ta : TE} {p p2 q pos : Pos} (hc : X.calm = true) (hg : Gl X "len") (hm : X.mg "len" = none) (hg2 : Gl X "set") (hm2 : X.mg "set" = none) (ha : PE X a ta) (na : ∀ v p, a ≠ .Starred v p) :
    PE X (.Call (.Name "len" p) [.Call (.Name "set" p2) [a] [] q] [] pos) (tLenS X.K ta) := by
  have ns := star_of na [] X.env
  refine ⟨fun pins s σ H Q I h => Call_ (ld_blt I hg hm boot_len (callWith_builtin1 (args_cons (Call_ (ld_blt I hg2 hm2 boot_set (callWith_type1 (args_cons (thn (ha.run pins s σ H _ I h) fun v s1 ⟨x, H1, I1, r1, q1⟩ => args_nil ?_) ns) ns rfl))) rfl) rfl rfl))⟩
  obtain ⟨l, xs, rfl, hq, hn, q1⟩ := q1
  obtain rfl : v = Value.ref l := r1
  obtain ⟨its, r, pl, hz⟩ := I1.tuple hq
  refine set_strs (xs := xs) (I1.ok.hd hc) pl (by simpa using L2.strsAre_of r) (by unfold scanBound; omega) fun h' tk hS hk => args_nil ?_
  obtain ⟨o, es, ep, t, ho, hex, hd, _, _, _, hf, hl⟩ := hS
  have I2 : Inv X pins σ H1 { s1 with heap := h', toks := tk } := I1.kept fun b o e => hk b o (Heap.lt_size e) e
  have hsm : (dd xs).length ≤ xs.length := dd_len xs
  exact call_len_set ho hex hd hf (by rw [hl]; omega) ⟨.int (dd xs).length, H1, I2.tok _, ⟨_, by rw [hl]⟩, q1⟩
theorem RepL.strs {K : PySem.W.Frag} {M : MM} {H : Hp} : ∀ {ds : List PyData} {ss : List Str} {vs : List V}, strsOf ds = some ss → RepL K M H ds vs → vs = ss.map V.str
  | [], ss, vs, h, r => by
    cases h
    exact r
  | .str s :: ds, ss, vs, h, r => by
    simp only [strsOf, Option.map_eq_some_iff] at h
    obtain ⟨ts, h1, h2⟩ := h
    subst h2
    obtain ⟨v, q, r1, r2, r3⟩ := r
    subst r1
    rw [RepL.strs h1 r3, show v = V.str s from r2]
    rfl
  | .none :: _, _, _, h, _ | .bool _ :: _, _, _, h, _ | .int _ :: _, _, _, h, _ | .list _ :: _, _, _, h, _ | .tuple _ :: _, _, _, h, _ | .dict _ :: _, _, _, h, _ => by cases h
section
variable {X : Cx} {T : List (Addr × Str)} {W : WX} {c : SC} {F : Tab} {k : Nat}
theorem s_dix (g : Good X T W c F k) {x : Str} {t : List (Str × PyData)} {a : LE} {e : Expr} {p q : Pos} (hx : gl c x = true) (ht : inTab c x t = true) (hs : PlainIx e) (he : PE X e (rE X T W (evE (callF F k) a))) : PE X (.Subscript (.Name x p) e q) (rE X T W (evE (callF F k) (.dix x t a))) := by
  obtain ⟨d, es, n, m1, D, tab⟩ := g.gg.dct x t ht
  obtain ⟨g1, g2⟩ := g.gl hx
  refine PE.imp (pe_ix ix_kdict (pe_glob (v := .ref d) g1 m1 rfl g2) he hs) fun σ H Q qq => ?_
  refine rd_mono (rd_bind (rep := RepV X.K) (m := evE (callF F k) a) (f := fun ρ v S => dixV t v S) qq) fun y H1 ⟨ρ, v, S, M, e, s, r, p⟩ => ?_
  match v, r, p with
  | .d (.str z), r, p =>
    obtain ⟨dd, h1, fin⟩ := post_okD p
    have h2 := tab z
    rw [h1] at h2
    obtain ⟨u, v0, h3, h4, h5⟩ := h2
    exact ⟨d, z, v0, rfl, r, ⟨es, n, u, D.at_, D.lit, h3, h4⟩, fin v0 M H1 (Ext.refl _ _) s (h5 M H1)⟩
  | .d .none, _, p | .d (.bool _), _, p | .d (.int _), _, p | .d (.tuple _), _, p | .d (.list _), _, p | .d (.dict _), _, p | .r _, _, p | .s _, _, p => exact (show False from p).elim
theorem din_r (g : Good X T W c F k) {x : Str} {t : List (Str × PyData)} (ht : inTab c x t = true) {d : Addr} (tab : ∀ z, match t.lookup z with
    | some d' => ∃ u v, PySem.W.nsIn X.K d z = some (some u) ∧ RelV v u ∧ ∀ M H, Rep X.K M H d' v
    | none => PySem.W.nsIn X.K d z = some none) {σ : L2.St} {M : MM} {H : Hp} {S : Sto} {v : Val} {y : V} {Q : VK} (s : StoreOk T X.K M H S) (r : RepV X.K M H v y) (p : Post X T W σ M H (fun _ _ a (b : V) => b = .bl a) (dinV t v S) Q) :
    ∃ (z : Str) (r : Option Value), y = .str z ∧ V.ref d = .ref d ∧ PySem.W.nsIn X.K d z = some r ∧ Q (.bl r.isSome) H := by
  match v, r, p with
  | .d (.str z), r, p =>
    have h2 := tab z
    cases hl : t.lookup z with
    | none =>
      rw [hl] at h2
      have p : Post X T W σ M H (fun _ _ a (b : V) => b = .bl a) (.ok (t.lookup z).isSome S) Q := p
      rw [hl] at p
      exact ⟨z, none, r, rfl, h2, p _ M H (Ext.refl _ _) s rfl⟩
    | some d' =>
      rw [hl] at h2
      obtain ⟨u, v0, h3, _⟩ := h2
      have p : Post X T W σ M H (fun _ _ a (b : V) => b = .bl a) (.ok (t.lookup z).isSome S) Q := p
      rw [hl] at p
      exact ⟨z, some u, r, rfl, h3, p _ M H (Ext.refl _ _) s rfl⟩
  | .d .none, _, p | .d (.bool _), _, p | .d (.int _), _, p | .d (.tuple _), _, p | .d (.list _), _, p | .d (.dict _), _, p | .r _, _, p | .s _, _, p => exact (show False from p).elim
theorem s_din (g : Good X T W c F k) {x : Str} {t : List (Str × PyData)} {a : LE} {e : Expr} {p q : Pos} (hx : gl c x = true) (ht : inTab c x t = true) (he : PE X e (rE X T W (evE (callF F k) a))) : PE X (.Compare e [.In] [.Name x p] q) (rE X T W (evE (callF F k) (.din x t a))) := by
  obtain ⟨d, es, n, m1, D, tab⟩ := g.gg.dct x t ht
  obtain ⟨g1, g2⟩ := g.gl hx
  refine PE.imp (pe_cmpR (op_in_kd D) he (pe_glob (v := .ref d) g1 m1 rfl g2) rfl) fun σ H Q qq => ?_
  refine rd_mono (rd_bind (rep := RepV X.K) (m := evE (callF F k) a) (f := fun ρ v S => (dinV t v S).bind bV) qq) fun y H1 ⟨ρ, v, S, M, e, s, r, p⟩ => ?_
  exact din_r g ht tab s r (post_bV p)
theorem t_din (g : Good X T W c F k) {x : Str} {t : List (Str × PyData)} {a : LE} {e : Expr} {p q : Pos} (hx : gl c x = true) (ht : inTab c x t = true) (he : PE X e (rE X T W (evE (callF F k) a))) : PT X (.Compare e [.In] [.Name x p] q) (rT X T W (evT (callF F k) (.din x t a))) := by
  obtain ⟨d, es, n, m1, D, tab⟩ := g.gg.dct x t ht
  obtain ⟨g1, g2⟩ := g.gl hx
  refine PT.imp (pt_cmpR (op_in_kd D) he (pe_glob (v := .ref d) g1 m1 rfl g2) rfl) fun σ H Q qq => ?_
  refine rd_mono (rd_bind (rep := RepV X.K) (m := evE (callF F k) a) (f := fun ρ v S => dinV t v S) qq) fun y H1 ⟨ρ, v, S, M, e, s, r, p⟩ => ?_
  exact din_r g ht tab s r (post_bT p)
theorem s_dnin (g : Good X T W c F k) {x : Str} {t : List (Str × PyData)} {a : LE} {e : Expr} {p q : Pos} (hx : gl c x = true) (ht : inTab c x t = true) (he : PE X e (rE X T W (evE (callF F k) a))) : PE X (.Compare e [.NotIn] [.Name x p] q) (rE X T W (evE (callF F k) (.dnin x t a))) := by
  obtain ⟨d, es, n, m1, D, tab⟩ := g.gg.dct x t ht
  obtain ⟨g1, g2⟩ := g.gl hx
  refine PE.imp (pe_cmpR (op_notIn_kd D) he (pe_glob (v := .ref d) g1 m1 rfl g2) rfl) fun σ H Q qq => ?_
  refine rd_mono (rd_bind (rep := RepV X.K) (m := evE (callF F k) a) (f := fun ρ v S => (dinV t v S).bind fun b S => bV (!b) S) qq) fun y H1 ⟨ρ, v, S, M, e, s, r, p⟩ => ?_
  have hP : Post X T W σ M H1 (fun _ _ a (b : V) => b = .bl a) (dinV t v S) (fun v H => ∃ b, v = .bl b ∧ Q (.bl (!b)) H) := by
    cases hd : dinV t v S with
    | ok b S' => rw [hd] at p; exact fun y M' H' e s r => ⟨b, r, p _ M' H' e s rfl⟩
    | ex c S' => rw [hd] at p; exact p
    | no => rw [hd] at p; exact p
  obtain ⟨z, r', e1, e2, e3, b, e4, q⟩ := din_r g ht tab s r hP
  cases e4
  exact ⟨z, r', e1, e2, e3, q⟩
theorem t_dnin (g : Good X T W c F k) {x : Str} {t : List (Str × PyData)} {a : LE} {e : Expr} {p q : Pos} (hx : gl c x = true) (ht : inTab c x t = true) (he : PE X e (rE X T W (evE (callF F k) a))) : PT X (.Compare e [.NotIn] [.Name x p] q) (rT X T W (evT (callF F k) (.dnin x t a))) := by
  obtain ⟨d, es, n, m1, D, tab⟩ := g.gg.dct x t ht
  obtain ⟨g1, g2⟩ := g.gl hx
  refine PT.imp (pt_cmpR (op_notIn_kd D) he (pe_glob (v := .ref d) g1 m1 rfl g2) rfl) fun σ H Q qq => ?_
  refine rd_mono (rd_bind (rep := RepV X.K) (m := evE (callF F k) a) (f := fun ρ v S => (dinV t v S).bind fun b S => .ok (!b) S) qq) fun y H1 ⟨ρ, v, S, M, e, s, r, p⟩ => ?_
  have hP : Post X T W σ M H1 (fun _ _ a (b : V) => b = .bl a) (dinV t v S) (fun v H => ∃ b, v = .bl b ∧ Q (!b) H) := by
    cases hd : dinV t v S with
    | ok b S' => rw [hd] at p; exact fun y M' H' e s r => ⟨b, r, p _ M' H' e s rfl⟩
    | ex c S' => rw [hd] at p; exact p
    | no => rw [hd] at p; exact p
  obtain ⟨z, r', e1, e2, e3, b, e4, q⟩ := din_r g ht tab s r hP
  cases e4
  exact ⟨z, r', e1, e2, e3, _, rfl, q⟩
end
end Z

/-! The hash of data: numbers, texts, tuples of such, nested. -/
namespace Z
open PySem PySem.Spec PyProof.Rows
section
variable (P : Program) (w : World)
mutual
def hashD : PyData → Int
  | .int i => (intKind P w).hash i
  | .str s => (strKind P w).hash s
  | .tuple ds => reduceHash (Builtin.Tuple.tupleHashOf (hashA ds))
  | _ => 0
def hashA : List PyData → List Int
  | [] => []
  | d :: ds => hashD d :: hashA ds
end
end
mutual
/-- how many marks a hash draws -/
def drD : PyData → Nat
  | .tuple ds => drA ds + 1
  | _ => 1
def drA : List PyData → Nat
  | [] => 0
  | d :: ds => drD d + drA ds
end
section
variable {P : Program} {w : World}
theorem hashA_app : ∀ (xs ys : List PyData), hashA P w (xs ++ ys) = hashA P w xs ++ hashA P w ys
  | [], _ => rfl
  | x :: xs, ys => by simp only [List.cons_append, hashA, hashA_app xs ys]
theorem drA_app : ∀ (xs ys : List PyData), drA (xs ++ ys) = drA xs + drA ys
  | [], _ => (Nat.zero_add _).symm
  | x :: xs, ys => by simp only [List.cons_append, drA, drA_app xs ys]; omega
def HashOk (P : Program) (w : World) (d : PyData) : Prop := ∀ {v : Value} {as : List Addr} {A : Around} {E : Value → Shared → Prop} {s : Shared} {Q : Int → Shared → Prop}, Reads s.heap v d as → A.units + d.depth < cLine → Q (hashD P w d) { s with toks := s.toks + drD d } → wpAny (model P w) A (pyHash v) Q E s
theorem depth_mem {d : PyData} : ∀ {ds : List PyData}, d ∈ ds → d.depth ≤ PyData.depthAll ds
  | e :: ds, h => by
    show _ ≤ max e.depth (PyData.depthAll ds)
    rcases List.mem_cons.mp h with q | q
    · subst q; exact Nat.le_max_left _ _
    · exact Nat.le_trans (depth_mem q) (Nat.le_max_right _ _)
theorem hash_tup {ds : List PyData} (ih : ∀ d ∈ ds, HashOk P w d) : HashOk P w (.tuple ds) := by
  intro v as A E s Q r hu h
  cases r with
  | @tuple a o vs n _ _ ho hc hd ra =>
    have ty : s.TypeIs (.ref a) "tuple" := ⟨o, ho, hc⟩
    have hdep : (PyData.tuple ds).depth = PyData.depthAll ds + 1 := rfl
    rw [hdep] at hu
    unfold pyHash
    first | unfold pyHashByItsType | skip
    first | refine wpAny_bind (wpAny_cRoomFor_or (.inr (by omega)) ?_) | skip
    refine wpAny_bind (wpAny_specialOf ty F.slot_tuple_hash.lookup ?_)
    have nn : (some (Value.builtin "tuple.__hash__") == some Value.none) = false := by rw [beq_builtin_none]
    show wpAny _ _ (if (some (Value.builtin "tuple.__hash__") == some Value.none) = true then _ else _) Q E s
    rw [nn, if_neg Bool.false_ne_true]
    refine wpAny_bind (wpAny_specialOf ty F.slot_tuple_hash.lookup ?_)
    show wpAny _ _ (callSpecialIfBoundUnlessNone? (.ref a) "__hash__" _ >>= _) Q E s
    refine wpAny_bind (wpAny_callSpecialIfBoundUnlessNone?_slot ty F.slot_tuple_hash (wpAny_call_entry F.slot_tuple_hash ty F.entry_tuple_hash ?_ (F.args_tuple_hash_1 _)))
    show wpAny _ _ (Builtin.Tuple.tupleItemsOf (.ref a) >>= _) _ _ s
    refine wpAny_bind (wpAny_tupleItemsOf ho hd (wpAny_bind ?_))
    rw [← Array.forIn_toList]
    refine wpAny_forIn_list _ (fun rest (b : Array Int) s' => ∃ before left bs, ds = before ++ left ∧ ReadsAll s.heap rest left bs ∧ b.toList = hashA P w before ∧ s' = { s with toks := s.toks + drA before }) _ ?_ ?_ _ _ ⟨[], ds, _, rfl, ra, rfl, rfl⟩
    · rintro x rest b s' ⟨before, left, bs, e1, hl, hb, rfl⟩
      cases hl with
      | @cons _ _ d ds' _ _ r1 r2 =>
        have hm : d ∈ ds := by rw [e1]; exact List.mem_append_right _ List.mem_cons_self
        have hq := depth_mem hm
        have un : A.in1.units = A.units + 1 := rfl
        refine wpAny_bind (ih d hm (s := { s with toks := s.toks + drA before }) r1 (by rw [un]; omega) ?_)
        have fin : ∃ b2 l2 bs2, ds = b2 ++ l2 ∧ ReadsAll s.heap rest l2 bs2 ∧ (b.push (hashD P w d)).toList = hashA P w b2 ∧ ({ s with toks := s.toks + drA before + drD d } : Shared) = { s with toks := s.toks + drA b2 } :=
          ⟨before ++ [d], ds', _, by rw [e1, List.append_assoc]; rfl, r2, by rw [hashA_app, Array.toList_push, hb]; rfl, by rw [drA_app]; simp [drA, Nat.add_assoc]⟩
        first
          | exact wpAny_pure fin
          | exact wpAny_bind (wpAny_pure (wpAny_pure fin))
    · rintro b s' ⟨before, left, bs, e1, hl, hb, rfl⟩
      cases hl
      rw [List.append_nil] at e1
      subst e1
      show wpAny _ _ (retInt (Builtin.Tuple.tupleHashOf b.toList)) _ _ _
      rw [hb]
      refine wpAny_ret_mkInt ?_
      have h : Q (reduceHash (Builtin.Tuple.tupleHashOf (hashA P w ds))) { s with toks := s.toks + (drA ds + 1) } := h
      generalize Builtin.Tuple.tupleHashOf (hashA P w ds) = z at h ⊢
      show wpAny _ _ (if (decide (-(2 : Int) ^ 63 ≤ z) && decide (z < 2 ^ 63)) = true then _ else _) Q E _
      unfold reduceHash at h
      cases hr : (decide (-(2 : Int) ^ 63 ≤ z) && decide (z < 2 ^ 63)) with
      | true =>
        rw [hr] at h
        exact wpAny_pure (by simpa [Nat.add_assoc] using h)
      | false =>
        rw [hr] at h
        exact wpAny_bind (wpAny_rule (wpAny_pure (by simpa [Nat.add_assoc] using h)))
mutual
theorem hash_ok : ∀ {d : PyData}, okH d = true → HashOk P w d
  | .int i, _ => fun r _ h => by
    cases r
    exact (intKind P w).pyHash (k := i) (intKind_is _ _ _ _) h
  | .str x, _ => fun r _ h => by
    cases r
    exact (strKind P w).pyHash (k := x) (strKind_is _ _ _ _) h
  | .tuple ds, ok => hash_tup (hashes_ok (show okA ds = true from ok))
  | .none, ok | .bool _, ok | .list _, ok | .dict _, ok => by simp [okH] at ok
theorem hashes_ok : ∀ {ds : List PyData}, okA ds = true → ∀ d ∈ ds, HashOk P w d
  | [], _, _, h => nomatch h
  | e :: ds, ok, d, h => by
    have ok2 : okH e = true ∧ okA ds = true := by simpa [okA] using ok
    rcases List.mem_cons.mp h with q | q
    · rw [q]; exact hash_ok ok2.1
    · exact hashes_ok ok2.2 d q
end
end
end Z

/-! Small questions asked of nested data: no class statement, a quiet ==, a hash by value. -/
namespace Z
open PySem PySem.Spec PyProof.Rows
section
variable {P : Program} {w : World}
def AskOk (P : Program) (w : World) (d : PyData) : Prop := ∀ {n : Nat} {v : Value} {as : List Addr} {A : Around} {E : Value → Shared → Prop} {s : Shared} {Q : Bool → Shared → Prop}, Reads s.heap v d as → d.depth ≤ n →
  (Q false s → wpAny (model P w) A (ofAClassStatement n v) Q E s) ∧ (Q true s → wpAny (model P w) A (eqIsQuiet n v) Q E s) ∧ ((∀ b, Q b s) → wpAny (model P w) A (hashByValue n v) Q E s)
/-- the items, one behind another, each read as an item of the data -/
def Itm (h : Heap) (ds : List PyData) (rest : List Value) : Prop := ∀ v ∈ rest, ∃ d ∈ ds, ∃ as, Reads h v d as
theorem itm_of {h : Heap} : ∀ {vs : List Value} {ds : List PyData} {as : List Addr}, ReadsAll h vs ds as → Itm h ds vs
  | _, _, _, .nil => fun _ z => nomatch z
  | _, _, _, .cons r rs => fun v hv => by
    rcases List.mem_cons.mp hv with q | q
    · subst q
      exact ⟨_, List.mem_cons_self, _, r⟩
    · obtain ⟨d, hd, as, hr⟩ := itm_of rs v q
      exact ⟨d, List.mem_cons_of_mem _ hd, as, hr⟩
theorem ask_tup {ds : List PyData} (ih : ∀ d ∈ ds, AskOk P w d) : AskOk P w (.tuple ds) := by
  intro n v as A E s Q r hn
  have hdep : (PyData.tuple ds).depth = PyData.depthAll ds + 1 := rfl
  rw [hdep] at hn
  obtain ⟨m, rfl⟩ : ∃ m, n = m + 1 := ⟨n - 1, by omega⟩
  have hm : ∀ d ∈ ds, d.depth ≤ m := fun d hd => Nat.le_trans (depth_mem hd) (by omega)
  cases r with
  | @tuple a o vs n _ _ ho hc hd ra =>
    have ty : s.TypeIs (.ref a) "tuple" := ⟨o, ho, hc⟩
    have its := itm_of ra
    refine ⟨fun h => ?_, fun h => ?_, fun h => ?_⟩
    · unfold ofAClassStatement
      refine wpAny_bind (wpAny_typeOf ty ?_)
      dsimp only
      have e : (("tuple" : String) == "tuple") = true := by decide
      simp only [e, if_true, Bool.not_true, Bool.false_eq_true, if_false]
      try refine wpAny_bind (wpAny_pure ?_)
      try simp only [Bool.not_true, Bool.false_eq_true, if_false]
      show wpAny _ _ (seqItems? (.ref a) >>= _) _ _ s
      refine wpAny_bind (wpAny_seqItems ho hd ?_)
      dsimp only
      refine wpAny_bind ?_
      show wpAny _ _ (forIn vs _ _) _ _ s
      rw [← Array.forIn_toList]
      refine wpAny_forIn_list _ (fun rest r s' => r.1 = none ∧ s' = s ∧ Itm s.heap ds rest) _ ?_ ?_ _ _ ⟨rfl, rfl, its⟩
      · rintro u rest r s' ⟨hr, rfl, hall⟩
        obtain ⟨d, hd', as', hu⟩ := hall u List.mem_cons_self
        refine wpAny_bind ((ih d hd' hu (hm d hd')).1 ?_)
        simp only [Bool.false_eq_true, if_false]
        exact wpAny_pure ⟨rfl, rfl, fun x hx => hall x (List.mem_cons_of_mem _ hx)⟩
      · rintro ⟨r1, r2⟩ s' ⟨hr, rfl, _⟩
        simp only at hr
        subst hr
        exact wpAny_pure h
    · unfold eqIsQuiet
      refine wpAny_bind (wpAny_specialOf ty F.slot_tuple_eq.lookup ?_)
      show wpAny _ _ (isInstance (.ref a) (.type "tuple") >>= _) _ _ s
      refine wpAny_bind (wpAny_isInstance ty isSubtype_tuple_tuple ?_)
      simp only [Bool.not_true, Bool.false_eq_true, if_false]
      refine wpAny_bind (wpAny_seqItems ho hd ?_)
      refine wpAny_bind ?_
      show wpAny _ _ (forIn vs _ _) _ _ s
      rw [← Array.forIn_toList]
      refine wpAny_forIn_list _ (fun rest r s' => r.1 = none ∧ s' = s ∧ Itm s.heap ds rest) _ ?_ ?_ _ _ ⟨rfl, rfl, its⟩
      · rintro u rest r s' ⟨hr, rfl, hall⟩
        obtain ⟨d, hd', as', hu⟩ := hall u List.mem_cons_self
        refine wpAny_bind ((ih d hd' hu (hm d hd')).2.1 ?_)
        simp only [Bool.not_true, Bool.false_eq_true, if_false]
        exact wpAny_pure ⟨rfl, rfl, fun x hx => hall x (List.mem_cons_of_mem _ hx)⟩
      · rintro ⟨r1, r2⟩ s' ⟨hr, rfl, _⟩
        simp only at hr
        subst hr
        exact wpAny_pure h
    · unfold hashByValue
      refine wpAny_bind (wpAny_specialOf ty F.slot_tuple_hash.lookup ?_)
      show wpAny _ _ (seqItems? (.ref a) >>= _) _ _ s
      refine wpAny_bind (wpAny_seqItems ho hd ?_)
      refine wpAny_bind ?_
      show wpAny _ _ (forIn vs _ _) _ _ s
      rw [← Array.forIn_toList]
      refine wpAny_forIn_list _ (fun rest r s' => r.1 = none ∧ s' = s ∧ Itm s.heap ds rest) _ ?_ ?_ _ _ ⟨rfl, rfl, its⟩
      · rintro u rest r s' ⟨hr, rfl, hall⟩
        obtain ⟨d, hd', as', hu⟩ := hall u List.mem_cons_self
        refine wpAny_bind ((ih d hd' hu (hm d hd')).2.2 fun b => ?_)
        cases b with
        | true =>
          simp only [Bool.not_true, Bool.false_eq_true, if_false]
          exact wpAny_pure ⟨rfl, rfl, fun x hx => hall x (List.mem_cons_of_mem _ hx)⟩
        | false =>
          simp only [Bool.not_false, if_true]
          exact wpAny_pure (wpAny_pure (h false))
      · rintro ⟨r1, r2⟩ s' ⟨hr, rfl, _⟩
        simp only at hr
        subst hr
        exact wpAny_pure (h true)
theorem ask_int (i : Int) : AskOk P w (.int i) := by
    intro n v as A E s Q r _
    cases r
    refine ⟨fun h => ?_, fun h => ?_, fun h => ?_⟩
    · have e : ∀ (n : Nat) (t : Tok), ofAClassStatement n (.int i t) = pure false := fun n t => by cases n <;> rfl
      rw [e]; exact wpAny_pure h
    · rw [eqIsQuiet_byValue n rfl]; exact wpAny_pure h
    · have e : ∀ (n : Nat) (t : Tok), hashByValue n (.int i t) = pure true := fun n t => by cases n <;> rfl
      rw [e]; exact wpAny_pure (h _)
theorem ask_str (x : Str) : AskOk P w (.str x) := by
    intro n v as A E s Q r _
    cases r
    refine ⟨fun h => ?_, fun h => ?_, fun h => ?_⟩
    · have e : ∀ (n : Nat) (t : Tok), ofAClassStatement n (.str x t) = pure false := fun n t => by cases n <;> rfl
      rw [e]; exact wpAny_pure h
    · rw [eqIsQuiet_byValue n rfl]; exact wpAny_pure h
    · have e : ∀ (n : Nat) (t : Tok), hashByValue n (.str x t) = pure false := fun n t => by cases n <;> rfl
      rw [e]; exact wpAny_pure (h _)
mutual
theorem ask_ok : ∀ {d : PyData}, okH d = true → AskOk P w d
  | .int i, _ => ask_int i
  | .str x, _ => ask_str x
  | .tuple ds, ok => ask_tup (asks_ok (show okA ds = true from ok))
  | .none, ok | .bool _, ok | .list _, ok | .dict _, ok => by simp [okH] at ok
theorem asks_ok : ∀ {ds : List PyData}, okA ds = true → ∀ d ∈ ds, AskOk P w d
  | [], _, _, h => nomatch h
  | e :: ds, ok, d, h => by
    have ok2 : okH e = true ∧ okA ds = true := by simpa [okA] using ok
    rcases List.mem_cons.mp h with q | q
    · rw [q]; exact ask_ok ok2.1
    · exact asks_ok ok2.2 d q
end
end
end Z

/-! Nested data: its ==, what a set of such holds. -/
namespace Z
open PySem PySem.Spec PyProof.Rows L2
mutual
theorem eqv_ok : ∀ {d e : PyData}, okH d = true → okH e = true → (PyData.eqv d e = true ↔ d = e)
  | .int i, e, _, h => by
    cases e with
    | int j => simp [PyData.eqv]
    | str s => simp [PyData.eqv]
    | tuple es => simp [PyData.eqv]
    | _ => simp [okH] at h
  | .str i, e, _, h => by
    cases e with
    | int j => simp [PyData.eqv]
    | str s => simp [PyData.eqv]
    | tuple es => simp [PyData.eqv]
    | _ => simp [okH] at h
  | .tuple ds, e, h0, h => by
    cases e with
    | int j => simp [PyData.eqv]
    | str s => simp [PyData.eqv]
    | tuple es =>
      have q := eqvs_ok (ds := ds) (es := es) (show okA ds = true from h0) (show okA es = true from h)
      simp [PyData.eqv, q]
    | _ => simp [okH] at h
  | .none, _, h, _ | .bool _, _, h, _ | .list _, _, h, _ | .dict _, _, h, _ => by simp [okH] at h
theorem eqvs_ok : ∀ {ds es : List PyData}, okA ds = true → okA es = true → (PyData.eqvAll ds es = true ↔ ds = es)
  | [], [], _, _ => by simp [PyData.eqvAll]
  | [], _ :: _, _, _ => by simp [PyData.eqvAll]
  | _ :: _, [], _, _ => by simp [PyData.eqvAll]
  | d :: ds, e :: es, h1, h2 => by
    have a1 : okH d = true ∧ okA ds = true := by simpa [okA] using h1
    have a2 : okH e = true ∧ okA es = true := by simpa [okA] using h2
    simp [PyData.eqvAll, eqv_ok a1.1 a2.1, eqvs_ok a1.2 a2.2]
end
section
variable {P : Program} {w : World} {A : Around} {E : Value → Shared → Prop} {s : Shared}
/-- the object at a is a tuple that reads as d -/
structure Tp (h : Heap) (d : PyData) (a : Addr) : Prop where
  ok : okH d = true
  deep : d.depth ≤ 8
  rd : ∃ as, Reads h (.ref a) d as
theorem seenD {d : PyData} {b : Addr} {Q : Bool → Shared → Prop} (hk : Tp s.heap d b) {ys : List Value} (hy : ∀ y ∈ ys, ∃ e c, y = Value.ref c ∧ Tp s.heap e c) (h : Q false s) : wpAny (model P w) A (searchCouldBeSeen (.ref b) ys) Q E s := by
  obtain ⟨as, hr⟩ := hk.rd
  unfold searchCouldBeSeen
  refine wpAny_bind (wpAny_forIn_list _ (fun rest r s' => r.1 = none ∧ s' = s ∧ ∀ y ∈ rest, ∃ e c, y = Value.ref c ∧ Tp s.heap e c) _ ?_ ?_ _ _ ⟨rfl, rfl, hy⟩)
  · rintro v rest r s' ⟨hn, rfl, all⟩
    obtain ⟨e, c, rfl, hc⟩ := all v List.mem_cons_self
    obtain ⟨bs, hr2⟩ := hc.rd
    have more : ∀ y ∈ rest, ∃ e c, y = Value.ref c ∧ Tp s'.heap e c := fun u hu => all u (List.mem_cons_of_mem _ hu)
    dsimp only
    by_cases hv : (b == c || (carriedByValue (.ref b) && carriedByValue (.ref c))) = true
    · exact wp_if_pos hv (wpAny_pure ⟨rfl, rfl, more⟩)
    · refine wp_if_neg hv (wpAny_bind ((ask_ok hk.ok hr hk.deep).2.1 ?_))
      simp only [Bool.not_true, Bool.false_eq_true, if_false]
      refine wpAny_bind ((ask_ok hc.ok hr2 hc.deep).2.1 ?_)
      simp only [Bool.not_true, Bool.false_eq_true, if_false]
      refine wpAny_bind ((ask_ok hk.ok hr hk.deep).1 ?_)
      simp only [Bool.false_eq_true, if_false]
      refine wpAny_bind ((ask_ok hc.ok hr2 hc.deep).1 ?_)
      simp only [Bool.false_eq_true, if_false]
      exact wpAny_pure ⟨rfl, rfl, more⟩
  · rintro ⟨r1, r2⟩ s' ⟨hn, rfl, _⟩
    simp only at hn
    subst hn
    exact wpAny_pure h
theorem plain_ok : ∀ {d : PyData}, okH d = true → d.plain = true ∧ True := fun {d} h => ⟨by
  have key : ∀ n (d : PyData), sizeOf d ≤ n → okH d = true → d.plain = true := by
    intro n
    induction n with
    | zero =>
      intro d hn _
      cases d <;> simp at hn
    | succ n ih =>
      intro d hn h
      cases d with
      | int i => rfl
      | str x => rfl
      | tuple ds =>
        have all : ∀ (xs : List PyData), (∀ x ∈ xs, sizeOf x ≤ n) → okA xs = true → PyData.plainAll xs = true := by
          intro xs
          induction xs with
          | nil => intros; rfl
          | cons x xs ihx =>
            intro hs hk
            have hk2 : okH x = true ∧ okA xs = true := by simpa [okA] using hk
            simp only [PyData.plainAll, ih x (hs x List.mem_cons_self) hk2.1, ihx (fun y hy => hs y (List.mem_cons_of_mem _ hy)) hk2.2, Bool.and_self]
        have hs : sizeOf ds ≤ n := by simp at hn; omega
        exact all ds (fun x hx => Nat.le_trans (Nat.le_of_lt (List.sizeOf_lt_of_mem hx)) hs) (show okA ds = true from h)
      | _ => simp [okH] at h
  exact key _ d (Nat.le_refl _) h, trivial⟩
theorem eqD_at {d e : PyData} {b c : Addr} {Q : Bool → Shared → Prop} (hu : A.units + 9 < cLine) (h1 : Tp s.heap d b) (h2 : Tp s.heap e c) (h : Q (PyData.eqv d e) s) : wpAny (model P w) A (eqBool (.ref b) (.ref c)) Q E s := by
  obtain ⟨as, r1⟩ := h1.rd
  obtain ⟨bs, r2⟩ := h2.rd
  have hm : min d.depth e.depth ≤ d.depth := Nat.min_le_left _ _
  have hd := h1.deep
  refine SeqAt.eqAt_plain d e A s _ _ as bs r1 r2 (plain_ok h1.ok).1 (plain_ok h2.ok).1 (by omega) P w E Q h
end
end Z

/-! A set of tuples of nested data: the search. -/
namespace Z
open PySem PySem.Spec PyProof.Rows L2
section
variable {P : Program} {w : World} {A : Around} {E : Value → Shared → Prop} {s : Shared}
def rowsD (P : Program) (w : World) (L : List (Addr × PyData)) : List (Int × Value) := L.map fun p => (hashD P w p.2, Value.ref p.1)
structure SetTD (P : Program) (w : World) (h : Heap) (a : Addr) (L : List (Addr × PyData)) (es : Array (Int × Value)) (ep : Nat) (t : SetTable) : Prop where
  ob : ∃ o, h.get? a = some o ∧ o.ExactSet ∧ o.data = .set es ep t
  rows : es.toList = rowsD P w L
  tab : TabOk t (L.map fun p => hashD P w p.2)
  nd : (L.map (·.2)).Nodup
  tp : ∀ p ∈ L, Tp h p.2 p.1
  led : w.params.followText "set-order" = true ∨ t.led = true
  room : L.length * 5 < t.mask * 3
  few : L.length < 64
variable {a : Addr} {L : List (Addr × PyData)} {es : Array (Int × Value)} {ep : Nat} {t : SetTable}
theorem SetTD.size (R : SetTD P w s.heap a L es ep t) : es.size = L.length := by
  rw [← Array.length_toList, R.rows, rowsD, List.length_map]
theorem SetTD.psz (R : SetTD P w s.heap a L es ep t) : t.place.toList.length = L.length := by
  rw [Array.length_toList, R.tab.sz, List.length_map]
theorem SetTD.fits (R : SetTD P w s.heap a L es ep t) : t.fits es.size = true := by
  have h1 := R.psz
  rw [Array.length_toList] at h1
  have h2 := R.size
  have h3 := R.room
  unfold SetTable.fits SetTable.fill
  rw [R.tab.dm, Bool.and_eq_true, beq_iff_eq, decide_eq_true_eq]
  show t.place.size = es.size ∧ t.place.size + 0 ≤ t.mask
  omega
theorem SetTD.entry (R : SetTD P w s.heap a L es ep t) {i : Nat} {p : Addr × PyData} (h : L[i]? = some p) : es[i]? = some (hashD P w p.2, Value.ref p.1) := by
  rw [← Array.getElem?_toList, R.rows, rowsD, List.getElem?_map, h]
  rfl
theorem SetTD.gw (R : SetTD P w s.heap a L es ep t) : ¬ t.gaveWay = true := by
  unfold SetTable.gaveWay
  rw [mask_odd R.tab.mok]
  decide
/-- the c-th place of the way of h -/
abbrev pr (t : SetTable) (h : Int) (c : Nat) : SetTable.Probe := nth t.mask (runAt t.mask (SetTable.bits h % (t.mask + 1)) (SetTable.bits h)) c
theorem pr_dummy (t : SetTable) (h : Int) (c : Nat) : (pr t h c).dummy = none := by
  have key : ∀ (n : Nat) (p : SetTable.Probe), p.dummy = none → (nth t.mask p n).dummy = none := by
    intro n
    induction n with
    | zero => exact fun p h => h
    | succ n ih =>
      intro p h
      refine ih (adv t.mask p) ?_
      unfold adv
      split <;> exact h
  exact key c _ rfl
theorem pr_add (t : SetTable) (h : Int) (c q : Nat) : nth t.mask (pr t h c) q = pr t h (c + q) := (nth_add t.mask c _ q).symm
theorem searchD (R : SetTD P w s.heap a L es ep t) {x : Addr} {d : PyData} (hx : Tp s.heap d x) (hu : A.units + 9 < cLine) {K : Nat} (hK : way t.mask (hashD P w d) K ∉ t.place.toList) (hKf : K < 10 * SetTable.turns t.mask) (hKb : ∀ c, c < K → way t.mask (hashD P w d) c ∈ t.place.toList) {Q : SetFound → Shared → Prop}
    (yes : d ∈ L.map (·.2) → Q (.there none) s) (no : d ∉ L.map (·.2) → Q (.free (way t.mask (hashD P w d) K) false) s) :
    ∀ (f c : Nat) (st : Option SetTable.Probe), st.getD (t.probeStart (hashD P w d)) = pr t (hashD P w d) c → c ≤ K → K - c < f →
      (∀ (i : Nat) p, L[i]? = some p → p.2 = d → ∃ c', c ≤ c' ∧ c' < K ∧ t.place.toList[i]? = some (way t.mask (hashD P w d) c')) →
      wpAny (model P w) A (setSearchFrom a (.ref x) (hashD P w d) true f st) Q E s
  | 0, c, st, _, _, hf, _ => absurd hf (Nat.not_lt_zero _)
  | f + 1, c, st, hst, hc, hf, hre => by
    obtain ⟨o, ho, hex, hd⟩ := R.ob
    rw [setSearchFrom_succ]
    refine wpAny_bind (wpAny_setState_of ho hd R.fits ?_)
    dsimp only
    refine wp_if_neg R.gw ?_
    try refine wpAny_bind (wpAny_pure ?_)
    have at_ : ∀ q, (nth t.mask (pr t (hashD P w d) c) q).j = way t.mask (hashD P w d) (c + q) := fun q => congrArg SetTable.Probe.j (pr_add t _ c q)
    have hk : c + (K - c) = K := by omega
    have spec := go_spec t R.tab.ris R.tab.dm (fun i => (es[i]?.map (·.1)).getD 0) (hashD P w d) (10 * SetTable.turns t.mask) (K - c) _ (pr_dummy t (hashD P w d) c) (by omega) (fun q hq => by rw [at_]; exact hKb (c + q) (by omega)) (by rw [at_, hk]; exact hK)
    have hat : ∀ (i : Nat) p, L[i]? = some p → (es[i]?.map (·.1)).getD 0 = hashD P w p.2 := fun i p hp => by rw [R.entry hp]; rfl
    rcases spec with ⟨q, i, hq, hi, hh, hno, hpr⟩ | ⟨hno, hpr⟩
    · rw [at_] at hi
      rw [pr_add, pr_add] at hpr
      have hpr' : t.probe (fun i => (es[i]?.map (·.1)).getD 0) (hashD P w d) (st.getD (t.probeStart (hashD P w d))) = some (.candidate (way t.mask (hashD P w d) (c + q)) i (pr t (hashD P w d) (c + (q + 1)))) := by
        rw [hst]
        exact hpr
      rw [hpr']
      dsimp only
      have hil : i < L.length := by rw [← R.psz]; exact (List.getElem?_eq_some_iff.mp hi).1
      obtain ⟨p, hp⟩ : ∃ p, L[i]? = some p := ⟨_, List.getElem?_eq_getElem hil⟩
      have hmem : p ∈ L := List.mem_of_getElem? hp
      have hpt := R.tp p hmem
      have rest : wpAny (model P w) A (searchRest a (.ref x) (hashD P w d) true f es t (way t.mask (hashD P w d) (c + q)) i (pr t (hashD P w d) (c + (q + 1)))) Q E s := by
        unfold searchRest
        rw [R.entry hp]
        dsimp only
        refine wpAny_bind (wpAny_holding (eqD_at hu hpt hx (wpAny_bind (wpAny_setState_of ho hd R.fits ?_))))
        dsimp only
        cases hb : PyData.eqv p.2 d with
        | true =>
          refine wp_if_pos (by simp) (wpAny_pure (yes ?_))
          exact List.mem_map.mpr ⟨p, hmem, (eqv_ok hpt.ok hx.ok).mp hb⟩
        | false =>
          have hkk : p.2 ≠ d := fun z => by rw [(eqv_ok hpt.ok hx.ok).mpr z] at hb; cases hb
          refine wp_if_neg (by simp) ?_
          try refine wpAny_bind (wpAny_pure ?_)
          rw [sameMem]
          dsimp only
          have hsl : t.slot (way t.mask (hashD P w d) (c + q)) = .live i := slot_live R.tab.ris hi
          simp only [if_true, hsl, R.entry hp]
          refine wpAny_bind (wpAny_isSame_ref_self (wpAny_bind (wpAny_pure ?_)))
          simp only [if_true]
          refine wp_if_neg (by simp) ?_
          refine searchD R hx hu hK hKf hKb yes no f (c + (q + 1)) _ rfl (by omega) (by omega) fun i0 p0 h0 hk0 => ?_
          obtain ⟨c', a1, a2, a3⟩ := hre i0 p0 h0 hk0
          refine ⟨c', ?_, a2, a3⟩
          rcases Nat.lt_trichotomy c' (c + q) with z | z | z
          · exact absurd ((hat i0 p0 h0).trans (congrArg (hashD P w) hk0)) (hno (c' - c) i0 (by omega) (by rw [at_, show c + (c' - c) = c' by omega]; exact a3))
          · exfalso
            rw [z] at a3
            have s0 := slot_live R.tab.ris a3
            rw [hsl] at s0
            injection s0 with s0
            rw [← s0, hp] at h0
            exact hkk ((congrArg Prod.snd (Option.some.inj h0)).trans hk0)
          · omega
      by_cases hl : t.led = true
      · refine wp_if_neg (by simp [hl]) ?_
        try refine wpAny_bind (wpAny_pure ?_)
        exact rest
      · refine wp_if_pos (by simp [hl]) (wpAny_bind (seenD hx (fun y hy => ?_) ?_))
        · obtain ⟨e, he, ee⟩ := List.mem_map.mp hy
          have he1 : e ∈ es ∧ e.1 = hashD P w d := by simpa using he
          have he2 : e ∈ es.toList := by simpa using he1.1
          rw [R.rows] at he2
          obtain ⟨p2, hp2, e2⟩ := List.mem_map.mp he2
          exact ⟨p2.2, p2.1, by rw [← ee, ← e2], R.tp p2 hp2⟩
        · refine wp_if_neg (by decide) ?_
          try refine wpAny_bind (wpAny_pure ?_)
          exact rest
    · have hpr' : t.probe (fun i => (es[i]?.map (·.1)).getD 0) (hashD P w d) (st.getD (t.probeStart (hashD P w d))) = some (.empty (way t.mask (hashD P w d) K) none) := by
        rw [hst, ← hk, ← at_]
        exact hpr
      rw [hpr']
      refine wpAny_pure (no fun hm => ?_)
      obtain ⟨p0, h0, hk0⟩ := List.mem_map.mp hm
      obtain ⟨i0, h00⟩ := List.mem_iff_getElem?.mp h0
      obtain ⟨c', a1, a2, a3⟩ := hre i0 p0 h00 hk0
      refine hno (c' - c) i0 (by omega) (by rw [at_, show c + (c' - c) = c' by omega]; exact a3) ?_
      exact (hat i0 p0 h00).trans (congrArg (hashD P w) hk0)
end
end Z

/-! A set of tuples of nested data: adding. -/
namespace Z
open PySem PySem.Spec PyProof.Rows L2
section
variable {P : Program} {w : World} {A : Around} {E : Value → Shared → Prop} {s : Shared} {a : Addr} {L : List (Addr × PyData)} {es : Array (Int × Value)} {ep : Nat} {t : SetTable}
theorem search_add (R : SetTD P w s.heap a L es ep t) {x : Addr} {d : PyData} (hx : Tp s.heap d x) (hu : A.units + 9 < cLine) {Q : SetFound → Shared → Prop} (yes : d ∈ L.map (·.2) → Q (.there none) s)
    (no : ∀ K, d ∉ L.map (·.2) → way t.mask (hashD P w d) K ∉ t.place.toList → (∀ c, c < K → way t.mask (hashD P w d) c ∈ t.place.toList) → Q (.free (way t.mask (hashD P w d) K) false) s) : wpAny (model P w) A (setSearch a (.ref x) (hashD P w d) true) Q E s := by
  have hr := R.room
  obtain ⟨K, k1, k2, k3⟩ := R.tab.first (by rw [List.length_map]; omega) (hashD P w d)
  have big : K < 100000 := by
    have : 10 * SetTable.turns t.mask ≤ 1420 := by
      unfold SetTable.turns
      rcases R.tab.mok with e | e | e <;> omega
    omega
  unfold setSearch
  refine searchD R hx hu k2 k1 k3 yes (fun z => no K z k2 k3) 100000 0 none rfl (Nat.zero_le _) (by omega) fun i p hp hd => ?_
  have hi : (L.map fun p => hashD P w p.2)[i]? = some (hashD P w d) := by rw [List.getElem?_map, hp, ← hd]; rfl
  have hil : i < t.place.toList.length := by rw [R.psz]; exact (List.getElem?_eq_some_iff.mp hp).1
  obtain ⟨c, hc, e⟩ := R.tab.before k2 hi (List.getElem?_eq_getElem hil)
  exact ⟨c, Nat.zero_le _, hc, by rw [List.getElem?_eq_getElem hil, e]⟩
mutual
/-- what reads as hashable data stays so where only a set is changed -/
theorem reads_same {h h' : Heap} {o : Obj} {es : Array (Int × Value)} {ep : Nat} {t : SetTable} (ho : h.get? a = some o) (hd : o.data = .set es ep t) (sb : Heap.SameBut a h h') : ∀ {d : PyData} {v : Value} {as : List Addr}, okH d = true → Reads h v d as → Reads h' v d as
  | .int _, _, _, _, r => by cases r; exact .int _ _
  | .str _, _, _, _, r => by cases r; exact .str _ _
  | .tuple ds, _, _, ok, r => by
    cases r with
    | @tuple b o2 vs n _ _ h1 h2 h3 h4 =>
      have ne : b ≠ a := by
        rintro rfl
        rw [ho] at h1
        cases h1
        rw [hd] at h3
        cases h3
      exact .tuple ((sb.2 b ne).trans h1) h2 h3 (readsA_same ho hd sb (show okA ds = true from ok) h4)
  | .none, _, _, ok, _ | .bool _, _, _, ok, _ | .list _, _, _, ok, _ | .dict _, _, _, ok, _ => by simp [okH] at ok
theorem readsA_same {h h' : Heap} {o : Obj} {es : Array (Int × Value)} {ep : Nat} {t : SetTable} (ho : h.get? a = some o) (hd : o.data = .set es ep t) (sb : Heap.SameBut a h h') : ∀ {ds : List PyData} {vs : List Value} {as : List Addr}, okA ds = true → ReadsAll h vs ds as → ReadsAll h' vs ds as
  | [], _, _, _, r => by cases r; exact .nil
  | d :: ds, _, _, ok, r => by
    have ok2 : okH d = true ∧ okA ds = true := by simpa [okA] using ok
    cases r with
    | cons r1 r2 => exact .cons (reads_same ho hd sb ok2.1 r1) (readsA_same ho hd sb ok2.2 r2)
end
theorem Tp.same {h h' : Heap} {o : Obj} {es : Array (Int × Value)} {ep : Nat} {t : SetTable} (ho : h.get? a = some o) (hd : o.data = .set es ep t) (sb : Heap.SameBut a h h') {d : PyData} {b : Addr} (x : Tp h d b) : Tp h' d b := by
  obtain ⟨as, r⟩ := x.rd
  exact ⟨x.ok, x.deep, as, reads_same ho hd sb x.ok r⟩
theorem filt_map {α β : Type} (f : α → β) (L : List α) : ∀ (l : List Nat), (∀ i ∈ l, i < L.length) → l.filterMap (fun i => (L.map f)[i]?) = (l.filterMap fun i => L[i]?).map f
  | [], _ => rfl
  | i :: l, h => by
    have hi := h i List.mem_cons_self
    have e1 : L[i]? = some L[i] := List.getElem?_eq_getElem hi
    have e2 : (L.map f)[i]? = some (f L[i]) := by rw [List.getElem?_map, e1]; rfl
    rw [List.filterMap_cons_some e2, List.filterMap_cons_some e1, filt_map f L l fun j hj => h j (List.mem_cons_of_mem _ hj)]
    rfl
theorem filt_range {α : Type} (L : List α) : (List.range L.length).filterMap (fun i => L[i]?) = L := by
  have key : ∀ n, n ≤ L.length → (List.range n).filterMap (fun i => L[i]?) = L.take n := by
    intro n
    induction n with
    | zero => exact fun _ => rfl
    | succ n ih =>
      intro hn
      rw [List.range_succ, List.filterMap_append, ih (Nat.le_of_lt hn), List.take_succ, List.getElem?_eq_getElem hn, List.filterMap_cons_some (List.getElem?_eq_getElem hn)]
      rfl
  rw [key _ (Nat.le_refl _), List.take_length]
/-- the entries in another order -/
theorem order_D {es : Array (Int × Value)} {order : Array Nat} (hr : es.toList = rowsD P w L) (hp : order.toList.Perm (List.range L.length)) :
    ∃ L2, (order.filterMap (es[·]?)).toList = rowsD P w L2 ∧ L2.Perm L ∧ (L2.map fun p => hashD P w p.2) = order.toList.map fun i => (es.map (·.1)).getD i 0 := by
  have lt : ∀ i ∈ order.toList, i < L.length := fun i hi => List.mem_range.mp (hp.mem_iff.mp hi)
  refine ⟨order.toList.filterMap fun i => L[i]?, ?_, ?_, ?_⟩
  · rw [Array.toList_filterMap, rowsD, ← filt_map _ L _ lt]
    congr 1
    funext i
    rw [← Array.getElem?_toList, hr]
    rfl
  · have h1 := hp.filterMap fun i => L[i]?
    rw [filt_range] at h1
    exact h1
  · have key : ∀ l : List Nat, (∀ i ∈ l, i < L.length) → ((l.filterMap fun i => L[i]?).map fun p => hashD P w p.2) = l.map fun i => (es.map (·.1)).getD i 0 := by
      intro l
      induction l with
      | nil => exact fun _ => rfl
      | cons i l ih =>
        intro h
        have hi := h i List.mem_cons_self
        rw [List.filterMap_cons_some (List.getElem?_eq_getElem hi), List.map_cons, List.map_cons, ih fun j hj => h j (List.mem_cons_of_mem _ hj)]
        have e1 : es[i]? = some (hashD P w L[i].2, Value.ref L[i].1) := by rw [← Array.getElem?_toList, hr, rowsD, List.getElem?_map, List.getElem?_eq_getElem hi]; rfl
        have e2 : (es.map (·.1))[i]? = some (hashD P w L[i].2) := by rw [Array.getElem?_map, e1]; rfl
        simp [Array.getD_eq_getD_getElem?, e2]
    exact key _ lt
/-- the table is laid anew, larger -/
theorem relayD {o : Obj} (ho : s.heap.get? a = some o) (hex : o.ExactSet) (hd : o.data = .set es ep t) (rows : es.toList = rowsD P w L) (hsz : t.place.size = es.size) (hdm : t.dummies = #[]) (hfl : es.size ≤ t.mask) (nd : (L.map (·.2)).Nodup) (tp : ∀ p ∈ L, Tp s.heap p.2 p.1)
    (ld : w.params.followText "set-order" = true ∨ t.led = true) (few : L.length < 64) {wanted m : Nat} (hw : SetTable.sizeAbove wanted - 1 = m) (hm : MaskOk m) (hw2 : SetTable.sizeAbove wanted ≤ 128) (hn : L.length * 5 < m * 3) {Q : Unit → Shared → Prop}
    (hQ : ∀ h' L' es' ep' t', Heap.SameBut a s.heap h' → SetTD P w h' a L' es' ep' t' → L'.Perm L → Q () { s with heap := h' }) : wpAny (model P w) A (setRelay a wanted) Q E s := by
  have sz : es.size = L.length := by rw [← Array.length_toList, rows, rowsD, List.length_map]
  have fits : t.fits es.size = true := by
    unfold SetTable.fits SetTable.fill
    rw [hdm, Bool.and_eq_true, beq_iff_eq, decide_eq_true_eq]
    exact ⟨hsz, by rw [hsz]; exact hfl⟩
  obtain ⟨t', order, e, hp, T, em, el, ep', ed⟩ := relaid_ok t (hs := es.map (·.1)) (wanted := wanted) hw hm (by rw [Array.size_map, sz]; omega)
  rw [Array.size_map, sz] at hp
  obtain ⟨L2, r1, r2, r3⟩ := order_D rows hp
  rw [← r3] at T
  have sz2 : (order.filterMap (es[·]?)).size = es.size := by rw [← Array.length_toList, r1, rowsD, List.length_map, r2.length_eq, sz]
  rw [setRelay_eq]
  refine wpAny_bind (wpAny_setState_of ho hd fits ?_)
  dsimp only
  refine wp_if_neg (by rw [sizeLine_eq]; omega) ?_
  try refine wpAny_bind (wpAny_pure ?_)
  rw [e]
  dsimp only
  refine wpAny_bind (wp_if_neg (by rw [sz2]; simp) ?_)
  try refine wpAny_bind (wpAny_pure ?_)
  refine wpAny_pure ?_
  dsimp only
  refine wpAny_storeSet_of ho hd ?_ (by rw [sz2, sz, sizeLine_eq]; omega)
  have sb : Heap.SameBut a s.heap (s.heap.update a (Obj.putSet (order.filterMap (es[·]?)) t')) := Heap.SameBut.update ..
  refine hQ _ L2 (order.filterMap (es[·]?)) (ep + 1) t' sb ⟨⟨_, store_at ho hd, ⟨hex.1, hex.2.1, hex.2.2⟩, rfl⟩, r1, T, (r2.map (·.2)).nodup_iff.mpr nd, fun p hpm => Tp.same ho hd sb (tp p (r2.mem_iff.mp hpm)), by rw [el]; exact ld, by rw [r2.length_eq, em]; exact hn, by rw [r2.length_eq]; exact few⟩ r2
end
end Z

/-! A set of tuples of nested data: one more. -/
namespace Z
open PySem PySem.Spec PyProof.Rows L2
section
variable {P : Program} {w : World} {A : Around} {E : Value → Shared → Prop} {s : Shared} {a : Addr} {L : List (Addr × PyData)} {es : Array (Int × Value)} {ep : Nat} {t : SetTable}
theorem addD (R : SetTD P w s.heap a L es ep t) {x : Addr} {d : PyData} (hx : Tp s.heap d x) (hu : A.units + 9 < cLine) (hfew : L.length + 1 < 64) {Q : Bool → Shared → Prop}
    (hQ : ∀ b h' L' es' ep' t', Heap.SameBut a s.heap h' → SetTD P w h' a L' es' ep' t' → (d ∈ L.map (·.2) → L' = L) → (d ∉ L.map (·.2) → L'.Perm ((x, d) :: L)) → Q b { s with heap := h' }) :
    wpAny (model P w) A (setAddHashed a (.ref x) (hashD P w d)) Q E s := by
  obtain ⟨o, ho, hex, hd⟩ := R.ob
  have hsl := R.size
  have hroom := R.room
  unfold setAddHashed
  refine wpAny_holding ?_
  rw [show (100000 : Nat) = 99999 + 1 from rfl, setAddHashedIn_succ]
  refine wpAny_bind (wpAny_setState_of ho hd R.fits ?_)
  dsimp only
  refine wp_if_neg (by simp [byScan, Value.scannable]) ?_
  try refine wpAny_bind (wpAny_pure ?_)
  refine wpAny_bind (search_add R hx hu (fun hm => ?_) fun K hm hK hb => ?_)
  · exact wpAny_pure (hQ false s.heap L es ep t (Heap.SameBut.refl a s.heap) R (fun _ => rfl) fun z => absurd hm z)
  · dsimp only
    refine wpAny_bind (wpAny_setState_of ho hd R.fits ?_)
    dsimp only
    obtain ⟨q1, q2, q3, q4, q5, q6, q7, q8, q9⟩ := R.tab.put hK hb
    generalize hpt : t.put (way t.mask (hashD P w d) K) = pt at q1 q3 q4 q5 q6 q7 q8 q9 ⊢
    obtain ⟨t1, p⟩ := pt
    dsimp only at q1 q3 q4 q5 q6 q7 q8 q9 ⊢
    subst q1
    generalize hpp : SetTable.below t.place (way t.mask (hashD P w d) K) = p at q2 q3 ⊢
    rw [List.length_map] at q9
    have pm : (L.take p ++ (x, d) :: L.drop p).Perm ((x, d) :: L) := by
      have h : (L.take p ++ (x, d) :: L.drop p).Perm ((x, d) :: (L.take p ++ L.drop p)) := List.perm_middle
      rw [List.take_append_drop] at h
      exact h
    have hin : (SetTable.insertAt es p (hashD P w d, Value.ref x)).toList = rowsD P w (L.take p ++ (x, d) :: L.drop p) := by
      rw [SetTable.toList_insertAt, R.rows, rowsD, rowsD, List.map_append, List.map_cons, List.map_take, List.map_drop]
    have hhs : (L.take p ++ (x, d) :: L.drop p).map (fun p => hashD P w p.2) = (L.map fun p => hashD P w p.2).take p ++ hashD P w d :: (L.map fun p => hashD P w p.2).drop p := by
      rw [List.map_append, List.map_cons, List.map_take, List.map_drop]
    rw [← hhs] at q3
    have hlen : (L.take p ++ (x, d) :: L.drop p).length = L.length + 1 := pm.length_eq
    have nd1 : ((L.take p ++ (x, d) :: L.drop p).map (·.2)).Nodup := (pm.map (·.2)).nodup_iff.mpr (List.nodup_cons.mpr ⟨hm, R.nd⟩)
    have hes : (SetTable.insertAt es p (hashD P w d, Value.ref x)).size = L.length + 1 := by rw [← Array.length_toList, hin, rowsD, List.length_map, hlen]
    generalize SetTable.insertAt es p (hashD P w d, Value.ref x) = es1 at hin hes ⊢
    generalize L.take p ++ (x, d) :: L.drop p = L1 at pm hlen q3 nd1 hin
    have go : ∀ t2 : SetTable, TabOk t2 (L1.map fun p => hashD P w p.2) → t2.mask = t.mask → t2.led = t.led → t2.fill = L.length + 1 →
        wpAny (model P w) A (do
          storeSet a es1 t2
          if (!false && t2.tooFull) = true then do
            setRelay a (SetTable.grown (es.size + 1))
            pure true
          else pure true) Q E s := fun t2 T m2 l2 f2 => by
      refine wpAny_bind (wpAny_storeSet_of ho hd ?_ (by rw [hes, sizeLine_eq]; omega))
      have sb : Heap.SameBut a s.heap (s.heap.update a (Obj.putSet es1 t2)) := Heap.SameBut.update ..
      have ho1 := store_at (es' := es1) (t' := t2) ho hd
      generalize s.heap.update a (Obj.putSet es1 t2) = h1 at sb ho1 ⊢
      have tp1 : ∀ p ∈ L1, Tp h1 p.2 p.1 := fun p hp => by
        rcases List.mem_cons.mp (pm.mem_iff.mp hp) with e | hp
        · rw [e]; exact Tp.same ho hd sb hx
        · exact Tp.same ho hd sb (R.tp p hp)
      have ld1 : w.params.followText "set-order" = true ∨ t2.led = true := by rw [l2]; exact R.led
      have hsz : t2.place.size = es1.size := by
        have h := T.sz
        rw [List.length_map, hlen] at h
        rw [h, hes]
      cases hf : t2.tooFull with
      | true =>
        refine wp_if_pos (by simp) (wpAny_bind ?_)
        have full : (L.length + 1) * 5 ≥ t2.mask * 3 := by
          have h := hf
          unfold SetTable.tooFull at h
          rw [decide_eq_true_eq, f2] at h
          exact h
        rw [m2] at full
        have two : (t.mask = 7 ∧ L.length = 4) ∨ (t.mask = 31 ∧ L.length = 18) := by
          rcases R.tab.mok with e | e | e <;> rw [e] at full hroom
          · exact .inl ⟨e, by omega⟩
          · exact .inr ⟨e, by omega⟩
          · exfalso; omega
        have lay : ∀ m, SetTable.sizeAbove (SetTable.grown (es.size + 1)) - 1 = m → MaskOk m → SetTable.sizeAbove (SetTable.grown (es.size + 1)) ≤ 128 → (L.length + 1) * 5 < m * 3 → wpAny (model P w) A (setRelay a (SetTable.grown (es.size + 1))) (fun _ s' => wpAny (model P w) A (pure true) Q E s') E { s with heap := h1 } := fun m e1 e2 e3 e4 =>
          relayD (s := { s with heap := h1 }) ho1 ⟨hex.1, hex.2.1, hex.2.2⟩ rfl hin hsz T.dm (by rw [hes, m2]; rcases two with ⟨z1, z2⟩ | ⟨z1, z2⟩ <;> omega) nd1 tp1 ld1 (by rw [hlen]; exact hfew) e1 e2 e3 (by rw [hlen]; exact e4) fun h2 L2 es2 ep2 t3 sb2 R2 pm2 => wpAny_pure (hQ true h2 L2 es2 ep2 t3 (sb.trans sb2) R2 (fun z => absurd z hm) fun _ => pm2.trans pm)
        rcases two with ⟨_, z⟩ | ⟨_, z⟩
        · exact lay 31 (by rw [hsl, z, size_20]) (.inr (.inl rfl)) (by rw [hsl, z, size_20]; decide) (by omega)
        · exact lay 127 (by rw [hsl, z, size_76]) (.inr (.inr rfl)) (by rw [hsl, z, size_76]; decide) (by omega)
      | false =>
        refine wp_if_neg (by simp) (wpAny_pure (hQ true h1 L1 es1 (ep + 1) t2 sb ⟨⟨_, ho1, ⟨hex.1, hex.2.1, hex.2.2⟩, rfl⟩, hin, T, nd1, tp1, ld1, ?_, by rw [hlen]; exact hfew⟩ (fun z => absurd z hm) fun _ => pm))
        have h := hf
        unfold SetTable.tooFull at h
        rw [decide_eq_false_iff_not, f2] at h
        rw [hlen]
        omega
    have off : TabOk { t1 with plain := false } (L1.map fun p => hashD P w p.2) := ⟨q3.ris, q3.dm, q3.sz, q3.mok, q3.bd, q3.reach⟩
    obtain ⟨as, hr⟩ := hx.rd
    by_cases hp1 : t1.plain = true
    · refine wp_if_pos hp1 (wpAny_bind ((ask_ok hx.ok hr hx.deep).2.2 fun b => ?_))
      cases b with
      | true => exact go t1 q3 q4 q5 q9
      | false => exact go _ off q4 q5 q9
    · refine wp_if_neg hp1 (wpAny_bind (wpAny_pure ?_))
      exact go t1 q3 q4 q5 q9
end
end Z

/-! set(..) of a tuple of tuples of nested data. -/
namespace Z
open PySem PySem.Spec PyProof.Rows L2
section
variable {P : Program} {w : World} {a : Addr} {L : List (Addr × PyData)} {es : Array (Int × Value)} {ep : Nat} {t : SetTable}
mutual
theorem reads_keep {h h' : Heap} (k : ∀ c o, h.get? c = some o → h'.get? c = some o) : ∀ {d : PyData} {v : Value} {as : List Addr}, okH d = true → Reads h v d as → Reads h' v d as
  | .int _, _, _, _, r => by cases r; exact .int _ _
  | .str _, _, _, _, r => by cases r; exact .str _ _
  | .tuple ds, _, _, ok, r => by
    cases r with
    | tuple h1 h2 h3 h4 => exact .tuple (k _ _ h1) h2 h3 (readsA_keep k (show okA ds = true from ok) h4)
  | .none, _, _, ok, _ | .bool _, _, _, ok, _ | .list _, _, _, ok, _ | .dict _, _, _, ok, _ => by simp [okH] at ok
theorem readsA_keep {h h' : Heap} (k : ∀ c o, h.get? c = some o → h'.get? c = some o) : ∀ {ds : List PyData} {vs : List Value} {as : List Addr}, okA ds = true → ReadsAll h vs ds as → ReadsAll h' vs ds as
  | [], _, _, _, r => by cases r; exact .nil
  | d :: ds, _, _, ok, r => by
    have ok2 : okH d = true ∧ okA ds = true := by simpa [okA] using ok
    cases r with
    | cons r1 r2 => exact .cons (reads_keep k ok2.1 r1) (readsA_keep k ok2.2 r2)
end
theorem Tp.keep {h h' : Heap} (k : ∀ c o, h.get? c = some o → h'.get? c = some o) {d : PyData} {b : Addr} (x : Tp h d b) : Tp h' d b := by
  obtain ⟨as, r⟩ := x.rd
  exact ⟨x.ok, x.deep, as, reads_keep k x.ok r⟩
theorem SetTD.keep {h h' : Heap} (R : SetTD P w h a L es ep t) (ha : ∀ o, h.get? a = some o → h'.get? a = some o) (ht : ∀ p ∈ L, Tp h' p.2 p.1) : SetTD P w h' a L es ep t := by
  obtain ⟨o, ho, r⟩ := R.ob
  exact ⟨⟨o, ha o ho, r⟩, R.rows, R.tab, R.nd, ht, R.led, R.room, R.few⟩
theorem freshD {h : Heap} (ho : h.get? a = some (emp (!w.params.followText "set-order"))) : SetTD P w h a [] #[] 0 (.fresh 0 0 (!w.params.followText "set-order")) where
  ob := ⟨_, ho, ⟨rfl, rfl, rfl⟩, rfl⟩
  rows := rfl
  tab := ⟨List.Pairwise.nil, rfl, rfl, .inl rfl, fun x hx => (nomatch hx), fun i h j hi => (by simp at hi)⟩
  nd := List.nodup_nil
  tp := fun p hp => nomatch hp
  led := by
    cases q : w.params.followText "set-order" with
    | true => exact .inl rfl
    | false => exact .inr rfl
  room := show 0 * 5 < 7 * 3 by decide
  few := show 0 < 64 by decide
end
theorem ddD_snoc (xs : List PyData) (x : PyData) : ddD (xs ++ [x]) = if (ddD xs).any (PyData.eqv x) then ddD xs else ddD xs ++ [x] := by
  unfold ddD
  rw [List.foldl_append]
  rfl
theorem ddD_len (xs : List PyData) : (ddD xs).length ≤ xs.length := by
  have key : ∀ (xs acc : List PyData), (xs.foldl (fun acc x => if acc.any (PyData.eqv x) then acc else acc ++ [x]) acc).length ≤ acc.length + xs.length := by
    intro xs
    induction xs with
    | nil => exact fun acc => Nat.le_refl _
    | cons y ys ih =>
      intro acc
      rw [List.foldl_cons]
      refine Nat.le_trans (ih _) ?_
      split
      · rw [List.length_cons]; omega
      · rw [List.length_append, List.length_singleton, List.length_cons]; omega
  have := key xs []
  rw [List.length_nil, Nat.zero_add] at this
  exact this
theorem ddD_mem {xs : List PyData} : ∀ {d : PyData}, d ∈ ddD xs → d ∈ xs := by
  have key : ∀ (xs acc : List PyData) (d : PyData), d ∈ xs.foldl (fun acc x => if acc.any (PyData.eqv x) then acc else acc ++ [x]) acc → d ∈ acc ∨ d ∈ xs := by
    intro xs
    induction xs with
    | nil => exact fun acc d h => .inl h
    | cons y ys ih =>
      intro acc d h
      rw [List.foldl_cons] at h
      rcases ih _ _ h with q | q
      · split at q
        · exact .inl q
        · rcases List.mem_append.mp q with q | q
          · exact .inl q
          · exact .inr (by rw [List.mem_singleton.mp q]; exact List.mem_cons_self)
      · exact .inr (List.mem_cons_of_mem _ q)
  intro d h
  rcases key xs [] d h with q | q
  · cases q
  · exact q
theorem ddD_any {xs : List PyData} {d : PyData} (hd : okH d = true) (hx : ∀ x ∈ xs, okH x = true) : xs.any (PyData.eqv d) = true ↔ d ∈ xs := by
  rw [List.any_eq_true]
  constructor
  · rintro ⟨y, hy, e⟩
    rw [(eqv_ok hd (hx y hy)).mp e]
    exact hy
  · exact fun h => ⟨d, h, (eqv_ok hd hd).mpr rfl⟩
section
variable {P : Program} {w : World} {A : Around} {R : Result → Shared → Prop} {it : Addr} {fp wr : List Addr} {G : Array GenState → Array GenState → Prop} {n : Nat} {V : Nat → Value → Prop} {St : Nat → Shared → Prop}
theorem fill_tups (ws : WalksS P w A.in1 it fp wr G n V St) {S : Addr} (hf : S ∉ fp) {ks : List (Addr × PyData)} (hn : ks.length = n) (hb : n < 60) (hu : A.in1.units + 40 < cLine) (hv : ∀ i v, V i v → ∃ p, ks[i]? = some p ∧ v = .ref p.1) {h0 : Heap} (hk : ∀ p ∈ ks, Tp h0 p.2 p.1) (hS0 : h0.get? S = none) (hw0 : ∀ b ∈ wr, h0.get? b = none) :
    ∀ (k i : Nat) (s : Shared), n - i = k → i ≤ n → St i s → (∀ b o, h0.get? b = some o → s.heap.get? b = some o) → (∃ L es ep t, SetTD P w s.heap S L es ep t ∧ (∀ p ∈ L, p ∈ ks) ∧ (L.map (·.2)).Perm (ddD ((ks.take i).map (·.2)))) →
      (∀ s' L es ep t, Moved (S :: wr) G s s' → SetTD P w s'.heap S L es ep t → (L.map (·.2)).Perm (ddD (ks.map (·.2))) → (∀ b o, h0.get? b = some o → s'.heap.get? b = some o) → R (.ok (.ret .none)) s') →
      codeAny (model P w) A (.builtin "set.update.loop" ⟨[.ref S, .ref it], []⟩) R s := by
  have nw : S ∉ wr := fun z => hf (ws.sub _ z)
  have wide : ∀ {s s' : Shared}, Moved wr G s s' → Moved (S :: wr) G s s' := fun mv => mv.mono fun b z => List.mem_cons_of_mem _ z
  have keepM : ∀ {s s' : Shared}, Moved wr G s s' → (∀ b o, h0.get? b = some o → s.heap.get? b = some o) → ∀ b o, h0.get? b = some o → s'.heap.get? b = some o := fun mv k b o e => mv.heap b _ (fun z => by rw [hw0 b z] at e; cases e) (k b o e)
  have kept : ∀ {s s' : Shared} {L : List (Addr × PyData)} {es : Array (Int × Value)} {ep : Nat} {t : SetTable}, Moved wr G s s' → (∀ b o, h0.get? b = some o → s'.heap.get? b = some o) → (∀ p ∈ L, p ∈ ks) → SetTD P w s.heap S L es ep t → SetTD P w s'.heap S L es ep t :=
    fun mv k hm R => R.keep (fun o e => mv.heap S _ nw e) fun p hp => (hk p (hm p hp)).keep k
  have okks : ∀ x ∈ ks.map (·.2), okH x = true := fun x hx => by
    obtain ⟨p, hp, rfl⟩ := List.mem_map.mp hx
    exact (hk p hp).ok
  intro k
  induction k with
  | zero =>
    intro i s e1 e2 st kp ⟨L, es, ep, t, R0, hm, pm⟩ hR
    obtain rfl : i = n := by omega
    refine codeAny_builtin F.entry_set_update_loop ?_
    rw [Around.under_plainId F.plain_set_update_loop _]
    refine wpAny_bind (ws.done s _ _ st fun s' mv => wpAny_pure (hR s' L es ep t (wide mv) (kept mv (keepM mv kp) hm R0) ?_ (keepM mv kp)))
    rw [List.take_of_length_le (Nat.le_of_eq hn)] at pm
    exact pm
  | succ k ih =>
    intro i s e1 e2 st kp ⟨L, es, ep, t, R0, hm, pm⟩ hR
    have lt : i < n := by omega
    refine codeAny_builtin F.entry_set_update_loop ?_
    rw [Around.under_plainId F.plain_set_update_loop _]
    refine wpAny_bind (ws.item i s _ _ lt st fun v s' pv st' mv => ?_)
    obtain ⟨p, hp, rfl⟩ := hv i v pv
    have kp' := keepM mv kp
    have R1 := kept mv kp' hm R0
    have hpm : p ∈ ks := List.mem_of_getElem? hp
    have hx : Tp s'.heap p.2 p.1 := (hk p hpm).keep kp'
    have htk : ks.take (i + 1) = ks.take i ++ [p] := by
      rw [List.take_add_one, hp]
      rfl
    have hLn : L.length ≤ i := by
      have h1 := pm.length_eq
      rw [List.length_map] at h1
      have h2 : (ddD ((ks.take i).map (·.2))).length ≤ ((ks.take i).map (·.2)).length := ddD_len _
      rw [List.length_map, List.length_take] at h2
      omega
    refine wpAny_bind (wpAny_holding ?_)
    unfold setAdd
    obtain ⟨as, hr⟩ := hx.rd
    refine wpAny_holding (wpAny_bind (hash_ok hx.ok hr (by have := hx.deep; omega) ?_))
    refine addD (s := { s' with toks := s'.toks + drD p.2 }) R1 hx (by omega) (by omega) fun b h' L' es' ep' t' sb R2 yes no => ?_
    have hmem : p.2 ∈ L.map (·.2) ↔ p.2 ∈ ddD ((ks.take i).map (·.2)) := pm.mem_iff
    have okdd : ∀ x ∈ ddD ((ks.take i).map (·.2)), okH x = true := fun x hx => by
      obtain ⟨q, hq, rfl⟩ := List.mem_map.mp (ddD_mem hx)
      exact (hk q (List.mem_of_mem_take hq)).ok
    have pm2 : (L'.map (·.2)).Perm (ddD ((ks.take (i + 1)).map (·.2))) := by
      rw [htk, List.map_append, List.map_cons, List.map_nil, ddD_snoc]
      by_cases q : p.2 ∈ L.map (·.2)
      · rw [if_pos ((ddD_any (hk p hpm).ok okdd).mpr (hmem.mp q)), yes q]
        exact pm
      · rw [if_neg fun z => q (hmem.mpr ((ddD_any (hk p hpm).ok okdd).mp z))]
        exact ((no q).map Prod.snd).trans (show (p.2 :: L.map Prod.snd).Perm _ from (pm.cons p.2).trans (List.perm_append_singleton _ _).symm)
    have hm2 : ∀ q ∈ L', q ∈ ks := fun q hq => by
      by_cases z : p.2 ∈ L.map (·.2)
      · rw [yes z] at hq
        exact hm q hq
      · rcases List.mem_cons.mp ((no z).mem_iff.mp hq) with e | e
        · rw [e]; exact hpm
        · exact hm q e
    have kp2 : ∀ b o, h0.get? b = some o → h'.get? b = some o := fun b o e => by
      rw [sb.2 b fun q : b = S => by rw [q, hS0] at e; cases e]
      exact kp' b o e
    refine wpAny_pure ⟨plainId_quiet F.plain_set_update_loop _, ih (i + 1) _ (by omega) lt (ws.frame _ s' _ _ st' (Nat.le_add_right _ _) fun b z o e => ?_) kp2 ⟨L', es', ep', t', R2, hm2, pm2⟩ fun s'' L3 es3 ep3 t3 mv2 R3 pm3 kp3 => hR s'' L3 es3 ep3 t3 ?_ R3 pm3 kp3⟩
    · rw [sb.2 b fun q : b = S => hf (q ▸ z)]
      exact e
    · refine Moved.trans ws.gtrans ((wide mv).then_heap (Nat.le_add_right _ _) fun b o z e => ?_) mv2
      rw [sb.2 b fun q : b = S => z (by rw [q]; exact List.mem_cons_self)]
      exact e
end
end Z

/-! set(..) of a tuple of tuples of nested data; its length. -/
namespace Z
open PySem PySem.Spec PyProof.Rows L2
section
variable {P : Program} {w : World} {A : Around} {E : Value → Shared → Prop} {s : Shared}
theorem set_tups {l : Addr} {its : Array Value} {ks : List (Addr × PyData)} {Q : Value → Shared → Prop} (hh : A.handled = none) (hl : s.heap.IsTuple l its) (hi : its.toList = ks.map fun p => .ref p.1) (hk : ∀ p ∈ ks, Tp s.heap p.2 p.1) (hb : ks.length < 60) (hu : A.units + 60 < cLine)
    (hQ : ∀ (h' : Heap) (tk : Nat) L es ep t, SetTD P w h' s.heap.objs.size L es ep t → (L.map (·.2)).Perm (ddD (ks.map (·.2))) → (∀ b o, b < s.heap.objs.size → s.heap.get? b = some o → h'.get? b = some o) → Q (.ref s.heap.objs.size) { s with heap := h', toks := tk }) :
    wpAny (model P w) A (call (.type "set") [.ref l]) Q E s := by
  obtain ⟨c, tl, hmro⟩ := PySem.F.called_set.mro
  have made := PySem.F.called_set.made; have sub := PySem.F.called_set.sub; have n1 := PySem.F.called_set.notType; have n2 := PySem.F.called_set.canCreate; have tc := PySem.F.typeCall_set_1 (.ref l)
  refine wpAny_call (codeAny_of_tree (show wpAny _ _ (callAny (.type "set") _) _ _ _ from wpAny_pure ⟨Code.quiet_builtin _ (by decide +kernel), codeAny_builtin PySem.F.entry_type_call ?_⟩))
  rw [Around.under_plain (weight_type_call_type "set" [.ref l] []) rfl]
  repeat (any_goals (first | assumption | wp_step))
  refine codeAny_mono (code_set_led1 (.ref l) (E := E) (Q₁ := fun u s1 => u = .ref s.heap.objs.size ∧ s1 = { s with heap := s.heap.push (emp (!w.params.followText "set-order")) }) ⟨rfl, rfl⟩) fun r s1 hr => ?_
  match r, hr with
  | .ok (.ret u), hr =>
    obtain ⟨rfl, rfl⟩ := hr
    generalize hled : (!w.params.followText "set-order") = led
    have g0 : (s.heap.push (emp led)).get? s.heap.objs.size = some (emp led) := Heap.get?_push_size _ rfl
    have ty : Shared.TypeIs { s with heap := s.heap.push (emp led) } (.ref s.heap.objs.size) "set" := ⟨_, g0, rfl⟩
    have i1 := PySem.F.called_set.init.lookup; have i2 := PySem.F.called_set.init.bind (.ref s.heap.objs.size)
    repeat (any_goals (first | assumption | wp_step))
    refine codeAny_mono (codeAny_call_builtin (R := wants (fun r s2 => r = .none ∧ ∃ h' tk L es ep t, s2 = { s with heap := h', toks := tk } ∧ SetTD P w h' s.heap.objs.size L es ep t ∧ (L.map (·.2)).Perm (ddD (ks.map (·.2))) ∧ ∀ b o, b < s.heap.objs.size → s.heap.get? b = some o → h'.get? b = some o) E) PySem.F.called_set.init.plain PySem.F.entry_set_init (check_set_init_1 ty ?_)) fun r2 s2 hr2 => ?_
    · obtain ⟨⟨oc, od, dt, sl⟩, ho, hc, nl, hd⟩ := hl
      dsimp only at hc hd
      subst hc hd
      have ho1 : (s.heap.push (emp led)).get? l = some { cls := .type "tuple", dict := od, data := .seq its nl, slots := sl } := Heap.get?_push_of_some _ ho
      have j1 := PySem.F.sub_tuple_set; have j2 := PySem.F.sub_tuple_frozenset; have j3 : (Value.type "tuple" == Value.type "dict") = false := by decide
      have tp : (s.heap.push (emp led)).IsTuple l its := ⟨_, ho1, rfl, nl, rfl⟩
      unfold Builtin.«set.__init__» noKeywords Builtin.Frozenset.updateFrom
      generalize hPI : pyIter = PI
      wp_walk
      subst hPI
      refine wpAny_pyIter_tuple tp (wpAny_bind (wpAny_runValue ?_))
      have lt : l < s.heap.objs.size := Heap.lt_size ho
      have sz : (s.heap.push (emp led)).objs.size = s.heap.objs.size + 1 := Heap.size_push _ _
      have ne : l ≠ (s.heap.push (emp led)).objs.size := by rw [sz]; exact Nat.ne_of_lt (Nat.lt_succ_of_lt lt)
      have nf : s.heap.objs.size ∉ [(s.heap.push (emp led)).objs.size, l] := by
        rw [sz]
        simp only [List.mem_cons, List.not_mem_nil, or_false, not_or]
        exact ⟨Nat.ne_of_lt (Nat.lt_succ_self _), Nat.ne_of_gt lt⟩
      have hn : ks.length = its.size := by rw [← Array.length_toList, hi, List.length_map]
      have none_ : ∀ b, s.heap.objs.size ≤ b → s.heap.get? b = none := fun b hb => by
        cases e : s.heap.get? b with
        | none => rfl
        | some o => exact absurd (Heap.lt_size e) (Nat.not_lt.mpr hb)
      refine fill_tups ((Walks.tuple (show A.in1.in1.in1.handled = none by simp [hh]) _ l ne its).toS) (S := s.heap.objs.size) nf hn (by omega) (by first | (simp [Around.in1]; omega) | omega) (fun i v hv => ?hv) (h0 := s.heap) hk (none_ _ (Nat.le_refl _)) (fun b hb => ?hw) its.size 0 _ (by omega) (Nat.zero_le _) ⟨⟨_, Heap.get?_push_size _ rfl, rfl, rfl⟩, tp.push _⟩ (fun b o e => Heap.get?_push_of_some _ (Heap.get?_push_of_some _ e)) ⟨[], #[], 0, .fresh 0 0 led, ?hS, fun p hp => (nomatch hp), List.Perm.refl _⟩ ?hR
      case hv =>
        have hv : its[i]? = some v := hv
        rw [← Array.getElem?_toList, hi, List.getElem?_map] at hv
        cases e : ks[i]? with
        | none => rw [e] at hv; cases hv
        | some p => rw [e] at hv; cases hv; exact ⟨p, rfl, rfl⟩
      case hw =>
        have hb : b = (s.heap.push (emp led)).objs.size := by simpa using hb
        rw [hb, sz]
        exact none_ _ (Nat.le_succ _)
      case hS =>
        have g1 : ((s.heap.push (emp led)).push { cls := .type "tuple_iterator", data := .fields #[.ref l, .int 0 0] }).get? s.heap.objs.size = some (emp led) := Heap.get?_push_of_some _ g0
        subst hled
        exact freshD g1
      case hR =>
        rintro ⟨h', g', d', tk', os'⟩ L es ep t mv R2 pm kp
        obtain rfl : g' = s.gens := mv.gens
        obtain rfl : d' = s.drawn := mv.drawn
        obtain rfl : os' = s.os := mv.os
        exact wpAny_pure (wpAny_pure ⟨rfl, h', tk', L, es, ep, t, rfl, R2, pm, fun b o z e => kp b o e⟩)
    · match r2, hr2 with
      | .error e, hr2 => exact hr2
      | .ok (.ret r), hr2 =>
        obtain ⟨rfl, h', tk, L, es, ep, t, rfl, hS, pm, hk⟩ := hr2
        repeat (any_goals (first | assumption | wp_step))
        exact hQ _ _ _ _ _ _ hS pm hk
  | .error e, hr => exact hr
end
end Z

/-! len(set(..)) of a tuple of texts, or of tuples of nested data. -/
namespace Z
open PySem PySem.Spec PyProof.Rows L2
theorem readsAll_ks {h : Heap} : ∀ {ds : List PyData} {vs : List Value} {as : List Addr}, ReadsAll h vs ds as → ds.all okT = true → ∃ ks : List (Addr × PyData), vs = ks.map (fun p => Value.ref p.1) ∧ ks.map (·.2) = ds ∧ ∀ p ∈ ks, Tp h p.2 p.1
  | [], _, _, r, _ => by
    cases r
    exact ⟨[], rfl, rfl, fun p hp => nomatch hp⟩
  | d :: ds, _, _, r, ok => by
    simp only [List.all_cons, Bool.and_eq_true] at ok
    cases r with
    | cons r1 r2 =>
      obtain ⟨ks, e1, e2, e3⟩ := readsAll_ks r2 ok.2
      cases d with
      | tuple es =>
        have h1 : okA es = true ∧ PyData.depth (.tuple es) ≤ 8 := by simpa [okT] using ok.1
        cases r1 with
        | @tuple a o us n _ bs g1 g2 g3 g4 =>
          refine ⟨(a, .tuple es) :: ks, by rw [e1]; rfl, by rw [← e2]; rfl, fun p hp => ?_⟩
          rcases List.mem_cons.mp hp with rfl | hp
          · exact ⟨h1.1, h1.2, _, .tuple g1 g2 g3 g4⟩
          · exact e3 p hp
      | _ => simp [okT] at ok
/-- len(set(a)), a a tuple of texts or of tuples of nested data -/
def tLenT (K : PySem.W.Frag) (ta : TE) : TE := fun σ H Q => ta σ H fun x H1 => (∃ l, ∃ xs : List Str, x = .ref l ∧ SqT K H1 l (xs.map V.str) ∧ xs.length ≤ 60 ∧ Q (.int (dd xs).length) H1) ∨
  ∃ l vs, ∃ ds : List PyData, x = .ref l ∧ SqT K H1 l vs ∧ DpAll K H1 vs ds ∧ ds.all okT = true ∧ ds.length < 60 ∧ Q (.int (ddD ds).length) H1
theorem pe_lenT {X : Cx} {a : Expr} {ta : TE} {p p2 q pos : Pos} (hc : X.calm = true) (hu : X.A.units + 65 < cLine) (hg : Gl X "len") (hm : X.mg "len" = none) (hg2 : Gl X "set") (hm2 : X.mg "set" = none) (ha : PE X a ta) (na : ∀ v p, a ≠ .Starred v p) :
    PE X (.Call (.Name "len" p) [.Call (.Name "set" p2) [a] [] q] [] pos) (tLenT X.K ta) := by
  have ns := star_of na [] X.env
  refine ⟨fun pins s σ H Q I h => Call_ (ld_blt I hg hm boot_len (callWith_builtin1 (args_cons (Call_ (ld_blt I hg2 hm2 boot_set (callWith_type1 (args_cons (thn (ha.run pins s σ H _ I h) fun v s1 ⟨x, H1, I1, r1, q1⟩ => args_nil ?_) ns) ns rfl))) rfl) rfl rfl))⟩
  rcases q1 with ⟨l, xs, rfl, hq, hn, q1⟩ | ⟨l, vs, ds, rfl, hq, hd, hok, hn, q1⟩
  · obtain rfl : v = Value.ref l := r1
    obtain ⟨its, r, pl, hz⟩ := I1.tuple hq
    refine set_strs (xs := xs) (I1.ok.hd hc) pl (by simpa using L2.strsAre_of r) (by unfold scanBound; omega) fun h' tk hS hk => args_nil ?_
    obtain ⟨o, es, ep, t, ho, hex, hd, _, _, _, hf, hl⟩ := hS
    have I2 : Inv X pins σ H1 { s1 with heap := h', toks := tk } := I1.kept fun b o e => hk b o (Heap.lt_size e) e
    have hsm : (dd xs).length ≤ xs.length := dd_len xs
    exact call_len_set ho hex hd hf (by rw [hl]; omega) ⟨.int (dd xs).length, H1, I2.tok _, ⟨_, by rw [hl]⟩, q1⟩
  · obtain rfl : v = Value.ref l := r1
    obtain ⟨its, r, pl, hz⟩ := I1.tuple hq
    obtain ⟨as, ra⟩ := Dp.readsAll I1 ds _ its hd r
    obtain ⟨ks, e1, e2, e3⟩ := readsAll_ks ra hok
    have hkl : ks.length = ds.length := by rw [← e2, List.length_map]
    refine set_tups (ks := ks) (I1.ok.hd hc) pl (by simpa using e1) e3 (by omega) (by omega) fun h' tk L es ep t hS pm hk => args_nil ?_
    obtain ⟨o, ho, hex, hd⟩ := hS.ob
    have I2 : Inv X pins σ H1 { s1 with heap := h', toks := tk } := I1.kept fun b o e => hk b o (Heap.lt_size e) e
    have hl : es.size = (ddD ds).length := by
      have h1 := pm.length_eq
      rw [List.length_map, e2] at h1
      rw [← h1]
      exact SetTD.size (s := { s1 with heap := h', toks := tk }) hS
    have hsm : (ddD ds).length ≤ ds.length := ddD_len ds
    exact call_len_set ho hex hd (SetTD.fits (s := { s1 with heap := h', toks := tk }) hS) (by rw [hl]; omega) ⟨.int (ddD ds).length, H1, I2.tok _, ⟨_, by rw [hl]⟩, q1⟩
theorem s_lenset {X : Cx} {T : List (Addr × Str)} {W : WX} {c : SC} {F : Tab} {k : Nat} (g : Good X T W c F k) {a : LE} {e : Expr} {p p2 q pos : Pos} (h1 : isBlt c "len" = true) (h2 : isBlt c "set" = true) (hs : ∀ v p, e ≠ .Starred v p) (he : PE X e (rE X T W (evE (callF F k) a))) : PE X (.Call (.Name "len" p) [.Call (.Name "set" p2) [e] [] q] [] pos) (rE X T W (evE (callF F k) (.lenset a))) := by
  obtain ⟨a1, a2, a3⟩ := g.blt h1
  obtain ⟨b1, b2, b3⟩ := g.blt h2
  refine PE.imp (pe_lenT g.calm g.units a1 a3 b1 b3 he hs) fun σ H Q qq => ?_
  refine rd_mono (rd_bind (rep := RepV X.K) (m := evE (callF F k) a) (f := fun ρ v S => lenSV v S) qq) fun x H1 ⟨ρ, v, S, M, e, s, r, p⟩ => ?_
  match v, r, p with
  | .d (.tuple xs), r, p =>
    obtain ⟨z, vs, rfl, hz, hr⟩ := r
    obtain ⟨y, hy, fin⟩ := post_okD p
    simp only [lenS] at hy
    split at hy
    · rename_i ss h3
      split at hy
      · rename_i hle
        cases hy
        exact .inl ⟨z, ss, rfl, by rw [← RepL.strs h3 hr]; exact hz, hle, fin _ M H1 (Ext.refl _ _) s rfl⟩
      · cases hy
    · split at hy
      · rename_i hle
        cases hy
        simp only [Bool.and_eq_true, decide_eq_true_eq] at hle
        exact .inr ⟨z, vs, xs, rfl, hz, hr.dp, hle.1, hle.2, fin _ M H1 (Ext.refl _ _) s rfl⟩
      · cases hy
  | .d .none, _, p | .d (.bool _), _, p | .d (.int _), _, p | .d (.str _), _, p | .d (.list _), _, p | .d (.dict _), _, p | .r _, _, p | .s _, _, p => exact (show False from p).elim
end Z

/-! Further operations by values: soundness. -/
namespace Z
open PySem PySem.Spec PyProof.Rows L2
/-- the parts, each with its reading -/
inductive PEs (X : Cx) (T : List (Addr × Str)) (W : WX) (C : Nat → List Val → Sto → R Val) : List LE → List Expr → Prop where
  | nil : PEs X T W C [] []
  | cons {l : LE} {e : Expr} {ls : List LE} {es : List Expr} : PE X e (rE X T W (evE C l)) → (∀ v p, e ≠ .Starred v p) → PEs X T W C ls es → PEs X T W C (l :: ls) (e :: es)
section
variable {X : Cx} {T : List (Addr × Str)} {W : WX} {c : SC} {F : Tab} {k : Nat} {C : Nat → List Val → Sto → R Val} {o : XO} {a b d : LE} {ρ : Z.Env} {S : Sto}
theorem ev1 : evE C (.ext o [a]) ρ S = (evE C a ρ S).bind fun v S => xoV o [v] S := by
  simp only [evE, evL]
  cases evE C a ρ S <;> rfl
theorem ev2 : evE C (.ext o [a, b]) ρ S = (evE C a ρ S).bind fun v S => (evE C b ρ S).bind fun w S => xoV o [v, w] S := by
  simp only [evE, evL]
  cases evE C a ρ S with
  | ok v S => simp only [R.bind]; cases evE C b ρ S <;> rfl
  | ex c S => rfl
  | no => rfl
theorem ev3 : evE C (.ext o [a, b, d]) ρ S = (evE C a ρ S).bind fun v S => (evE C b ρ S).bind fun w S => (evE C d ρ S).bind fun u S => xoV o [v, w, u] S := by
  simp only [evE, evL]
  cases evE C a ρ S with
  | ok v S =>
    simp only [R.bind]
    cases evE C b ρ S with
    | ok w S => simp only [R.bind]; cases evE C d ρ S <;> rfl
    | ex c S => rfl
    | no => rfl
  | ex c S => rfl
  | no => rfl
theorem rd_congr {α β : Type} {rep : MM → Hp → α → β → Prop} {m m' : Z.Env → Sto → R α} (h : ∀ ρ S, m ρ S = m' ρ S) {σ : L2.St} {H : Hp} {Q : β → Hp → Prop} (q : rd X T W rep m σ H Q) : rd X T W rep m' σ H Q := by
  obtain ⟨ρ, S, M, e, s, p⟩ := q
  exact ⟨ρ, S, M, e, s, by rw [← h]; exact p⟩
theorem xo1 {σ : L2.St} {H : Hp} {Q : VK} (q : rE X T W (evE C (.ext o [a])) σ H Q) : rE X T W (evE C a) σ H fun x H1 => ∃ v S M, StoreOk T X.K M H1 S ∧ RepV X.K M H1 v x ∧ Post X T W σ M H1 (RepV X.K) (xoV o [v] S) Q :=
  rd_mono (rd_bind (rep := RepV X.K) (f := fun ρ v S => xoV o [v] S) (rd_congr (fun ρ S => ev1) q)) fun x H1 ⟨ρ, v, S, M, e, s, r, p⟩ => ⟨v, S, M, s, r, p⟩
theorem xo2 {σ : L2.St} {H : Hp} {Q : VK} (q : rE X T W (evE C (.ext o [a, b])) σ H Q) : rE X T W (evE C a) σ H fun x H1 => rE X T W (evE C b) σ H1 fun y H2 => ∃ v w S M, StoreOk T X.K M H2 S ∧ RepV X.K M H2 v x ∧ RepV X.K M H2 w y ∧ Post X T W σ M H2 (RepV X.K) (xoV o [v, w] S) Q :=
  rd_mono (rd_bind (rep := RepV X.K) (f := fun ρ v S => (evE C b ρ S).bind fun w S => xoV o [v, w] S) (rd_congr (fun ρ S => ev2) q)) fun x H1 ⟨ρ, v, S, M, e, s, r, p⟩ =>
    ⟨ρ, S, M, e, s, Post.mono (post_step (rep := RepV X.K) e s p) fun y H2 ⟨w, S', M', e', x', s', r', p'⟩ => ⟨v, w, S', M', s', r.ext x', r', p'⟩⟩
theorem xo3 {σ : L2.St} {H : Hp} {Q : VK} (q : rE X T W (evE C (.ext o [a, b, d])) σ H Q) : rE X T W (evE C a) σ H fun x H1 => rE X T W (evE C b) σ H1 fun y H2 => rE X T W (evE C d) σ H2 fun z H3 => ∃ v w u S M, StoreOk T X.K M H3 S ∧ RepV X.K M H3 v x ∧ RepV X.K M H3 w y ∧ RepV X.K M H3 u z ∧ Post X T W σ M H3 (RepV X.K) (xoV o [v, w, u] S) Q :=
  rd_mono (rd_bind (rep := RepV X.K) (f := fun ρ v S => (evE C b ρ S).bind fun w S => (evE C d ρ S).bind fun u S => xoV o [v, w, u] S) (rd_congr (fun ρ S => ev3) q)) fun x H1 ⟨ρ, v, S, M, e, s, r, p⟩ =>
    ⟨ρ, S, M, e, s, Post.mono (post_step (rep := RepV X.K) e s p) fun y H2 ⟨w, S', M', e', x', s', r', p'⟩ =>
      ⟨ρ, S', M', e', s', Post.mono (post_step (rep := RepV X.K) e' s' p') fun z H3 ⟨u, S2, M2, e2, x2, s2, r2, p2⟩ => ⟨v, w, u, S2, M2, s2, (r.ext x').ext x2, r'.ext x2, r2, p2⟩⟩⟩
theorem xo_D {vs : List Val} {σ : L2.St} {M : MM} {H : Hp} {Q : VK} (ho : o ≠ .mlist ∧ o ≠ .madd ∧ o ≠ .mmul) (h : Post X T W σ M H (RepV X.K) (xoV o vs S) Q) : ∃ xs z, allD S vs = some xs ∧ xoD o xs = some z ∧ ∀ b M' H', Ext M H M' H' → StoreOk T X.K M' H' S → Rep X.K M' H' z b → Q b H' := by
  have h2 : Post X T W σ M H (RepV X.K) (match allD S vs with
    | some xs => okD (xoD o xs) S
    | none => .no) Q := by
    cases o <;> first | exact absurd rfl ho.1 | exact absurd rfl ho.2.1 | exact absurd rfl ho.2.2 | exact h
  cases e : allD S vs with
  | none => rw [e] at h2; exact (show False from h2).elim
  | some xs =>
    rw [e] at h2
    obtain ⟨z, ez, hQ⟩ := post_okD h2
    exact ⟨xs, z, rfl, ez, hQ⟩
theorem allD1 {v : Val} {xs : List PyData} (h : allD S [v] = some xs) : ∃ x, xs = [x] ∧ toD v S = some x := by
  simp only [allD] at h
  split at h
  · rename_i x ys h1 h2
    cases h2
    cases h
    exact ⟨x, rfl, h1⟩
  · cases h
theorem allD2 {v w : Val} {xs : List PyData} (h : allD S [v, w] = some xs) : ∃ x y, xs = [x, y] ∧ toD v S = some x ∧ toD w S = some y := by
  rw [allD] at h
  split at h
  · rename_i x ys h1 h2
    cases h
    obtain ⟨y, rfl, h3⟩ := allD1 h2
    exact ⟨x, y, rfl, h1, h3⟩
  · cases h
theorem allD3 {v w u : Val} {xs : List PyData} (h : allD S [v, w, u] = some xs) : ∃ x y z, xs = [x, y, z] ∧ toD v S = some x ∧ toD w S = some y ∧ toD u S = some z := by
  rw [allD] at h
  split at h
  · rename_i x ys h1 h2
    cases h
    obtain ⟨y, z, rfl, h3, h4⟩ := allD2 h2
    exact ⟨x, y, z, rfl, h1, h3, h4⟩
  · cases h
def XS (o : XO) : Prop := ∀ {X : Cx} {T : List (Addr × Str)} {W : WX} {c : SC} {F : Tab} {k : Nat} (g : Good X T W c F k) (e : Expr) (fs : List Expr) (es : List LE), subs c o e = some fs → PEs X T W (callF F k) es fs → PE X e (rE X T W (evE (callF F k) (.ext o es)))
/-- what a subs says -/
theorem if_some {α : Type} {p : Bool} {x y : α} (h : (if p then some x else none) = some y) : p = true ∧ x = y := by
  cases p with
  | true => exact ⟨rfl, by simpa using h⟩
  | false => simp at h
theorem xs_mlist : XS .mlist := by
  intro X T W c F k g e fs es h hp
  unfold subs at h
  split at h
  all_goals first | (cases h; done) | (rename_i q1; cases q1; done) | skip
  have h' := if_some h
  clear h
  obtain ⟨h, h3⟩ := h'
  subst h3
  simp only [Bool.and_eq_true, decide_eq_true_eq] at h
  obtain ⟨h0, rfl⟩ := h
  obtain ⟨a1, _, a3⟩ := g.blt h0
  cases hp with
  | cons he hs hr =>
    cases hr
    refine PE.imp (pe_callTy call_list_of a1 a3 (by decide +kernel) (pa_cons he pa_nil (star_of hs _ _)) (by decide) (by decide) (star_of hs _ _) rfl) fun σ H Q q => ?_
    refine rd_mono (xo1 q) fun x H1 ⟨v, S, M, s, r, p⟩ => ?_
    have p : Post X T W σ M H1 (RepV X.K) (match allD S [v] with
      | some [.list ys] => ret1 true (.list ys) S
      | some [.tuple ys] => ret1 true (.list ys) S
      | _ => .no) Q := p
    split at p
    · rename_i ys hd
      obtain ⟨d, e1, e2⟩ := allD1 hd
      cases e1
      obtain ⟨_, h2, _⟩ := toD_rep s e2 r
      obtain ⟨a, vs, rfl, h3, h4⟩ := h2 ys rfl
      exact ⟨a, vs, rfl, .inl (SqL.of h3), fun l hl => ret1_G s h4 p hl⟩
    · rename_i ys hd
      obtain ⟨d, e1, e2⟩ := allD1 hd
      cases e1
      obtain ⟨_, _, h2⟩ := toD_rep s e2 r
      obtain ⟨a, vs, rfl, h3, h4⟩ := (show ∃ a vs, x = .ref a ∧ SqT X.K H1 a vs ∧ RepL X.K M H1 ys vs from h2 (by intro _ z; cases z))
      exact ⟨a, vs, rfl, .inr h3, fun l hl => ret1_G s h4 p hl⟩
    · exact (show False from p).elim
theorem rg_rep {K : PySem.W.Frag} {M : MM} {H : Hp} {n : Int} : RepL K M H (rng 0 n.toNat) (rgV 0 n) := by
  unfold rng rgV
  have e : (n - 0).toNat = n.toNat := by rw [Int.sub_zero]
  rw [e]
  generalize n.toNat = m
  have key : ∀ l : List Nat, RepL K M H (l.map fun (k : Nat) => PyData.int (0 + (k : Int))) (l.map fun i => V.int (0 + ((i : Nat) : Int))) := by
    intro l
    induction l with
    | nil => rfl
    | cons i l ih => exact ⟨_, _, rfl, rfl, ih⟩
  exact key _
theorem xs_lrange : XS .lrange := by
  intro X T W c F k g e fs es h hp
  unfold subs at h
  split at h
  all_goals first | (cases h; done) | (rename_i q1; cases q1; done) | skip
  have h' := if_some h
  clear h
  obtain ⟨h, h3⟩ := h'
  subst h3
  simp only [Bool.and_eq_true, decide_eq_true_eq] at h
  obtain ⟨⟨h0, rfl⟩, h1, rfl⟩ := h
  obtain ⟨a1, _, a3⟩ := g.blt h0
  obtain ⟨b1, _, b3⟩ := g.blt h1
  cases hp with
  | cons he hs hr =>
    cases hr
    refine PE.imp (pe_listRg g.calm a1 a3 (prg_1 b1 b3 he (star_of hs _ _)) rfl) fun σ H Q q => ?_
    refine rd_mono (xo1 q) fun x H1 ⟨v, S, M, s, r, p⟩ => ?_
    obtain ⟨xs, z, hd, hz, fin⟩ := xo_D (by simp) p
    obtain ⟨d, rfl, e2⟩ := allD1 hd
    cases d with
    | int n =>
      simp only [xoD] at hz
      split at hz
      · rename_i hn
        cases hz
        obtain ⟨_, _, h2⟩ := toD_rep s e2 r
        obtain rfl : x = .int n := h2 (by intro _ z; cases z)
        refine ⟨n, rfl, RgOk.of_le (by omega) (by omega) (by omega) (by omega), fun q hq => ?_⟩
        exact fin _ M _ (ext_new hq) (s.new hq) (rep_new_lst s hq rg_rep)
      · cases hz
    | _ => simp [xoD] at hz
theorem idxD_ok {x : PyData} : ∀ {ds : List PyData} {i j : Nat}, idxD x ds i = some j → ∃ z, i ≤ j ∧ ds[j - i]? = some z ∧ PyData.eqv z x = true ∧ ∀ (m : Nat) (z' : PyData), m < j - i → ds[m]? = some z' → PyData.eqv z' x = false
  | [], _, _, h => by simp [idxD] at h
  | d :: ds, i, j, h => by
    unfold idxD at h
    split at h
    · rename_i hd
      cases h
      exact ⟨d, Nat.le_refl _, by simp, hd, fun m z' hm _ => by omega⟩
    · rename_i hd
      obtain ⟨z, h1, h2, h3, h4⟩ := idxD_ok h
      refine ⟨z, by omega, ?_, h3, fun m z' hm hz => ?_⟩
      · have e : j - i = (j - (i + 1)) + 1 := by omega
        rw [e, List.getElem?_cons_succ]
        exact h2
      · cases m with
        | zero =>
          simp only [List.getElem?_cons_zero, Option.some.injEq] at hz
          subst hz
          simpa using hd
        | succ m =>
          rw [List.getElem?_cons_succ] at hz
          exact h4 m z' (by omega) hz
theorem attr_noSup {o : Expr} (h : noSup o = true) (m : Str) (env : PySem.Env) (w : Sem Value) : attributeBase o m env w = w := by
  unfold attributeBase
  split
  · cases h
  · rfl
theorem s_meth (g : Good X T W c F k) {m : MO} {e f : Expr} {ap cp : Pos} (h0 : (ap.endLine == cp.line) = true) (h1 : noSup e = true) (he : PE X e (rE X T W (evE (callF F k) a))) (he2 : PE X f (rE X T W (evE (callF F k) b))) (hs2 : ∀ v p, f ≠ .Starred v p) : PE X (.Call (.Attribute e (moName m) ap) [f] [] cp) (rE X T W (evE (callF F k) (.meth m a b))) := by
  have hst' := star_of hs2 [] X.env
  have red : ∀ σ H Q, rE X T W (evE (callF F k) (.meth m a b)) σ H Q → rE X T W (evE (callF F k) a) σ H fun x H1 => ∃ d S M, StoreOk T X.K M H1 S ∧ Rep X.K M H1 d x ∧ preV m (.d d) S = .ok () S ∧ rE X T W (evE (callF F k) b) σ H1 fun y H2 => ∃ w z S M e', StoreOk T X.K M H2 S ∧ Rep X.K M H2 d x ∧ RepV X.K M H2 w y ∧ toD w S = some z ∧ moD m d z = some e' ∧ ∀ b M' H', Ext M H2 M' H' → StoreOk T X.K M' H' S → Rep X.K M' H' e' b → Q b H' := by
    intro σ H Q q
    refine rd_mono (rd_bind (rep := RepV X.K) (f := fun ρ v S => (preV m v S).bind fun _ S => (evE (callF F k) b ρ S).bind fun w S => moV m v w S) q) fun x H1 ⟨ρ, v, S, M, e, s, r, p⟩ => ?_
    have hd : ∃ d, v = .d d ∧ preV m (.d d) S = .ok () S := by
      cases v with
      | d d =>
        refine ⟨d, rfl, ?_⟩
        revert p
        cases m <;> cases d <;> first | exact fun _ => rfl | exact fun p => (show False from p).elim
      | r n => exact absurd p (by cases m <;> exact fun p => (show False from p).elim)
      | s n => exact absurd p (by cases m <;> exact fun p => (show False from p).elim)
    obtain ⟨d, rfl, hp⟩ := hd
    rw [hp] at p
    refine ⟨d, S, M, s, r, hp, ρ, S, M, e, s, Post.mono (post_step (rep := RepV X.K) (m := evE (callF F k) b ρ) (f := fun w S => moV m (.d d) w S) e s p) fun y H2 ⟨w, S', M', e', x', s', r', p'⟩ => ?_⟩
    have p2 : Post X T W σ M' H2 (RepV X.K) (match (Val.d d), toD w S' with
      | .d x, some y => okD (moD m x y) S'
      | _, _ => .no) Q := p'
    cases hw : toD w S' with
    | none => rw [hw] at p2; exact (show False from p2).elim
    | some z =>
      rw [hw] at p2
      obtain ⟨e2, h2, fin⟩ := post_okD p2
      exact ⟨w, z, S', M', e2, s', Rep.ext x' r, r', hw, h2, fin⟩
  cases m with
  | index =>
    refine PE.imp (pe_bm PySem.F.plainAttrs_list PySem.F.slot_list_index PySem.F.type_list_index (mt_indexD g.units) he (pa_cons he2 pa_nil hst') (attr_noSup h1 _ _ _) (by rw [hst']; rfl) h0 hst' rfl) fun σ H Q q => ?_
    refine rd_mono (red σ H Q q) fun x H1 ⟨d, S, M, s, r, hp, q1⟩ => ?_
    cases d with
    | list ds =>
      obtain ⟨p, vs, rfl, h2, h3, h4⟩ := id r
      refine ⟨.inl ⟨rfl, vs, SqL.of h3⟩, ?_⟩
      refine rd_mono q1 fun y H2 ⟨w, z, S', M', e', s', r', rw', hw, hz, fin⟩ => ?_
      simp only [moD] at hz
      split at hz
      · rename_i hsh
        simp only [Bool.and_eq_true] at hsh
        obtain ⟨j, hj, rfl⟩ := Option.map_eq_some_iff.mp hz
        obtain ⟨z0, _, i1, i2, i3⟩ := idxD_ok hj
        obtain ⟨dz, _, _⟩ := toD_rep s' hw rw'
        exact ⟨p, y, z, ds, j, z0, rfl, rfl, r'.dp, dz, hsh.1, hsh.2, i1, i2, i3, fin _ M' H2 (Ext.refl _ _) s' rfl⟩
      · cases hz
    | _ => cases hp
  | join =>
    refine PE.imp (pe_bm PySem.F.plainAttrs_str PySem.F.slot_str_join PySem.F.type_str_join mt_join he (pa_cons he2 pa_nil hst') (attr_noSup h1 _ _ _) (by rw [hst']; rfl) h0 hst' rfl) fun σ H Q q => ?_
    refine rd_mono (red σ H Q q) fun x H1 ⟨d, S, M, s, r, hp, q1⟩ => ?_
    cases d with
    | str t =>
      obtain rfl : x = .str t := r
      refine ⟨rfl, ?_⟩
      refine rd_mono q1 fun y H2 ⟨w, z, S', M', e', s', r', rw', hw, hz, fin⟩ => ?_
      obtain ⟨_, g1, g2⟩ := toD_rep s' hw rw'
      cases z with
      | list ds =>
        simp only [moD, Option.bind_eq_some_iff] at hz
        obtain ⟨ss, h3, h4⟩ := hz
        split at h4
        · rename_i hle
          cases h4
          obtain ⟨p, vs, rfl, h5, h6⟩ := g1 ds rfl
          exact ⟨t, p, ss, rfl, rfl, .inl (by rw [← RepL.strs h3 h6]; exact SqL.of h5), by omega, fin _ M' H2 (Ext.refl _ _) s' rfl⟩
        · cases h4
      | tuple ds =>
        simp only [moD, Option.bind_eq_some_iff] at hz
        obtain ⟨ss, h3, h4⟩ := hz
        split at h4
        · rename_i hle
          cases h4
          obtain ⟨p, vs, rfl, h5, h6⟩ := (show ∃ a vs, y = .ref a ∧ SqT X.K H2 a vs ∧ RepL X.K M' H2 ds vs from g2 (by intro _ z; cases z))
          exact ⟨t, p, ss, rfl, rfl, .inr (by rw [← RepL.strs h3 h6]; exact h5), by omega, fin _ M' H2 (Ext.refl _ _) s' rfl⟩
        · cases h4
      | _ => simp [moD] at hz
    | _ => cases hp
  | split =>
    refine PE.imp (pe_bm PySem.F.plainAttrs_str PySem.F.slot_str_split PySem.F.type_str_split mt_split he (pa_cons he2 pa_nil hst') (attr_noSup h1 _ _ _) (by rw [hst']; rfl) h0 hst' rfl) fun σ H Q q => ?_
    refine rd_mono (red σ H Q q) fun x H1 ⟨d, S, M, s, r, hp, q1⟩ => ?_
    cases d with
    | str t =>
      obtain rfl : x = .str t := r
      refine ⟨rfl, ?_⟩
      refine rd_mono q1 fun y H2 ⟨w, z, S', M', e', s', r', rw', hw, hz, fin⟩ => ?_
      obtain ⟨_, g1, g2⟩ := toD_rep s' hw rw'
      cases z with
      | str u =>
        simp only [moD] at hz
        split at hz
        · rename_i hle
          cases hz
          obtain rfl : y = .str u := g2 (by intro _ z; cases z)
          refine ⟨t, u, rfl, rfl, hle.1, by rw [sizeLine_eq]; omega, fun p hp => fin _ M' _ (ext_new hp) (s'.new hp) (rep_new_lst s' hp ?_)⟩
          have key : ∀ l : List Str, RepL X.K M' H2 (l.map PyData.str) (l.map V.str) := by
            intro l
            induction l with
            | nil => rfl
            | cons i l ih => exact ⟨_, _, rfl, rfl, ih⟩
          exact key _
        · cases hz
      | _ => simp [moD] at hz
    | _ => cases hp
end
end Z

/-! Slices with a step; a written dict looked up. -/
namespace Z
open PySem PySem.Spec PyProof.Rows L2 HT
section
variable {prog : Program} {w : World} {A : Around} {E : Value → Shared → Prop} {s : Shared}
theorem sliceApplied_step {sl : Addr} {vl vu vc : Value} {lo hi : Option Int} {c : Int} {n : Nat} {Q : Int × Int × Nat → Shared → Prop} (hs : s.heap.IsSliceOf sl vl vu vc) (pl : IsPart vl lo) (pu : IsPart vu hi) (pc : IsPart vc (some c)) (hc : c ≠ 0)
    (h : Q ((Builtin.Slice.sliceAdjust lo hi c n).1, c, Builtin.Slice.slicePlaces (Builtin.Slice.sliceAdjust lo hi c n).1 (Builtin.Slice.sliceAdjust lo hi c n).2 c) s) : wpAny (model prog w) A (Builtin.Slice.sliceApplied (.ref sl) (pure (n : Int))) Q E s := by
  obtain ⟨os, hos, hcs, hds⟩ := id hs
  unfold Builtin.Slice.sliceApplied Builtin.Slice.sliceFields
  refine wpAny_bind (wpAny_bind (wpAny_field hos hds (x := vl) rfl (wpAny_bind (wpAny_field hos hds (x := vu) rfl (wpAny_bind (wpAny_field hos hds (x := vc) rfl (wpAny_pure ?_)))))))
  refine wpAny_bind (slicePart_ pc ?_)
  show wpAny _ _ (if (c == 0) = true then _ else _) _ _ s
  rw [if_neg (by simpa using hc)]
  refine wpAny_bind (slicePart_ pl (wpAny_bind (slicePart_ pu (wpAny_bind (wpAny_pure ?_)))))
  exact wpAny_pure h
theorem adj_pos (lo hi : Option Int) {c : Int} {n : Nat} (hc : 2 ≤ c) : 0 ≤ (Builtin.Slice.sliceAdjust lo hi c n).1 ∧ (Builtin.Slice.sliceAdjust lo hi c n).2 ≤ n := by
  have h0 : ¬ c < 0 := by omega
  unfold Builtin.Slice.sliceAdjust
  simp only [h0, if_false]
  constructor
  · cases lo with
    | none => exact Int.le_refl _
    | some v => dsimp only; split <;> omega
  · cases hi with
    | none => exact Int.le_refl _
    | some v => dsimp only; split <;> omega
theorem adj_neg (lo hi : Option Int) {n : Nat} : (Builtin.Slice.sliceAdjust lo hi (-1) n).1 ≤ (n : Int) - 1 ∧ -1 ≤ (Builtin.Slice.sliceAdjust lo hi (-1) n).2 := by
  unfold Builtin.Slice.sliceAdjust
  simp only [show (-1 : Int) < 0 by omega, if_true]
  constructor
  · cases lo with
    | none => exact Int.le_refl _
    | some v => dsimp only; split <;> omega
  · cases hi with
    | none => exact Int.le_refl _
    | some v => dsimp only; split <;> omega
theorem stepG_len (items : List Value) (lo hi : Option Int) {c : Int} (hc : 2 ≤ c ∨ c = -1) : (stepG items lo hi c).length ≤ items.length := by
  unfold stepG
  refine Nat.le_trans (List.length_filterMap_le _ _) ?_
  rw [List.length_range]
  unfold Builtin.Slice.slicePlaces
  rcases hc with hc | rfl
  · obtain ⟨h1, h2⟩ := adj_pos lo hi (n := items.length) hc
    generalize (Builtin.Slice.sliceAdjust lo hi c items.length).1 = a at *
    generalize (Builtin.Slice.sliceAdjust lo hi c items.length).2 = b at *
    rw [if_pos (show c > 0 by omega)]
    split
    · have : (b - a - 1) / c ≤ b - a - 1 := Int.ediv_le_self _ (by omega)
      omega
    · simp
  · obtain ⟨h1, h2⟩ := adj_neg lo hi (n := items.length)
    generalize (Builtin.Slice.sliceAdjust lo hi (-1) items.length).1 = a at *
    generalize (Builtin.Slice.sliceAdjust lo hi (-1) items.length).2 = b at *
    rw [if_neg (show ¬ (-1 : Int) > 0 by omega)]
    split
    · have : (a - b - 1) / (- -1) = a - b - 1 := by rw [Int.neg_neg, Int.ediv_one]
      omega
    · simp
theorem getItem_tuple_step {t sl : Addr} {items : List Value} {vl vu vc : Value} {lo hi : Option Int} {c : Int} {Q : Value → Shared → Prop} (ht : IsTup s.heap t items.toArray) (hs : s.heap.IsSliceOf sl vl vu vc) (pl : IsPart vl lo) (pu : IsPart vu hi) (pc : IsPart vc (some c)) (hc : 2 ≤ c ∨ c = -1)
    (h : Q (.ref s.heap.objs.size) { s with heap := s.heap.push { cls := .type "tuple", data := .seq (stepG items lo hi c).toArray } })
    (hsz : items.length ≤ sizeLine) : wpAny (model prog w) A (getItem (.ref t) (.ref sl)) Q E s := by
  have htake : sizeOk (.seq (stepG items lo hi c).toArray) := by
    show (stepG items lo hi c).toArray.size ≤ sizeLine
    rw [List.size_toArray]
    exact Nat.le_trans (stepG_len _ _ _ hc) hsz
  obtain ⟨os, hos, hcs, hds⟩ := id hs
  have hTs : s.TypeIs (.ref sl) "slice" := ⟨os, hos, hcs⟩
  unfold getItem
  try with_reducible refine wpAny_holding ?_
  first | refine wpAny_bind (wpAny_pure ?_) | skip
  refine wpAny_bind (wpAny_sequenceKey ht.typeIs (by decide) ?_)
  refine wpAny_bind (wpAny_callSpecial?_slot (name := Str.ofString "__getitem__") ht.typeIs PyProof.Rows.slot_tuple_getitem
    (wpAny_call_entry PyProof.Rows.slot_tuple_getitem ht.typeIs entry_tuple_getitem ?_ (args_tuple_getitem _ _)))
  show wpAny _ _ (Builtin.Tuple.tupleItemsOf (.ref t) >>= _) _ _ s
  refine wpAny_bind (tupleItemsOf_ ht ?_)
  refine wpAny_bind (wpAny_typeOf hTs ?_)
  rw [if_pos (by decide)]
  refine wpAny_bind (sliceApplied_step hs pl pu pc (by omega) ?_)
  have hno : ¬ (((Builtin.Slice.sliceAdjust lo hi c items.toArray.size).1 == 0 && c == 1 && Builtin.Slice.slicePlaces (Builtin.Slice.sliceAdjust lo hi c items.toArray.size).1 (Builtin.Slice.sliceAdjust lo hi c items.toArray.size).2 c == items.toArray.size) = true) := by
    intro q
    rw [Bool.and_eq_true, Bool.and_eq_true] at q
    have : c = 1 := eq_of_beq q.1.2
    omega
  show wpAny _ _ (if ((Builtin.Slice.sliceAdjust lo hi c items.toArray.size).1 == 0 && c == 1 && Builtin.Slice.slicePlaces (Builtin.Slice.sliceAdjust lo hi c items.toArray.size).1 (Builtin.Slice.sliceAdjust lo hi c items.toArray.size).2 c == items.toArray.size) = true then _ else _) _ _ s
  rw [if_neg hno]
  have e : ((List.range (Builtin.Slice.slicePlaces (Builtin.Slice.sliceAdjust lo hi c items.toArray.size).1 (Builtin.Slice.sliceAdjust lo hi c items.toArray.size).2 c)).filterMap fun (k : Nat) => items.toArray[((Builtin.Slice.sliceAdjust lo hi c items.toArray.size).1 + (k : Int) * c).toNat]?) = stepG items lo hi c := by
    unfold stepG
    simp
  rw [e]
  first
    | exact wpAny_bind (m := Builtin.Tuple.tupleExact _) (wpAny_newObj_type (wpAny_pure ⟨_, rfl, wpAny_pure h⟩) htake)
    | exact wpAny_bind (m := Builtin.Tuple.tupleExact _) (wpAny_newObj_type (wpAny_bind (wpAny_pure (wpAny_pure ⟨_, rfl, wpAny_pure h⟩))) htake)
    | exact wpAny_bind (wpAny_bind (m := Builtin.Tuple.tupleExact _) (wpAny_newObj_type (wpAny_pure (wpAny_pure ⟨_, rfl, wpAny_pure h⟩)) htake))
    | exact wpAny_bind (wpAny_bind (m := Builtin.Tuple.tupleExact _) (wpAny_newObj_type (wpAny_pure ⟨_, rfl, wpAny_pure h⟩) htake))
end
theorem stepG_len' {α : Type} (items : List α) (lo hi : Option Int) {c : Int} (hc : 2 ≤ c ∨ c = -1) : (stepG items lo hi c).length ≤ items.length := by
  have h := stepG_len (items.map fun _ => Value.none) lo hi hc
  rw [List.length_map] at h
  have e : (stepG (items.map fun _ => Value.none) lo hi c).length = (stepG items lo hi c).length := by
    unfold stepG
    rw [List.length_map]
    generalize List.range _ = l
    induction l with
    | nil => rfl
    | cons k l ih =>
      rw [List.filterMap_cons, List.filterMap_cons, List.getElem?_map]
      cases items[((Builtin.Slice.sliceAdjust lo hi c items.length).1 + (k : Int) * c).toNat]? with
      | none => simpa using ih
      | some x => simpa using ih
  rw [← e]
  exact h
theorem stepG_none {α : Type} (items : List α) : stepG items none none (-1) = items.reverse := by
  unfold stepG Builtin.Slice.sliceAdjust Builtin.Slice.slicePlaces
  simp only [show (-1 : Int) < 0 by omega, if_true, show ¬ ((-1 : Int) > 0) by omega, if_false]
  have e : (if (items.length : Int) - 1 > -1 then ((items.length : Int) - 1 - -1 - 1) / (- -1) + 1 else 0).toNat = items.length := by
    split
    · have : ((items.length : Int) - 1 - -1 - 1) / (- -1) = (items.length : Int) - 1 - -1 - 1 := by rw [Int.neg_neg, Int.ediv_one]
      omega
    · omega
  rw [e]
  apply List.ext_getElem?
  intro i
  have key : ∀ n, n ≤ items.length → (List.range n).filterMap (fun (k : Nat) => items[((items.length : Int) - 1 + (k : Int) * -1).toNat]?) = items.reverse.take n := by
    intro n
    induction n with
    | zero => intro _; simp
    | succ n ih =>
      intro hn
      rw [List.range_succ, List.filterMap_append, ih (by omega), List.take_succ]
      congr 1
      have e2 : ((items.length : Int) - 1 + (n : Int) * -1).toNat = items.length - 1 - n := by omega
      simp only [List.filterMap_cons, List.filterMap_nil, e2]
      rw [List.getElem?_reverse (by omega)]
      cases items[items.length - 1 - n]? <;> rfl
  rw [key _ (Nat.le_refl _), List.take_of_length_le (by simp)]
theorem vals_step {xs : List V} {us : List Value} (h : Vals xs us) (lo hi : Option Int) (c : Int) : Vals (stepG xs lo hi c) (stepG us lo hi c) := by
  unfold stepG
  rw [h.length]
  generalize List.range _ = l
  induction l with
  | nil => exact .nil
  | cons k l ih =>
    rw [List.filterMap_cons, List.filterMap_cons]
    generalize ((Builtin.Slice.sliceAdjust lo hi c us.length).1 + (k : Int) * c).toNat = i
    cases hx : xs[i]? with
    | none =>
      have : us[i]? = none := by
        rw [List.getElem?_eq_none_iff] at hx ⊢
        rw [← h.length]
        exact hx
      rw [this]
      exact ih
    | some x =>
      obtain ⟨u, hu, ru⟩ := h.get hx
      rw [hu]
      exact .cons ru ih
theorem RepL.step {K : PySem.W.Frag} {M : MM} {H : Hp} {ds : List PyData} {vs : List V} (h : RepL K M H ds vs) (lo hi : Option Int) (c : Int) : RepL K M H (stepG ds lo hi c) (stepG vs lo hi c) := by
  unfold stepG
  rw [h.length]
  generalize List.range _ = l
  induction l with
  | nil => rfl
  | cons k l ih =>
    rw [List.filterMap_cons, List.filterMap_cons]
    generalize ((Builtin.Slice.sliceAdjust lo hi c vs.length).1 + (k : Int) * c).toNat = i
    cases hx : ds[i]? with
    | none =>
      have : vs[i]? = none := by
        rw [List.getElem?_eq_none_iff] at hx ⊢
        rw [← h.length]
        exact hx
      rw [this]
      exact ih
    | some x =>
      obtain ⟨u, hu, ru⟩ := h.get hx
      rw [hu]
      exact ⟨u, _, rfl, ru, ih⟩
/-- x[lo:hi:c], x a tuple (or, where c is -1 and nothing else is written, a list) -/
def tStep (K : PySem.W.Frag) (te : TE) (tl th tc : TO) : TE := fun σ H Q => te σ H fun x H1 => tl σ H1 fun lo H2 => th σ H2 fun hi H3 => tc σ H3 fun c H4 =>
  (∃ a xs, ∃ c' : Int, x = .ref a ∧ SqT K H4 a xs ∧ c = some c' ∧ (2 ≤ c' ∨ c' = -1) ∧ ∀ p, H4 p = none → Q (.ref p) (upd H4 p (.tup (stepG xs lo hi c')))) ∨
  ∃ a xs, x = .ref a ∧ SqL K H4 a xs ∧ lo = none ∧ hi = none ∧ c = some (-1) ∧ ∀ p, H4 p = none → Q (.ref p) (upd H4 p (.lst xs.reverse))
theorem pe_step {X : Cx} {e : Expr} {l h : Option Expr} {st : Expr} {p3 pos : Pos} {te : TE} {tl th tc : TO} (he : PE X e te) (hl : PO X l tl) (hh : PO X h th) (hc : PO X (some st) tc) : PE X (.Subscript e (.Slice l h (some st) p3) pos) (tStep X.K te tl th tc) := by
  refine ⟨fun pins s σ H Q I q => ?_⟩
  refine Subscript_ (thn (he.run pins s σ H _ I q) fun v s1 ⟨x, H1, I1, r1, q1⟩ => ?_)
  refine wpAny_Slice (thn (hl.run pins s1 σ H1 _ I1 q1) fun vl s2 ⟨lo, H2, I2, pl, q2⟩ => ?_)
  refine thn (hh.run pins s2 σ H2 _ I2 q2) fun vu s3 ⟨hi, H3, I3, pu, q3⟩ => ?_
  refine thn (hc.run pins s3 σ H3 _ I3 q3) fun vs s4 ⟨c, H4, I4, ps, q4⟩ => ?_
  have I5 : Inv X pins σ H4 { s4 with heap := s4.heap.push { cls := .type "slice", data := .fields #[vl, vu, vs] } } := I4.kept (t' := s4.toks) fun b ob q => Heap.get?_push_of_some _ q
  rcases q4 with ⟨a, xs, c', rfl, hx, rfl, hc', q4⟩ | ⟨a, xs, rfl, hx, rfl, rfl, rfl, q4⟩
  · cases r1
    obtain ⟨its, r, ht, hz⟩ := I5.tuple hx
    show wpAny (model X.prog X.w) X.A (subscriptTail e (.Slice l h (some st) p3) (.ref a) (.ref s4.heap.objs.size)) (EP X pins σ Q) X.xe { s4 with heap := s4.heap.push { cls := .type "slice", data := .fields #[vl, vu, vs] } }
    refine tail_any (ops := [.ref a, .ref s4.heap.objs.size]) ht.typeIs (PyProof.Rows.slot_tuple_getitem.lookup) ?_ (by with_unfolding_all rfl)
    refine getItem_tuple_step (items := its) ht (Heap.IsSliceOf.new _ vl vu vs) pl pu ps hc' ?_ (by rw [← r.length]; exact hz)
    refine ⟨.ref _, _, I5.laid (t' := s4.toks) (o := .tup (stepG xs lo hi c')) (fun b ob q => Heap.get?_push_of_some _ q) (Nat.le_refl _) ?_, rfl, q4 _ (I5.hok.fresh (Nat.le_refl _))⟩
    exact ⟨Nat.le_trans (stepG_len' xs lo hi hc') hz, _, vals_step r lo hi c', IsTup.new _ _⟩
  · cases r1
    obtain ⟨its, r, ht, hz⟩ := I5.list hx
    have hlen := r.length
    show wpAny (model X.prog X.w) X.A (subscriptTail e (.Slice l h (some st) p3) (.ref a) (.ref s4.heap.objs.size)) (EP X pins σ Q) X.xe { s4 with heap := s4.heap.push { cls := .type "slice", data := .fields #[vl, vu, vs] } }
    refine tail_any (ops := [.ref a, .ref s4.heap.objs.size]) ht.isList.typeIs (PySem.slot_list_getitem.lookup) ?_ (by with_unfolding_all rfl)
    refine wpAny_getItem_list_slice ht.isList (Heap.IsSliceOf.new _ vl vu vs) pl pu ps (by decide) ?_ (by rw [List.size_toArray]; omega)
    rw [PySem.W.krv_pick]
    refine ⟨.ref _, _, I5.laid (t' := s4.toks) (o := .lst xs.reverse) (fun b ob q => Heap.get?_push_of_some _ q) (Nat.le_refl _) ?_, rfl, q4 _ (I5.hok.fresh (Nat.le_refl _))⟩
    exact ⟨by rw [List.length_reverse]; exact hz, _, 0, r.reverse, Heap.get?_push_size _ rfl⟩
theorem s_slst {X : Cx} {T : List (Addr × Str)} {W : WX} {C : Nat → List Val → Sto → R Val} {a st : LE} {lo hi : Option LE} {e t : Expr} {l h : Option Expr} {p2 p : Pos} (ha : PE X e (rE X T W (evE C a))) (hl : PO X l (rO X T W (evP C lo))) (hh : PO X h (rO X T W (evP C hi))) (ht : PE X t (rE X T W (evE C st))) : PE X (.Subscript e (.Slice l h (some t) p2) p) (rE X T W (evE C (.slst a lo hi st))) := by
  refine PE.imp (pe_step ha hl hh (po_some ht)) fun σ H Q q => ?_
  refine rd_mono (rd_bind (rep := RepV X.K) (f := fun ρ v S => (evP C lo ρ S).bind fun l S => (evP C hi ρ S).bind fun h S => (evE C st ρ S).bind fun c S => match c with
    | .d (.int c) => stpV v l h (some c) S
    | _ => .no) q) fun x H1 ⟨ρ, v, S, M, e, s, r, p⟩ => ?_
  refine ⟨ρ, S, M, e, s, Post.mono (post_step (rep := fun _ _ a b => a = b) e s p) fun lv H2 ⟨w, S', M', e', x', s', r', p'⟩ => ?_⟩
  subst r'
  refine ⟨ρ, S', M', e', s', Post.mono (post_step (rep := fun _ _ a b => a = b) e' s' p') fun hv H3 ⟨w2, S2, M2, e2, x2, s2, r2, p2⟩ => ?_⟩
  subst r2
  refine ⟨ρ, S2, M2, e2, s2, Post.mono (post_step (rep := RepV X.K) e2 s2 p2) fun cv H4 ⟨u, S3, M3, e3, x3, s3, r3, p3⟩ => ?_⟩
  split at p3
  · rename_i c
    refine ⟨c, r3, ?_⟩
    have p4 : Post X T W σ M3 H4 (RepV X.K) (match toD v S3 with
      | some x => okD (stpD x w w2 (some c)) S3
      | none => .no) Q := p3
    have rv := ((r.ext x').ext x2).ext x3
    cases hd : toD v S3 with
    | none => rw [hd] at p4; exact (show False from p4).elim
    | some d =>
      rw [hd] at p4
      obtain ⟨z, hz, fin⟩ := post_okD p4
      obtain ⟨_, h1, h2⟩ := toD_rep s3 hd rv
      cases d with
      | tuple ds =>
        simp only [stpD] at hz
        split at hz
        · rename_i hc
          cases hz
          obtain ⟨a, vs, rfl, h3, h4⟩ := (show ∃ a vs, x = .ref a ∧ SqT X.K H4 a vs ∧ RepL X.K M3 H4 ds vs from h2 (by intro _ z; cases z))
          exact .inl ⟨a, vs, c, rfl, h3, rfl, hc, fun p hp => fin _ M3 _ (ext_new hp) (s3.new hp) (rep_new_tup hp (h4.step _ _ _))⟩
        · cases hz
      | list ds =>
        simp only [stpD] at hz
        split at hz
        · rename_i hc
          cases hz
          obtain ⟨rfl, rfl, rfl⟩ := hc
          obtain ⟨a, vs, rfl, h3, h4⟩ := h1 ds rfl
          refine .inr ⟨a, vs, rfl, SqL.of h3, rfl, rfl, rfl, fun p hp => fin _ M3 _ (ext_new hp) (s3.new hp) (rep_new_lst s3 hp ?_)⟩
          rw [← stepG_none ds, ← stepG_none vs]
          exact h4.step none none (-1)
        · cases hz
      | _ => simp [stpD] at hz
  · exact (show False from p3).elim
/-! ### a written dict, looked up -/
def litV : PyData → V
  | .bool b => .bl b
  | .int i => .int i
  | .str z => .str z
  | _ => .non
def litP (d : PyData) : TE := match d with
  | .tuple ds => fun _ H Q => ∀ q, H q = none → Q (.ref q) (upd H q (.tup (ds.map litV)))
  | d => fun _ H Q => Q (litV d) H
section
variable {X : Cx}
theorem litC_pe {e : Expr} {d : PyData} (h : litC e = some d) : PE X e (fun _ H Q => Q (litV d) H) ∧ (∀ ds, d ≠ .tuple ds) ∧ (∀ K M H, Rep K M H d (litV d)) ∧ ∀ v p, e ≠ .Starred v p := by
  unfold litC at h
  split at h
  · cases h; exact ⟨pe_non, (by intro _ z; cases z), fun _ _ _ => rfl, (by intro _ _ z; cases z)⟩
  · cases h; exact ⟨pe_bl, (by intro _ z; cases z), fun _ _ _ => rfl, (by intro _ _ z; cases z)⟩
  · cases h; exact ⟨pe_int, (by intro _ z; cases z), fun _ _ _ => rfl, (by intro _ _ z; cases z)⟩
  · cases h; exact ⟨pe_str, (by intro _ z; cases z), fun _ _ _ => rfl, (by intro _ _ z; cases z)⟩
  · cases h
theorem litCs_pa : ∀ {es : List Expr} {ds : List PyData}, litCs es = some ds → PA X es (fun _ H Q => Q (ds.map litV) H) ∧ (∀ K M H, RepL K M H ds (ds.map litV)) ∧ es.length = ds.length
  | [], ds, h => by
    simp only [litCs, Option.some.injEq] at h
    subst h
    exact ⟨PA.imp pa_nil fun _ _ _ q => q, fun _ _ _ => rfl, rfl⟩
  | e :: es, ds, h => by
    simp only [litCs] at h
    split at h
    · rename_i d ds' h1 h2
      cases h
      obtain ⟨p1, _, p3, p4⟩ := litC_pe (X := X) h1
      obtain ⟨q1, q2, q3⟩ := litCs_pa h2
      exact ⟨PA.imp (pa_cons p1 q1 (star_of p4 _ _)) fun _ _ _ q => q, fun K M H => ⟨_, _, rfl, p3 K M H, q2 K M H⟩, by simp [q3]⟩
    · cases h
theorem litT_pe {e : Expr} {d : PyData} (h : litT e = some d) (hl : ∀ es k p, e = .Tuple es k p → es.length ≤ 1000) : PE X e (litP d) ∧ ((∃ ds, d = .tuple ds ∧ ∀ K M H, RepL K M H ds (ds.map litV)) ∨ ((∀ ds, d ≠ .tuple ds) ∧ ∀ K M H, Rep K M H d (litV d))) := by
  unfold litT at h
  split at h
  · rename_i es k p
    obtain ⟨ds, h1, rfl⟩ := Option.map_eq_some_iff.mp h
    obtain ⟨q1, q2, q3⟩ := litCs_pa (X := X) h1
    refine ⟨PE.imp (pe_tup q1) fun σ H Q q => ?_, .inl ⟨ds, rfl, q2⟩⟩
    refine ⟨?_, q⟩
    rw [List.length_map, ← q3]
    exact Nat.le_trans (hl es k p rfl) (Nat.le_trans (by decide) lim_line)
  · obtain ⟨p1, p2, p3, _⟩ := litC_pe (X := X) h
    refine ⟨?_, .inr ⟨p2, p3⟩⟩
    cases d with
    | tuple ds => exact absurd rfl (p2 ds)
    | _ => exact p1
end
/-- the heap has more objects -/
def Grow (H H' : Hp) : Prop := ∀ b u, H b = some u → H' b = some u
section
variable {T : List (Addr × Str)} {K : PySem.W.Frag} {M : MM} {H H' : Hp} {S : Sto}
theorem ext_grow (g : Grow H H') : Ext M H M H' where
  len := Nat.le_refl _
  old := fun _ _ => .inr rfl
  new := fun _ h => .inl h
  zz := rfl
  lst := fun a xs h _ => g _ _ h
  tup := fun a xs h => g _ _ h
  frz := fun a o u h => g _ _ h
  dk := fun a xs h _ => g _ _ h
  nn := fun a h z => by
    cases q : H a with
    | none => exact h q
    | some u => rw [g _ _ q] at z; cases z
theorem StoreOk.grow (s : StoreOk T K M H S) (g : Grow H H') : StoreOk T K M H' S where
  len := s.len
  inj := s.inj
  ent := fun n xs e => by
    obtain ⟨a, vs, h1, h2, h3⟩ := s.ent n xs e
    exact ⟨a, vs, h1, g _ _ h2, h3.ext (ext_grow g)⟩
  gon := s.gon
  prv := fun a h => by
    obtain ⟨h1, vs, h2⟩ := s.prv a h
    exact ⟨h1, vs, g _ _ h2⟩
  tab := s.tab.ext g
end
/-- the pairs of a display, with what they are -/
inductive DPs (K : PySem.W.Frag) (M : MM) (H : Hp) : List (Str × PyData) → List (Str × V) → Prop where
  | nil : DPs K M H [] []
  | cons {k : Str} {d : PyData} {v : V} {t : List (Str × PyData)} {ps : List (Str × V)} : Rep K M H d v → DPs K M H t ps → DPs K M H ((k, d) :: t) ((k, v) :: ps)
theorem DPs.ext {K : PySem.W.Frag} {M M' : MM} {H H' : Hp} (e : Ext M H M' H') {t : List (Str × PyData)} {ps : List (Str × V)} (h : DPs K M H t ps) : DPs K M' H' t ps := by
  induction h with
  | nil => exact .nil
  | cons r _ ih => exact .cons (r.ext e) ih
theorem DPs.get {K : PySem.W.Frag} {M : MM} {H : Hp} {t : List (Str × PyData)} {ps : List (Str × V)} (h : DPs K M H t ps) {z : Str} {d : PyData} (e : t.lookup z = some d) : ∃ v, ps.lookup z = some v ∧ Rep K M H d v := by
  induction h with
  | nil => cases e
  | @cons k d' v t ps r _ ih =>
    rw [List.lookup_cons] at e ⊢
    cases hk : z == k with
    | true => rw [hk] at e; cases e; exact ⟨v, rfl, r⟩
    | false => rw [hk] at e; exact ih e
theorem DPs.len {K : PySem.W.Frag} {M : MM} {H : Hp} {t : List (Str × PyData)} {ps : List (Str × V)} (h : DPs K M H t ps) : t.length = ps.length := by
  induction h with
  | nil => rfl
  | cons _ _ ih => simp [ih]
theorem disp_pps {X : Cx} {pos : Pos} : ∀ {t : List (Str × PyData)} {ks : List (Option Expr)} {vs : List Expr}, dispEq t ks vs = true → ∃ trs, PPs X pos ks vs trs ∧ ks.all (·.isSome) = true ∧ ks.length = vs.length ∧ ks.length = t.length ∧
    ∀ (σ : L2.St) (H : Hp) (R : List (V × V) → Hp → Prop), (∀ H' (ps : List (Str × V)), Grow H H' → (∀ (K : PySem.W.Frag) (M : MM) (H2 : Hp), (∀ b xs, H' b = some (.tup xs) → H2 b = some (.tup xs)) → DPs K M H2 t ps) → R (ps.map fun p => (.str p.1, p.2)) H') → tPairs trs σ H R
  | [], [], [], _ => ⟨[], pps_nil, rfl, rfl, rfl, fun σ H R h => h H [] (fun _ _ e => e) fun _ _ _ _ => .nil⟩
  | [], _ :: _, _, h => by simp [dispEq] at h
  | [], [], _ :: _, h => by simp [dispEq] at h
  | (k, d) :: t, ks, vs, h => by
    unfold dispEq at h
    split at h
    · cases (show _ from by assumption : (k, d) :: t = [])
    · rename_i k' d' r z j p ks' v vs' e1
      cases e1
      simp only [Bool.and_eq_true, decide_eq_true_eq] at h
      obtain ⟨⟨⟨rfl, h0⟩, h1⟩, h2⟩ := h
      cases hv : litT v with
      | none => rw [hv] at h1; cases h1
      | some d2 =>
        rw [hv] at h1
        obtain rfl := pdEq_ok h1
        obtain ⟨trs, p1, p2, p3, p4, p5⟩ := disp_pps (X := X) (pos := pos) h2
        obtain ⟨q1, q2⟩ := litT_pe (X := X) hv (fun es kk pp e => by subst e; simpa [tupSmall] using h0)
        refine ⟨_, pps_cons pe_str q1 p1, by simpa using p2, by simp [p3], by simp [p4], fun σ H R hR => ?_⟩
        show litP d σ H fun y H2 => tPairs trs σ H2 fun ps H3 => R ((.str k, y) :: ps) H3
        rcases q2 with ⟨ds, rfl, q2⟩ | ⟨q3, q2⟩
        · intro q hq
          refine p5 σ _ _ fun H' ps g hd => ?_
          have gq := g q _ upd_same
          refine hR H' ((k, .ref q) :: ps) (fun b u e => g b u (upd_keep hq b u e)) fun K M H2 hT => .cons ⟨q, ds.map litV, rfl, .inl (.inl (hT _ _ gq)), q2 K M H2⟩ (hd K M H2 hT)
        · have e : litP d σ H = fun Q => Q (litV d) H := by
            cases d with
            | tuple ds => exact absurd rfl (q3 ds)
            | _ => rfl
          rw [e]
          exact p5 σ H _ fun H' ps g hd => hR H' ((k, litV d) :: ps) g fun K M H2 hT => .cons (q2 K M H2) (hd K M H2 hT)
    · cases h
theorem merge_nd {kvs : List (Key × V)} : ∀ {acc : List (Key × V)}, (kvs.map (·.1)).Nodup → (∀ p ∈ kvs, ∀ q ∈ acc, q.1 ≠ p.1) → mergeK acc kvs = acc ++ kvs := by
  unfold mergeK
  induction kvs with
  | nil => intro acc _ _; simp
  | cons p r ih =>
    intro acc hn hd
    have hn := List.nodup_cons.mp hn
    have e : putK acc p.1 p.2 = acc ++ [p] := by
      unfold putK
      rw [if_neg]
      simp only [List.any_eq_true, decide_eq_true_eq, not_exists, not_and]
      exact fun q hq => hd p List.mem_cons_self q hq
    rw [List.foldl_cons, e, ih hn.2 fun q hq z hz => ?_]
    · simp
    · rcases List.mem_append.mp hz with h | h
      · exact hd q (List.mem_cons_of_mem _ hq) z h
      · rw [List.mem_singleton.mp h]
        intro e2
        exact hn.1 (List.mem_map.mpr ⟨q, hq, e2.symm⟩)
theorem valV_str : ∀ {ps : List (Str × V)} {z : Str}, valV (ps.map fun p => ((Sum.inr p.1 : Key), p.2)) (Sum.inr z) = ps.lookup z
  | [], z => rfl
  | p :: ps, z => by
    rw [List.map_cons, List.lookup_cons]
    by_cases h : z = p.1
    · subst h
      rw [valV_pos rfl]
      simp
    · rw [valV_neg (by intro e; exact h (Sum.inr.inj e).symm), valV_str]
      have : (z == p.1) = false := beq_eq_false_iff_ne.mpr h
      rw [this]
theorem DPs.keys {K : PySem.W.Frag} {M : MM} {H : Hp} {t : List (Str × PyData)} {ps : List (Str × V)} (h : DPs K M H t ps) : t.map (·.1) = ps.map (·.1) := by
  induction h with
  | nil => rfl
  | cons _ _ ih => simp [ih]
theorem noSl_of {f : Expr} (h : slicy f = false) : NoSl f := by
  intro o i
  cases f <;> first | rfl | (simp [slicy] at h)
theorem xs_ddix {t : List (Str × PyData)} : XS (.ddix t) := by
  intro X T W c F k g e fs es h hp
  unfold subs at h
  split at h
  all_goals first | (cases h; done) | (rename_i q1; cases q1; done) | skip
  rename_i q1
  cases q1
  have h' := if_some h
  clear h
  obtain ⟨h, h3⟩ := h'
  subst h3
  simp only [Bool.and_eq_true, decide_eq_true_eq, Bool.not_eq_true'] at h
  obtain ⟨⟨⟨h0, h1⟩, h2⟩, h3, h4⟩ := h
  obtain ⟨trs, p1, p2, p3, p4, p5⟩ := disp_pps (X := X) (pos := _) h0
  cases hp with
  | cons he hs hr =>
    cases hr
    refine PE.imp (pe_dget (by have := g.units; omega) (pe_disp p1 p2 p3 (by intro z; rw [z] at p4; simp at p4; omega) (by omega)) he (noSl_of h1)) fun σ H Q q => ?_
    intro p hp
    refine p5 σ _ _ fun H' ps gr hd => ?_
    have gp := gr p _ upd_same
    refine ⟨gp, ps.map fun p => ((Sum.inr p.1 : Key), p.2), by simp [kV], ?_, ?_⟩
    · rw [List.length_map, ← (hd X.K ⟨[], []⟩ _ fun _ _ e => e).len]; exact h4
    · have hkeys : ps.map (·.1) = t.map (·.1) := ((hd X.K ⟨[], []⟩ _ fun _ _ e => e).keys).symm
      have hm : mergeK [] (ps.map fun p => ((Sum.inr p.1 : Key), p.2)) = ps.map fun p => ((Sum.inr p.1 : Key), p.2) := by
        rw [merge_nd ?_ (fun _ _ q hq => by cases hq)]
        · rfl
        · rw [List.map_map]
          have : ((fun p : Key × V => p.1) ∘ fun p : Str × V => ((Sum.inr p.1 : Key), p.2)) = (fun z => (Sum.inr z : Key)) ∘ fun p : Str × V => p.1 := rfl
          rw [this, ← List.map_map, hkeys]
          exact List.pairwise_map.mpr (List.Pairwise.imp (fun h e => h (Sum.inr.inj e)) h2)
      rw [hm]
      have gg : Grow H (upd H' p (.dK (ps.map fun p => ((Sum.inr p.1 : Key), p.2)))) := fun b u e => by
        rw [upd_ne (ne_of_none e hp)]
        exact gr b u (upd_keep hp b u e)
      obtain ⟨ρ, S, M, e, s, po⟩ := q
      have po : Post X T W σ M H (RepV X.K) (evE (callF F k) (.ext (.ddix t) [_]) ρ S) Q := po
      rw [ev1] at po
      refine ⟨ρ, S, M, e.ext (ext_grow gg), s.grow gg, Post.mono (post_step (rep := RepV X.K) (e.ext (ext_grow gg)) (s.grow gg) (Post.ext (ext_grow gg) po)) fun y H2 ⟨w, S', M', e', x', s', r', p'⟩ => ?_⟩
      obtain ⟨xs, z, hd1, hz, fin⟩ := xo_D (by simp) p'
      obtain ⟨d, rfl, e2⟩ := allD1 hd1
      cases d with
      | str u =>
        have hz : t.lookup u = some z := hz
        obtain ⟨_, _, h6⟩ := toD_rep s' e2 r'
        obtain rfl : y = .str u := h6 (by intro _ z; cases z)
        have hdk := x'.dk p _ upd_same (s.fresh hp)
        have hT : ∀ b xs, H' b = some (.tup xs) → H2 b = some (.tup xs) := fun b xs e => x'.tup _ _ (by rw [upd_ne fun z => by rw [z, gp] at e; cases e]; exact e)
        obtain ⟨v, h7, h9⟩ := (hd X.K M' H2 hT).get hz
        refine ⟨p, v, rfl, ?_, fin v M' H2 (Ext.refl _ _) s' h9⟩
        have h10 := DGet.k (k := Sum.inr u) hdk
        rw [valV_str, h7] at h10
        exact h10
      | _ => cases hz
theorem xs_madd : XS .madd := by
  intro X T W c F k g e fs es h hp
  unfold subs at h
  split at h
  all_goals first | (cases h; done) | (rename_i q1; cases q1; done) | skip
  simp only [Option.some.injEq] at h
  subst h
  cases hp with
  | cons he hs hr =>
    cases hr with
    | cons he2 hs2 hr =>
      cases hr
      refine PE.imp (pe_op op_cat he he2) fun σ H Q q => ?_
      refine rd_mono (xo2 q) fun x H1 q1 => rd_mono q1 fun y H2 ⟨v, w, S, M, s, r, r2, p⟩ => ?_
      have p : Post X T W σ M H2 (RepV X.K) (match allD S [v, w] with
        | some [.list xs, .list ys] => if xs.length + ys.length ≤ lim then ret1 true (.list (xs ++ ys)) S else .no
        | _ => .no) Q := p
      split at p
      · rename_i xs ys hd
        obtain ⟨d, d2, e1, e2, e3⟩ := allD2 hd
        cases e1
        split at p
        · rename_i hl
          obtain ⟨_, h2, _⟩ := toD_rep s e2 r
          obtain ⟨a, vs, rfl, h3, h4⟩ := h2 xs rfl
          obtain ⟨_, h2', _⟩ := toD_rep s e3 r2
          obtain ⟨b, ws, rfl, h5, h6⟩ := h2' ys rfl
          exact ⟨a, b, vs, ws, rfl, rfl, h3, h5, by rw [← h4.length, ← h6.length]; exact Nat.le_trans hl lim_line, fun l hl => ret1_G s (h4.append h6) p hl⟩
        · exact (show False from p).elim
      · exact (show False from p).elim
theorem xs_mmul : XS .mmul := by
  intro X T W c F k g e fs es h hp
  unfold subs at h
  split at h
  all_goals first | (cases h; done) | (rename_i q1; cases q1; done) | skip
  simp only [Option.some.injEq] at h
  subst h
  cases hp with
  | cons he hs hr =>
    cases hr with
    | cons he2 hs2 hr =>
      cases hr
      refine PE.imp (pe_op op_rep he he2) fun σ H Q q => ?_
      refine rd_mono (xo2 q) fun x H1 q1 => rd_mono q1 fun y H2 ⟨v, w, S, M, s, r, r2, p⟩ => ?_
      have p : Post X T W σ M H2 (RepV X.K) (match allD S [v, w] with
        | some [.list xs, .int k] => if xs.length ≤ 1000 ∧ 0 ≤ k ∧ k ≤ 1000 then ret1 true (.list (List.replicate k.toNat xs).flatten) S else .no
        | _ => .no) Q := p
      split at p
      · rename_i xs k' hd
        obtain ⟨d, d2, e1, e2, e3⟩ := allD2 hd
        cases e1
        split at p
        · rename_i hl
          obtain ⟨_, h2, _⟩ := toD_rep s e2 r
          obtain ⟨a, vs, rfl, h3, h4⟩ := h2 xs rfl
          obtain ⟨_, _, h2'⟩ := toD_rep s e3 r2
          obtain rfl : y = .int k' := h2' (by intro _ z; cases z)
          refine ⟨a, k', vs, rfl, rfl, h3, by omega, by omega, ?_, fun l hl => ret1_G s (h4.rep _) p hl⟩
          rw [← h4.length]
          have h1 : xs.length * k'.toNat ≤ 1000 * 1000 := Nat.mul_le_mul hl.1 (by omega)
          exact Nat.le_trans h1 lim_line
        · exact (show False from p).elim
      · exact (show False from p).elim
end Z

/-! enumerate of a tuple. -/
namespace Z
open PySem PySem.Spec PyProof.Rows L2
open AutoSeq1 (wpAny_loadPart')
theorem meets_enumerate_newT (l : Addr) (items : Array Value) (n : Nat) (dct : Option Addr) (sl : Array (Option Value)) :
    Meets (Builtin.«enumerate.__new__» ⟨[.type "enumerate", .ref l], []⟩) (fun _ R s => s.heap.get? l = some { cls := .type "tuple", dict := dct, data := .seq items n, slots := sl } ∧
      R (.ok (.ret (.ref (s.heap.push { cls := .type "tuple_iterator", data := .fields #[.ref l, .int 0 0] }).objs.size)))
        { s with heap := (s.heap.push { cls := .type "tuple_iterator", data := .fields #[.ref l, .int 0 0] }).push { cls := .type "enumerate", data := .fields #[.none, .bool false, .ref s.heap.objs.size, rawInt 0, .none, .none] } }) :=
  .of_wp fun prog w A R s h => by
    obtain ⟨hp, g, d, tk, os⟩ := s; obtain ⟨hl, h⟩ := h
    have hsub := sub_enumerate
    have hL : Heap.IsTuple (Shared.heap ⟨hp, g, d, tk, os⟩) l items := ⟨_, hl, rfl, n, rfl⟩
    wp_walk using wpAny_loadPart' hl
    refine wpAny_stack_any fun st => wpAny_pure ?_
    split
    · rename_i c _ _ _ _ _
      cases (c == Value.type "enumerate")
      · wp_walk using wpAny_loadPart' hl, wpAny_pyIter_tuple hL
        exact ⟨_, rfl, h⟩
      · wp_walk using wpAny_loadPart' hl, wpAny_pyIter_tuple hL
        exact ⟨_, rfl, h⟩
    · wp_walk using wpAny_loadPart' hl, wpAny_pyIter_tuple hL
      exact ⟨_, rfl, h⟩
section
variable {prog : Program} {w : World} {A : Around} {E : Value → Shared → Prop} {s : Shared}
theorem call_enumerate_tuple {l : Addr} {items : Array Value} {Q : Value → Shared → Prop} (hL : s.heap.IsTuple l items)
    (h : ∀ h', IsEnum h' (s.heap.objs.size + 1) s.heap.objs.size 0 .none → h'.IsTupleIter s.heap.objs.size l 0 → h'.objs.size = s.heap.objs.size + 2 →
      (∀ b o, s.heap.get? b = some o → h'.get? b = some o) → Q (.ref (s.heap.objs.size + 1)) { s with heap := h' }) :
    wpAny (model prog w) A (call (.type "enumerate") [.ref l]) Q E s := by
  obtain ⟨⟨c, dct, dt, sl⟩, hl, hc, n, hd⟩ := hL
  replace hc : c = .type "tuple" := hc
  replace hd : dt = .seq items n := hd
  subst hc hd
  refine callType_new F.called_enumerate (by decide) (F.typeCall_enumerate_1 _) (F.newCall_enumerate_1 _) (fun obj => F.args_object_init_2 obj _) F.entry_enumerate_new
    (meets_enumerate_newT l items n dct sl) ⟨hl, ?_⟩
  have hz : (s.heap.push { cls := .type "tuple_iterator", data := .fields #[.ref l, .int 0 0] }).objs.size = s.heap.objs.size + 1 := Heap.size_push ..
  show _ ∧ _
  rw [hz]
  have he : IsEnum ((s.heap.push { cls := .type "tuple_iterator", data := .fields #[.ref l, .int 0 0] }).push
      { cls := .type "enumerate", data := .fields #[.none, .bool false, .ref s.heap.objs.size, rawInt 0, .none, .none] }) (s.heap.objs.size + 1) s.heap.objs.size 0 .none := by
    have := Heap.get?_push_size (s.heap.push { cls := .type "tuple_iterator", data := .fields #[.ref l, .int 0 0] })
      (o := { cls := .type "enumerate", data := .fields #[.none, .bool false, .ref s.heap.objs.size, rawInt 0, .none, .none] }) rfl
    rw [hz] at this; exact this
  refine ⟨⟨_, he, rfl⟩, h _ he ⟨_, Heap.get?_push_of_some _ (Heap.get?_push_size _ rfl), rfl, rfl⟩ (by rw [Heap.size_push, hz]) fun b o y => Heap.get?_push_of_some _ (Heap.get?_push_of_some _ y)⟩
end
/-- the tuple at a, each item in a new pair -/
def IteT (K : PySem.W.Frag) (a : Addr) : It :=
  ⟨fun i H => ∃ (xs : List V) (x : V), SqT K H a xs ∧ xs[i]? = some x, fun i H v H' => ∃ T x, v = .ref T ∧ H T = none ∧ H' = upd H T (.tup [.int (i : Nat), x]) ∧ ∀ xs, SqT K H a xs → xs[i]? = some x, fun i H => ∃ xs : List V, SqT K H a xs ∧ xs.length ≤ i⟩
theorem turn_enumT {P : Program} {w : World} {K : PySem.W.Frag} {elts : List Expr} {kk : Nat} {tpos : Pos} (a e it : Addr) (hai : a ≠ it) (hae : a ≠ e) :
    Turn P w K (.Tuple elts kk tpos) (IteT K a) [e, it] e (fun i h => (∃ old, IsEnum h e it ((i : Nat) : Int) old) ∧ h.IsTupleIter it a i ∧ e ≠ it) where
  mem := by simp
  obj := fun i h st b hb => by
    obtain ⟨⟨old, he⟩, ⟨o, ho, hc, hd⟩, _⟩ := st
    have e' : b = e ∨ b = it := by simpa using hb
    rcases e' with z | z
    · rw [z]; exact ⟨_, he, fun v q => nomatch q⟩
    · rw [z]; exact ⟨o, ho, fun v q => by rw [hd] at q; cases q⟩
  keep := fun i h h' st k => let ⟨⟨old, he⟩, hi, hne⟩ := st; ⟨⟨old, k e (by simp) _ he⟩, hi.at fun o q => k it (by simp) o q, hne⟩
  item := by
    intro X hP hw hK hc i pins s σ H E I hf st hg
    subst hP hw hK
    obtain ⟨⟨old, he⟩, hit, hne⟩ := st
    obtain ⟨xs, x, hq, hx⟩ := hg
    obtain ⟨its, rv, p, hz⟩ := I.tuple hq
    obtain ⟨u, hu, ru⟩ := rv.get hx
    have hel : e < s.heap.objs.size := Heap.lt_size he
    have hil : it < s.heap.objs.size := by obtain ⟨_, q, _⟩ := hit; exact Heap.lt_size q
    have hh := I.ok.hd hc
    have hlt : i < its.toArray.size := by
      have := (List.getElem?_eq_some_iff.mp hu).1
      simpa using this
    have hin : e ∉ [it, a] := by
      intro z
      rcases List.mem_cons.mp z with q | q
      · exact hne q
      · exact hae (List.mem_singleton.mp q).symm
    refine wpAny_pyNext_enum_itemD (Draws.tuple (show X.A.in1.handled = none from hh) it a hai its.toArray) he ⟨hit, p⟩ hlt hne hin fun x' h' tk hP' ho hst' hT hsz hk => ?_
    have ex : x' = u := by
      have hP' : its.toArray[i]? = some x' := hP'
      rw [List.getElem?_toArray, hu] at hP'
      exact (Option.some.inj hP').symm
    subst ex
    refine ⟨_, rfl, wpAny_letOwnedTupleGo_enum (s := { s with heap := h', toks := tk + 1 }) ho fun h'' he' sb => ?_⟩
    have hT2 : h''.get? s.heap.objs.size = some { cls := .type "tuple", data := .seq #[.int i tk, x'] } := (sb.2 _ (Nat.ne_of_gt hel)).trans hT
    have new : ObjOk X.prog X.w (upd H s.heap.objs.size (.tup [.int (i : Nat), x])) h'' s.heap.objs.size (.tup [.int (i : Nat), x]) :=
      ⟨by show 2 ≤ sizeLine; decide, [.int i tk, x'], .cons ⟨_, rfl⟩ (.cons ru .nil), ⟨_, hT2, rfl, _, rfl⟩⟩
    have I1 : Inv X pins σ (upd H s.heap.objs.size (.tup [.int (i : Nat), x])) { s with heap := h'', toks := tk + 1 } :=
      I.turnedNew (ch := [e, it]) (fun b ob hb q => (sb.2 b (fun z => hb (by simp [z]))).trans (hk b ob (fun z => hb (by simp [z])) (fun z => hb (by simp [z])) q)) hf (Nat.le_refl _) new
    refine ⟨.ref s.heap.objs.size, _, I1, rfl, ⟨_, x, rfl, I.hok.fresh (Nat.le_refl _), rfl, fun ys hy => by rw [I.tuple_inj hy hq]; exact hx⟩, ⟨⟨x', ?_⟩, hst'.1.at fun o q => (sb.2 it (Ne.symm hne)).trans q, hne⟩, fun b hb => ?_⟩
    · have e1 : ((i + 1 : Nat) : Int) = (i : Int) + 1 := by omega
      rw [e1]; exact he'
    · have hb' : b < s.heap.objs.size := by
        have e' : b = e ∨ b = it := by simpa using hb
        rcases e' with z | z
        · rw [z]; exact hel
        · rw [z]; exact hil
      rw [upd_ne (Nat.ne_of_lt hb')]
      exact (hf b hb).1
  done := by
    intro X hP hw hK hc i pins s σ H E I hf st hg
    subst hP hw hK
    obtain ⟨⟨old, he⟩, hit, hne⟩ := st
    obtain ⟨xs, hq, hx⟩ := hg
    obtain ⟨its, rv, p, hz⟩ := I.tuple hq
    obtain ⟨f0, f1, f2, f3, f4, f5⟩ := hf it (by simp)
    have hl := rv.length
    have hh := I.ok.hd hc
    have D : Draws X.prog X.w X.A.in1 it [it, a] i (fun _ _ => True) (fun j h => h.IsTupleIter it a j ∧ h.IsTuple a its.toArray ∧ j = i) := {
      live := fun _ _ st => let ⟨o, ho, _⟩ := st.1; ⟨o, ho⟩
      frame := fun _ _ _ st hk => ⟨st.1.at fun o e => hk it (by simp) o e, st.2.1.at fun o e => hk a (by simp) o e, st.2.2⟩
      item := fun j s Q E hj st hQ => by
        exfalso
        have := st.2.2
        omega
      done := fun s Q E st hE => wpAny_nextOf_tuple_end (show X.A.in1.handled = none from hh) st.1 st.2.1 (by simp; omega) hE }
    exact wpAny_pyNext_enum_endD D he ⟨hit, p, rfl⟩ fun h' eb => ⟨rfl, I.turned (t' := s.toks) (fun b o hb q => eb b o hb q) f0 f1 f3 f4 f5⟩
  self := fun A i s Q E st h => let ⟨⟨_, he⟩, _⟩ := st; wpAny_pyIter_enum he h
def iEnumA (K : PySem.W.Frag) (ta : TA) : TI := fun σ H R => ta σ H fun vs H1 => (∃ a xs, vs = [.ref a] ∧ SqL K H1 a xs ∧ R (Ite K a) H1) ∨ ∃ a xs, vs = [.ref a] ∧ SqT K H1 a xs ∧ R (IteT K a) H1
theorem pi_enumA {X : Cx} {e : Expr} {ta : TA} {p pos tpos : Pos} {elts : List Expr} {kk : Nat} (hg : Gl X "enumerate") (hm : X.mg "enumerate" = none) (ha : PA X [e] ta) (hs : starEach [e] X.env = [(false, eval e X.env)] := by rfl) :
    PI X (.Tuple elts kk tpos) (.Call (.Name "enumerate" p) [e] [] pos) (iEnumA X.K ta) := by
  refine ⟨fun pins s σ H R I h => ?_⟩
  refine Call_ (ld_blt I hg hm boot_enumerate (PyProof.Rows.callWith_type1 (thn (ha.run pos pins s σ H _ I h) fun us s1 ⟨vs, H1, I1, r1, q1⟩ => ?_) hs rfl))
  rcases q1 with ⟨a, xs, ex, hq, q⟩ | ⟨a, xs, ex, hq, q⟩
  · subst ex
    cases r1 with
    | cons r rr =>
      cases rr
      cases r
      obtain ⟨its, rv, p', hz⟩ := I1.list hq
      refine call_enumerate_list p'.isList fun h' he hit hsz hk => wpAny_pyIter_enum he ?_
      have I2 : Inv X pins σ H1 { s1 with heap := h' } := I1.kept (t' := s1.toks) hk
      refine ⟨s1.heap.objs.size + 1, [s1.heap.objs.size + 1, s1.heap.objs.size], _, _, H1, rfl, I2, turn_enum a (s1.heap.objs.size + 1) s1.heap.objs.size, ⟨⟨.none, he⟩, hit, Nat.succ_ne_self _⟩, fun b hb => ?_, q⟩
      have e' : b = s1.heap.objs.size + 1 ∨ b = s1.heap.objs.size := by simpa using hb
      have hle : s1.heap.objs.size ≤ b := by
        rcases e' with z | z
        · rw [z]; exact Nat.le_add_right _ _
        · rw [z]; exact Nat.le_refl _
      exact I1.fpOk hle (I1.hok.fresh hle)
  · subst ex
    cases r1 with
    | cons r rr =>
      cases rr
      cases r
      obtain ⟨its, rv, p', hz⟩ := I1.tuple hq
      have hal : a < s1.heap.objs.size := by
        obtain ⟨_, e, _⟩ := id p'
        exact Heap.lt_size e
      refine call_enumerate_tuple p' fun h' he hit hsz hk => wpAny_pyIter_enum he ?_
      have I2 : Inv X pins σ H1 { s1 with heap := h' } := I1.kept (t' := s1.toks) hk
      refine ⟨s1.heap.objs.size + 1, [s1.heap.objs.size + 1, s1.heap.objs.size], _, _, H1, rfl, I2, turn_enumT a (s1.heap.objs.size + 1) s1.heap.objs.size (Nat.ne_of_lt hal) (Nat.ne_of_lt (Nat.lt_succ_of_lt hal)), ⟨⟨.none, he⟩, hit, Nat.succ_ne_self _⟩, fun b hb => ?_, q⟩
      have e' : b = s1.heap.objs.size + 1 ∨ b = s1.heap.objs.size := by simpa using hb
      have hle : s1.heap.objs.size ≤ b := by
        rcases e' with z | z
        · rw [z]; exact Nat.le_add_right _ _
        · rw [z]; exact Nat.le_refl _
      exact I1.fpOk hle (I1.hok.fresh hle)
end Z

/-! What a loop walks; comprehensions. -/
namespace Z
open PySem PySem.Spec PyProof.Rows L2 RZ

inductive ItRep (K : PySem.W.Frag) (M : MM) (H : Hp) : It → List PyData → Prop where
  | lst {a : Addr} {vs : List V} {ds : List PyData} : Fre M a → H a = some (.lst vs) → RepL K M H ds vs → ItRep K M H (Itl K a) ds
  | tup {a : Addr} {vs : List V} {ds : List PyData} : SqT K H a vs → RepL K M H ds vs → ItRep K M H (Itt K a) ds
  | str (z : Str) : ItRep K M H (Its z) (z.cps.toList.map fun c => .str ⟨#[c]⟩)
  | rng (lo : Int) (n : Nat) : ItRep K M H (Itr lo n) (rng lo n)
  | rngC (lo c : Int) (n : Nat) : ItRep K M H (Itc lo c n) (rngC lo c n)
  | enmT {a : Addr} {vs : List V} {ds : List PyData} : SqT K H a vs → RepL K M H ds vs → ItRep K M H (IteT K a) (enumL 0 ds)
  | enm {a : Addr} {vs : List V} {ds : List PyData} : Fre M a → H a = some (.lst vs) → RepL K M H ds vs → ItRep K M H (Ite K a) (enumL 0 ds)
  | zip {a b : Addr} {vs ws : List V} {ds es : List PyData} : Fre M a → H a = some (.lst vs) → RepL K M H ds vs → Fre M b → H b = some (.lst ws) → RepL K M H es ws → ItRep K M H (Itz K a b) (zipL ds es)
  | zipT {a b : Addr} {vs ws : List V} {ds es : List PyData} : SqT K H a vs → RepL K M H ds vs → SqT K H b ws → RepL K M H es ws → ItRep K M H (ItzT K a b) (zipL ds es)
section
variable {T : List (Addr × Str)} {K : PySem.W.Frag} {M M' : MM} {H H' : Hp} {S : Sto} {J : It} {items : List PyData}
theorem ItRep.ext (r : ItRep K M H J items) (e : Ext M H M' H') : ItRep K M' H' J items := by
  cases r with
  | lst h1 h2 h3 => exact .lst (e.fre h2 h1) (e.lst _ _ h2 h1.1) (h3.ext e)
  | tup h1 h2 => exact .tup (sqT_ext e h1) (h2.ext e)
  | str z => exact .str z
  | rng lo n => exact .rng lo n
  | rngC lo c n => exact .rngC lo c n
  | enmT h1 h2 => exact .enmT (sqT_ext e h1) (h2.ext e)
  | enm h1 h2 h3 => exact .enm (e.fre h2 h1) (e.lst _ _ h2 h1.1) (h3.ext e)
  | zip h1 h2 h3 g1 g2 g3 => exact .zip (e.fre h2 h1) (e.lst _ _ h2 h1.1) (h3.ext e) (e.fre g2 g1) (e.lst _ _ g2 g1.1) (g3.ext e)
  | zipT h1 h2 g1 g2 => exact .zipT (sqT_ext e h1) (h2.ext e) (sqT_ext e g1) (g2.ext e)

/-! ### a list that is being made -/
def MM.hide (M : MM) (D : Addr) : MM := ⟨M.m, D :: M.z⟩
theorem sqT_upd {D a : Addr} {o : HO} {xs : List V} (hD : ∀ ys, H D ≠ some (.tup ys)) (hF : ∀ o u, H D ≠ some (.frz o u)) (h : SqT K H a xs) : SqT K (upd H D o) a xs := by
  rcases h with (h | ⟨ob, h⟩) | h
  · exact .inl (.inl (by rw [upd_ne fun e => hD xs (by rw [← e]; exact h)]; exact h))
  · exact .inl (.inr ⟨ob, by rw [upd_ne fun e => hF ob _ (by rw [← e]; exact h)]; exact h⟩)
  · exact .inr h
mutual
theorem Rep.upd {D : Addr} {o : HO} (hz : D ∈ M.z) (hD : ∀ ys, H D ≠ some (.tup ys)) (hF : ∀ o u, H D ≠ some (.frz o u)) : ∀ {d : PyData} {v : V}, Rep K M H d v → Rep K M (L2.upd H D o) d v
  | .none, _, h => h
  | .bool _, _, h => h
  | .int _, _, h => h
  | .str _, _, h => h
  | .list ds, v, h => by
    obtain ⟨a, vs, e1, e2, e3, e4⟩ := (show ∃ a vs, v = .ref a ∧ Fre M a ∧ H a = some (.lst vs) ∧ RepL K M H ds vs from h)
    exact ⟨a, vs, e1, e2, by rw [upd_ne fun e => e2.2 (by rw [e]; exact hz)]; exact e3, RepL.upd hz hD hF e4⟩
  | .tuple ds, v, h => by
    obtain ⟨a, vs, e1, e2, e3⟩ := (show ∃ a vs, v = .ref a ∧ SqT K H a vs ∧ RepL K M H ds vs from h)
    exact ⟨a, vs, e1, sqT_upd hD hF e2, RepL.upd hz hD hF e3⟩
  | .dict _, _, h => h
theorem RepL.upd {D : Addr} {o : HO} (hz : D ∈ M.z) (hD : ∀ ys, H D ≠ some (.tup ys)) (hF : ∀ o u, H D ≠ some (.frz o u)) : ∀ {ds : List PyData} {vs : List V}, RepL K M H ds vs → RepL K M (L2.upd H D o) ds vs
  | [], _, h => h
  | d :: ds, vs, h => by
    obtain ⟨v, r, e1, e2, e3⟩ := (show ∃ v r, vs = v :: r ∧ Rep K M H d v ∧ RepL K M H ds r from h)
    exact ⟨v, r, e1, Rep.upd hz hD hF e2, RepL.upd hz hD hF e3⟩
theorem Rep.hide {D : Addr} {o : HO} (hn : H D = none) : ∀ {d : PyData} {v : V}, Rep K M H d v → Rep K (M.hide D) (L2.upd H D o) d v
  | .none, _, h => h
  | .bool _, _, h => h
  | .int _, _, h => h
  | .str _, _, h => h
  | .list ds, v, h => by
    obtain ⟨a, vs, e1, e2, e3, e4⟩ := (show ∃ a vs, v = .ref a ∧ Fre M a ∧ H a = some (.lst vs) ∧ RepL K M H ds vs from h)
    refine ⟨a, vs, e1, ⟨e2.1, fun z => ?_⟩, by rw [upd_ne (ne_of_none e3 hn)]; exact e3, RepL.hide hn e4⟩
    rcases List.mem_cons.mp z with q | q
    · exact ne_of_none e3 hn q
    · exact e2.2 q
  | .tuple ds, v, h => by
    obtain ⟨a, vs, e1, e2, e3⟩ := (show ∃ a vs, v = .ref a ∧ SqT K H a vs ∧ RepL K M H ds vs from h)
    exact ⟨a, vs, e1, sqT_upd (by intro ys q; rw [hn] at q; cases q) (by intro _ _ q; rw [hn] at q; cases q) e2, RepL.hide hn e3⟩
  | .dict _, _, h => h
theorem RepL.hide {D : Addr} {o : HO} (hn : H D = none) : ∀ {ds : List PyData} {vs : List V}, RepL K M H ds vs → RepL K (M.hide D) (L2.upd H D o) ds vs
  | [], _, h => h
  | d :: ds, vs, h => by
    obtain ⟨v, r, e1, e2, e3⟩ := (show ∃ v r, vs = v :: r ∧ Rep K M H d v ∧ RepL K M H ds r from h)
    exact ⟨v, r, e1, Rep.hide hn e2, RepL.hide hn e3⟩
end
theorem RepV.upd {D : Addr} {vs ws : List V} (hz : D ∈ M.z) (hD : H D = some (.lst vs)) {v : Val} {x : V} (r : RepV K M H v x) : RepV K M (L2.upd H D (.lst ws)) v x := by
  have h1 : ∀ ys, H D ≠ some (.tup ys) := by intro ys q; rw [hD] at q; cases q
  have h2 : ∀ o u, H D ≠ some (.frz o u) := by intro _ _ q; rw [hD] at q; cases q
  cases v with
  | d d => exact Rep.upd hz h1 h2 r
  | r n => exact r
  | s xs =>
    obtain ⟨a, us, e1, e2, e3⟩ := r
    refine ⟨a, us, e1, ?_, e3⟩
    rcases e2 with ⟨o, q⟩ | q
    · exact .inl ⟨o, by rw [upd_ne fun e => h2 o _ (by rw [← e]; exact q)]; exact q⟩
    · exact .inr q
theorem RepV.hide {D : Addr} {o : HO} (hn : H D = none) {v : Val} {x : V} (r : RepV K M H v x) : RepV K (M.hide D) (L2.upd H D o) v x := by
  cases v with
  | d d => exact Rep.hide hn r
  | r n => exact r
  | s xs =>
    obtain ⟨a, us, e1, e2, e3⟩ := r
    refine ⟨a, us, e1, ?_, e3⟩
    rcases e2 with ⟨ob, q⟩ | q
    · exact .inl ⟨ob, by rw [upd_ne (ne_of_none q hn)]; exact q⟩
    · exact .inr q
theorem EnvOk.upd {D : Addr} {vs ws : List V} {ρ : Z.Env} {σ : L2.St} (hz : D ∈ M.z) (hD : H D = some (.lst vs)) (e : EnvOk K M H ρ σ) : EnvOk K M (L2.upd H D (.lst ws)) ρ σ := ⟨e.len, fun i v h => by
  obtain ⟨y, h1, h2⟩ := e.at_ i v h
  exact ⟨y, h1, h2.upd hz hD⟩⟩
theorem EnvOk.hide {D : Addr} {o : HO} {ρ : Z.Env} {σ : L2.St} (hn : H D = none) (e : EnvOk K M H ρ σ) : EnvOk K (M.hide D) (L2.upd H D o) ρ σ := ⟨e.len, fun i v h => by
  obtain ⟨y, h1, h2⟩ := e.at_ i v h
  exact ⟨y, h1, h2.hide hn⟩⟩
theorem tabs_upd {D : Addr} {vs ws : List V} (t : LamX.Tabs T H) (hD : H D = some (.lst vs)) : LamX.Tabs T (L2.upd H D (.lst ws)) := fun p hp => by
  obtain ⟨ps, h1, h2, h3⟩ := t p hp
  refine ⟨ps, by rw [upd_ne fun e => by rw [e, hD] at h1; cases h1]; exact h1, h2, fun pos cv hc => ?_⟩
  obtain ⟨c, q1, q2⟩ := h3 pos cv hc
  exact ⟨c, q1, by rw [upd_ne fun e => by rw [e, hD] at q2; unfold LamX.CodeO at q2; cases q2]; exact q2⟩
theorem StoreOk.upd {D : Addr} {vs ws : List V} (s : StoreOk T K M H S) (hz : D ∈ M.z) (hD : H D = some (.lst vs)) : StoreOk T K M (L2.upd H D (.lst ws)) S where
  len := s.len
  inj := s.inj
  ent := fun n xs e => by
    obtain ⟨a, us, h1, h2, h3⟩ := s.ent n xs e
    exact ⟨a, us, h1, by rw [upd_ne fun z => (s.prv D hz).1 (by rw [← z]; exact List.mem_of_getElem? h1)]; exact h2, h3.upd hz (by intro ys q; rw [hD] at q; cases q) (by intro _ _ q; rw [hD] at q; cases q)⟩
  gon := s.gon
  prv := fun a h => by
    obtain ⟨h1, us, h2⟩ := s.prv a h
    refine ⟨h1, ?_⟩
    by_cases e : a = D
    · subst e; exact ⟨ws, upd_same⟩
    · exact ⟨us, by rw [upd_ne e]; exact h2⟩
  tab := tabs_upd s.tab hD
theorem StoreOk.hide {D : Addr} {ws : List V} (s : StoreOk T K M H S) (hn : H D = none) : StoreOk T K (M.hide D) (L2.upd H D (.lst ws)) S where
  len := s.len
  inj := s.inj
  ent := fun n xs e => by
    obtain ⟨a, us, h1, h2, h3⟩ := s.ent n xs e
    exact ⟨a, us, h1, by rw [upd_ne (ne_of_none h2 hn)]; exact h2, h3.hide hn⟩
  gon := s.gon
  prv := fun a h => by
    rcases List.mem_cons.mp h with q | q
    · subst q; exact ⟨s.fresh hn, ws, upd_same⟩
    · obtain ⟨h1, us, h2⟩ := s.prv a q
      exact ⟨h1, us, by rw [upd_ne (ne_of_none h2 hn)]; exact h2⟩
  tab := s.tab.ext (upd_keep hn)
theorem fre_show {D a : Addr} (h : Fre (M.hide D) a) : Fre M a := ⟨h.1, fun z => h.2 (List.mem_cons_of_mem _ z)⟩
theorem StoreOk.show_ {D : Addr} (s : StoreOk T K (M.hide D) H S) : StoreOk T K M H S where
  len := s.len
  inj := s.inj
  ent := fun n xs e => by
    obtain ⟨a, us, h1, h2, h3⟩ := s.ent n xs e
    exact ⟨a, us, h1, h2, h3.cut fun _ => fre_show⟩
  gon := s.gon
  prv := fun a h => s.prv a (List.mem_cons_of_mem _ h)
  tab := s.tab
theorem ItRep.hide {D : Addr} {o : HO} (hn : H D = none) (r : ItRep K M H J items) : ItRep K (M.hide D) (L2.upd H D o) J items := by
  have t : ∀ {a : Addr} {xs : List V}, SqT K H a xs → SqT K (L2.upd H D o) a xs := fun h => sqT_upd (by intro ys q; rw [hn] at q; cases q) (by intro _ _ q; rw [hn] at q; cases q) h
  have f : ∀ {a : Addr} {xs : List V}, Fre M a → H a = some (.lst xs) → Fre (M.hide D) a := fun h e => ⟨h.1, fun z => by
    rcases List.mem_cons.mp z with q | q
    · exact ne_of_none e hn q
    · exact h.2 q⟩
  have u : ∀ {a : Addr} {xs : List V}, H a = some (.lst xs) → L2.upd H D o a = some (.lst xs) := fun e => by rw [upd_ne (ne_of_none e hn)]; exact e
  cases r with
  | lst h1 h2 h3 => exact .lst (f h1 h2) (u h2) (h3.hide hn)
  | tup h1 h2 => exact .tup (t h1) (h2.hide hn)
  | str z => exact .str z
  | rng lo n => exact .rng lo n
  | rngC lo c n => exact .rngC lo c n
  | enmT h1 h2 => exact .enmT (t h1) (h2.hide hn)
  | enm h1 h2 h3 => exact .enm (f h1 h2) (u h2) (h3.hide hn)
  | zip h1 h2 h3 g1 g2 g3 => exact .zip (f h1 h2) (u h2) (h3.hide hn) (f g1 g2) (u g2) (g3.hide hn)
  | zipT h1 h2 g1 g2 => exact .zipT (t h1) (h2.hide hn) (t g1) (g2.hide hn)
theorem ItRep.upd {D : Addr} {vs ws : List V} (hz : D ∈ M.z) (hD : H D = some (.lst vs)) (r : ItRep K M H J items) : ItRep K M (L2.upd H D (.lst ws)) J items := by
  have p1 : ∀ ys, H D ≠ some (.tup ys) := by intro ys q; rw [hD] at q; cases q
  have p2 : ∀ o u, H D ≠ some (.frz o u) := by intro _ _ q; rw [hD] at q; cases q
  have t : ∀ {a : Addr} {xs : List V}, SqT K H a xs → SqT K (L2.upd H D (.lst ws)) a xs := fun h => sqT_upd p1 p2 h
  have u : ∀ {a : Addr} {xs : List V}, Fre M a → H a = some (.lst xs) → L2.upd H D (.lst ws) a = some (.lst xs) := fun h e => by rw [upd_ne fun z => h.2 (by rw [z]; exact hz)]; exact e
  cases r with
  | lst h1 h2 h3 => exact .lst h1 (u h1 h2) (h3.upd hz p1 p2)
  | tup h1 h2 => exact .tup (t h1) (h2.upd hz p1 p2)
  | str z => exact .str z
  | rng lo n => exact .rng lo n
  | rngC lo c n => exact .rngC lo c n
  | enmT h1 h2 => exact .enmT (t h1) (h2.upd hz p1 p2)
  | enm h1 h2 h3 => exact .enm h1 (u h1 h2) (h3.upd hz p1 p2)
  | zip h1 h2 h3 g1 g2 g3 => exact .zip h1 (u h1 h2) (h3.upd hz p1 p2) g1 (u g1 g2) (g3.upd hz p1 p2)
  | zipT h1 h2 g1 g2 => exact .zipT (t h1) (h2.upd hz p1 p2) (t g1) (g2.upd hz p1 p2)
/-- out of sight: the lists made within may not be named from without -/
theorem Ext.show_ {D : Addr} {M0 : MM} {H0 : Hp} (e : Ext (M.hide D) H (M'.hide D) H') : Ext M H M' H' where
  len := e.len
  old := e.old
  new := e.new
  zz := List.tail_eq_of_cons_eq e.zz
  lst := e.lst
  tup := e.tup
  frz := e.frz
  dk := e.dk
  nn := e.nn
theorem ext_updD {M0 : MM} {H0 : Hp} {D : Addr} {vs ws : List V} (e : Ext M0 H0 M H) (h0 : H0 D = none) (hD : H D = some (.lst vs)) : Ext M0 H0 M (L2.upd H D (.lst ws)) where
  len := e.len
  old := e.old
  new := e.new
  zz := e.zz
  lst := fun a xs h n => by rw [upd_ne (ne_of_none h h0)]; exact e.lst a xs h n
  tup := fun a xs h => by rw [upd_ne (ne_of_none h h0)]; exact e.tup a xs h
  frz := fun a o u h => by rw [upd_ne (ne_of_none h h0)]; exact e.frz a o u h
  dk := fun a xs h n => by rw [upd_ne (ne_of_none h h0)]; exact e.dk a xs h n
  nn := fun a h => by
    by_cases z : a = D
    · subst z; exact absurd h0 h
    · rw [upd_ne z]; exact e.nn a h

theorem enumL_get : ∀ (ds : List PyData) (k i : Nat), (enumL k ds)[i]? = (ds[i]?).map fun d => .tuple [.int ((k + i : Nat) : Int), d]
  | [], k, i => by simp [enumL]
  | d :: ds, k, 0 => by simp [enumL]
  | d :: ds, k, i + 1 => by
    simp only [enumL, List.getElem?_cons_succ]
    rw [enumL_get ds (k + 1) i]
    have : k + 1 + i = k + (i + 1) := by omega
    rw [this]
theorem zipL_get : ∀ (ds es : List PyData) (i : Nat) (d : PyData), (zipL ds es)[i]? = some d → ∃ x y, ds[i]? = some x ∧ es[i]? = some y ∧ d = .tuple [x, y]
  | [], es, i, d, h => by simp [zipL] at h
  | x :: ds, [], i, d, h => by simp [zipL] at h
  | x :: ds, y :: es, 0, d, h => by simp [zipL] at h; exact ⟨x, y, rfl, rfl, h.symm⟩
  | x :: ds, y :: es, i + 1, d, h => by
    simp only [zipL, List.getElem?_cons_succ] at h ⊢
    exact zipL_get ds es i d h
theorem zipL_len : ∀ (ds es : List PyData) (i : Nat), (zipL ds es).length ≤ i → ds.length ≤ i ∨ es.length ≤ i
  | [], es, i, h => .inl (by simp)
  | x :: ds, [], i, h => .inr (by simp)
  | x :: ds, y :: es, 0, h => by simp [zipL] at h
  | x :: ds, y :: es, i + 1, h => by
    simp only [zipL, List.length_cons, Nat.add_le_add_iff_right] at h ⊢
    exact zipL_len ds es i h
theorem enumL_len : ∀ (ds : List PyData) (k : Nat), (enumL k ds).length = ds.length
  | [], _ => rfl
  | d :: ds, k => by simp [enumL, enumL_len ds (k + 1)]
/-- a turn: the next item, or the end -/
theorem ItRep.turn (r : ItRep K M H J items) (s : StoreOk T K M H S) : (∀ i, items.length ≤ i → J.stop i H) ∧ ∀ i d, items[i]? = some d → J.go i H ∧ ∀ x H', J.yld i H x H' → Ext M H M H' ∧ StoreOk T K M H' S ∧ Rep K M H' d x := by
  have pair : ∀ {p : Addr} {d e : PyData} {x y : V}, H p = none → Rep K M H d x → Rep K M H e y → Ext M H M (L2.upd H p (.tup [x, y])) ∧ StoreOk T K M (L2.upd H p (.tup [x, y])) S ∧ Rep K M (L2.upd H p (.tup [x, y])) (.tuple [d, e]) (.ref p) := fun {p d e x y} hp r1 r2 =>
    ⟨ext_new hp, s.new hp, rep_new_tup hp ⟨x, [y], rfl, r1, y, [], rfl, r2, rfl⟩⟩
  cases r with
  | @lst a vs ds h1 h2 h3 =>
    refine ⟨fun i hi => ⟨vs, SqL.of h2, by rw [← h3.length]; exact hi⟩, fun i d hd => ?_⟩
    obtain ⟨x, e1, e2⟩ := h3.get hd
    refine ⟨⟨vs, x, SqL.of h2, e1⟩, fun y H' hy => ?_⟩
    obtain ⟨rfl, hy⟩ := hy
    have := hy vs (SqL.of h2)
    rw [e1] at this
    cases this
    exact ⟨Ext.refl _ _, s, e2⟩
  | @tup a vs ds h1 h2 =>
    refine ⟨fun i hi => ⟨vs, h1, by rw [← h2.length]; exact hi⟩, fun i d hd => ?_⟩
    obtain ⟨x, e1, e2⟩ := h2.get hd
    refine ⟨⟨vs, x, h1, e1⟩, fun y H' hy => ?_⟩
    obtain ⟨rfl, hy⟩ := hy
    have := hy vs h1
    rw [e1] at this
    cases this
    exact ⟨Ext.refl _ _, s, e2⟩
  | str z =>
    refine ⟨fun i hi => ?_, fun i d hd => ?_⟩
    · show z.cps.size ≤ i
      simpa using hi
    · rw [List.getElem?_map, Option.map_eq_some_iff] at hd
      obtain ⟨ch, e1, e2⟩ := hd
      refine ⟨?_, fun y H' hy => ?_⟩
      · show i < z.cps.size
        have := (List.getElem?_eq_some_iff.mp e1).1
        simpa using this
      · obtain ⟨rfl, c', h1, h2⟩ := hy
        rw [Array.getElem?_toList] at e1
        rw [e1] at h1
        cases h1
        subst e2
        exact ⟨Ext.refl _ _, s, h2⟩
  | rng lo n =>
    refine ⟨fun i hi => ?_, fun i d hd => ?_⟩
    · show n ≤ i
      simpa [Z.rng] using hi
    · have hi : i < n := by
        have := (List.getElem?_eq_some_iff.mp hd).1
        simpa [Z.rng] using this
      refine ⟨hi, fun y H' hy => ?_⟩
      obtain ⟨rfl, hy⟩ := hy
      have : d = .int (lo + (i : Nat)) := by
        unfold Z.rng at hd
        rw [List.getElem?_map, List.getElem?_range hi] at hd
        simpa using hd.symm
      subst this
      exact ⟨Ext.refl _ _, s, hy⟩
  | rngC lo c n =>
    refine ⟨fun i hi => ?_, fun i d hd => ?_⟩
    · show n ≤ i
      simpa [Z.rngC] using hi
    · have hi : i < n := by
        have := (List.getElem?_eq_some_iff.mp hd).1
        simpa [Z.rngC] using this
      refine ⟨hi, fun y H' hy => ?_⟩
      obtain ⟨rfl, hy⟩ := hy
      have : d = .int (lo + (i : Nat) * c) := by
        unfold Z.rngC at hd
        rw [List.getElem?_map, List.getElem?_range hi] at hd
        simpa using hd.symm
      subst this
      exact ⟨Ext.refl _ _, s, hy⟩
  | @enmT a vs ds h1 h2 =>
    refine ⟨fun i hi => ⟨vs, h1, by rw [← h2.length, ← enumL_len ds 0]; exact hi⟩, fun i d hd => ?_⟩
    rw [enumL_get, Option.map_eq_some_iff] at hd
    obtain ⟨e, q1, q2⟩ := hd
    obtain ⟨x, e1, e2⟩ := h2.get q1
    refine ⟨⟨vs, x, h1, e1⟩, fun y H' hy => ?_⟩
    obtain ⟨T', x', rfl, hT, rfl, hx⟩ := hy
    have := hx vs h1
    rw [e1] at this
    cases this
    subst q2
    rw [Nat.zero_add]
    exact pair hT rfl e2
  | @enm a vs ds h1 h2 h3 =>
    refine ⟨fun i hi => ⟨vs, SqL.of h2, by rw [← h3.length, ← enumL_len ds 0]; exact hi⟩, fun i d hd => ?_⟩
    rw [enumL_get, Option.map_eq_some_iff] at hd
    obtain ⟨e, q1, q2⟩ := hd
    obtain ⟨x, e1, e2⟩ := h3.get q1
    refine ⟨⟨vs, x, SqL.of h2, e1⟩, fun y H' hy => ?_⟩
    obtain ⟨T', x', rfl, hT, rfl, hx⟩ := hy
    have := hx vs (SqL.of h2)
    rw [e1] at this
    cases this
    subst q2
    rw [Nat.zero_add]
    exact pair hT rfl e2
  | @zip a b vs ws ds es h1 h2 h3 g1 g2 g3 =>
    refine ⟨fun i hi => ⟨vs, ws, SqL.of h2, SqL.of g2, by rw [← h3.length, ← g3.length]; exact zipL_len ds es i hi⟩, fun i d hd => ?_⟩
    obtain ⟨x, y, q1, q2, q3⟩ := zipL_get ds es i d hd
    obtain ⟨x', e1, e2⟩ := h3.get q1
    obtain ⟨y', f1, f2⟩ := g3.get q2
    refine ⟨⟨vs, ws, x', y', SqL.of h2, SqL.of g2, e1, f1⟩, fun z H' hy => ?_⟩
    obtain ⟨T', x2, y2, rfl, hT, rfl, hx, hy⟩ := hy
    have t1 := hx vs (SqL.of h2)
    have t2 := hy ws (SqL.of g2)
    rw [e1] at t1
    rw [f1] at t2
    cases t1
    cases t2
    subst q3
    exact pair hT e2 f2
  | @zipT a b vs ws ds es h1 h2 g1 g2 =>
    refine ⟨fun i hi => ⟨vs, ws, h1, g1, by rw [← h2.length, ← g2.length]; exact zipL_len ds es i hi⟩, fun i d hd => ?_⟩
    obtain ⟨x, y, q1, q2, q3⟩ := zipL_get ds es i d hd
    obtain ⟨x', e1, e2⟩ := h2.get q1
    obtain ⟨y', f1, f2⟩ := g2.get q2
    refine ⟨⟨vs, ws, x', y', h1, g1, e1, f1⟩, fun z H' hy => ?_⟩
    obtain ⟨T', x2, y2, rfl, hT, rfl, hx, hy⟩ := hy
    have t1 := hx vs h1
    have t2 := hy ws g1
    rw [e1] at t1
    rw [f1] at t2
    cases t1
    cases t2
    subst q3
    exact pair hT e2 f2
end
end Z

/-! Walks, targets, comprehensions: soundness. -/
namespace Z
open PySem PySem.Spec PyProof.Rows L2 RZ
section
variable (X : Cx) (T : List (Addr × Str)) (W : WX)
abbrev rI (m : Z.Env → Sto → R (List PyData)) : TI := rd X T W (fun M H items J => ItRep X.K M H J items) m
end
theorem PI.imp {X : Cx} {tg it : Expr} {t t' : TI} (h : PI X tg it t) (i : ∀ σ H Q, t' σ H Q → t σ H Q) : PI X tg it t' := ⟨fun pins s σ H Q I q => h.run pins s σ H Q I (i _ _ _ q)⟩
section
variable {X : Cx} {T : List (Addr × Str)} {W : WX} {c : SC} {F : Tab} {k : Nat} {C : Nat → List Val → Sto → R Val} {a b d : LE} {e f e' tg : Expr} {p : Pos}
/-- the value of e walked, whatever it is -/
theorem pi_any (he : PE X e (rE X T W (evE C a))) : PI X tg e (fun σ H Q => rE X T W (evE C a) σ H fun x H1 => (∃ q xs, x = .ref q ∧ SqL X.K H1 q xs ∧ Q (Itl X.K q) H1) ∨ (∃ q xs, x = .ref q ∧ SqT X.K H1 q xs ∧ Q (Itt X.K q) H1) ∨ ∃ z, x = .str z ∧ Q (Its z) H1) := by
  refine ⟨fun pins s σ H Q I h => ?_⟩
  refine thn (he.run pins s σ H _ I h) fun v s1 ⟨x, H1, I1, r1, q1⟩ => ?_
  rcases q1 with ⟨q, xs, rfl, hq, w⟩ | ⟨q, xs, rfl, hq, w⟩ | ⟨z, rfl, w⟩
  · obtain rfl : v = Value.ref q := r1
    obtain ⟨its, _, pl, _⟩ := I1.list hq
    exact wpAny_pyIter_list pl.isList (pi_one (tk := s1.toks) I1 _ (turn_list q _) ⟨_, Heap.get?_push_size _ rfl, rfl, rfl⟩ w)
  · obtain rfl : v = Value.ref q := r1
    obtain ⟨its, _, pl, _⟩ := I1.tuple hq
    exact wpAny_pyIter_tuple (items := its.toArray) pl (pi_one (tk := s1.toks) I1 _ (turn_tuple q _) ⟨_, Heap.get?_push_size _ rfl, rfl, rfl⟩ w)
  · obtain ⟨t, rfl⟩ := r1
    cases hz : z.cps.all (· < 128) with
    | false => exact wpAny_pyIter_wide hz (pi_one (tk := s1.toks) I1 _ (turn_str _ z t _ (.inr rfl)) ⟨_, Heap.get?_push_size _ rfl, rfl, rfl⟩ w)
    | true => exact wpAny_pyIter_ascii hz (pi_one (tk := s1.toks) I1 _ (turn_str _ z t _ (.inl rfl)) ⟨_, Heap.get?_push_size _ rfl, rfl, rfl⟩ w)
theorem itV_post {σ : L2.St} {M : MM} {H : Hp} {S : Sto} {kk : IK} {vs : List Val} {Q : It → Hp → Prop} (h : Post X T W σ M H (fun M H items J => ItRep X.K M H J items) (itV kk vs S) Q) : ∃ xs items, plain vs = some xs ∧ itD kk xs = some items ∧ ∀ J M' H', Ext M H M' H' → StoreOk T X.K M' H' S → ItRep X.K M' H' J items → Q J H' := by
  unfold itV at h
  cases e1 : plain vs with
  | none => rw [e1] at h; exact h.elim
  | some xs =>
    rw [e1] at h
    dsimp only at h
    cases e2 : itD kk xs with
    | none => rw [e2] at h; exact h.elim
    | some items => rw [e2] at h; exact ⟨xs, items, rfl, e2, h⟩
theorem i_seq (hs : ∀ v p, e ≠ .Starred v p) (he : PE X e (rE X T W (evE C a))) : PI X tg e (rI X T W fun ρ S => (evL C [a] ρ S).bind (itV .seq)) := by
  refine PI.imp (pi_any he) fun σ H Q q => ?_
  have q2 : rd X T W (fun M H items J => ItRep X.K M H J items) (fun ρ S => (evE C a ρ S).bind fun v S => itV .seq [v] S) σ H Q := by
    obtain ⟨ρ, S, M, e, s, p⟩ := q
    refine ⟨ρ, S, M, e, s, ?_⟩
    have : (evL C [a] ρ S).bind (itV .seq) = (evE C a ρ S).bind fun v S => itV .seq [v] S := by
      simp only [evL]
      cases evE C a ρ S <;> rfl
    show Post X T W σ M H _ ((evE C a ρ S).bind fun v S => itV .seq [v] S) Q
    rw [← this]
    exact p
  refine rd_mono (rd_bind (rep := RepV X.K) (f := fun ρ v S => itV .seq [v] S) q2) fun x H1 ⟨ρ, v, S, M, e, s, r, p⟩ => ?_
  obtain ⟨xs, items, e1, e2, hQ⟩ := itV_post p
  cases v with
  | d dd =>
    simp only [plain, Option.map_some, Option.some.injEq] at e1
    subst e1
    cases dd with
    | list ds =>
      simp only [itD, itSeq, Option.some.injEq] at e2
      subst e2
      obtain ⟨q, vs, h1, h2, h3, h4⟩ := r
      exact .inl ⟨q, vs, h1, SqL.of h3, hQ _ M H1 (Ext.refl _ _) s (.lst h2 h3 h4)⟩
    | tuple ds =>
      simp only [itD, itSeq, Option.some.injEq] at e2
      subst e2
      obtain ⟨q, vs, h1, h2, h3⟩ := r
      exact .inr (.inl ⟨q, vs, h1, h2, hQ _ M H1 (Ext.refl _ _) s (.tup h2 h3)⟩)
    | str z =>
      simp only [itD, itSeq] at e2
      split at e2
      · cases e2
        exact .inr (.inr ⟨z, r, hQ _ M H1 (Ext.refl _ _) s (.str z)⟩)
      · cases e2
    | _ => simp [itD, itSeq] at e2
  | r n => simp [plain] at e1
  | s n => simp [plain] at e1
theorem rd_it {es : List LE} {kk : IK} {σ : L2.St} {H : Hp} {Q : It → Hp → Prop} (q : rI X T W (fun ρ S => (evL C es ρ S).bind (itV kk)) σ H Q) : rA X T W (evL C es) σ H fun vs H1 => ∃ xs items S M, xs.length = es.length ∧ RepL X.K M H1 xs vs ∧ itD kk xs = some items ∧ StoreOk T X.K M H1 S ∧ ∀ J M' H', Ext M H1 M' H' → StoreOk T X.K M' H' S → ItRep X.K M' H' J items → Q J H' := by
  obtain ⟨ρ, S, M, e, s, q⟩ := q
  refine ⟨ρ, S, M, e, s, ?_⟩
  have q : Post X T W σ M H _ ((evL C es ρ S).bind (itV kk)) Q := q
  cases hm : evL C es ρ S with
  | ex c S' => rw [hm] at q; exact q
  | no => rw [hm] at q; exact q
  | ok vs S1 =>
    have hlen := evL_len hm
    rw [hm] at q
    intro ys M' H' x1 s1 r1
    have q : Post X T W σ M' H' _ (itV kk vs S1) Q := Post.ext x1 q
    obtain ⟨xs, items, e1, e2, hQ⟩ := itV_post q
    exact ⟨xs, items, S1, M', by rw [← plain_len e1, hlen], plain_rep (X := X) e1 r1, e2, s1, hQ⟩
theorem small_of {i : Int} (h : smallI i = true) : -(2 ^ 62) ≤ i ∧ i < 2 ^ 62 := by
  unfold smallI at h
  simp only [Bool.and_eq_true, decide_eq_true_eq] at h
  omega
theorem one_len {M : MM} {H : Hp} {vs : List V} {x : PyData} (r : RepL X.K M H [x] vs) : ∃ v, vs = [v] ∧ Rep X.K M H x v := by
  obtain ⟨v, q, e1, e2, e3⟩ := r
  have e3 : q = [] := e3
  subst e3
  exact ⟨v, e1, e2⟩
theorem two_len {M : MM} {H : Hp} {vs : List V} {x y : PyData} (r : RepL X.K M H [x, y] vs) : ∃ v w, vs = [v, w] ∧ Rep X.K M H x v ∧ Rep X.K M H y w := by
  obtain ⟨v, q, e1, e2, w, q', e3, e4, e5⟩ := r
  have e5 : q' = [] := e5
  subst e5
  subst e3
  exact ⟨v, w, e1, e2, e4⟩
theorem i_range1 (g : Good X T W c F k) {es : List LE} {q : Pos} (hb : isBlt c "range" = true) (hs : ∀ v p, e ≠ .Starred v p) (hl : es.length = 1) (h : PA X [e] (rA X T W (evL C es))) : PI X tg (.Call (.Name "range" q) [e] [] p) (rI X T W fun ρ S => (evL C es ρ S).bind (itV .range)) := by
  obtain ⟨g1, _, g3⟩ := g.blt hb
  refine PI.imp (pi_range1 g1 g3 h (by rw [star_of hs]; rfl)) fun σ H Q q => ?_
  refine rd_mono (rd_it q) fun vs H1 ⟨xs, items, S, M, hxl, r, e2, s, hQ⟩ => ?_
  rw [hl] at hxl
  match xs, hxl, r, e2 with
  | [x], _, r, e2 =>
    cases x with
    | int n =>
      simp only [itD, itRng] at e2
      split at e2
      · rename_i hn
        cases e2
        obtain ⟨v, rfl, hv⟩ := one_len r
        obtain ⟨b1, b2⟩ := small_of hn
        exact ⟨n, by rw [show v = .int n from hv], b1, b2, hQ _ M H1 (Ext.refl _ _) s (.rng 0 _)⟩
      · cases e2
    | _ => simp [itD, itRng] at e2
theorem i_range2 (g : Good X T W c F k) {es : List LE} {q : Pos} (hb : isBlt c "range" = true) (hs : ∀ v p, e ≠ .Starred v p) (hs2 : ∀ v p, f ≠ .Starred v p) (hl : es.length = 2) (h : PA X [e, f] (rA X T W (evL C es))) : PI X tg (.Call (.Name "range" q) [e, f] [] p) (rI X T W fun ρ S => (evL C es ρ S).bind (itV .range)) := by
  obtain ⟨g1, _, g3⟩ := g.blt hb
  refine PI.imp (pi_range2 g1 g3 h (by rw [star_of hs, star_of hs2]; rfl) (by rw [star_of hs2]; rfl)) fun σ H Q q => ?_
  refine rd_mono (rd_it q) fun vs H1 ⟨xs, items, S, M, hxl, r, e2, s, hQ⟩ => ?_
  rw [hl] at hxl
  match xs, hxl, r, e2 with
  | [x, y], _, r, e2 =>
    cases x with
    | int n =>
      cases y with
      | int m =>
        simp only [itD, itRng] at e2
        split at e2
        · rename_i hn
          cases e2
          simp only [Bool.and_eq_true] at hn
          obtain ⟨v, w, rfl, hv, hw⟩ := two_len r
          obtain ⟨b1, b2⟩ := small_of hn.1
          obtain ⟨b3, b4⟩ := small_of hn.2
          exact ⟨n, m, by rw [show v = .int n from hv, show w = .int m from hw], ⟨b1, b2, b3, b4⟩, hQ _ M H1 (Ext.refl _ _) s (.rng n _)⟩
        · cases e2
      | _ => simp [itD, itRng] at e2
    | _ => cases y <;> simp [itD, itRng] at e2
theorem three_len {M : MM} {H : Hp} {vs : List V} {x y z : PyData} (r : RepL X.K M H [x, y, z] vs) : ∃ v w u, vs = [v, w, u] ∧ Rep X.K M H x v ∧ Rep X.K M H y w ∧ Rep X.K M H z u := by
  obtain ⟨v, q, e1, e2, w, q', e3, e4, u, q2, e5, e6, e7⟩ := r
  have e7 : q2 = [] := e7
  subst e7
  subst e5
  subst e3
  exact ⟨v, w, u, e1, e2, e4, e6⟩
theorem i_range3 (g : Good X T W c F k) {es : List LE} {q : Pos} {e' : Expr} (hb : isBlt c "range" = true) (hs : ∀ v p, e ≠ .Starred v p) (hs2 : ∀ v p, f ≠ .Starred v p) (hs3 : ∀ v p, e' ≠ .Starred v p) (hl : es.length = 3) (h : PA X [e, f, e'] (rA X T W (evL C es))) : PI X tg (.Call (.Name "range" q) [e, f, e'] [] p) (rI X T W fun ρ S => (evL C es ρ S).bind (itV .range)) := by
  obtain ⟨g1, _, g3⟩ := g.blt hb
  refine PI.imp (pi_range3 g1 g3 h (star_of hs _ _) (by rw [star_of hs2, star_of hs3]; rfl)) fun σ H Q q => ?_
  refine rd_mono (rd_it q) fun vs H1 ⟨xs, items, S, M, hxl, r, e2, s, hQ⟩ => ?_
  rw [hl] at hxl
  match xs, hxl, r, e2 with
  | [x, y, z], _, r, e2 =>
    simp only [itD] at e2
    unfold itRng at e2
    split at e2
    · rename_i e3
      cases e3
    · rename_i e3
      cases e3
    · rename_i a b c' e3
      cases e3
      split at e2
      · rename_i hn
        cases e2
        simp only [Bool.and_eq_true, beq_iff_eq] at hn
        obtain ⟨⟨hn1, hn2⟩, rfl⟩ := hn
        obtain ⟨v, w, u, rfl, hv, hw, hu⟩ := three_len r
        obtain ⟨b1, b2⟩ := small_of hn1
        obtain ⟨b3, b4⟩ := small_of hn2
        exact ⟨a, b, -1, _, by rw [show v = .int a from hv, show w = .int b from hw, show u = .int (-1) from hu], RgC.neg b1 b2 b3 b4, hQ _ M H1 (Ext.refl _ _) s (.rngC a (-1) _)⟩
      · cases e2
    · cases e2
theorem i_enum (g : Good X T W c F k) {es : List LE} {q tp : Pos} {elts : List Expr} {kk : Nat} (hb : isBlt c "enumerate" = true) (hs : ∀ v p, e ≠ .Starred v p) (hl : es.length = 1) (h : PA X [e] (rA X T W (evL C es))) : PI X (.Tuple elts kk tp) (.Call (.Name "enumerate" q) [e] [] p) (rI X T W fun ρ S => (evL C es ρ S).bind (itV .enum)) := by
  obtain ⟨g1, _, g3⟩ := g.blt hb
  refine PI.imp (pi_enumA g1 g3 h (by rw [star_of hs]; rfl)) fun σ H Q q => ?_
  refine rd_mono (rd_it q) fun vs H1 ⟨xs, items, S, M, hxl, r, e2, s, hQ⟩ => ?_
  rw [hl] at hxl
  match xs, hxl, r, e2 with
  | [x], _, r, e2 =>
    cases x with
    | list ds =>
      simp only [itD, itEnm, Option.some.injEq] at e2
      subst e2
      obtain ⟨v, rfl, a, us, hv, h1, h2, h3⟩ := one_len r
      subst hv
      exact .inl ⟨a, us, rfl, SqL.of h2, hQ _ M H1 (Ext.refl _ _) s (.enm h1 h2 h3)⟩
    | tuple ds =>
      simp only [itD, itEnm, Option.some.injEq] at e2
      subst e2
      obtain ⟨v, rfl, a, us, hv, h2, h3⟩ := one_len r
      subst hv
      exact .inr ⟨a, us, rfl, h2, hQ _ M H1 (Ext.refl _ _) s (.enmT h2 h3)⟩
    | _ => simp [itD, itEnm] at e2
theorem i_zip (g : Good X T W c F k) {es : List LE} {q tp : Pos} {elts : List Expr} {kk : Nat} (hb : isBlt c "zip" = true) (hs : ∀ v p, e ≠ .Starred v p) (hs2 : ∀ v p, f ≠ .Starred v p) (hl : es.length = 2) (h : PA X [e, f] (rA X T W (evL C es))) : PI X (.Tuple elts kk tp) (.Call (.Name "zip" q) [e, f] [] p) (rI X T W fun ρ S => (evL C es ρ S).bind (itV .zip)) := by
  obtain ⟨g1, _, g3⟩ := g.blt hb
  refine PI.imp (pi_zipA g1 g3 h (star_of hs _ _) (by rw [star_of hs2]; rfl)) fun σ H Q q => ?_
  refine rd_mono (rd_it q) fun vs H1 ⟨xs, items, S, M, hxl, r, e2, s, hQ⟩ => ?_
  rw [hl] at hxl
  match xs, hxl, r, e2 with
  | [x, y], _, r, e2 =>
    cases x with
    | list ds =>
      cases y with
      | list es' =>
        simp only [itD, itZip, Option.some.injEq] at e2
        subst e2
        obtain ⟨v, w, rfl, ⟨a, us, hv, h1, h2, h3⟩, ⟨b, ws, hw, g1, g2, g3⟩⟩ := two_len r
        subst hv hw
        exact ⟨a, b, us, ws, rfl, .inl ⟨SqL.of h2, SqL.of g2, hQ _ M H1 (Ext.refl _ _) s (.zip h1 h2 h3 g1 g2 g3)⟩⟩
      | _ => simp [itD, itZip] at e2
    | tuple ds =>
      cases y with
      | tuple es' =>
        simp only [itD, itZip, Option.some.injEq] at e2
        subst e2
        obtain ⟨v, w, rfl, ⟨a, us, hv, h1, h2⟩, ⟨b, ws, hw, g1, g2⟩⟩ := two_len r
        subst hv hw
        exact ⟨a, b, us, ws, rfl, .inr ⟨h1, g1, hQ _ M H1 (Ext.refl _ _) s (.zipT h1 h2 g1 g2)⟩⟩
      | _ => simp [itD, itZip] at e2
    | _ => cases y <;> simp [itD, itZip] at e2

/-! ### targets -/
/-- what a target does to the slots -/
def gG (X : Cx) (tgt : Tg) : TG := fun v σ H Q => ∃ d ρ M ρ', Rep X.K M H d v ∧ EnvOk X.K M H ρ σ ∧ bindTg tgt d ρ = some ρ' ∧ ∀ σ', EnvOk X.K M H ρ' σ' → σ'.length = σ.length → (∀ j, j ∉ tgIx tgt → σ'[j]? = σ[j]?) → Q σ' H
theorem PG.imp {X : Cx} {tg : Expr} {t t' : TG} (h : PG X tg t) (i : ∀ v σ H Q, t' v σ H Q → t v σ H Q) : PG X tg t' := ⟨fun pins s σ H v u Q I r q => h.run pins s σ H v u Q I r (i _ _ _ _ q)⟩
theorem tg_one (hn : X.N.Nodup) {i : Nat} {x : Str} {q : Pos} (hi : X.N[i]? = some x) (hl : Loc X.env.scope x) (hf : X.fn x = true ∨ X.env.scope.names.lookup x = some .local) : PG X (.Name x q) (gG X (.one i)) := by
  refine PG.imp (pg_name hn hi hl hf) fun v σ H Q ⟨d, ρ, M, ρ', r, e, hb, hQ⟩ => ?_
  simp only [bindTg, Option.some.injEq] at hb
  subst hb
  refine hQ _ (e.set (v := .d d) r i) (by simp) fun j hj => ?_
  have : i ≠ j := by
    intro z
    exact hj (by simp [tgIx, z])
  rw [List.getElem?_set_ne this]
/-- the names of a tuple, one by one -/
def gGs (X : Cx) (is : List Nat) : TGs := fun vs σ H Q => ∃ ds ρ M ρ', RepL X.K M H ds vs ∧ EnvOk X.K M H ρ σ ∧ setMany ρ is ds = some ρ' ∧ ∀ σ', EnvOk X.K M H ρ' σ' → σ'.length = σ.length → (∀ j, j ∉ is → σ'[j]? = σ[j]?) → Q σ' H
theorem PGs.imp {X : Cx} {ts : List Expr} {t t' : TGs} (h : PGs X ts t) (i : ∀ v σ H Q, t' v σ H Q → t v σ H Q) : PGs X ts t' := ⟨fun pins s σ H vs us Q I r q => h.run pins s σ H vs us Q I r (i _ _ _ _ q)⟩
theorem assignEach_name {x : Str} {q : Pos} {es : List Expr} {env : PySem.Env} : assignEach (.Name x q :: es) env = (false, assign (.Name x q) env) :: assignEach es env := rfl
theorem chkTg1_name {N : List Str} {sc : Scope} {i : Nat} {e : Expr} (h : chkTg1 N sc i e = true) : ∃ x q, e = .Name x q ∧ N[i]? = some x ∧ Loc sc x := by
  cases e with
  | Name x q =>
    simp only [chkTg1, Bool.and_eq_true, decide_eq_true_eq] at h
    exact ⟨x, q, rfl, h.1, loc_of h.2⟩
  | _ => simp [chkTg1] at h
theorem tg_many (hn : X.N.Nodup) {N : List Str} {sc : Scope} (hN : X.N = N) (hL : ∀ x, Loc sc x → Loc X.env.scope x ∧ (X.fn x = true ∨ X.env.scope.names.lookup x = some .local)) : ∀ {is : List Nat} {ts : List Expr}, chkTgs N sc is ts = true → PGs X ts (gGs X is) ∧ (assignEach ts X.env).length = ts.length ∧ (assignEach ts X.env).findIdx? (·.1) = none ∧ ts.length = is.length
  | [], [], _ => ⟨PGs.imp pgs_nil fun vs σ H Q ⟨ds, ρ, M, ρ', r, e, hb, hQ⟩ => by
      cases ds with
      | cons d ds => simp [setMany] at hb
      | nil =>
        simp only [setMany, Option.some.injEq] at hb
        subst hb
        exact ⟨r, hQ σ e rfl fun _ _ => rfl⟩, rfl, rfl, rfl⟩
  | [], _ :: _, h => by simp [chkTgs] at h
  | _ :: _, [], h => by simp [chkTgs] at h
  | i :: is, e :: ts, h => by
    simp only [chkTgs, Bool.and_eq_true] at h
    obtain ⟨x, q, rfl, hi, hl⟩ := chkTg1_name h.1
    obtain ⟨hl, hf⟩ := hL x hl
    obtain ⟨h1, h2, h3, h4⟩ := tg_many hn hN hL h.2
    refine ⟨PGs.imp (pgs_cons (tg_one hn (by rw [hN]; exact hi) hl hf) h1) fun vs σ H Q ⟨ds, ρ, M, ρ', r, e, hb, hQ⟩ => ?_, ?_, ?_, ?_⟩
    · cases ds with
      | nil => simp [setMany] at hb
      | cons d ds =>
        simp only [setMany] at hb
        obtain ⟨v, w, e1, e2, e3⟩ := r
        refine ⟨v, w, e1, d, ρ, M, _, e2, e, rfl, fun σ' e' hl' hj' => ?_⟩
        refine ⟨ds, _, M, ρ', e3, e', hb, fun σ2 e2 hl2 hj2 => hQ σ2 e2 (hl2.trans hl') fun j hj => ?_⟩
        simp only [List.mem_cons, not_or] at hj
        rw [hj2 j hj.2, hj' j (by simp [tgIx, hj.1])]
    · rw [assignEach_name]; simp [h2]
    · rw [assignEach_name, List.findIdx?_cons]; simp [h3]
    · simp [h4]
theorem setMany_len : ∀ {is : List Nat} {ds : List PyData} {ρ ρ' : Z.Env}, setMany ρ is ds = some ρ' → ds.length = is.length
  | [], [], _, _, _ => rfl
  | [], _ :: _, _, _, h => by simp [setMany] at h
  | _ :: _, [], _, _, h => by simp [setMany] at h
  | i :: is, d :: ds, ρ, ρ', h => by
    simp only [setMany] at h
    simp [setMany_len h]
theorem tg_ok (hc : X.calm = true) (hn : X.N.Nodup) {N : List Str} {sc : Scope} (hN : X.N = N) (hL : ∀ x, Loc sc x → Loc X.env.scope x ∧ (X.fn x = true ∨ X.env.scope.names.lookup x = some .local)) {tgt : Tg} {t : Expr} (h : chkTg N sc tgt t = true) : PG X t (gG X tgt) := by
  cases tgt with
  | one i =>
    obtain ⟨x, q, rfl, hi, hl⟩ := chkTg1_name (show chkTg1 N sc i t = true from by
      cases t <;> exact h)
    obtain ⟨hl, hf⟩ := hL x hl
    exact tg_one hn (by rw [hN]; exact hi) hl hf
  | many is =>
    cases t with
    | Tuple es kk q =>
      obtain ⟨h1, h2, h3, h4⟩ := tg_many hn hN hL (show chkTgs N sc is es = true from h)
      refine PG.imp (pg_tup (n := is.length) hc h1 (h2.trans h4) h3) fun v σ H Q ⟨d, ρ, M, ρ', r, e, hb, hQ⟩ => ?_
      cases d with
      | tuple ds =>
        simp only [bindTg] at hb
        obtain ⟨a, vs, e1, e2, e3⟩ := r
        refine ⟨a, vs, e1, e2, ?_, ds, ρ, M, ρ', e3, e, hb, hQ⟩
        rw [← e3.length]
        exact setMany_len hb
      | _ => simp [bindTg] at hb
    | _ => simp [chkTg] at h
end
end Z

/-! Comprehensions, expressions: soundness. -/
namespace Z
open PySem PySem.Spec PyProof.Rows L2 RZ

theorem R.bind_assoc {α β γ : Type} (x : R α) (f : α → Sto → R β) (g : β → Sto → R γ) : (x.bind f).bind g = x.bind fun a S => (f a S).bind g := by
  cases x <;> rfl
/-- no exception is wished -/
abbrev W0 : WX := fun _ _ _ _ => False
theorem wipe_in {σ : L2.St} {j : Nat} : ∀ {vs : List Nat}, j ∈ vs → (L2.wipe σ vs)[j]? = if j < σ.length then some none else none
  | v :: vs, h => by
    unfold L2.wipe
    by_cases e : v = j
    · subst e
      split
      · rename_i hl
        exact List.getElem?_set_self (by rw [wipe_length]; exact hl)
      · rename_i hl
        exact List.getElem?_eq_none (by rw [List.length_set, wipe_length]; omega)
    · rw [List.getElem?_set_ne e]
      exact wipe_in ((List.mem_cons.mp h).resolve_left fun z => e z.symm)
theorem wipe_eq {σ σ' : L2.St} {vs : List Nat} (hl : σ'.length = σ.length) (h : ∀ j, j ∉ vs → σ'[j]? = σ[j]?) : L2.wipe σ' vs = L2.wipe σ vs := by
  apply List.ext_getElem?
  intro j
  by_cases hj : j ∈ vs
  · rw [wipe_in hj, wipe_in hj, hl]
  · rw [wipe_out hj, wipe_out hj, h j hj]
section
variable {T : List (Addr × Str)} {K : PySem.W.Frag} {M : MM} {H : Hp} {S : Sto}
theorem fre_push {D a : Addr} (h : Fre (M.hide D) a) : Fre (M.push D) a := ⟨fun z => by
  rcases List.mem_append.mp z with q | q
  · exact h.1 q
  · simp only [List.mem_singleton, Option.some.injEq] at q
    exact h.2 (by rw [q]; exact List.mem_cons_self), fun z => h.2 (List.mem_cons_of_mem _ z)⟩
theorem StoreOk.pushAt {D : Addr} {ds : List PyData} {vs : List V} (s : StoreOk T K (M.hide D) H S) (hz : D ∉ M.z) (hD : H D = some (.lst vs)) (r : RepL K (M.hide D) H ds vs) : StoreOk T K (M.push D) H (S ++ [.lst ds]) where
  len := by simp [MM.push, ← s.len, MM.hide]
  inj := fun n m a h1 h2 => by
    have nD : some D ∉ M.m := (s.prv D List.mem_cons_self).1
    have key : ∀ {n : Nat}, (M.m ++ [some D])[n]? = some (some a) → (n < M.m.length ∧ M.m[n]? = some (some a)) ∨ (n = M.m.length ∧ a = D) := fun {n} h => by
      by_cases hn : n < M.m.length
      · rw [List.getElem?_append_left hn] at h; exact .inl ⟨hn, h⟩
      · have hlt : n < (M.m ++ [some D]).length := (List.getElem?_eq_some_iff.mp h).1
        have hn' : n = M.m.length := by simp at hlt; omega
        subst hn'
        simp at h
        exact .inr ⟨rfl, h.symm⟩
    rcases key h1 with ⟨l1, q1⟩ | ⟨l1, q1⟩ <;> rcases key h2 with ⟨l2, q2⟩ | ⟨l2, q2⟩
    · exact s.inj n m a q1 q2
    · subst q2; exact absurd (List.mem_of_getElem? q1) nD
    · subst q1; exact absurd (List.mem_of_getElem? q2) nD
    · rw [l1, l2]
  ent := fun n xs e => by
    have hl : M.m.length = S.length := s.len
    by_cases hn : n < S.length
    · rw [List.getElem?_append_left hn] at e
      obtain ⟨a, ws, h1, h2, h3⟩ := s.ent n xs e
      exact ⟨a, ws, by show (M.m ++ [some D])[n]? = _; rw [List.getElem?_append_left (by rw [hl]; exact hn)]; exact h1, h2, h3.cut fun _ => fre_push⟩
    · have hlt : n < (S ++ [SE.lst ds]).length := (List.getElem?_eq_some_iff.mp e).1
      have hn' : n = S.length := by simp at hlt; omega
      subst hn'
      simp at e
      subst e
      exact ⟨D, vs, by show (M.m ++ [some D])[S.length]? = _; rw [← hl]; simp, hD, r.cut fun _ => fre_push⟩
  gon := fun n e => by
    have hl : M.m.length = S.length := s.len
    by_cases hn : n < S.length
    · rw [List.getElem?_append_left hn] at e
      show (M.m ++ [some D])[n]? = _
      rw [List.getElem?_append_left (by rw [hl]; exact hn)]
      exact s.gon n e
    · have hlt : n < (S ++ [SE.lst ds]).length := (List.getElem?_eq_some_iff.mp e).1
      have hn' : n = S.length := by simp at hlt; omega
      subst hn'
      simp at e
  prv := fun a h => by
    obtain ⟨h1, us, h2⟩ := s.prv a (List.mem_cons_of_mem _ h)
    refine ⟨fun z => ?_, us, h2⟩
    rcases List.mem_append.mp z with q | q
    · exact h1 q
    · simp only [List.mem_singleton, Option.some.injEq] at q
      exact hz (by rw [← q]; exact h)
  tab := s.tab
end
section
variable {X : Cx} {T : List (Addr × Str)} {W : WX} {C : Nat → List Val → Sto → R Val}
/-- one turn of a comprehension -/
def fC (C : Nat → List Val → Sto → R Val) (tgt : Tg) (own : List Nat) (cond : Option LE) (elt : LE) (ρ : Z.Env) : PyData → Sto → R (Option PyData) := fun x S => onTg tgt x (wipeE ρ own) fun ρ' => (evO C cond ρ' S).bind fun c S => if c then (evE C elt ρ' S).bind dat1 else .ok none S
theorem lc_G {m : Bool} {kk : IK} {args : List LE} {tgt : Tg} {own : List Nat} {cond : Option LE} {elt : LE} (ho : ∀ j, j ∈ tgIx tgt → j ∈ own) {σ : L2.St} {H : Hp} {Q : VK} (q : rE X T W (evE C (.comp m kk args tgt own cond elt)) σ H Q) :
    tLc (rI X T W fun ρ S => (evL C args ρ S).bind (itV kk)) (gG X tgt) (rT X T W0 (evO C cond)) (rE X T W0 (evE C elt)) own σ H Q := by
  have q1 : rd X T W (RepV X.K) (fun ρ S => ((evL C args ρ S).bind (itV kk)).bind fun items S => (loopC (fC C tgt own cond elt ρ) items [] S).bind fun ys S => ret1 m (.list ys) S) σ H Q := by
    obtain ⟨ρ, S, M, e, s, p⟩ := q
    refine ⟨ρ, S, M, e, s, ?_⟩
    show Post X T W σ M H (RepV X.K) (((evL C args ρ S).bind (itV kk)).bind fun items S => (loopC (fC C tgt own cond elt ρ) items [] S).bind fun ys S => ret1 m (.list ys) S) Q
    rw [R.bind_assoc]
    exact p
  refine rd_mono (rd_bind (rep := fun M H items J => ItRep X.K M H J items) (f := fun ρ items S => (loopC (fC C tgt own cond elt ρ) items [] S).bind fun ys S => ret1 m (.list ys) S) q1) fun J H1 ⟨ρ, items, S, M, e, s, r, p⟩ D hD => ?_
  have hDz : D ∉ M.z := fun z => by
    obtain ⟨_, _, h⟩ := s.prv D z
    rw [hD] at h; cases h
  refine ⟨fun i n H => ∃ acc S' Mi vs, n = items.length - i ∧ i ≤ items.length ∧ Ext M H1 Mi H ∧ StoreOk T X.K (Mi.hide D) H S' ∧ EnvOk X.K (Mi.hide D) H ρ σ ∧ ItRep X.K (Mi.hide D) H J items ∧ H D = some (.lst vs) ∧ RepL X.K (Mi.hide D) H acc vs ∧
    Post X T W σ M H1 (RepV X.K) ((loopC (fC C tgt own cond elt ρ) (items.drop i) acc S').bind fun ys S => ret1 m (.list ys) S) Q,
    ⟨items.length, [], S, M, [], by simp, Nat.zero_le _, ext_new hD, s.hide hD, e.hide hD, r.hide hD, upd_same, rfl, p⟩, ?_⟩
  rintro i n H2 ⟨acc, S', Mi, vs, rfl, hi, eM, sM, eE, rJ, hDv, rA, p⟩
  obtain ⟨tStop, tGo⟩ := rJ.turn sM
  by_cases hlt : i < items.length
  · -- a turn
    have hd : items[i]? = some items[i] := List.getElem?_eq_getElem hlt
    obtain ⟨go, yld⟩ := tGo i _ hd
    refine .inr ⟨go, fun H' => ∃ acc S' Mi vs, items.length - (i + 1) = items.length - (i + 1) ∧ i + 1 ≤ items.length ∧ Ext M H1 Mi H' ∧ StoreOk T X.K (Mi.hide D) H' S' ∧ EnvOk X.K (Mi.hide D) H' ρ σ ∧ ItRep X.K (Mi.hide D) H' J items ∧ H' D = some (.lst vs) ∧ RepL X.K (Mi.hide D) H' acc vs ∧
      Post X T W σ M H1 (RepV X.K) ((loopC (fC C tgt own cond elt ρ) (items.drop (i + 1)) acc S').bind fun ys S => ret1 m (.list ys) S) Q, fun H' h => ⟨items.length - (i + 1), by omega, h⟩, fun x H3 hy => ?_⟩
    obtain ⟨x3, s3, r3⟩ := yld x H3 hy
    rw [List.drop_eq_getElem_cons hlt] at p
    simp only [loopC] at p
    unfold fC onTg at p
    cases hb : bindTg tgt items[i] (wipeE ρ own) with
    | none => rw [hb] at p; exact p.elim
    | some ρ' =>
      rw [hb] at p
      dsimp only at p
      have nDm : some D ∉ (Mi.hide D).m := (sM.prv D List.mem_cons_self).1
      refine ⟨items[i], wipeE ρ own, Mi.hide D, ρ', r3, (eE.ext x3).wipe own, hb, fun σ' e4 hl4 hj4 => ⟨wipe_eq (hl4.trans (wipe_length _ _)) fun j hj => ?_, ?_⟩⟩
      · rw [hj4 j fun z => hj (ho j z), wipe_out hj]
      · refine ⟨ρ', S', Mi.hide D, e4, s3, ?_⟩
        cases hc : evO C cond ρ' S' with
        | ex c S2 => rw [hc] at p; exact p.elim
        | no => rw [hc] at p; exact p.elim
        | ok b S2 =>
          rw [hc] at p
          intro b' M5 H5 x5 s5 hbb
          subst hbb
          have hz5 : M5.z = D :: Mi.z := x5.zz
          obtain ⟨m5, z5⟩ := M5
          subst hz5
          have hM5 : (⟨m5, D :: Mi.z⟩ : MM) = MM.hide ⟨m5, Mi.z⟩ D := rfl
          have x35 := x3.trans x5
          have hD5 : H5 D = some (.lst vs) := x35.lst D vs hDv nDm
          cases b with
          | false =>
            rw [if_neg Bool.false_ne_true]
            refine ⟨acc, S2, ⟨m5, Mi.z⟩, vs, rfl, hlt, eM.trans (Ext.show_ (M0 := M) (H0 := H1) x35), s5, eE.ext x35, rJ.ext x35, hD5, rA.ext x35, ?_⟩
            exact p
          | true =>
            rw [if_pos rfl]
            refine ⟨ρ', S2, ⟨m5, D :: Mi.z⟩, e4.ext x5, s5, ?_⟩
            have p2 : Post X T W σ M H1 (RepV X.K) ((match (evE C elt ρ' S2).bind dat1 with
              | .ok none S' => loopC (fC C tgt own cond elt ρ) (items.drop (i + 1)) acc S'
              | .ok (some y) S' => if acc.length < lim then loopC (fC C tgt own cond elt ρ) (items.drop (i + 1)) (acc ++ [y]) S' else .no
              | .ex _ _ => .no
              | .no => .no).bind fun ys S => ret1 m (.list ys) S) Q := p
            cases hv : evE C elt ρ' S2 with
            | ex c S3 => rw [hv] at p2; exact p2.elim
            | no => rw [hv] at p2; exact p2.elim
            | ok v S3 =>
              rw [hv] at p2
              intro y M6 H6 x6 s6 r6
              cases v with
              | r n => exact p2.elim
              | s n => exact p2.elim
              | d yd =>
                have p3 : Post X T W σ M H1 (RepV X.K) ((if acc.length < lim then loopC (fC C tgt own cond elt ρ) (items.drop (i + 1)) (acc ++ [yd]) S3 else .no).bind fun ys S => ret1 m (.list ys) S) Q := p2
                have hz6 : M6.z = D :: Mi.z := x6.zz
                obtain ⟨m6, z6⟩ := M6
                subst hz6
                have x36 := x35.trans x6
                have hD6 : H6 D = some (.lst vs) := x36.lst D vs hDv nDm
                by_cases hn : acc.length < lim
                · rw [if_pos hn] at p3
                  have n1 : ∀ ys, H6 D ≠ some (.tup ys) := by intro ys q; rw [hD6] at q; cases q
                  have n2 : ∀ o u, H6 D ≠ some (.frz o u) := by intro _ _ q; rw [hD6] at q; cases q
                  have hmem : D ∈ (⟨m6, D :: Mi.z⟩ : MM).z := List.mem_cons_self
                  refine ⟨vs, hD6, by rw [← rA.length]; exact Nat.lt_of_lt_of_le hn lim_line, acc ++ [yd], S3, ⟨m6, Mi.z⟩, vs ++ [y], rfl, hlt, ext_updD (eM.trans (Ext.show_ (M0 := M) (H0 := H1) x36)) hD hD6, s6.upd hmem hD6, (eE.ext x36).upd hmem hD6, (rJ.ext x36).upd hmem hD6, upd_same, ?_, p3⟩
                  exact ((rA.ext x36).upd hmem n1 n2).append ⟨y, [], rfl, Rep.upd hmem n1 n2 r6, rfl⟩
                · rw [if_neg hn] at p3; exact p3.elim
  · -- the end
    have hi' : i = items.length := by omega
    subst hi'
    refine .inl ⟨tStop _ (Nat.le_refl _), ?_⟩
    rw [List.drop_length] at p
    have p : Post X T W σ M H1 (RepV X.K) (ret1 m (.list acc) S') Q := p
    have hDz' : D ∉ Mi.z := by rw [eM.zz]; exact hDz
    have nDm : some D ∉ Mi.m := (sM.prv D List.mem_cons_self).1
    cases m with
    | false => exact p _ Mi H2 eM sM.show_ ⟨D, vs, rfl, ⟨nDm, hDz'⟩, hDv, rA.cut fun _ => fre_show⟩
    | true =>
      refine p _ (Mi.push D) H2 ⟨?_, fun n hn => ?_, fun a h => ?_, eM.zz, eM.lst, eM.tup, eM.frz, eM.dk, eM.nn⟩ (sM.pushAt hDz' hDv rA) ⟨D, rfl, .inr ?_⟩
      · show _ ≤ (Mi.m ++ [some D]).length
        have := eM.len
        simp
        omega
      · show (Mi.m ++ [some D])[n]? = _ ∨ (Mi.m ++ [some D])[n]? = _
        rw [List.getElem?_append_left (Nat.lt_of_lt_of_le hn eM.len)]
        exact eM.old n hn
      · rcases List.mem_append.mp h with z | z
        · exact eM.new a z
        · simp only [List.mem_singleton, Option.some.injEq] at z
          subst z
          exact .inr hD
      · show (Mi.m ++ [some D])[S'.length]? = _
        have : Mi.m.length = S'.length := sM.len
        rw [← this]
        simp
/-- one turn of the first clause -/
def fA (C : Nat → List Val → Sto → R Val) (tgt : Tg) (own : List Nat) (cond : Option LE) (k1 : IK) (args1 : List LE) (tg1 : Tg) (own1 : List Nat) (cond1 : Option LE) (elt : LE) (ρ : Z.Env) : PyData → List PyData → Sto → R (List PyData) := fun x acc S => onTg tgt x (wipeE ρ own) fun ρ' => (evO C cond ρ' S).bind fun c S => if c then (evL C args1 ρ' S).bind fun vs S => (itV k1 vs S).bind fun items1 S => loopC (fC C tg1 own1 cond1 elt ρ') items1 acc S else .ok acc S
/-- behind the second clause: the rest of the first -/
def aft {α : Type} (x : R (List PyData)) (f : List PyData → Sto → R α) : R α := match x with
  | .ok a S => f a S
  | .ex _ _ => .no
  | .no => .no
theorem loopA_cons {f : PyData → List PyData → Sto → R (List PyData)} {x : PyData} {r acc : List PyData} {S : Sto} : loopA f (x :: r) acc S = aft (f x acc S) fun acc' S' => loopA f r acc' S' := by
  simp only [loopA]
  cases f x acc S <;> rfl
theorem lc2_G {m : Bool} {kk k1 : IK} {args args1 : List LE} {tgt tg1 : Tg} {own own1 : List Nat} {cond cond1 : Option LE} {elt : LE} (ho : ∀ j, j ∈ tgIx tgt → j ∈ own) (ho1 : ∀ j, j ∈ tgIx tg1 → j ∈ own1) {σ : L2.St} {H : Hp} {Q : VK} (q : rE X T W (evE C (.comp2 m kk args tgt cond k1 args1 tg1 own1 cond1 own elt)) σ H Q) :
    tLc2 (rI X T W fun ρ S => (evL C args ρ S).bind (itV kk)) (gG X tgt) (rT X T W0 (evO C cond)) (rI X T W0 fun ρ S => (evL C args1 ρ S).bind (itV k1)) (gG X tg1) (rT X T W0 (evO C cond1)) (rE X T W0 (evE C elt)) own own1 σ H Q := by
  have q1 : rd X T W (RepV X.K) (fun ρ S => ((evL C args ρ S).bind (itV kk)).bind fun items S => (loopA (fA C tgt own cond k1 args1 tg1 own1 cond1 elt ρ) items [] S).bind fun ys S => ret1 m (.list ys) S) σ H Q := by
    obtain ⟨ρ, S, M, e, s, p⟩ := q
    refine ⟨ρ, S, M, e, s, ?_⟩
    show Post X T W σ M H (RepV X.K) (((evL C args ρ S).bind (itV kk)).bind fun items S => (loopA (fA C tgt own cond k1 args1 tg1 own1 cond1 elt ρ) items [] S).bind fun ys S => ret1 m (.list ys) S) Q
    rw [R.bind_assoc]
    exact p
  refine rd_mono (rd_bind (rep := fun M H items J => ItRep X.K M H J items) (f := fun ρ items S => (loopA (fA C tgt own cond k1 args1 tg1 own1 cond1 elt ρ) items [] S).bind fun ys S => ret1 m (.list ys) S) q1) fun J H1 ⟨ρ, items, S, M, e, s, r, p⟩ D hD => ?_
  have hDz : D ∉ M.z := fun z => by
    obtain ⟨_, _, h⟩ := s.prv D z
    rw [hD] at h; cases h
  generalize hf : fA C tgt own cond k1 args1 tg1 own1 cond1 elt ρ = f at p
  refine ⟨fun i n H => ∃ acc S' Mi vs, n = items.length - i ∧ i ≤ items.length ∧ Ext M H1 Mi H ∧ StoreOk T X.K (Mi.hide D) H S' ∧ EnvOk X.K (Mi.hide D) H ρ σ ∧ ItRep X.K (Mi.hide D) H J items ∧ H D = some (.lst vs) ∧ RepL X.K (Mi.hide D) H acc vs ∧
    Post X T W σ M H1 (RepV X.K) ((loopA f (items.drop i) acc S').bind fun ys S => ret1 m (.list ys) S) Q,
    ⟨items.length, [], S, M, [], by simp, Nat.zero_le _, ext_new hD, s.hide hD, e.hide hD, r.hide hD, upd_same, rfl, p⟩, ?_⟩
  rintro i n H2 ⟨acc, S', Mi, vs, rfl, hi, eM, sM, eE, rJ, hDv, rA, p⟩
  obtain ⟨tStop, tGo⟩ := rJ.turn sM
  by_cases hlt : i < items.length
  · -- a turn
    have hd : items[i]? = some items[i] := List.getElem?_eq_getElem hlt
    obtain ⟨go, yld⟩ := tGo i _ hd
    refine .inr ⟨go, fun H' => ∃ acc S' Mi vs, items.length - (i + 1) = items.length - (i + 1) ∧ i + 1 ≤ items.length ∧ Ext M H1 Mi H' ∧ StoreOk T X.K (Mi.hide D) H' S' ∧ EnvOk X.K (Mi.hide D) H' ρ σ ∧ ItRep X.K (Mi.hide D) H' J items ∧ H' D = some (.lst vs) ∧ RepL X.K (Mi.hide D) H' acc vs ∧
      Post X T W σ M H1 (RepV X.K) ((loopA f (items.drop (i + 1)) acc S').bind fun ys S => ret1 m (.list ys) S) Q, fun H' h => ⟨items.length - (i + 1), by omega, h⟩, fun x H3 hy => ?_⟩
    obtain ⟨x3, s3, r3⟩ := yld x H3 hy
    rw [List.drop_eq_getElem_cons hlt, loopA_cons] at p
    generalize hR : items.drop (i + 1) = rest at p ⊢
    have hfx : f items[i] acc S' = onTg tgt items[i] (wipeE ρ own) fun ρ' => (evO C cond ρ' S').bind fun c S => if c then (evL C args1 ρ' S).bind fun vs S => (itV k1 vs S).bind fun items1 S => loopC (fC C tg1 own1 cond1 elt ρ') items1 acc S else .ok acc S := by
      rw [← hf]
      rfl
    rw [hfx] at p
    unfold onTg at p
    cases hb : bindTg tgt items[i] (wipeE ρ own) with
    | none => rw [hb] at p; exact p.elim
    | some ρ' =>
      rw [hb] at p
      dsimp only at p
      have nDm : some D ∉ (Mi.hide D).m := (sM.prv D List.mem_cons_self).1
      refine ⟨items[i], wipeE ρ own, Mi.hide D, ρ', r3, (eE.ext x3).wipe own, hb, fun σ' e4 hl4 hj4 => ⟨wipe_eq (hl4.trans (wipe_length _ _)) fun j hj => ?_, ?_⟩⟩
      · rw [hj4 j fun z => hj (ho j z), wipe_out hj]
      · refine ⟨ρ', S', Mi.hide D, e4, s3, ?_⟩
        cases hc : evO C cond ρ' S' with
        | ex c S2 => rw [hc] at p; exact p.elim
        | no => rw [hc] at p; exact p.elim
        | ok b S2 =>
          rw [hc] at p
          intro b' M5 H5 x5 s5 hbb
          subst hbb
          have hz5 : M5.z = D :: Mi.z := x5.zz
          obtain ⟨m5, z5⟩ := M5
          subst hz5
          have x35 := x3.trans x5
          have hD5 : H5 D = some (.lst vs) := x35.lst D vs hDv nDm
          cases b with
          | false =>
            rw [if_neg Bool.false_ne_true]
            exact ⟨acc, S2, ⟨m5, Mi.z⟩, vs, rfl, hlt, eM.trans (Ext.show_ (M0 := M) (H0 := H1) x35), s5, eE.ext x35, rJ.ext x35, hD5, rA.ext x35, p⟩
          | true =>
            rw [if_pos rfl]
            -- the second clause
            have p1 : Post X T W σ M H1 (RepV X.K) ((aft (((evL C args1 ρ' S2).bind (itV k1)).bind fun items1 S => loopC (fC C tg1 own1 cond1 elt ρ') items1 acc S) fun acc' S' => loopA f rest acc' S').bind fun ys S => ret1 m (.list ys) S) Q := by
              rw [R.bind_assoc]
              exact p
            refine ⟨ρ', S2, ⟨m5, D :: Mi.z⟩, e4.ext x5, s5, ?_⟩
            show Post X T W0 σ' ⟨m5, D :: Mi.z⟩ H5 _ ((evL C args1 ρ' S2).bind (itV k1)) _
            cases hL : (evL C args1 ρ' S2).bind (itV k1) with
            | ex c S3 => rw [hL] at p1; exact p1.elim
            | no => rw [hL] at p1; exact p1.elim
            | ok items1 S3 =>
              rw [hL] at p1
              intro J1 M6 H6 x6 s6 rJ1
              have hz6 : M6.z = D :: Mi.z := x6.zz
              obtain ⟨m6, z6⟩ := M6
              subst hz6
              have x36 := x35.trans x6
              have hD6 : H6 D = some (.lst vs) := x36.lst D vs hDv nDm
              refine ⟨fun j k H => ∃ acc S' Mi2 vs, k = items1.length - j ∧ j ≤ items1.length ∧ Mi2.z = Mi.z ∧ Ext M H1 Mi2 H ∧ StoreOk T X.K (Mi2.hide D) H S' ∧ EnvOk X.K (Mi2.hide D) H ρ σ ∧ EnvOk X.K (Mi2.hide D) H ρ' σ' ∧ ItRep X.K (Mi2.hide D) H J items ∧ ItRep X.K (Mi2.hide D) H J1 items1 ∧ H D = some (.lst vs) ∧ RepL X.K (Mi2.hide D) H acc vs ∧
                Post X T W σ M H1 (RepV X.K) ((aft (loopC (fC C tg1 own1 cond1 elt ρ') (items1.drop j) acc S') fun acc' S' => loopA f rest acc' S').bind fun ys S => ret1 m (.list ys) S) Q,
                ⟨items1.length, acc, S3, ⟨m6, Mi.z⟩, vs, by simp, Nat.zero_le _, rfl, eM.trans (Ext.show_ (M0 := M) (H0 := H1) x36), s6, eE.ext x36, (e4.ext x5).ext x6, rJ.ext x36, rJ1, hD6, rA.ext x36, p1⟩, ?_⟩
              clear p1 hD6 x36 x6 s6 rJ1 x35 hD5 x5 s5 x3 s3 r3 hy p hDv rA sM eE rJ eM tStop tGo go yld nDm
              rintro j k H2 ⟨acc, S', Mi2, vs, rfl, hj, hz2, eM, sM, eE, eE2, rJ, rJ1, hDv, rA, p⟩
              obtain ⟨tStop, tGo⟩ := rJ1.turn sM
              have nDm : some D ∉ (Mi2.hide D).m := (sM.prv D List.mem_cons_self).1
              by_cases hlt1 : j < items1.length
              · have hd : items1[j]? = some items1[j] := List.getElem?_eq_getElem hlt1
                obtain ⟨go, yld⟩ := tGo j _ hd
                refine .inr ⟨go, fun H' => ∃ acc S' Mi2 vs, items1.length - (j + 1) = items1.length - (j + 1) ∧ j + 1 ≤ items1.length ∧ Mi2.z = Mi.z ∧ Ext M H1 Mi2 H' ∧ StoreOk T X.K (Mi2.hide D) H' S' ∧ EnvOk X.K (Mi2.hide D) H' ρ σ ∧ EnvOk X.K (Mi2.hide D) H' ρ' σ' ∧ ItRep X.K (Mi2.hide D) H' J items ∧ ItRep X.K (Mi2.hide D) H' J1 items1 ∧ H' D = some (.lst vs) ∧ RepL X.K (Mi2.hide D) H' acc vs ∧
                  Post X T W σ M H1 (RepV X.K) ((aft (loopC (fC C tg1 own1 cond1 elt ρ') (items1.drop (j + 1)) acc S') fun acc' S' => loopA f rest acc' S').bind fun ys S => ret1 m (.list ys) S) Q, fun H' h => ⟨items1.length - (j + 1), by omega, h⟩, fun x H3 hy => ?_⟩
                obtain ⟨x3, s3, r3⟩ := yld x H3 hy
                rw [List.drop_eq_getElem_cons hlt1] at p
                simp only [loopC] at p
                unfold fC onTg at p
                cases hb1 : bindTg tg1 items1[j] (wipeE ρ' own1) with
                | none => rw [hb1] at p; exact p.elim
                | some ρ2 =>
                  rw [hb1] at p
                  dsimp only at p
                  refine ⟨items1[j], wipeE ρ' own1, Mi2.hide D, ρ2, r3, (eE2.ext x3).wipe own1, hb1, fun σ3 e5 hl5 hj5 => ⟨wipe_eq (hl5.trans (wipe_length _ _)) fun jj hjj => ?_, ?_⟩⟩
                  · rw [hj5 jj fun z => hjj (ho1 jj z), wipe_out hjj]
                  · refine ⟨ρ2, S', Mi2.hide D, e5, s3, ?_⟩
                    cases hc1 : evO C cond1 ρ2 S' with
                    | ex c S2 => rw [hc1] at p; exact p.elim
                    | no => rw [hc1] at p; exact p.elim
                    | ok b S4 =>
                      rw [hc1] at p
                      intro b' M7 H7 x7 s7 hbb
                      subst hbb
                      have hz7 : M7.z = D :: Mi2.z := x7.zz
                      obtain ⟨m7, z7⟩ := M7
                      subst hz7
                      have x37 := x3.trans x7
                      have hD7 : H7 D = some (.lst vs) := x37.lst D vs hDv nDm
                      cases b with
                      | false =>
                        rw [if_neg Bool.false_ne_true]
                        exact ⟨acc, S4, ⟨m7, Mi2.z⟩, vs, rfl, hlt1, hz2, eM.trans (Ext.show_ (M0 := M) (H0 := H1) x37), s7, eE.ext x37, eE2.ext x37, rJ.ext x37, rJ1.ext x37, hD7, rA.ext x37, p⟩
                      | true =>
                        rw [if_pos rfl]
                        refine ⟨ρ2, S4, ⟨m7, D :: Mi2.z⟩, e5.ext x7, s7, ?_⟩
                        have p2 : Post X T W σ M H1 (RepV X.K) ((aft (match (evE C elt ρ2 S4).bind dat1 with
                          | .ok none S' => loopC (fC C tg1 own1 cond1 elt ρ') (items1.drop (j + 1)) acc S'
                          | .ok (some y) S' => if acc.length < lim then loopC (fC C tg1 own1 cond1 elt ρ') (items1.drop (j + 1)) (acc ++ [y]) S' else .no
                          | .ex _ _ => .no
                          | .no => .no) fun acc' S' => loopA f rest acc' S').bind fun ys S => ret1 m (.list ys) S) Q := p
                        cases hv : evE C elt ρ2 S4 with
                        | ex c S5 => rw [hv] at p2; exact p2.elim
                        | no => rw [hv] at p2; exact p2.elim
                        | ok v S5 =>
                          rw [hv] at p2
                          intro y M8 H8 x8 s8 r8
                          cases v with
                          | r n => exact p2.elim
                          | s n => exact p2.elim
                          | d yd =>
                            have p3 : Post X T W σ M H1 (RepV X.K) ((aft (if acc.length < lim then loopC (fC C tg1 own1 cond1 elt ρ') (items1.drop (j + 1)) (acc ++ [yd]) S5 else .no) fun acc' S' => loopA f rest acc' S').bind fun ys S => ret1 m (.list ys) S) Q := p2
                            have hz8 : M8.z = D :: Mi2.z := x8.zz
                            obtain ⟨m8, z8⟩ := M8
                            subst hz8
                            have x38 := x37.trans x8
                            have hD8 : H8 D = some (.lst vs) := x38.lst D vs hDv nDm
                            by_cases hn : acc.length < lim
                            · rw [if_pos hn] at p3
                              have n1 : ∀ ys, H8 D ≠ some (.tup ys) := by intro ys q; rw [hD8] at q; cases q
                              have n2 : ∀ o u, H8 D ≠ some (.frz o u) := by intro _ _ q; rw [hD8] at q; cases q
                              have hmem : D ∈ (⟨m8, D :: Mi2.z⟩ : MM).z := List.mem_cons_self
                              refine ⟨vs, hD8, by rw [← rA.length]; exact Nat.lt_of_lt_of_le hn lim_line, acc ++ [yd], S5, ⟨m8, Mi2.z⟩, vs ++ [y], rfl, hlt1, hz2, ext_updD (eM.trans (Ext.show_ (M0 := M) (H0 := H1) x38)) hD hD8, s8.upd hmem hD8, (eE.ext x38).upd hmem hD8, (eE2.ext x38).upd hmem hD8, (rJ.ext x38).upd hmem hD8, (rJ1.ext x38).upd hmem hD8, upd_same, ?_, p3⟩
                              exact ((rA.ext x38).upd hmem n1 n2).append ⟨y, [], rfl, Rep.upd hmem n1 n2 r8, rfl⟩
                            · rw [if_neg hn] at p3; exact p3.elim
              · have hj' : j = items1.length := by omega
                subst hj'
                refine .inl ⟨tStop _ (Nat.le_refl _), ?_⟩
                rw [List.drop_length] at p
                exact ⟨acc, S', Mi2, vs, rfl, hlt, eM, sM, eE, rJ, hDv, rA, p⟩
  · -- the end
    have hi' : i = items.length := by omega
    subst hi'
    refine .inl ⟨tStop _ (Nat.le_refl _), ?_⟩
    rw [List.drop_length] at p
    have p : Post X T W σ M H1 (RepV X.K) (ret1 m (.list acc) S') Q := p
    have hDz' : D ∉ Mi.z := by rw [eM.zz]; exact hDz
    have nDm : some D ∉ Mi.m := (sM.prv D List.mem_cons_self).1
    cases m with
    | false => exact p _ Mi H2 eM sM.show_ ⟨D, vs, rfl, ⟨nDm, hDz'⟩, hDv, rA.cut fun _ => fre_show⟩
    | true =>
      refine p _ (Mi.push D) H2 ⟨?_, fun n hn => ?_, fun a h => ?_, eM.zz, eM.lst, eM.tup, eM.frz, eM.dk, eM.nn⟩ (sM.pushAt hDz' hDv rA) ⟨D, rfl, .inr ?_⟩
      · show _ ≤ (Mi.m ++ [some D]).length
        have := eM.len
        simp
        omega
      · show (Mi.m ++ [some D])[n]? = _ ∨ (Mi.m ++ [some D])[n]? = _
        rw [List.getElem?_append_left (Nat.lt_of_lt_of_le hn eM.len)]
        exact eM.old n hn
      · rcases List.mem_append.mp h with z | z
        · exact eM.new a z
        · simp only [List.mem_singleton, Option.some.injEq] at z
          subst z
          exact .inr hD
      · show (Mi.m ++ [some D])[S'.length]? = _
        have : Mi.m.length = S'.length := sM.len
        rw [← this]
        simp
end
end Z

/-! Every expression of the small language is sound. -/
namespace Z
open PySem PySem.Spec PyProof.Rows L2 RZ

theorem notStar {c : SC} {l : LE} {e : Expr} (h : chkE c l e = true) : ∀ v p, e ≠ .Starred v p := by
  rintro v p rfl
  cases l with
  | ext o es =>
    rw [chkE_ext] at h
    cases o <;> cases h
  | _ => cases h
theorem folded_none {it : Expr} {env : PySem.Env} (h : isSet it = false) : ∀ x, foldedSetIterable it env x = pure x := by
  intro x
  cases it <;> first | rfl | (simp [isSet] at h)
theorem behind_none {op : CmpOp} {b : Expr} (h : isSet b = false) : behindInMarks op b = false := by
  cases b <;> first | rfl | (simp [isSet] at h)
theorem plainIx_of {b : Expr} (h : slicy b = false) : PlainIx b := by
  intro o i
  cases b <;> first | rfl | (simp [slicy] at h)
theorem ownP_ix {N : List Str} {own : List Nat} : (ownP N own).map (·.2) = own := by
  unfold ownP
  rw [List.map_map]
  exact List.map_id' own
def LcP (X : Cx) (e : Expr) (t : TE) : Prop := ∃ (elt tg iter : Expr) (ifs : List Expr) (scope : Scope) (own : List (Str × Nat)) (pos : Pos) (wi : TI) (g : TG) (tt : TT) (te : TE), e = .ListComp elt [⟨tg, iter, ifs, 0⟩] scope pos ∧ PI X tg iter wi ∧ BlkOk X.N X.env.scope scope own ∧
  (∀ (s : Shared) (H : Hp) (C : Addr) (cl : List (Str × Addr)) (fp : List Addr), PG (X.blk s H scope (compEnvC scope cl C X.env) fp) tg g) ∧ (∀ (s : Shared) (H : Hp) (C : Addr) (cl : List (Str × Addr)) (fp : List Addr), PTs (X.blk s H scope (compEnvC scope cl C X.env) fp) ifs tt) ∧
  (∀ (s : Shared) (H : Hp) (C : Addr) (cl : List (Str × Addr)) (fp : List Addr), PE (X.blk s H scope (compEnvC scope cl C X.env) fp) elt te) ∧ (∀ x, foldedSetIterable iter X.env x = pure x) ∧ ∀ σ H Q, t σ H Q → tLc wi g tt te (own.map (·.2)) σ H Q
def LcP2 (X : Cx) (e : Expr) (t : TE) : Prop := ∃ (elt tg iter tg1 iter1 : Expr) (ifs ifs1 : List Expr) (scope : Scope) (own : List (Str × Nat)) (vs1 : List Nat) (pos : Pos) (wi wi1 : TI) (g g1 : TG) (tt tt1 : TT) (te : TE), e = .ListComp elt [⟨tg, iter, ifs, 0⟩, ⟨tg1, iter1, ifs1, 0⟩] scope pos ∧ PI X tg iter wi ∧ BlkOk X.N X.env.scope scope own ∧ (∀ i ∈ vs1, i ∈ own.map (·.2)) ∧
  (∀ (s : Shared) (H : Hp) (C : Addr) (cl : List (Str × Addr)) (fp : List Addr), PG (X.blk s H scope (compEnvC scope cl C X.env) fp) tg g) ∧ (∀ (s : Shared) (H : Hp) (C : Addr) (cl : List (Str × Addr)) (fp : List Addr), PTs (X.blk s H scope (compEnvC scope cl C X.env) fp) ifs tt) ∧
  (∀ (s : Shared) (H : Hp) (C : Addr) (cl : List (Str × Addr)) (fp : List Addr), PI (X.blk s H scope (compEnvC scope cl C X.env) fp) tg1 iter1 wi1) ∧
  (∀ (s : Shared) (H : Hp) (C : Addr) (cl : List (Str × Addr)) (fp : List Addr), PG (X.blk s H scope (compEnvC scope cl C X.env) fp) tg1 g1) ∧ (∀ (s : Shared) (H : Hp) (C : Addr) (cl : List (Str × Addr)) (fp : List Addr), PTs (X.blk s H scope (compEnvC scope cl C X.env) fp) ifs1 tt1) ∧
  (∀ (s : Shared) (H : Hp) (C : Addr) (cl : List (Str × Addr)) (fp : List Addr), PE (X.blk s H scope (compEnvC scope cl C X.env) fp) elt te) ∧ (∀ x, foldedSetIterable iter X.env x = pure x) ∧ (∀ env x, foldedSetIterable iter1 env x = pure x) ∧ ∀ σ H Q, t σ H Q → tLc2 wi g tt wi1 g1 tt1 te (own.map (·.2)) vs1 σ H Q
theorem LcP2.pe {X : Cx} {e : Expr} {t : TE} (hc : X.calm = true) (hN : X.N.Nodup) (h : LcP2 X e t) : PE X e t := by
  obtain ⟨elt, tg, iter, tg1, iter1, ifs, ifs1, scope, own, vs1, pos, wi, wi1, g, g1, tt, tt1, te, rfl, h1, h2, h3, h4, h5, h6, h7, h8, h9, h10, h11, h12⟩ := h
  exact PE.imp (pe_lc2 hc hN h1 h2 h3 h4 h5 h6 h7 h8 h9 h10 h11) h12
theorem LcP.pe {X : Cx} {e : Expr} {t : TE} (hc : X.calm = true) (hN : X.N.Nodup) (h : LcP X e t) : PE X e t := by
  obtain ⟨elt, tg, iter, ifs, scope, own, pos, wi, g, tt, te, rfl, h1, h2, h3, h4, h5, h6, h7⟩ := h
  exact PE.imp (pe_lc hc hN h1 h2 h3 h4 h5 h6) h7
section
variable {T : List (Addr × Str)} {F : Tab} {k : Nat}
theorem Good.blk {X : Cx} {W : WX} {c : SC} (g : Good X T W c F k) (s : Shared) (H : Hp) (scope : Scope) (C : Addr) (cl : List (Str × Addr)) (fp : List Addr) : Good (X.blk s H scope (compEnvC scope cl C X.env) fp) T W0 { c with sc := relS scope c.sc } F k where
  N := g.N
  nd := g.nd
  sc := by rw [← g.sc]; rfl
  calm := g.calm
  room := g.room
  tk := LamX.takes0
  gg := ⟨g.gg.con, g.gg.fns, g.gg.blt, g.gg.exc, g.gg.dct⟩
theorem loc_rel {scope sc : Scope} {x : Str} (h : Loc scope x) : Loc (relS scope sc) x ∧ ((scope.names.lookup x == some .cell) = true ∨ (relS scope sc).names.lookup x = some .local) := by
  rcases h with h | h
  · have e : (relS scope sc).names.lookup x = some .local := lookup_relS_keep (by decide) h
    exact ⟨.inl e, .inr e⟩
  · have e : (relS scope sc).names.lookup x = some .cell := lookup_relS_keep (by decide) h
    exact ⟨.inr e, .inl (by rw [h]; rfl)⟩
theorem pt_no {X : Cx} {W : WX} {e : Expr} {m : Z.Env → Sto → R Bool} (h : ∀ ρ S, m ρ S = .no) : PT X e (rT X T W m) := ⟨fun pins s σ H Q I ⟨ρ, S, M, e, so, p⟩ => by rw [h] at p; exact p.elim⟩
def PA1 (T : List (Addr × Str)) (F : Tab) (k : Nat) (X : Cx) (W : WX) (c : SC) (args : List LE) : Prop := ∀ a, args = [a] → ∀ e, chkE c a e = true → PE X e (rE X T W (evE (callF F k) a))
def PAs (T : List (Addr × Str)) (F : Tab) (k : Nat) (X : Cx) (W : WX) (c : SC) (args : List LE) : Prop := ∀ es, chkL c args es = true → PA X es (rA X T W (evL (callF F k) args)) ∧ (∀ e ∈ es, ∀ v p, e ≠ .Starred v p) ∧ args.length = es.length
theorem soundI (kk : IK) (args : List LE) (tgt : Tg) (X : Cx) (W : WX) (c : SC) (t it : Expr) (g : Good X T W c F k) (hL : PAs T F k X W c args) (hk : kk ≠ .seq) {sc : Scope} (h3 : chkTg c.N sc tgt t = true) (h : (match it with
         | .Call (.Name x _) fs [] _ => isBlt c x && decide (x = itName kk) && arity kk fs.length && chkL c args fs && tgFor kk tgt
         | _ => false) = true) : PI X t it (rI X T W fun ρ S => (evL (callF F k) args ρ S).bind (itV kk)) := by
  cases it with
  | Call f fs ks p => cases f with
    | Name x q => cases ks with
      | nil =>
        simp only [Bool.and_eq_true, decide_eq_true_eq] at h
        obtain ⟨⟨⟨⟨h0, rfl⟩, ha⟩, h1⟩, h2⟩ := h
        obtain ⟨l1, l2, l3⟩ := hL fs h1
        cases kk with
        | seq => exact absurd rfl hk
        | range =>
          match fs, l1, l2, l3, ha with
          | [e1], l1, l2, l3, _ => exact i_range1 g h0 (l2 e1 (by simp)) l3 l1
          | [e1, e2], l1, l2, l3, _ => exact i_range2 g h0 (l2 e1 (by simp)) (l2 e2 (by simp)) l3 l1
          | [e1, e2, e3], l1, l2, l3, _ => exact i_range3 g h0 (l2 e1 (by simp)) (l2 e2 (by simp)) (l2 e3 (by simp)) l3 l1
          | [], _, _, _, ha => simp [arity] at ha
          | _ :: _ :: _ :: _ :: _, _, _, _, ha => simp [arity] at ha
        | enum =>
          cases tgt with
          | one i => simp [tgFor] at h2
          | many is =>
            cases t with
            | Tuple es kx tp =>
              match fs, l1, l2, l3, ha with
              | [e1], l1, l2, l3, _ => exact i_enum g h0 (l2 e1 (by simp)) l3 l1
              | [], _, _, _, ha => simp [arity] at ha
              | _ :: _ :: _, _, _, _, ha => simp [arity] at ha
            | _ => simp [chkTg] at h3
        | zip =>
          cases tgt with
          | one i => simp [tgFor] at h2
          | many is =>
            cases t with
            | Tuple es kx tp =>
              match fs, l1, l2, l3, ha with
              | [e1, e2], l1, l2, l3, _ => exact i_zip g h0 (l2 e1 (by simp)) (l2 e2 (by simp)) l3 l1
              | [], _, _, _, ha => simp [arity] at ha
              | [_], _, _, _, ha => simp [arity] at ha
              | _ :: _ :: _ :: _, _, _, _, ha => simp [arity] at ha
            | _ => simp [chkTg] at h3
      | cons _ _ => simp at h
    | _ => simp at h
  | _ => simp at h
theorem soundI' (kk : IK) (args : List LE) (tgt : Tg) (X : Cx) (W : WX) (c : SC) (t it : Expr) (g : Good X T W c F k) (hA : PA1 T F k X W c args) (hL : PAs T F k X W c args) {sc : Scope} (h3 : chkTg c.N sc tgt t = true) (h6 : (match kk with
       | .seq => chkA c args it
       | kk => (match it with
         | .Call (.Name x _) fs [] _ => isBlt c x && decide (x = itName kk) && arity kk fs.length && chkL c args fs && tgFor kk tgt
         | _ => false)) = true) : PI X t it (rI X T W fun ρ S => (evL (callF F k) args ρ S).bind (itV kk)) := by
  cases kk with
  | seq =>
    match args, h6 with
    | [a], h6 => exact i_seq (notStar (show chkE c a it = true from h6)) (hA a rfl it h6)
    | [], h6 => cases h6
    | _ :: _ :: _, h6 => cases h6
  | range => exact soundI .range args tgt X W c t it g hL (fun z => nomatch z) h3 h6
  | enum => exact soundI .enum args tgt X W c t it g hL (fun z => nomatch z) h3 h6
  | zip => exact soundI .zip args tgt X W c t it g hL (fun z => nomatch z) h3 h6
theorem soundC (m : Bool) (kk : IK) (args : List LE) (tgt : Tg) (own : List Nat) (cond : Option LE) (elt : LE) (X : Cx) (W : WX) (c : SC) (e : Expr) (g : Good X T W c F k) (hA : PA1 T F k X W c args) (hL : PAs T F k X W c args) (hO : ∀ (X : Cx) (W : WX) (c : SC) (es : List Expr), Good X T W c F k → chkIfs c cond es = true → PTs X es (rT X T W (evO (callF F k) cond))) (hE : ∀ (X : Cx) (W : WX) (c : SC) (e : Expr), Good X T W c F k → chkE c elt e = true → PE X e (rE X T W (evE (callF F k) elt))) (h : chkE c (.comp m kk args tgt own cond elt) e = true) : LcP X e (rE X T W (evE (callF F k) (.comp m kk args tgt own cond elt))) := by
  cases e with
  | ListComp e1 gs scope p =>
    match gs, h with
    | [⟨t, it, ifs, ay⟩], h =>
      rw [chkE_comp] at h
      simp only [Bool.and_eq_true, Bool.not_eq_true', List.all_eq_true, decide_eq_true_eq] at h
      obtain ⟨⟨⟨⟨⟨⟨⟨⟨h0, h1⟩, h2⟩, h3⟩, h4⟩, h5⟩, h6⟩, h7⟩, h8⟩ := h
      subst h0
      have hLoc : ∀ (s : Shared) (H : Hp) (C : Addr) (cl : List (Str × Addr)) (fp : List Addr) (x : Str), Loc scope x → Loc (X.blk s H scope (compEnvC scope cl C X.env) fp).env.scope x ∧ ((X.blk s H scope (compEnvC scope cl C X.env) fp).fn x = true ∨ (X.blk s H scope (compEnvC scope cl C X.env) fp).env.scope.names.lookup x = some .local) := fun s H C cl fp x hx => by
        obtain ⟨q1, q2⟩ := loc_rel (sc := X.env.scope) hx
        exact ⟨q1, q2⟩
      have hI : PI X t it (rI X T W fun ρ S => (evL (callF F k) args ρ S).bind (itV kk)) := soundI' kk args tgt X W c t it g hA hL h3 h6
      refine ⟨e1, t, it, ifs, scope, ownP c.N own, p, _, gG X tgt, rT X T W0 (evO (callF F k) cond), rE X T W0 (evE (callF F k) elt), rfl, hI, ?_, fun s H C cl fp => ?_, fun s H C cl fp => ?_, fun s H C cl fp => ?_, folded_none h5, fun σ H Q q => ?_⟩
      · rw [g.N, g.sc]; exact blkOk_by h1
      · exact tg_ok (X := X.blk s H scope (compEnvC scope cl C X.env) fp) g.calm g.ndX g.N (hLoc s H C cl fp) h3
      · exact hO (X.blk s H scope (compEnvC scope cl C X.env) fp) W0 { c with sc := relS scope c.sc } ifs (g.blk s H scope C cl fp) h7
      · exact hE (X.blk s H scope (compEnvC scope cl C X.env) fp) W0 { c with sc := relS scope c.sc } e1 (g.blk s H scope C cl fp) h8
      · rw [ownP_ix]
        exact lc_G (fun j hj => h4 j hj) q
    | [], h => simp [chkE_comp] at h
    | _ :: _ :: _, h => simp [chkE_comp] at h
  | _ => simp [chkE_comp] at h
theorem soundC2 (m : Bool) (kk k1 : IK) (args args1 : List LE) (tgt tg1 : Tg) (own own1 : List Nat) (cond cond1 : Option LE) (elt : LE) (X : Cx) (W : WX) (c : SC) (e : Expr) (g : Good X T W c F k) (hA : PA1 T F k X W c args) (hL : PAs T F k X W c args)
    (hA1 : ∀ (X : Cx) (W : WX) (c : SC), Good X T W c F k → PA1 T F k X W c args1) (hL1 : ∀ (X : Cx) (W : WX) (c : SC), Good X T W c F k → PAs T F k X W c args1)
    (hO : ∀ (X : Cx) (W : WX) (c : SC) (es : List Expr), Good X T W c F k → chkIfs c cond es = true → PTs X es (rT X T W (evO (callF F k) cond))) (hO1 : ∀ (X : Cx) (W : WX) (c : SC) (es : List Expr), Good X T W c F k → chkIfs c cond1 es = true → PTs X es (rT X T W (evO (callF F k) cond1)))
    (hE : ∀ (X : Cx) (W : WX) (c : SC) (e : Expr), Good X T W c F k → chkE c elt e = true → PE X e (rE X T W (evE (callF F k) elt))) (h : chkE c (.comp2 m kk args tgt cond k1 args1 tg1 own1 cond1 own elt) e = true) : LcP2 X e (rE X T W (evE (callF F k) (.comp2 m kk args tgt cond k1 args1 tg1 own1 cond1 own elt))) := by
  cases e with
  | ListComp e1 gs scope p =>
    match gs, h with
    | [⟨t, it, ifs, ay⟩, ⟨t1, it1, ifs1, ay1⟩], h =>
      rw [chkE_comp2] at h
      simp only [Bool.and_eq_true, Bool.not_eq_true', List.all_eq_true, decide_eq_true_eq] at h
      obtain ⟨⟨⟨⟨⟨⟨⟨⟨⟨⟨⟨⟨⟨⟨⟨h0, h0'⟩, h1⟩, h2⟩, h3⟩, h3'⟩, h4⟩, h4'⟩, h4''⟩, h5⟩, h5'⟩, h6⟩, h6'⟩, h7⟩, h7'⟩, h8⟩ := h
      subst h0
      subst h0'
      have hLoc : ∀ (s : Shared) (H : Hp) (C : Addr) (cl : List (Str × Addr)) (fp : List Addr) (x : Str), Loc scope x → Loc (X.blk s H scope (compEnvC scope cl C X.env) fp).env.scope x ∧ ((X.blk s H scope (compEnvC scope cl C X.env) fp).fn x = true ∨ (X.blk s H scope (compEnvC scope cl C X.env) fp).env.scope.names.lookup x = some .local) := fun s H C cl fp x hx => by
        obtain ⟨q1, q2⟩ := loc_rel (sc := X.env.scope) hx
        exact ⟨q1, q2⟩
      have hI : PI X t it (rI X T W fun ρ S => (evL (callF F k) args ρ S).bind (itV kk)) := soundI' kk args tgt X W c t it g hA hL h3 h6
      refine ⟨e1, t, it, t1, it1, ifs, ifs1, scope, ownP c.N own, own1, p, _, rI X T W0 fun ρ S => (evL (callF F k) args1 ρ S).bind (itV k1), gG X tgt, gG X tg1, rT X T W0 (evO (callF F k) cond), rT X T W0 (evO (callF F k) cond1), rE X T W0 (evE (callF F k) elt), rfl, hI, by rw [g.N, g.sc]; exact blkOk_by h1, by rw [ownP_ix]; exact fun i hi => h4'' i hi, fun s H C cl fp => ?_, fun s H C cl fp => ?_, fun s H C cl fp => ?_, fun s H C cl fp => ?_, fun s H C cl fp => ?_, fun s H C cl fp => ?_, folded_none h5, fun env x => folded_none h5' x, fun σ H Q q => ?_⟩
      · exact tg_ok (X := X.blk s H scope (compEnvC scope cl C X.env) fp) g.calm g.ndX g.N (hLoc s H C cl fp) h3
      · exact hO (X.blk s H scope (compEnvC scope cl C X.env) fp) W0 { c with sc := relS scope c.sc } ifs (g.blk s H scope C cl fp) h7
      · exact soundI' (sc := scope) k1 args1 tg1 (X.blk s H scope (compEnvC scope cl C X.env) fp) W0 { c with sc := relS scope c.sc } t1 it1 (g.blk s H scope C cl fp) (hA1 _ _ _ (g.blk s H scope C cl fp)) (hL1 _ _ _ (g.blk s H scope C cl fp)) h3' h6'
      · exact tg_ok (X := X.blk s H scope (compEnvC scope cl C X.env) fp) g.calm g.ndX g.N (hLoc s H C cl fp) h3'
      · exact hO1 (X.blk s H scope (compEnvC scope cl C X.env) fp) W0 { c with sc := relS scope c.sc } ifs1 (g.blk s H scope C cl fp) h7'
      · exact hE (X.blk s H scope (compEnvC scope cl C X.env) fp) W0 { c with sc := relS scope c.sc } e1 (g.blk s H scope C cl fp) h8
      · rw [ownP_ix]
        exact lc2_G (fun j hj => h4 j hj) (fun j hj => h4' j hj) q
    | [], h => simp [chkE_comp2] at h
    | [_], h => simp [chkE_comp2] at h
    | _ :: _ :: _ :: _, h => simp [chkE_comp2] at h
  | _ => simp [chkE_comp2] at h
theorem xs_all (o : XO) : XS o := by
  cases o with
  | mlist => exact xs_mlist
  | lrange => exact xs_lrange
  | madd => exact xs_madd
  | mmul => exact xs_mmul
  | ddix t => exact xs_ddix
theorem pe_ext_of {o : XO} {es : List LE} {X : Cx} {W : WX} {c : SC} {e : Expr} (g : Good X T W c F k) (hP : ∀ fs, chkL c es fs = true → PEs X T W (callF F k) es fs) (h : chkE c (.ext o es) e = true) : PE X e (rE X T W (evE (callF F k) (.ext o es))) := by
  have h2 : (match subs c o e with
    | some fs => chkL c es fs
    | none => false) = true := by
    exact h
  cases hs : subs c o e with
  | none => rw [hs] at h2; cases h2
  | some fs =>
    rw [hs] at h2
    exact xs_all o g e fs es hs (hP fs h2)
theorem pe_meth_of {m : MO} {a b : LE} {X : Cx} {W : WX} {c : SC} {e : Expr} (g : Good X T W c F k) (hE : ∀ e, chkE c a e = true → PE X e (rE X T W (evE (callF F k) a))) (hI : ∀ e, chkE c b e = true → PE X e (rE X T W (evE (callF F k) b))) (h : chkE c (.meth m a b) e = true) : PE X e (rE X T W (evE (callF F k) (.meth m a b))) := by
  rw [chkE_meth] at h
  split at h
  · simp only [Bool.and_eq_true, decide_eq_true_eq] at h
    obtain ⟨⟨⟨rfl, h1⟩, h2⟩, h3, h4⟩ := h
    exact s_meth g h1 h2 (hE _ h3) (hI _ h4) (notStar h4)
  · cases h
theorem pe_slst_of {a st : LE} {lo hi : Option LE} {X : Cx} {W : WX} {c : SC} {e : Expr} (g : Good X T W c F k) (hE : ∀ e, chkE c a e = true → PE X e (rE X T W (evE (callF F k) a))) (hl : ∀ e, chkP c lo e = true → PO X e (rO X T W (evP (callF F k) lo))) (hh : ∀ e, chkP c hi e = true → PO X e (rO X T W (evP (callF F k) hi))) (hI : ∀ e, chkE c st e = true → PE X e (rE X T W (evE (callF F k) st))) (h : chkE c (.slst a lo hi st) e = true) : PE X e (rE X T W (evE (callF F k) (.slst a lo hi st))) := by
  rw [chkE_slst] at h
  split at h
  · simp only [Bool.and_eq_true] at h
    exact s_slst (hE _ h.1) (hl _ h.2.1) (hh _ h.2.2.1) (hI _ h.2.2.2)
  · cases h
theorem pe_call_of {n : Nat} {es : List LE} {X : Cx} {W : WX} {c : SC} {e : Expr} (g : Good X T W c F k) (hL : PAs T F k X W c es) (h : chkE c (.call n es) e = true) : PE X e (rE X T W (evE (callF F k) (.call n es))) := by
  cases e with
    | Call f fs ks p => cases f with
      | Name x q => cases ks with
        | nil =>
          simp only [chkE_call, Bool.and_eq_true, decide_eq_true_eq] at h
          obtain ⟨h1, h2, h3⟩ := hL fs h.2
          exact s_call g h.1.1 h.1.2 h3 h2 h1
        | cons _ _ => simp [chkE_call] at h
      | _ => simp [chkE_call] at h
    | _ => simp [chkE_call] at h
theorem pe_bi_of {b : BI} {es : List LE} {X : Cx} {W : WX} {c : SC} {e : Expr} (g : Good X T W c F k) (hL : PAs T F k X W c es) (h : chkE c (.bi b es) e = true) : PE X e (rE X T W (evE (callF F k) (.bi b es))) := by
  cases e with
    | Call f fs ks p => cases f with
      | Name x q => cases ks with
        | nil =>
          simp only [chkE_bi, Bool.and_eq_true, decide_eq_true_eq, Bool.not_eq_true'] at h
          obtain ⟨⟨⟨h0, rfl⟩, hne⟩, h4⟩ := h
          obtain ⟨h1, h2, h3⟩ := hL fs h4
          cases fs with
          | nil => cases es with
            | nil => simp at hne
            | cons _ _ => simp at h3
          | cons e1 fs => exact s_bi g h0 h2 h1
        | cons _ _ => simp [chkE_bi] at h
      | _ => simp [chkE_bi] at h
    | _ => simp [chkE_bi] at h
theorem pe_dix_of {x : Str} {t : List (Str × PyData)} {a : LE} {X : Cx} {W : WX} {c : SC} {e : Expr} (g : Good X T W c F k) (hE : ∀ e, chkE c a e = true → PE X e (rE X T W (evE (callF F k) a))) (h : chkE c (.dix x t a) e = true) : PE X e (rE X T W (evE (callF F k) (.dix x t a))) := by
  rw [chkE_dix] at h
  split at h
  all_goals first | (cases h; done) | skip
  simp only [Bool.and_eq_true, decide_eq_true_eq, Bool.not_eq_true'] at h
  obtain ⟨⟨⟨⟨rfl, h1⟩, h2⟩, h3⟩, h4⟩ := h
  exact s_dix g h1 h2 (plainIx_of h3) (hE _ h4)
theorem pe_din_of {x : Str} {t : List (Str × PyData)} {a : LE} {X : Cx} {W : WX} {c : SC} {e : Expr} (g : Good X T W c F k) (hE : ∀ e, chkE c a e = true → PE X e (rE X T W (evE (callF F k) a))) (h : chkE c (.din x t a) e = true) : PE X e (rE X T W (evE (callF F k) (.din x t a))) := by
  rw [chkE_din] at h
  split at h
  all_goals first | (cases h; done) | skip
  simp only [Bool.and_eq_true, decide_eq_true_eq, Bool.not_eq_true'] at h
  obtain ⟨⟨⟨rfl, h1⟩, h2⟩, h3⟩ := h
  exact s_din g h1 h2 (hE _ h3)
theorem pt_din_of {x : Str} {t : List (Str × PyData)} {a : LE} {X : Cx} {W : WX} {c : SC} {e : Expr} (g : Good X T W c F k) (hE : ∀ e, chkE c a e = true → PE X e (rE X T W (evE (callF F k) a))) (h : chkE c (.din x t a) e = true) : PT X e (rT X T W (evT (callF F k) (.din x t a))) := by
  rw [chkE_din] at h
  split at h
  all_goals first | (cases h; done) | skip
  simp only [Bool.and_eq_true, decide_eq_true_eq, Bool.not_eq_true'] at h
  obtain ⟨⟨⟨rfl, h1⟩, h2⟩, h3⟩ := h
  exact t_din g h1 h2 (hE _ h3)
theorem pe_dnin_of {x : Str} {t : List (Str × PyData)} {a : LE} {X : Cx} {W : WX} {c : SC} {e : Expr} (g : Good X T W c F k) (hE : ∀ e, chkE c a e = true → PE X e (rE X T W (evE (callF F k) a))) (h : chkE c (.dnin x t a) e = true) : PE X e (rE X T W (evE (callF F k) (.dnin x t a))) := by
  rw [chkE_dnin] at h
  split at h
  all_goals first | (cases h; done) | skip
  simp only [Bool.and_eq_true, decide_eq_true_eq, Bool.not_eq_true'] at h
  obtain ⟨⟨⟨rfl, h1⟩, h2⟩, h3⟩ := h
  exact s_dnin g h1 h2 (hE _ h3)
theorem pt_dnin_of {x : Str} {t : List (Str × PyData)} {a : LE} {X : Cx} {W : WX} {c : SC} {e : Expr} (g : Good X T W c F k) (hE : ∀ e, chkE c a e = true → PE X e (rE X T W (evE (callF F k) a))) (h : chkE c (.dnin x t a) e = true) : PT X e (rT X T W (evT (callF F k) (.dnin x t a))) := by
  rw [chkE_dnin] at h
  split at h
  all_goals first | (cases h; done) | skip
  simp only [Bool.and_eq_true, decide_eq_true_eq, Bool.not_eq_true'] at h
  obtain ⟨⟨⟨rfl, h1⟩, h2⟩, h3⟩ := h
  exact t_dnin g h1 h2 (hE _ h3)
theorem pe_lenset_of {a : LE} {X : Cx} {W : WX} {c : SC} {e : Expr} (g : Good X T W c F k) (hE : ∀ e, chkE c a e = true → PE X e (rE X T W (evE (callF F k) a))) (h : chkE c (.lenset a) e = true) : PE X e (rE X T W (evE (callF F k) (.lenset a))) := by
  rw [chkE_lenset] at h
  split at h
  all_goals first | (cases h; done) | skip
  simp only [Bool.and_eq_true, decide_eq_true_eq] at h
  obtain ⟨⟨⟨⟨h0, rfl⟩, h1⟩, rfl⟩, h2⟩ := h
  exact s_lenset g h0 h1 (notStar h2) (hE _ h2)
theorem pe_isi_of {a : LE} {t : TY} {X : Cx} {W : WX} {c : SC} {e : Expr} (g : Good X T W c F k) (hE : ∀ e, chkE c a e = true → PE X e (rE X T W (evE (callF F k) a))) (h : chkE c (.isi a t) e = true) : PE X e (rE X T W (evE (callF F k) (.isi a t))) := by
  cases e with
    | Call f fs ks p => cases f with
      | Name x q =>
        match fs, ks, h with
        | [e1, .Name y q2], [], h =>
          simp only [chkE_isi, Bool.and_eq_true, decide_eq_true_eq] at h
          obtain ⟨⟨⟨⟨h0, rfl⟩, h1⟩, rfl⟩, h2⟩ := h
          exact s_isi g h0 h1 (notStar h2) (hE e1 h2)
        | [], _, h => simp [chkE_isi] at h
        | [_], _, h => simp [chkE_isi] at h
        | _ :: _ :: _ :: _, _, h => simp [chkE_isi] at h
        | [_, f], _ :: _, h => cases f <;> simp [chkE_isi] at h
        | [_, .BoolOp ..], [], h | [_, .NamedExpr ..], [], h | [_, .BinOp ..], [], h | [_, .UnaryOp ..], [], h | [_, .Lambda ..], [], h | [_, .IfExp ..], [], h | [_, .Dict ..], [], h | [_, .Set ..], [], h | [_, .ListComp ..], [], h | [_, .SetComp ..], [], h | [_, .DictComp ..], [], h | [_, .GeneratorExp ..], [], h | [_, .Await ..], [], h | [_, .Yield ..], [], h | [_, .YieldFrom ..], [], h | [_, .Compare ..], [], h | [_, .Call ..], [], h | [_, .FormattedValue ..], [], h | [_, .JoinedStr ..], [], h | [_, .Constant ..], [], h | [_, .Attribute ..], [], h | [_, .Subscript ..], [], h | [_, .Starred ..], [], h | [_, .List ..], [], h | [_, .Tuple ..], [], h | [_, .Slice ..], [], h => simp [chkE_isi] at h
      | _ => simp [chkE_isi] at h
    | _ => simp [chkE_isi] at h
theorem pe_ix_of {a i : LE} {X : Cx} {W : WX} {c : SC} {e : Expr} (g : Good X T W c F k) (hE : ∀ e, chkE c a e = true → PE X e (rE X T W (evE (callF F k) a))) (hI : ∀ e, chkE c i e = true → PE X e (rE X T W (evE (callF F k) i))) (h : chkE c (.ix a i) e = true) : PE X e (rE X T W (evE (callF F k) (.ix a i))) := by
  cases e with
    | Subscript e1 f p =>
      simp only [chkE_ix, Bool.and_eq_true, Bool.not_eq_true'] at h
      exact s_ix (hE e1 h.2.1) (hI f h.2.2) (plainIx_of h.1)
    | _ => simp [chkE_ix] at h
mutual
theorem soundE (l : LE) (X : Cx) (W : WX) (c : SC) (e : Expr) (g : Good X T W c F k) (h : chkE c l e = true) : PE X e (rE X T W (evE (callF F k) l)) := by
  cases l with
  | var i => cases e with
    | Name x p => exact s_var g h
    | _ => simp [chkE_var] at h
  | frz i => cases e with
    | Name x p => exact s_frz g h
    | _ => simp [chkE_frz] at h
  | lit d => cases e with
    | Constant kc j p => exact s_lit h
    | _ => simp [chkE_lit] at h
  | glo x d => cases e with
    | Name y p =>
      simp only [chkE_glo, Bool.and_eq_true, decide_eq_true_eq] at h
      obtain ⟨⟨rfl, h1⟩, h2⟩ := h
      exact s_glo g h1 h2
    | _ => simp [chkE_glo] at h
  | neg a => cases e with
    | UnaryOp o f p => cases o with
      | USub => exact s_neg (soundE a X W c f g h)
      | _ => simp [chkE_neg] at h
    | _ => simp [chkE_neg] at h
  | bin o a b => cases e with
    | BinOp e1 q f p =>
      simp only [chkE_bin, Bool.and_eq_true, decide_eq_true_eq] at h
      obtain ⟨rfl, h1, h2⟩ := h
      exact s_bin (soundE a X W c e1 g h1) (soundE b X W c f g h2)
    | _ => simp [chkE_bin] at h
  | cmp o a b => cases e with
    | Compare e1 ops fs p =>
      match ops, fs, h with
      | [q], [f], h =>
        simp only [chkE_cmp, Bool.and_eq_true, decide_eq_true_eq, Bool.not_eq_true'] at h
        obtain ⟨⟨rfl, h0⟩, h1, h2⟩ := h
        exact s_cmp g (soundE a X W c e1 g h1) (soundE b X W c f g h2) (behind_none h0)
      | [], _, h => simp [chkE_cmp] at h
      | _ :: _ :: _, _, h => simp [chkE_cmp] at h
      | [_], [], h => simp [chkE_cmp] at h
      | [_], _ :: _ :: _, h => simp [chkE_cmp] at h
    | _ => simp [chkE_cmp] at h
  | chain o q a b d => cases e with
    | Compare e1 ops fs p =>
      match ops, fs, h with
      | [q1, q2], [f, f2], h =>
        simp only [chkE_chain, Bool.and_eq_true, decide_eq_true_eq, Bool.not_eq_true'] at h
        obtain ⟨⟨⟨rfl, rfl⟩, h0⟩, h1, h2, h3⟩ := h
        exact s_chain g (soundE a X W c e1 g h1) (soundE b X W c f g h2) (soundE d X W c f2 g h3) (behind_none h0)
      | [], _, h => simp [chkE_chain] at h
      | [_], _, h => simp [chkE_chain] at h
      | _ :: _ :: _ :: _, _, h => simp [chkE_chain] at h
      | [_, _], [], h => simp [chkE_chain] at h
      | [_, _], [_], h => simp [chkE_chain] at h
      | [_, _], _ :: _ :: _ :: _, h => simp [chkE_chain] at h
    | _ => simp [chkE_chain] at h
  | and a b => cases e with
    | BoolOp op es p =>
      match op, es, h with
      | .And, e1 :: f :: r, h =>
        simp only [chkE_and, Bool.and_eq_true] at h
        refine s_and (soundE a X W c e1 g h.1) ?_
        cases r with
        | nil => exact pe_one (soundE b X W c f g h.2)
        | cons f2 r => exact soundE b X W c _ g h.2
      | .Or, _, h => simp [chkE_and] at h
      | .And, [], h => simp [chkE_and] at h
      | .And, [_], h => simp [chkE_and] at h
    | _ => simp [chkE_and] at h
  | or a b => cases e with
    | BoolOp op es p =>
      match op, es, h with
      | .Or, e1 :: f :: r, h =>
        simp only [chkE_or, Bool.and_eq_true] at h
        refine s_or (soundE a X W c e1 g h.1) ?_
        cases r with
        | nil => exact pe_one (soundE b X W c f g h.2)
        | cons f2 r => exact soundE b X W c _ g h.2
      | .And, _, h => simp [chkE_or] at h
      | .Or, [], h => simp [chkE_or] at h
      | .Or, [_], h => simp [chkE_or] at h
    | _ => simp [chkE_or] at h
  | not a => cases e with
    | UnaryOp o f p => cases o with
      | Not => exact s_not (soundE a X W c f g h)
      | _ => simp [chkE_not] at h
    | _ => simp [chkE_not] at h
  | ite t a b => cases e with
    | IfExp e1 e2 e3 p =>
      simp only [chkE_ite, Bool.and_eq_true] at h
      exact s_ite (soundT t X W c e1 g h.1) (soundE a X W c e2 g h.2.1) (soundE b X W c e3 g h.2.2)
    | _ => simp [chkE_ite] at h
  | tup es => cases e with
    | Tuple fs j p =>
      simp only [chkE_tup, Bool.and_eq_true, decide_eq_true_eq] at h
      exact s_tup h.1 (soundL es X W c fs g h.2).1
    | _ => simp [chkE_tup] at h
  | lst m es => cases e with
    | List fs p =>
      simp only [chkE_lst, Bool.and_eq_true, decide_eq_true_eq] at h
      exact s_lst h.1 (soundL es X W c fs g h.2).1
    | _ => simp [chkE_lst] at h
  | ix a i => exact pe_ix_of g (fun e h => soundE a X W c e g h) (fun e h => soundE i X W c e g h) h
  | sl a lo hi => cases e with
    | Subscript e1 f p => cases f with
      | Slice l1 h1 st q => cases st with
        | none =>
          simp only [chkE_sl, Bool.and_eq_true] at h
          exact s_sl (soundE a X W c e1 g h.1) (soundP lo X W c l1 g h.2.1) (soundP hi X W c h1 g h.2.2)
        | some st => simp [chkE_sl] at h
      | _ => simp [chkE_sl] at h
    | _ => simp [chkE_sl] at h
  | call n es => exact pe_call_of g (fun es' h => soundL es X W c es' g h) h
  | bi b es => exact pe_bi_of g (fun es' h => soundL es X W c es' g h) h
  | isi a t => exact pe_isi_of g (fun e h => soundE a X W c e g h) h
  | comp m kk args tg own cond elt =>
    refine (soundC m kk args tg own cond elt X W c e g ?_ (fun es h => soundL args X W c es g h) (fun X W c es g h => soundO cond X W c es g h) (fun X W c e g h => soundE elt X W c e g h) h).pe g.calm g.ndX
    cases args with
    | nil => exact fun a z => (nomatch z)
    | cons a as =>
      exact fun a' z e h => (List.cons.inj z).1 ▸ soundE a X W c e g ((List.cons.inj z).1.symm ▸ h)
  | lenset a => exact pe_lenset_of g (fun e h => soundE a X W c e g h) h
  | dix x t i => exact pe_dix_of g (fun e h => soundE i X W c e g h) h
  | din x t a => exact pe_din_of g (fun e h => soundE a X W c e g h) h
  | dnin x t a => exact pe_dnin_of g (fun e h => soundE a X W c e g h) h
  | ext o es => exact pe_ext_of g (fun fs h => soundPs es X W c fs g h) h
  | meth m a b => exact pe_meth_of g (fun e h => soundE a X W c e g h) (fun e h => soundE b X W c e g h) h
  | slst a lo hi st => exact pe_slst_of g (fun e h => soundE a X W c e g h) (fun e h => soundP lo X W c e g h) (fun e h => soundP hi X W c e g h) (fun e h => soundE st X W c e g h) h
  | comp2 m kk args tg cond k1 args1 tg1 own1 cond1 own elt =>
    refine (soundC2 m kk k1 args args1 tg tg1 own own1 cond cond1 elt X W c e g ?_ (fun es h => soundL args X W c es g h) (fun X W c g => ?_) (fun X W c g es h => soundL args1 X W c es g h) (fun X W c es g h => soundO cond X W c es g h) (fun X W c es g h => soundO cond1 X W c es g h) (fun X W c e g h => soundE elt X W c e g h) h).pe g.calm g.ndX
    · cases args with
      | nil => exact fun a z => (nomatch z)
      | cons a as =>
        exact fun a' z e h => (List.cons.inj z).1 ▸ soundE a X W c e g ((List.cons.inj z).1.symm ▸ h)
    · cases args1 with
      | nil => exact fun a z => (nomatch z)
      | cons a as =>
        exact fun a' z e h => (List.cons.inj z).1 ▸ soundE a X W c e g ((List.cons.inj z).1.symm ▸ h)
termination_by structural l
theorem soundT (l : LE) (X : Cx) (W : WX) (c : SC) (e : Expr) (g : Good X T W c F k) (h : chkE c l e = true) : PT X e (rT X T W (evT (callF F k) l)) := by
  cases l with
  | var i => cases e with
    | Name x p =>
      refine PT.imp (pt_truth (s_var (C := callF F k) g h) (fun _ => rfl)) fun σ H Q q => ?_
      refine rd_mono (rd_bind (rep := RepV X.K) (m := evE (callF F k) (.var i)) (f := fun ρ v S => truV v S) ?_) fun x H1 ⟨ρ, v, S, M, e, s, r, p⟩ => tru_G r s p
      obtain ⟨ρ, S, M, e, s, p⟩ := q
      refine ⟨ρ, S, M, e, s, ?_⟩
      have e0 : (evE (callF F k) (.var i) ρ S).bind (fun v S => truV v S) = evT (callF F k) (.var i) ρ S := by
        simp only [evT, evE]
        split <;> rfl
      show Post X T W σ M H _ ((evE (callF F k) (.var i) ρ S).bind (fun v S => truV v S)) Q
      rw [e0]
      exact p
    | _ => simp [chkE_var] at h
  | cmp o a b => cases e with
    | Compare e1 ops fs p =>
      match ops, fs, h with
      | [q], [f], h =>
        simp only [chkE_cmp, Bool.and_eq_true, decide_eq_true_eq, Bool.not_eq_true'] at h
        obtain ⟨⟨rfl, h0⟩, h1, h2⟩ := h
        exact t_cmp g (soundE a X W c e1 g h1) (soundE b X W c f g h2) (behind_none h0)
      | [], _, h => simp [chkE_cmp] at h
      | _ :: _ :: _, _, h => simp [chkE_cmp] at h
      | [_], [], h => simp [chkE_cmp] at h
      | [_], _ :: _ :: _, h => simp [chkE_cmp] at h
    | _ => simp [chkE_cmp] at h
  | chain o q a b d => cases e with
    | Compare e1 ops fs p =>
      match ops, fs, h with
      | [q1, q2], [f, f2], h =>
        simp only [chkE_chain, Bool.and_eq_true, decide_eq_true_eq, Bool.not_eq_true'] at h
        obtain ⟨⟨⟨rfl, rfl⟩, h0⟩, h1, h2, h3⟩ := h
        exact t_chain g (soundE a X W c e1 g h1) (soundE b X W c f g h2) (soundE d X W c f2 g h3) (behind_none h0)
      | [], _, h => simp [chkE_chain] at h
      | [_], _, h => simp [chkE_chain] at h
      | _ :: _ :: _ :: _, _, h => simp [chkE_chain] at h
      | [_, _], [], h => simp [chkE_chain] at h
      | [_, _], [_], h => simp [chkE_chain] at h
      | [_, _], _ :: _ :: _ :: _, h => simp [chkE_chain] at h
    | _ => simp [chkE_chain] at h
  | and a b => cases e with
    | BoolOp op es p =>
      match op, es, h with
      | .And, e1 :: f :: r, h =>
        simp only [chkE_and, Bool.and_eq_true] at h
        refine PW.pt (t_and (soundT a X W c e1 g h.1) ?_)
        cases r with
        | nil => exact pw_and1 (soundT b X W c f g h.2)
        | cons f2 r => exact soundW b X W c .And _ p g h.2
      | .Or, _, h => simp [chkE_and] at h
      | .And, [], h => simp [chkE_and] at h
      | .And, [_], h => simp [chkE_and] at h
    | _ => simp [chkE_and] at h
  | or a b => cases e with
    | BoolOp op es p =>
      match op, es, h with
      | .Or, e1 :: f :: r, h =>
        simp only [chkE_or, Bool.and_eq_true] at h
        refine PW.pt (t_or (soundT a X W c e1 g h.1) ?_)
        cases r with
        | nil => exact pw_or1 (soundT b X W c f g h.2)
        | cons f2 r => exact soundW b X W c .Or _ p g h.2
      | .And, _, h => simp [chkE_or] at h
      | .Or, [], h => simp [chkE_or] at h
      | .Or, [_], h => simp [chkE_or] at h
    | _ => simp [chkE_or] at h
  | not a => cases e with
    | UnaryOp o f p => cases o with
      | Not => exact t_not (soundT a X W c f g h)
      | _ => simp [chkE_not] at h
    | _ => simp [chkE_not] at h
  | call n es => cases e with
    | Call f fs ks p =>
      have he := pe_call_of g (fun es' h => soundL es X W c es' g h) h
      refine PT.imp (pt_truth he (fun _ => rfl)) fun σ H Q q => ?_
      refine rd_mono (rd_bind (rep := RepV X.K) (m := evE (callF F k) (.call n es)) (f := fun ρ v S => truV v S) ?_) fun x H1 ⟨ρ, v, S, M, e, s, r, p⟩ => tru_G r s p
      obtain ⟨ρ, S, M, e, s, p⟩ := q
      refine ⟨ρ, S, M, e, s, ?_⟩
      show Post X T W σ M H _ (((evL (callF F k) es ρ S).bind fun vs S => callF F k n vs S).bind truV) Q
      rw [R.bind_assoc]
      exact p
    | _ => simp [chkE_call] at h
  | bi b es => cases e with
    | Call f fs ks p =>
      have he := pe_bi_of g (fun es' h => soundL es X W c es' g h) h
      refine PT.imp (pt_truth he (fun _ => rfl)) fun σ H Q q => ?_
      refine rd_mono (rd_bind (rep := RepV X.K) (m := evE (callF F k) (.bi b es)) (f := fun ρ v S => truV v S) ?_) fun x H1 ⟨ρ, v, S, M, e, s, r, p⟩ => tru_G r s p
      obtain ⟨ρ, S, M, e, s, p⟩ := q
      refine ⟨ρ, S, M, e, s, ?_⟩
      show Post X T W σ M H _ (((evL (callF F k) es ρ S).bind fun vs S => biV b vs S).bind truV) Q
      rw [R.bind_assoc]
      exact p
    | _ => simp [chkE_bi] at h
  | ix a i => cases e with
    | Subscript e1 f p =>
      have he := pe_ix_of g (fun e h => soundE a X W c e g h) (fun e h => soundE i X W c e g h) h
      refine PT.imp (pt_truth he (fun _ => rfl)) fun σ H Q q => ?_
      refine rd_mono (rd_bind (rep := RepV X.K) (m := evE (callF F k) (.ix a i)) (f := fun ρ v S => truV v S) ?_) fun x H1 ⟨ρ, v, S, M, e, s, r, p⟩ => tru_G r s p
      obtain ⟨ρ, S, M, e, s, p⟩ := q
      refine ⟨ρ, S, M, e, s, ?_⟩
      show Post X T W σ M H _ (((evE (callF F k) a ρ S).bind fun v S => (evE (callF F k) i ρ S).bind fun w S => ixV v w S).bind truV) Q
      rw [R.bind_assoc]
      simp only [R.bind_assoc]
      exact p
    | _ => simp [chkE_ix] at h
  | isi a t => cases e with
    | Call f fs ks p =>
      have he := pe_isi_of g (fun e h => soundE a X W c e g h) h
      refine PT.imp (pt_truth he (fun _ => rfl)) fun σ H Q q => ?_
      refine rd_mono (rd_bind (rep := RepV X.K) (m := evE (callF F k) (.isi a t)) (f := fun ρ v S => truV v S) ?_) fun x H1 ⟨ρ, v, S, M, e, s, r, p⟩ => tru_G r s p
      obtain ⟨ρ, S, M, e, s, p⟩ := q
      refine ⟨ρ, S, M, e, s, ?_⟩
      have e0 : (evE (callF F k) (.isi a t) ρ S).bind truV = (evE (callF F k) a ρ S).bind fun v S => isiV t v S := by
        show (((evE (callF F k) a ρ S).bind fun v S => (isiV t v S).bind bV).bind truV) = _
        rw [R.bind_assoc]
        congr 1
        funext v S
        cases v <;> rfl
      show Post X T W σ M H _ ((evE (callF F k) (.isi a t) ρ S).bind truV) Q
      rw [e0]
      exact p
    | _ => simp [chkE_isi] at h
  | frz i => exact pt_no fun _ _ => rfl
  | lit d => exact pt_no fun _ _ => rfl
  | glo x d => exact pt_no fun _ _ => rfl
  | neg a => exact pt_no fun _ _ => rfl
  | bin o a b => exact pt_no fun _ _ => rfl
  | ite t a b => exact pt_no fun _ _ => rfl
  | tup es => exact pt_no fun _ _ => rfl
  | lst m es => exact pt_no fun _ _ => rfl
  | sl a lo hi => exact pt_no fun _ _ => rfl
  | comp m kk args tg own cond elt => exact pt_no fun _ _ => rfl
  | lenset a => exact pt_no fun _ _ => rfl
  | dix x t i => exact pt_no fun _ _ => rfl
  | din x t a => exact pt_din_of g (fun e h => soundE a X W c e g h) h
  | dnin x t a => exact pt_dnin_of g (fun e h => soundE a X W c e g h) h
  | ext o es => exact pt_no fun _ _ => rfl
  | meth m a b => exact pt_no fun _ _ => rfl
  | slst a lo hi st => exact pt_no fun _ _ => rfl
  | comp2 m kk args tg cond k1 args1 tg1 own1 cond1 own elt => exact pt_no fun _ _ => rfl
termination_by structural l
theorem soundW (l : LE) (X : Cx) (W : WX) (c : SC) (op : PySem.BoolOp) (es : List Expr) (p : Pos) (g : Good X T W c F k) (h : chkE c l (.BoolOp op es p) = true) : PW X (.BoolOp op es p) (rT X T W (evT (callF F k) l)) := by
  cases l with
  | and a b =>
    match op, es, h with
    | .And, e1 :: f :: r, h =>
      simp only [chkE_and, Bool.and_eq_true] at h
      refine t_and (soundT a X W c e1 g h.1) ?_
      cases r with
      | nil => exact pw_and1 (soundT b X W c f g h.2)
      | cons f2 r => exact soundW b X W c .And _ p g h.2
    | .Or, _, h => simp [chkE_and] at h
    | .And, [], h => simp [chkE_and] at h
    | .And, [_], h => simp [chkE_and] at h
  | or a b =>
    match op, es, h with
    | .Or, e1 :: f :: r, h =>
      simp only [chkE_or, Bool.and_eq_true] at h
      refine t_or (soundT a X W c e1 g h.1) ?_
      cases r with
      | nil => exact pw_or1 (soundT b X W c f g h.2)
      | cons f2 r => exact soundW b X W c .Or _ p g h.2
    | .And, _, h => simp [chkE_or] at h
    | .Or, [], h => simp [chkE_or] at h
    | .Or, [_], h => simp [chkE_or] at h
  | ext o es =>
    rw [chkE_ext] at h
    cases o <;> cases h
  | _ => cases h
termination_by structural l
theorem soundO (o : Option LE) (X : Cx) (W : WX) (c : SC) (es : List Expr) (g : Good X T W c F k) (h : chkIfs c o es = true) : PTs X es (rT X T W (evO (callF F k) o)) := by
  cases o with
  | none => cases es with
    | nil => exact PTs.imp pts_nil fun σ H Q ⟨ρ, S, M, e, s, p⟩ => p _ M H (Ext.refl _ _) s rfl
    | cons _ _ => simp [chkIfs_nn, chkIfs_nc, chkIfs_s] at h
  | some a =>
    match es, h with
    | [e], h => exact pts_one (soundT a X W c e g h)
    | [], h => simp [chkIfs_nn, chkIfs_nc, chkIfs_s] at h
    | _ :: _ :: _, h => simp [chkIfs_nn, chkIfs_nc, chkIfs_s] at h
termination_by structural o
theorem soundL (ls : List LE) (X : Cx) (W : WX) (c : SC) (es : List Expr) (g : Good X T W c F k) (h : chkL c ls es = true) : PA X es (rA X T W (evL (callF F k) ls)) ∧ (∀ e ∈ es, ∀ v p, e ≠ .Starred v p) ∧ ls.length = es.length := by
  cases ls with
  | nil => cases es with
    | nil => exact ⟨s_nil, fun _ z => (nomatch z), rfl⟩
    | cons _ _ => simp [chkL_nil, chkL_nc, chkL_cn, chkL_cons] at h
  | cons a ls => cases es with
    | nil => simp [chkL_nil, chkL_nc, chkL_cn, chkL_cons] at h
    | cons e es =>
      simp only [chkL_nil, chkL_nc, chkL_cn, chkL_cons, Bool.and_eq_true] at h
      obtain ⟨h1, h2, h3⟩ := soundL ls X W c es g h.2
      refine ⟨s_cons (notStar h.1) (soundE a X W c e g h.1) h1, fun e' he => ?_, by simp [h3]⟩
      rcases List.mem_cons.mp he with rfl | he
      · exact notStar h.1
      · exact h2 e' he
termination_by structural ls
theorem soundPs (ls : List LE) (X : Cx) (W : WX) (c : SC) (es : List Expr) (g : Good X T W c F k) (h : chkL c ls es = true) : PEs X T W (callF F k) ls es := by
  cases ls with
  | nil => cases es with
    | nil => exact .nil
    | cons _ _ => simp [chkL_nil, chkL_nc, chkL_cn, chkL_cons] at h
  | cons a ls => cases es with
    | nil => simp [chkL_nil, chkL_nc, chkL_cn, chkL_cons] at h
    | cons e es =>
      simp only [chkL_nil, chkL_nc, chkL_cn, chkL_cons, Bool.and_eq_true] at h
      exact .cons (soundE a X W c e g h.1) (notStar h.1) (soundPs ls X W c es g h.2)
termination_by structural ls
theorem soundP (o : Option LE) (X : Cx) (W : WX) (c : SC) (e : Option Expr) (g : Good X T W c F k) (h : chkP c o e = true) : PO X e (rO X T W (evP (callF F k) o)) := by
  cases o with
  | none => cases e with
    | none => exact s_none
    | some _ => simp [chkP_nn, chkP_ns, chkP_sn, chkP_ss] at h
  | some a => cases e with
    | none => simp [chkP_nn, chkP_ns, chkP_sn, chkP_ss] at h
    | some e => exact s_some (soundE a X W c e g h)
termination_by structural o
end
end
end Z

/-! Every statement of the small language is sound. -/
namespace Z
open PySem PySem.Spec PyProof.Rows L2 RZ

def PostF (X : Cx) (T : List (Addr × Str)) (W : WX) (M : MM) (H : Hp) (res : R Fl) (D : Ends) : Prop := match res with
  | .ok (.nx ρ) S' => ∀ σ' M' H', Ext M H M' H' → StoreOk T X.K M' H' S' → EnvOk X.K M' H' ρ σ' → D.nx σ' H'
  | .ok (.bk ρ) S' => ∀ σ' M' H', Ext M H M' H' → StoreOk T X.K M' H' S' → EnvOk X.K M' H' ρ σ' → D.bk σ' H'
  | .ok (.ct ρ) S' => ∀ σ' M' H', Ext M H M' H' → StoreOk T X.K M' H' S' → EnvOk X.K M' H' ρ σ' → D.ct σ' H'
  | .ok (.ret v) S' => ∀ x M' H', Ext M H M' H' → StoreOk T X.K M' H' S' → RepV X.K M' H' v x → D.rt x H'
  | .ex c S' => ∀ σ' M' H' C, Ext M H M' H' → StoreOk T X.K M' H' S' → X.mg c = some (.ref C) → W (.ref C) none σ' H'
  | .no => False
section
variable {X : Cx} {T : List (Addr × Str)} {W : WX} {M M1 : MM} {H H1 : Hp}
theorem PostF.ext (e : Ext M H M1 H1) {res : R Fl} {D : Ends} (h : PostF X T W M H res D) : PostF X T W M1 H1 res D := by
  match res, h with
  | .ok (.nx ρ) S', h => exact fun σ' M' H' e' s r => h σ' M' H' (e.trans e') s r
  | .ok (.bk ρ) S', h => exact fun σ' M' H' e' s r => h σ' M' H' (e.trans e') s r
  | .ok (.ct ρ) S', h => exact fun σ' M' H' e' s r => h σ' M' H' (e.trans e') s r
  | .ok (.ret v) S', h => exact fun x M' H' e' s r => h x M' H' (e.trans e') s r
  | .ex c S', h => exact fun σ' M' H' C e' s r => h σ' M' H' C (e.trans e') s r
  | .no, h => exact h
end
def tS (X : Cx) (T : List (Addr × Str)) (W : WX) (m : Z.Env → Sto → R Fl) : TS := fun D σ H => ∃ ρ S M, EnvOk X.K M H ρ σ ∧ StoreOk T X.K M H S ∧ PostF X T W M H (m ρ S) D
theorem PS.imp {X : Cx} {st : Stmt} {t t' : TS} (h : PS X st t) (i : ∀ D σ H, t' D σ H → t D σ H) : PS X st t' := ⟨fun pins s σ H D I q => h.run pins s σ H D I (i _ _ _ q)⟩
theorem PSs.imp {X : Cx} {st : List Stmt} {t t' : TS} (h : PSs X st t) (i : ∀ D σ H, t' D σ H → t D σ H) : PSs X st t' := ⟨fun pins s σ H D I q => h.run pins s σ H D I (i _ _ _ q)⟩

section
variable {X : Cx} {T : List (Addr × Str)} {W : WX} {c : SC} {F : Tab} {k : Nat}
/-- the first part of a statement is an expression -/
theorem rdF_bind {α β : Type} {rep : MM → Hp → α → β → Prop} {m : Z.Env → Sto → R α} {f : Z.Env → α → Sto → R Fl} {σ : L2.St} {H : Hp} {D : Ends} (h : tS X T W (fun ρ S => (m ρ S).bind (f ρ)) D σ H) :
    rd X T W rep m σ H fun b H1 => ∃ ρ a S M, EnvOk X.K M H1 ρ σ ∧ StoreOk T X.K M H1 S ∧ rep M H1 a b ∧ PostF X T W M H1 (f ρ a S) D := by
  obtain ⟨ρ, S, M, e, s, p⟩ := h
  refine ⟨ρ, S, M, e, s, ?_⟩
  have p : PostF X T W M H ((m ρ S).bind (f ρ)) D := p
  cases hm : m ρ S with
  | ok a S1 =>
    rw [hm] at p
    exact fun b M1 H1 x1 s1 r1 => ⟨ρ, a, S1, M1, e.ext x1, s1, r1, PostF.ext x1 p⟩
  | ex c S1 =>
    rw [hm] at p
    exact fun M' H' C e' s' g => p σ M' H' C e' s' g
  | no => rw [hm] at p; exact p
theorem stepF {α β : Type} {rep : MM → Hp → α → β → Prop} {m : Sto → R α} {f : α → Sto → R Fl} {σ : L2.St} {ρ : Z.Env} {S : Sto} {M : MM} {H : Hp} {D : Ends} (e : EnvOk X.K M H ρ σ) (s : StoreOk T X.K M H S) (p : PostF X T W M H ((m S).bind f) D) :
    Post X T W σ M H rep (m S) fun b H1 => ∃ a S1 M1, EnvOk X.K M1 H1 ρ σ ∧ Ext M H M1 H1 ∧ StoreOk T X.K M1 H1 S1 ∧ rep M1 H1 a b ∧ PostF X T W M1 H1 (f a S1) D := by
  cases hm : m S with
  | ok a S1 =>
    rw [hm] at p
    exact fun b M1 H1 x1 s1 r1 => ⟨a, S1, M1, e.ext x1, x1, s1, r1, PostF.ext x1 p⟩
  | ex c S1 =>
    rw [hm] at p
    exact fun M' H' C e' s' g => p σ M' H' C e' s' g
  | no => rw [hm] at p; exact p

structure GoodS (X : Cx) (T : List (Addr × Str)) (W : WX) (c : SC) (F : Tab) (k : Nat) : Prop extends Good X T W c F k where
  fn : ∀ x, Loc X.env.scope x → X.fn x = true ∨ X.env.scope.names.lookup x = some .local
  pas : PassesOwn (model X.prog X.w) X.A X.env X.xe
/-! ### stores -/
theorem comp_of {l : LE} {e : Expr} (h : chkE c l e = true) (hc : isComp e = true) : (∃ m kk args tg own cond elt, l = .comp m kk args tg own cond elt) ∨ ∃ m kk args tg cond k1 args1 tg1 own1 cond1 own elt, l = .comp2 m kk args tg cond k1 args1 tg1 own1 cond1 own elt := by
  cases e with
  | ListComp => cases l with
    | comp m kk args tg own cond elt => exact .inl ⟨_, _, _, _, _, _, _, rfl⟩
    | comp2 m kk args tg cond k1 args1 tg1 own1 cond1 own elt => exact .inr ⟨_, _, _, _, _, _, _, _, _, _, _, _, rfl⟩
    | ext o es =>
      rw [chkE_ext] at h
      cases o <;> cases h
    | _ => cases h
  | SetComp => cases l with
    | ext o es =>
      rw [chkE_ext] at h
      cases o <;> cases h
    | _ => cases h
  | DictComp => cases l with
    | ext o es =>
      rw [chkE_ext] at h
      cases o <;> cases h
    | _ => cases h
  | _ => simp [isComp] at hc
theorem swaps_not {e : Expr} {t : Option Expr} {n : Nat} {env : PySem.Env} (h : isComp e = false) : swapsWith e t n env = pure false := by
  cases e <;> first | rfl | (simp [isComp] at h)
theorem soundLc (m : Bool) (kk : IK) (args : List LE) (tgt : Tg) (own : List Nat) (cond : Option LE) (elt : LE) (e : Expr) (g : Good X T W c F k) (h : chkE c (.comp m kk args tgt own cond elt) e = true) : LcP X e (rE X T W (evE (callF F k) (.comp m kk args tgt own cond elt))) :=
  soundC m kk args tgt own cond elt X W c e g (fun a _ e h => soundE a X W c e g h) (fun es h => soundL args X W c es g h) (fun X W c es g h => soundO cond X W c es g h) (fun X W c e g h => soundE elt X W c e g h) h
theorem soundLc2 (m : Bool) (kk k1 : IK) (args args1 : List LE) (tgt tg1 : Tg) (own own1 : List Nat) (cond cond1 : Option LE) (elt : LE) (e : Expr) (g : Good X T W c F k) (h : chkE c (.comp2 m kk args tgt cond k1 args1 tg1 own1 cond1 own elt) e = true) : LcP2 X e (rE X T W (evE (callF F k) (.comp2 m kk args tgt cond k1 args1 tg1 own1 cond1 own elt))) :=
  soundC2 m kk k1 args args1 tgt tg1 own own1 cond cond1 elt X W c e g (fun a _ e h => soundE a X W c e g h) (fun es h => soundL args X W c es g h) (fun X W c g a _ e h => soundE a X W c e g h) (fun X W c g es h => soundL args1 X W c es g h) (fun X W c es g h => soundO cond X W c es g h) (fun X W c es g h => soundO cond1 X W c es g h) (fun X W c e g h => soundE elt X W c e g h) h
theorem st_asg (g : GoodS X T W c F k) {i : Nat} {l : LE} {x : Str} {f : Expr} {p q : Pos} (h : okSet c i x = true) (he : chkE c l f = true) : PS X (.Assign [.Name x p] f q) (tS X T W (exS (callF F k) (.asg i l))) := by
  obtain ⟨h1, h2⟩ := g.toGood.set h
  have fin : ∀ D σ H, tS X T W (exS (callF F k) (.asg i l)) D σ H → rE X T W (evE (callF F k) l) σ H fun y H1 => gName i y σ H1 D.nx := fun D σ H hq => by
    refine rd_mono (rdF_bind (rep := RepV X.K) (m := evE (callF F k) l) (f := fun ρ v S => .ok (.nx (ρ.set i (some v))) S) hq) fun y H1 ⟨ρ, v, S, M, e, s, r, p⟩ => ?_
    exact p _ M H1 (Ext.refl _ _) s (e.set r i)
  cases hc : isComp f with
  | false => exact PS.imp (ps_set g.ndX h1 h2 (soundE l X W c f g.toGood he) (swaps_not hc) (g.fn x h2)) fin
  | true =>
    rcases comp_of he hc with ⟨m, kk, args, tg, own, cond, elt, rfl⟩ | ⟨m, kk, args, tg, cond, k1, args1, tg1, own1, cond1, own, elt, rfl⟩
    rotate_left
    · have lc := soundLc2 m kk k1 args args1 tg tg1 own own1 cond cond1 elt f g.toGood he
      have lcE := lc.pe g.calm g.ndX
      obtain ⟨elt', tg', iter, tg1', iter1, ifs, ifs1, scope, own', vs1, pos, wi, wi1, gg, gg1, tt, tt1, te, rfl, q1, q2, q3, q4, q5, q6, q7, q8, q9, q10, q11, q12⟩ := lc
      cases hs : (X.env.blockKind == .function && X.env.kindOf x == some .local && p.line == (Expr.ListComp elt' [⟨tg', iter, ifs, 0⟩, ⟨tg1', iter1, ifs1, 0⟩] scope pos).pos.line && !(scope.names.any fun (n, k) => n == x && (k == .local || k == .cell))) with
      | true =>
        have hl : X.env.scope.names.lookup x = some .local := by
          simp only [Bool.and_eq_true] at hs
          exact eq_of_beq hs.1.1.2
        refine PS.imp (ps_setLc2 g.calm g.ndX h1 hl (by show (pure _ : Sem Bool) = _; rw [hs]) q1 q2 q3 q4 q5 q6 q7 q8 q9 q10 q11) fun D σ H q => ?_
        exact q12 _ _ _ (fin D σ H q)
      | false =>
        exact PS.imp (ps_set g.ndX h1 h2 lcE (by show (pure _ : Sem Bool) = _; rw [hs]) (g.fn x h2)) fin
    have lc := soundLc m kk args tg own cond elt f g.toGood he
    have lcE := lc.pe g.calm g.ndX
    obtain ⟨elt', tg', iter, ifs, scope, own', pos, wi, gg, tt, te, rfl, k1, k2, k3, k4, k5, k6, k7⟩ := lc
    cases hs : (X.env.blockKind == .function && X.env.kindOf x == some .local && p.line == (Expr.ListComp elt' [⟨tg', iter, ifs, 0⟩] scope pos).pos.line && !(scope.names.any fun (n, k) => n == x && (k == .local || k == .cell))) with
    | true =>
      have hl : X.env.scope.names.lookup x = some .local := by
        simp only [Bool.and_eq_true] at hs
        exact eq_of_beq hs.1.1.2
      refine PS.imp (ps_setLc g.calm g.ndX h1 hl (by show (pure _ : Sem Bool) = _; rw [hs]) k1 k2 k3 k4 k5 k6) fun D σ H q => ?_
      exact k7 _ _ _ (fin D σ H q)
    | false =>
      exact PS.imp (ps_set g.ndX h1 h2 lcE (by show (pure _ : Sem Bool) = _; rw [hs]) (g.fn x h2)) fin
theorem st_exp {l : LE} {f : Expr} {p : Pos} (hc : isComp f = false) (he : PE X f (rE X T W (evE (callF F k) l))) : PS X (.Expr f p) (tS X T W (exS (callF F k) (.exp l))) := by
  refine PS.imp (ps_expr he (swaps_not hc)) fun D σ H q => ?_
  exact rd_mono (rdF_bind (rep := RepV X.K) (m := evE (callF F k) l) (f := fun ρ v S => .ok (.nx ρ) S) q) fun y H1 ⟨ρ, v, S, M, e, s, r, p⟩ => p σ M H1 (Ext.refl _ _) s e
theorem st_ret {l : LE} {f : Expr} {p : Pos} (he : PE X f (rE X T W (evE (callF F k) l))) : PS X (.Return (some f) p) (tS X T W (exS (callF F k) (.ret l))) := by
  refine PS.imp (ps_ret he) fun D σ H q => ?_
  exact rd_mono (rdF_bind (rep := RepV X.K) (m := evE (callF F k) l) (f := fun ρ v S => .ok (.ret v) S) q) fun y H1 ⟨ρ, v, S, M, e, s, r, p⟩ => p y M H1 (Ext.refl _ _) s r
theorem st_if {l : LE} {a b : List LS} {e : Expr} {sa sb : List Stmt} {p : Pos} (hc : PT X e (rT X T W (evT (callF F k) l))) (ha : PSs X sa (tS X T W (exB (callF F k) a))) (hb : PSs X sb (tS X T W (exB (callF F k) b))) : PS X (.If e sa sb p) (tS X T W (exS (callF F k) (.ite l a b))) := by
  refine PS.imp (ps_if hc ha hb) fun D σ H q => ?_
  refine rd_mono (rdF_bind (rep := fun _ _ a b => a = b) (m := evT (callF F k) l) (f := fun ρ x S => if x then exB (callF F k) a ρ S else exB (callF F k) b ρ S) q) fun y H1 ⟨ρ, v, S, M, e, s, r, p⟩ => ?_
  subst r
  cases v with
  | true => rw [if_pos rfl] at p ⊢; exact ⟨ρ, S, M, e, s, p⟩
  | false => rw [if_neg Bool.false_ne_true] at p ⊢; exact ⟨ρ, S, M, e, s, p⟩
theorem st_brk {p : Pos} : PS X (.Break p) (tS X T W (exS (callF F k) .brk)) := PS.imp ps_break fun D σ H ⟨ρ, S, M, e, s, q⟩ => q σ M H (Ext.refl _ _) s e
theorem st_cont {p : Pos} : PS X (.Continue p) (tS X T W (exS (callF F k) .cont)) := PS.imp ps_continue fun D σ H ⟨ρ, S, M, e, s, q⟩ => q σ M H (Ext.refl _ _) s e
theorem st_pass {p : Pos} : PS X (.Pass p) (tS X T W (exS (callF F k) .pass)) := PS.imp ps_pass fun D σ H ⟨ρ, S, M, e, s, q⟩ => q σ M H (Ext.refl _ _) s e
theorem st_doc {x : Str} {j : Nat} {p q : Pos} : PS X (.Expr (.Constant (.str x) j p) q) (tS X T W (exS (callF F k) .pass)) := PS.imp ps_doc fun D σ H ⟨ρ, S, M, e, s, q⟩ => q σ M H (Ext.refl _ _) s e
theorem st_nil : PSs X [] (tS X T W (exB (callF F k) [])) := PSs.imp pss_nil fun D σ H ⟨ρ, S, M, e, s, q⟩ => q σ M H (Ext.refl _ _) s e
theorem st_cons {a : LS} {as : List LS} {s : Stmt} {ss : List Stmt} (h1 : PS X s (tS X T W (exS (callF F k) a))) (h2 : PSs X ss (tS X T W (exB (callF F k) as))) : PSs X (s :: ss) (tS X T W (exB (callF F k) (a :: as))) := by
  refine PSs.imp (pss_cons h1 h2) fun D σ H ⟨ρ, S, M, e, s, p⟩ => ⟨ρ, S, M, e, s, ?_⟩
  have p : PostF X T W M H ((exS (callF F k) a ρ S).bind fun fl S => match fl with
    | .nx ρ => exB (callF F k) as ρ S
    | fl => .ok fl S) D := p
  match hm : exS (callF F k) a ρ S, p with
  | .ok (.nx ρ') S', p => exact fun σ' M' H' x' s' e' => ⟨ρ', S', M', e', s', PostF.ext x' p⟩
  | .ok (.bk ρ') S', p => exact p
  | .ok (.ct ρ') S', p => exact p
  | .ok (.ret v) S', p => exact p
  | .ex c S', p => exact p
  | .no, p => exact p
theorem st_aug (g : GoodS X T W c F k) {i : Nat} {o : Op2} {l : LE} {x : Str} {f : Expr} {p q : Pos} (h : okSet c i x = true) (he : PE X f (rE X T W (evE (callF F k) l))) : PS X (.AugAssign (.Name x p) (opOf o) f q) (tS X T W (exS (callF F k) (.aug i o l))) := by
  obtain ⟨h1, h2⟩ := g.toGood.set h
  have key : ∀ (ti : TIp), PIp X (opOf o) ti → (∀ (D : Ends) (σ : L2.St) (H : Hp) (v w : Val) (y z : V) (S : Sto) (M : MM) (ρ : Z.Env), EnvOk X.K M H ρ σ → StoreOk T X.K M H S → RepV X.K M H v y → RepV X.K M H w z → PostF X T W M H ((augV o v w S).bind fun u S => .ok (.nx (ρ.set i (some u))) S) D → ti y z H fun u H2 => D.nx (σ.set i (some u)) H2) → PS X (.AugAssign (.Name x p) (opOf o) f q) (tS X T W (exS (callF F k) (.aug i o l))) := fun ti h3 h4 => by
    refine PS.imp (ps_aug g.ndX h1 h2 he h3 (g.fn x h2)) fun D σ H ⟨ρ, S, M, e, s, p⟩ => ?_
    simp only [exS] at p
    split at p
    · rename_i v hv
      obtain ⟨y, e1, e2⟩ := e.at_ i v hv
      refine ⟨y, e1, ρ, S, M, e, s, ?_⟩
      refine Post.mono (stepF (rep := RepV X.K) e s p) fun z H1 ⟨w, S1, M1, e3, x3, s3, r3, p3⟩ => ?_
      exact h4 D σ H1 v w y z S1 M1 ρ e3 s3 (e2.ext x3) r3 p3
    · exact p.elim
  cases o with
  | add =>
    refine key _ ip_add fun D σ H v w y z S M ρ e s r1 r2 p => ?_
    match v, w, p, r1, r2 with
    | .d (.int a), .d (.int b), p, r1, r2 => exact ⟨a, b, r1, r2, p _ M H (Ext.refl _ _) s (e.set (v := .d (.int (a + b))) rfl i)⟩
    | .d .none, _, p, _, _ | .d (.bool _), _, p, _, _ | .d (.str _), _, p, _, _ | .d (.list _), _, p, _, _ | .d (.tuple _), _, p, _, _ | .d (.dict _), _, p, _, _ | .r _, _, p, _, _ | .s _, _, p, _, _ => exact (show False from p).elim
    | .d (.int _), .d .none, p, _, _ | .d (.int _), .d (.bool _), p, _, _ | .d (.int _), .d (.str _), p, _, _ | .d (.int _), .d (.list _), p, _, _ | .d (.int _), .d (.tuple _), p, _, _ | .d (.int _), .d (.dict _), p, _, _ | .d (.int _), .r _, p, _, _ | .d (.int _), .s _, p, _, _ => exact (show False from p).elim
  | sub =>
    refine key _ ip_sub fun D σ H v w y z S M ρ e s r1 r2 p => ?_
    match v, w, p, r1, r2 with
    | .d (.int a), .d (.int b), p, r1, r2 => exact ⟨a, b, r1, r2, p _ M H (Ext.refl _ _) s (e.set (v := .d (.int (a - b))) rfl i)⟩
    | .d .none, _, p, _, _ | .d (.bool _), _, p, _, _ | .d (.str _), _, p, _, _ | .d (.list _), _, p, _, _ | .d (.tuple _), _, p, _, _ | .d (.dict _), _, p, _, _ | .r _, _, p, _, _ | .s _, _, p, _, _ => exact (show False from p).elim
    | .d (.int _), .d .none, p, _, _ | .d (.int _), .d (.bool _), p, _, _ | .d (.int _), .d (.str _), p, _, _ | .d (.int _), .d (.list _), p, _, _ | .d (.int _), .d (.tuple _), p, _, _ | .d (.int _), .d (.dict _), p, _, _ | .d (.int _), .r _, p, _, _ | .d (.int _), .s _, p, _, _ => exact (show False from p).elim
  | mul => exact key (fun _ _ _ _ => False) (fun _ _ _ _ _ _ _ _ _ _ _ _ z => z.elim) fun D σ H v w y z S M ρ e s r1 r2 p => (show False from p)
  | fdiv => exact key (fun _ _ _ _ => False) (fun _ _ _ _ _ _ _ _ _ _ _ _ z => z.elim) fun D σ H v w y z S M ρ e s r1 r2 p => (show False from p)
  | mod => exact key (fun _ _ _ _ => False) (fun _ _ _ _ _ _ _ _ _ _ _ _ z => z.elim) fun D σ H v w y z S M ρ e s r1 r2 p => (show False from p)
  | pow => exact key (fun _ _ _ _ => False) (fun _ _ _ _ _ _ _ _ _ _ _ _ z => z.elim) fun D σ H v w y z S M ρ e s r1 r2 p => (show False from p)
theorem st_setix (g : GoodS X T W c F k) {o i l : LE} {fo fi f : Expr} {p q : Pos} (hc : isComp f = false) (hs : slicy fi = false) (ho : PE X fo (rE X T W (evE (callF F k) o))) (hi : PE X fi (rE X T W (evE (callF F k) i))) (he : PE X f (rE X T W (evE (callF F k) l))) : PS X (.Assign [.Subscript fo fi p] f q) (tS X T W (exS (callF F k) (.setix o i l))) := by
  have ha : ∀ v, assign (.Subscript fo fi p) X.env v = (do
      let ov ← holding [v] (eval fo X.env)
      let iv ← holding [v, ov] (eval fi X.env)
      standAt p
      holding [v, ov, iv] (setItem ov iv v)
      release [v, ov, iv] []) := by
    intro v
    cases fi <;> first | rfl | (simp [slicy] at hs)
  refine PS.imp (ps_asg he (pg_sub ho hi set_list ha) (show swapsWith f (some (.Subscript fo fi p)) q.line X.env = pure false from swaps_not hc) (by cases f <;> rfl) rfl) fun D σ H hq => ?_
  refine rd_mono (rdF_bind (rep := RepV X.K) (m := evE (callF F k) l) (f := fun ρ w S => (evE (callF F k) o ρ S).bind fun v S => (evE (callF F k) i ρ S).bind fun kx S => (setV v kx w S).bind fun _ S => .ok (.nx ρ) S) hq) fun y H1 ⟨ρ, w, S, M, e, s, r, p⟩ => ?_
  refine ⟨ρ, S, M, e, s, Post.mono (stepF (rep := RepV X.K) e s p) fun z H2 ⟨v, S2, M2, e2, x2, s2, r2, p2⟩ => ?_⟩
  refine ⟨ρ, S2, M2, e2, s2, Post.mono (stepF (rep := RepV X.K) e2 s2 p2) fun u H3 ⟨kx, S3, M3, e3, x3, s3, r3, p3⟩ => ?_⟩
  unfold setV at p3
  match v, kx, w, r2, r3, r, p3 with
  | .r n, .d (.int j), .d d, r2, r3, r, p3 =>
    dsimp only at p3
    cases hn : S3[n]? with
    | none => rw [hn] at p3; exact (show False from p3).elim
    | some en =>
      rw [hn] at p3
      cases en with
      | gone => exact (show False from p3).elim
      | lst xs =>
        dsimp only at p3
        cases hq : ixN xs.length j with
        | none => rw [hq] at p3; exact (show False from p3).elim
        | some qx =>
          rw [hq] at p3
          obtain ⟨a, ha, hm⟩ := RepV.ext x3 r2
          obtain ⟨b, vs, h1, h2, h3⟩ := s3.ent n xs hn
          have hm : M3.m[n]? = some (some a) := by
            rcases hm with hm | hm
            · rw [h1] at hm; cases hm
            · exact hm
          rw [h1] at hm
          cases hm
          refine ⟨a, vs, j, qx, ha, r3, h2, by rw [← h3.length]; exact hq, ?_⟩
          have rw' : Rep X.K M3 H3 d y := RepV.ext (x2.trans x3) r
          exact p3 _ M3 _ (ext_write s3 h1 h2) (s3.write h1 h2 (h3.set rw' qx)) (e3.ext (ext_write s3 h1 h2))
  | .d _, _, _, _, _, _, p3 => exact (show False from p3).elim
  | .s _, _, _, _, _, _, p3 => exact (show False from p3).elim
  | .r _, .r _, _, _, _, _, p3 => exact (show False from p3).elim
  | .r _, .s _, _, _, _, _, p3 => exact (show False from p3).elim
  | .r _, .d .none, _, _, _, _, p3 | .r _, .d (.bool _), _, _, _, _, p3 | .r _, .d (.str _), _, _, _, _, p3 | .r _, .d (.list _), _, _, _, _, p3 | .r _, .d (.tuple _), _, _, _, _, p3 | .r _, .d (.dict _), _, _, _, _, p3 => exact (show False from p3).elim
  | .r _, .d (.int _), .r _, _, _, _, p3 => exact (show False from p3).elim
  | .r _, .d (.int _), .s _, _, _, _, p3 => exact (show False from p3).elim
theorem st_app (g : GoodS X T W c F k) {o : Nat} {l : LE} {x : Str} {f : Expr} {p1 p2 p3 p4 : Pos} (hx : okVar c o x = true) (hl : (p2.endLine == p3.line) = true) (hst : ∀ v p, f ≠ .Starred v p) (he : PE X f (rE X T W (evE (callF F k) l))) : PS X (.Expr (.Call (.Attribute (.Name x p1) "append" p2) [f] [] p3) p4) (tS X T W (exS (callF F k) (.app (.var o) l))) := by
  have hv := s_var (T := T) (W := W) (C := callF F k) (p := p1) g.toGood hx
  have hst' := star_of hst [] X.env
  have pe := pe_bm PySem.F.plainAttrs_list PySem.F.slot_list_append PySem.F.type_list_append (show MtR X "list.append" rAppend from mt_append) hv (pa_cons he pa_nil hst') rfl (cpos := p3) (apos := p2) (by rw [hst']; rfl) hl hst' rfl
  refine PS.imp (ps_expr pe rfl) fun D σ H hq => ?_
  refine rd_mono (rdF_bind (rep := RepV X.K) (m := evE (callF F k) (.var o)) (f := fun ρ v S => (needL v S).bind fun _ S => (evE (callF F k) l ρ S).bind fun w S => (appV v w S).bind fun _ S => .ok (.nx ρ) S) hq) fun y H1 ⟨ρ, v, S, M, e, s, r, p⟩ => ?_
  unfold needL at p
  split at p
  · rename_i _ n
    split at p
    · rename_i _ xs hn
      obtain ⟨a, vs, h1, h2, h3⟩ := s.ent n xs hn
      obtain ⟨b, hy, hm⟩ := id r
      have hab : b = a := by
        rcases hm with hm | hm
        · rw [h1] at hm; cases hm
        · rw [h1] at hm; cases hm; rfl
      subst hab
      subst hy
      refine ⟨.inl ⟨rfl, vs, SqL.of h2⟩, ρ, S, M, e, s, ?_⟩
      refine Post.mono (stepF (rep := RepV X.K) e s p) fun z H2 ⟨w, S2, M2, e2, x2, s2, r2, p2⟩ => ?_
      unfold appV at p2
      split at p2
      · rename_i _ _ n2 d hv'
        cases hv'
        split at p2
        · rename_i _ ys hn2
          split at p2
          · rename_i hlt
            obtain ⟨a2, vs2, k1, k2, k3⟩ := s2.ent n ys hn2
            obtain ⟨b2, hy2, hm2⟩ := RepV.ext x2 r
            cases hy2
            have hab2 : b = a2 := by
              rcases hm2 with hm2 | hm2
              · rw [k1] at hm2; cases hm2
              · rw [k1] at hm2; cases hm2; rfl
            subst hab2
            refine ⟨b, vs2, z, rfl, rfl, k2, by rw [← k3.length]; exact Nat.lt_of_lt_of_le hlt lim_line, ?_⟩
            exact p2 _ M2 _ (ext_write s2 k1 k2) (s2.write k1 k2 (k3.append ⟨z, [], rfl, r2, rfl⟩)) (e2.ext (ext_write s2 k1 k2))
          · exact (show False from p2).elim
        · exact (show False from p2).elim
      · exact (show False from p2).elim
    · exact (show False from p).elim
  · exact (show False from p).elim
/-! ### several names at once -/
def gGv (X : Cx) (is : List Nat) : TGs := fun vs σ H Q => ∃ ds ρ M ρ', RepVs X.K M H ds vs ∧ EnvOk X.K M H ρ σ ∧ setVals ρ is ds = some ρ' ∧ ∀ σ', EnvOk X.K M H ρ' σ' → Q σ' H
theorem tgv_many (g : GoodS X T W c F k) : ∀ {is : List Nat} {ts : List Expr}, chkTgs c.N c.sc is ts = true → PGs X ts (gGv X is)
  | [], [], _ => PGs.imp pgs_nil fun vs σ H Q ⟨ds, ρ, M, ρ', r, e, h, q⟩ => by
    cases ds with
    | nil =>
      cases h
      exact ⟨r, q σ e⟩
    | cons _ _ => cases h
  | [], _ :: _, h => by simp [chkTgs] at h
  | _ :: _, [], h => by simp [chkTgs] at h
  | i :: is, t :: ts, h => by
    simp only [chkTgs, Bool.and_eq_true] at h
    obtain ⟨x, q, rfl, h1, h2⟩ := chkTg1_name h.1
    have ih := tgv_many g h.2
    have hl : Loc X.env.scope x := by rw [g.sc]; exact h2
    refine PGs.imp (pgs_cons (pg_name (pos := q) g.ndX (by rw [g.N]; exact h1) hl (g.fn x hl)) ih rfl) fun vs σ H Q ⟨ds, ρ, M, ρ', r, e, hs, q⟩ => ?_
    cases ds with
    | nil => cases hs
    | cons d ds =>
      obtain ⟨v, r', rfl, r1, r2⟩ := r
      exact ⟨v, r', rfl, ds, ρ.set i (some d), M, ρ', r2, e.set r1 i, hs, q⟩
theorem setVals_len : ∀ {is : List Nat} {ds : List Val} {ρ ρ' : Z.Env}, setVals ρ is ds = some ρ' → ds.length = is.length
  | [], [], _, _, _ => rfl
  | [], _ :: _, _, _, h => by cases h
  | _ :: _, [], _, _, h => by cases h
  | i :: is, d :: ds, ρ, ρ', h => by
    have : setVals (ρ.set i (some d)) is ds = some ρ' := h
    simp [setVals_len this]
theorem asgn_names (g : GoodS X T W c F k) {is : List Nat} {ts : List Expr} (h : chkTgs c.N c.sc is ts = true) : (assignEach ts X.env).length = ts.length ∧ (assignEach ts X.env).findIdx? (·.1) = none ∧ ts.length = is.length :=
  (tg_many g.ndX g.N (fun x hx => by
    have hl : Loc X.env.scope x := by rw [g.sc]; exact hx
    exact ⟨hl, g.fn x hl⟩) h).2
theorem names_loc {sc : Scope} {n : Nat} : ∀ {ts : List Expr} {ns : List Str}, namesAll sc n ts = some ns → (∀ t ∈ ts, ∃ x p, t = .Name x p ∧ sc.names.lookup x = some .local ∧ (p.line == n) = true) ∧ ns.length = ts.length
  | [], ns, h => by cases h; exact ⟨fun _ z => (nomatch z), rfl⟩
  | t :: ts, ns, h => by
    cases t with
    | Name x p =>
      simp only [namesAll] at h
      split at h
      · rename_i hc
        simp only [Bool.and_eq_true, decide_eq_true_eq] at hc
        simp only [Option.map_eq_some_iff] at h
        obtain ⟨ms, h1, h2⟩ := h
        subst h2
        obtain ⟨q1, q2⟩ := names_loc h1
        exact ⟨fun t ht => (List.mem_cons.mp ht).elim (fun e => ⟨x, p, e, hc.1, hc.2⟩) (q1 t), by simp [q2]⟩
      · cases h
    | _ => simp [namesAll] at h
theorem st_asgT2 (g : GoodS X T W c F k) {i j : Nat} {es : List LE} {x y : Str} {a b : Expr} {p1 p2 p3 p4 p5 : Pos} {k1 k2 : Nat} (hi : c.N[i]? = some x) (hj : c.N[j]? = some y) (hx : c.sc.names.lookup x = some .local) (hy : c.sc.names.lookup y = some .local) (hne : x ≠ y) (hln : (p2.line == p1.line) = true) (hf : [a, b].all (foldedForSure 8) = false) (hk : [a, b].all (constantsAlone 8) = false) (he : PA X [a, b] (rA X T W (evL (callF F k) es))) (hst : ∀ e ∈ [a, b], ∀ v p, e ≠ Expr.Starred v p) : PS X (.Assign [.Tuple [.Name x p1, .Name y p2] k1 p3] (.Tuple [a, b] k2 p4) p5) (tS X T W (exS (callF F k) (.asgT [i, j] es))) := by
  have hij : i ≠ j := fun e => by
    subst e
    rw [hi] at hj
    exact hne (Option.some.inj hj)
  refine ⟨fun pins s σ H D I q => ?_⟩
  have hkind : X.env.scope.kind = .function := I.ok.kind
  have hw : swappedStores [.Tuple [.Name x p1, .Name y p2] k1 p3] (.Tuple [a, b] k2 p4) X.env = pure (some [x, y]) := by
    have hb : X.env.blockKind = .function := by unfold PySem.Env.blockKind; rw [hkind]; rfl
    have kx : X.env.kindOf x = some .local := by show X.env.scope.names.lookup x = _; rw [g.sc]; exact hx
    have ky : X.env.kindOf y = some .local := by show X.env.scope.names.lookup y = _; rw [g.sc]; exact hy
    have sx : ∀ e ∈ [a, b], (match e with | .Starred .. => true | _ => false) = false := fun e he => by
      have := hst e he
      cases e <;> first | rfl | exact absurd rfl (this _ _)
    have sa := sx a (by simp)
    have sb := sx b (by simp)
    have hxy : (x == y) = false := by simpa using hne
    have hyx : (y == x) = false := by simpa using (Ne.symm hne)
    have hp2 : p2.line = p1.line := by simpa using hln
    unfold swappedStores
    simp only [hb, kx, ky, hf, hk, hp2, Expr.pos, List.filterMap, List.length_cons, List.length_nil, List.any_cons, List.any_nil, sa, sb]
    simp [List.eraseDups_cons, hxy, hyx, hne, Ne.symm hne, Expr.pos]
    intro h
    exfalso
    rcases h with h | h
    · have := hst a (by simp)
      revert h
      cases a <;> first | exact absurd rfl (this _ _) | exact fun h => absurd h Bool.false_ne_true
    · have := hst b (by simp)
      revert h
      cases b <;> first | exact absurd rfl (this _ _) | exact fun h => absurd h Bool.false_ne_true
  refine (PS.imp (ps_par (i := i) (j := j) g.calm g.ndX (by rw [g.N]; exact hi) (by rw [g.N]; exact hj) hij (by rw [g.sc]; exact hx) (by rw [g.sc]; exact hy) he hw rfl) fun D σ H hq => ?_).run pins s σ H D I q
  refine rd_mono (rdF_bind (rep := RepVs X.K) (m := evL (callF F k) es) (f := fun ρ vs S => nxO (setVals ρ [i, j] vs) S) hq) fun ys H1 ⟨ρ, vs, S, M, e, s, r, p⟩ => ?_
  match vs, p, r with
  | [v, w], p, r =>
    obtain ⟨u1, r', rfl, r1, u2, r'', rfl, r2, r3⟩ := r
    have r3 : r'' = [] := r3
    subst r3
    exact ⟨u1, u2, rfl, p _ M H1 (Ext.refl _ _) s ((e.set r1 i).set r2 j)⟩
  | [], p, _ => exact (show False from p).elim
  | [_], p, _ => exact (show False from p).elim
  | _ :: _ :: _ :: _, p, _ => exact (show False from p).elim
theorem st_asgT3 (g : GoodS X T W c F k) {i j l : Nat} {es : List LE} {x y z : Str} {a b d : Expr} {p1 p2 p6 p3 p4 p5 : Pos} {k1 k2 : Nat} (hi : c.N[i]? = some x) (hj : c.N[j]? = some y) (hl : c.N[l]? = some z) (hx : c.sc.names.lookup x = some .local) (hy : c.sc.names.lookup y = some .local) (hz : c.sc.names.lookup z = some .local) (hne : x ≠ y) (hne2 : x ≠ z) (hne3 : y ≠ z) (hln : (p2.line == p1.line) = true) (hln2 : (p6.line == p1.line) = true) (hf : [a, b, d].all (foldedForSure 8) = false) (hk : [a, b, d].all (constantsAlone 8) = false) (he : PA X [a, b, d] (rA X T W (evL (callF F k) es))) (hst : ∀ e ∈ [a, b, d], ∀ v p, e ≠ Expr.Starred v p) : PS X (.Assign [.Tuple [.Name x p1, .Name y p2, .Name z p6] k1 p3] (.Tuple [a, b, d] k2 p4) p5) (tS X T W (exS (callF F k) (.asgT [i, j, l] es))) := by
  have ne_of : ∀ {i j : Nat} {x y : Str}, c.N[i]? = some x → c.N[j]? = some y → x ≠ y → i ≠ j := fun h1 h2 hn e => by
    subst e
    rw [h1] at h2
    exact hn (Option.some.inj h2)
  refine ⟨fun pins s σ H D I q => ?_⟩
  have hkind : X.env.scope.kind = .function := I.ok.kind
  have hw : swappedStores [.Tuple [.Name x p1, .Name y p2, .Name z p6] k1 p3] (.Tuple [a, b, d] k2 p4) X.env = pure (some [x, y, z]) := by
    have hb : X.env.blockKind = .function := by unfold PySem.Env.blockKind; rw [hkind]; rfl
    have kx : X.env.kindOf x = some .local := by show X.env.scope.names.lookup x = _; rw [g.sc]; exact hx
    have ky : X.env.kindOf y = some .local := by show X.env.scope.names.lookup y = _; rw [g.sc]; exact hy
    have kz : X.env.kindOf z = some .local := by show X.env.scope.names.lookup z = _; rw [g.sc]; exact hz
    have hxy : (x == y) = false := by simpa using hne
    have hyx : (y == x) = false := by simpa using (Ne.symm hne)
    have hxz : (x == z) = false := by simpa using hne2
    have hzx : (z == x) = false := by simpa using (Ne.symm hne2)
    have hyz : (y == z) = false := by simpa using hne3
    have hzy : (z == y) = false := by simpa using (Ne.symm hne3)
    have hp2 : p2.line = p1.line := by simpa using hln
    have hp6 : p6.line = p1.line := by simpa using hln2
    unfold swappedStores
    simp only [hb, kx, ky, kz, hf, hk, hp2, hp6, Expr.pos, List.filterMap, List.length_cons, List.length_nil, List.any_cons, List.any_nil]
    simp [List.eraseDups_cons, hxy, hyx, hxz, hzx, hyz, hzy, hne, Ne.symm hne, hne2, Ne.symm hne2, hne3, Ne.symm hne3, Expr.pos]
    intro h
    exfalso
    rcases h with h | h | h
    · have := hst a (by simp)
      revert h
      cases a <;> first | exact absurd rfl (this _ _) | exact fun h => absurd h Bool.false_ne_true
    · have := hst b (by simp)
      revert h
      cases b <;> first | exact absurd rfl (this _ _) | exact fun h => absurd h Bool.false_ne_true
    · have := hst d (by simp)
      revert h
      cases d <;> first | exact absurd rfl (this _ _) | exact fun h => absurd h Bool.false_ne_true
  refine (PS.imp (ps_par3 (i := i) (j := j) (l := l) g.calm g.ndX (by rw [g.N]; exact hi) (by rw [g.N]; exact hj) (by rw [g.N]; exact hl) (ne_of hi hj hne) (ne_of hi hl hne2) (ne_of hj hl hne3) (by rw [g.sc]; exact hx) (by rw [g.sc]; exact hy) (by rw [g.sc]; exact hz) he hw rfl) fun D σ H hq => ?_).run pins s σ H D I q
  refine rd_mono (rdF_bind (rep := RepVs X.K) (m := evL (callF F k) es) (f := fun ρ vs S => nxO (setVals ρ [i, j, l] vs) S) hq) fun ys H1 ⟨ρ, vs, S, M, e, s, r, p⟩ => ?_
  match vs, p, r with
  | [v, w, v3], p, r =>
    obtain ⟨u1, r', rfl, r1, u2, r'', rfl, r2, u3, r4, rfl, r5, r6⟩ := r
    have r6 : r4 = [] := r6
    subst r6
    exact ⟨u1, u2, u3, rfl, p _ M H1 (Ext.refl _ _) s (((e.set r1 i).set r2 j).set r5 l)⟩
  | [], p, _ => exact (show False from p).elim
  | [_], p, _ => exact (show False from p).elim
  | [_, _], p, _ => exact (show False from p).elim
  | _ :: _ :: _ :: _ :: _, p, _ => exact (show False from p).elim
theorem fm_len {α β : Type} {f : α → Option β} : ∀ {ts : List α}, (ts.filterMap f).length = ts.length → ∀ t ∈ ts, (f t).isSome = true
  | [], _ => fun _ z => nomatch z
  | t :: ts, h => by
    have hle : ∀ l : List α, (l.filterMap f).length ≤ l.length := fun l => List.length_filterMap_le f l
    cases hf : f t with
    | none =>
      rw [List.filterMap_cons_none hf] at h
      have := hle ts
      simp at h
      omega
    | some y =>
      rw [List.filterMap_cons_some hf] at h
      intro u hu
      rcases List.mem_cons.mp hu with rfl | hu
      · rw [hf]; rfl
      · exact fm_len (by simpa using h) u hu
theorem noswap {sc : Scope} {ts fs : List Expr} {k1 k2 : Nat} {p1 p2 : Pos} {env : PySem.Env} (hs : env.scope = sc) (h : noSwapT sc ts fs = true) : swappedStores [.Tuple ts k1 p1] (.Tuple fs k2 p2) env = pure none := by
  unfold swappedStores
  dsimp only
  split
  · rfl
  · rename_i hc
    split
    · rfl
    · split
      · rfl
      · rename_i hn
        split
        · rfl
        · rename_i hf
          exfalso
          unfold noSwapT at h
          simp only [Bool.or_eq_true, Bool.not_eq_true'] at h
          rcases h with (h | h) | h
          · simp [h] at hc
          · have hn' : (List.filterMap (fun x => match x with
              | .Name id pos => if (env.kindOf id == some .local && pos.line == (Option.map (fun x => x.pos.line) ts.head?).getD 0) = true then some id else none
              | _ => none) ts).length = ts.length := by
              simp only [Bool.or_eq_true, not_or, bne_iff_ne, ne_eq, Decidable.not_not] at hn
              exact hn.1
            have hall := fm_len hn'
            have : ts.all (nameLoc sc) = true := by
              rw [List.all_eq_true]
              intro t ht
              have := hall t ht
              cases t with
              | Name x p =>
                dsimp only at this
                split at this
                · rename_i hq
                  simp only [Bool.and_eq_true] at hq
                  have h1 : env.scope.names.lookup x = some .local := eq_of_beq hq.1
                  rw [hs] at h1
                  unfold nameLoc
                  simp [h1]
                · cases this
              | _ => cases this
            rw [this] at h
            cases h
          · exact hf h
/-- (a, b, ..) = (x, y, ..), not swapped -/
theorem st_asgTn (g : GoodS X T W c F k) {is : List Nat} {es : List LE} {ts fs : List Expr} {p1 p2 p3 : Pos} {k1 k2 : Nat} (h : chkTgs c.N c.sc is ts = true) (hl : es.length ≤ 1000) (hs : noSwapT c.sc ts fs = true) (he : PA X fs (rA X T W (evL (callF F k) es))) : PS X (.Assign [.Tuple ts k1 p1] (.Tuple fs k2 p2) p3) (tS X T W (exS (callF F k) (.asgT is es))) := by
  obtain ⟨n1, n2, n3⟩ := asgn_names g h
  refine PS.imp (ps_asg (pe_tup he) (pg_tup (n := ts.length) g.calm (tgv_many g h) n1 n2) rfl (noswap g.sc hs) rfl) fun D σ H hq => ?_
  have q2 : rd X T W (RepVs X.K) (evL (callF F k) es) σ H fun ys H1 => ∃ ρ vs S M, EnvOk X.K M H1 ρ σ ∧ StoreOk T X.K M H1 S ∧ (RepVs X.K M H1 vs ys ∧ vs.length ≤ 1000) ∧ PostF X T W M H1 (nxO (setVals ρ is vs) S) D := by
    obtain ⟨ρ, S, M, e, s, p⟩ := hq
    refine ⟨ρ, S, M, e, s, ?_⟩
    have p : PostF X T W M H ((evL (callF F k) es ρ S).bind fun vs S => nxO (setVals ρ is vs) S) D := p
    cases hm : evL (callF F k) es ρ S with
    | ok vs S1 =>
      have hlen := evL_len hm
      rw [hm] at p
      exact fun b M1 H1 x1 s1 r1 => ⟨ρ, vs, S1, M1, e.ext x1, s1, ⟨r1, by omega⟩, PostF.ext x1 p⟩
    | ex c S1 =>
      rw [hm] at p
      exact fun M' H' C e' s' g => p σ M' H' C e' s' g
    | no => rw [hm] at p; exact p
  refine rd_mono q2 fun ys H1 ⟨ρ, vs, S, M, e, s, ⟨r, hvl⟩, p⟩ => ?_
  refine ⟨by rw [← r.length]; exact Nat.le_trans hvl (Nat.le_trans (by decide) lim_line), fun z hz => ?_⟩
  cases hv : setVals ρ is vs with
  | none => rw [hv] at p; exact (show False from p).elim
  | some ρ' =>
    rw [hv] at p
    have xe := ext_new (M := M) (o := HO.tup ys) hz
    exact ⟨z, ys, rfl, SqT.of upd_same, by rw [← r.length, setVals_len hv, n3], vs, ρ, M, ρ', RepVs.ext xe r, e.ext xe, hv, fun σ' e' => p σ' M _ xe (s.new hz) e'⟩
/-- (a, b, ..) = a value -/
theorem st_unp (g : GoodS X T W c F k) {is : List Nat} {l : LE} {ts : List Expr} {f : Expr} {p1 p3 : Pos} {k1 : Nat} (h : chkTgs c.N c.sc is ts = true) (ht : isTup f = false) (he : PE X f (rE X T W (evE (callF F k) l))) : PS X (.Assign [.Tuple ts k1 p1] f p3) (tS X T W (exS (callF F k) (.unp is l))) := by
  obtain ⟨n0, n1, n2, n3⟩ := tg_many g.ndX g.N (fun x hx => by
    have hl : Loc X.env.scope x := by rw [g.sc]; exact hx
    exact ⟨hl, g.fn x hl⟩) h
  have pg : PG X (.Tuple ts k1 p1) (fun v σ H Q => gTup X.K ts.length (gGs X is) v σ H Q ∨ gLst X.K ts.length (gGs X is) v σ H Q) := ⟨fun pins s σ H v u Q I r q => by
    rcases q with q | q
    · exact (pg_tup (n := ts.length) g.calm n0 n1 n2).run pins s σ H v u Q I r q
    · exact (pg_lst (n := ts.length) g.calm n0 n1 n2).run pins s σ H v u Q I r q⟩
  refine PS.imp (ps_asg he pg (by cases f <;> rfl) (by cases f <;> first | rfl | (simp [isTup] at ht)) rfl) fun D σ H hq => ?_
  refine rd_mono (rdF_bind (rep := RepV X.K) (m := evE (callF F k) l) (f := fun ρ v S => unpV is v ρ S) hq) fun y H1 ⟨ρ, v, S, M, e, s, r, p⟩ => ?_
  have fin : ∀ (xs : List PyData) (vs : List V), RepL X.K M H1 xs vs → PostF X T W M H1 (nxO (setMany ρ is xs) S) D → vs.length = ts.length ∧ gGs X is vs σ H1 D.nx := fun xs vs rl p => by
    cases hv : setMany ρ is xs with
    | none => rw [hv] at p; exact (show False from p).elim
    | some ρ' =>
      rw [hv] at p
      refine ⟨by rw [← rl.length, setMany_len hv, n3], xs, ρ, M, ρ', rl, e, hv, fun σ' e' _ _ => p σ' M H1 (Ext.refl _ _) s e'⟩
  match v, r, p with
  | .d (.tuple xs), r, p =>
    obtain ⟨a, vs, rfl, h2, h3⟩ := r
    obtain ⟨q1, q2⟩ := fin xs vs h3 p
    exact .inl ⟨a, vs, rfl, h2, q1, q2⟩
  | .d (.list xs), r, p =>
    obtain ⟨a, vs, rfl, _, h2, h3⟩ := r
    obtain ⟨q1, q2⟩ := fin xs vs h3 p
    exact .inr ⟨a, vs, rfl, SqL.of h2, q1, q2⟩
  | .d .none, _, p | .d (.bool _), _, p | .d (.str _), _, p | .d (.int _), _, p | .d (.dict _), _, p | .r _, _, p | .s _, _, p => exact (show False from p).elim
/-! ### loops -/
def fF (C : Nat → List Val → Sto → R Val) (tgt : Tg) (body : List LS) : PyData → Z.Env → Sto → R Fl := fun x ρ S => onTg tgt x ρ fun ρ' => exB C body ρ' S
theorem st_for (g : GoodS X T W c F k) {kk : IK} {args : List LE} {tgt : Tg} {body : List LS} {t it : Expr} {ss : List Stmt} {p : Pos} (hI : PI X t it (rI X T W fun ρ S => (evL (callF F k) args ρ S).bind (itV kk))) (hg : PG X t (gG X tgt)) (hs : isSet it = false) (hb : PSs X ss (tS X T W (exB (callF F k) body))) : PS X (.For t it ss [] p) (tS X T W (exS (callF F k) (.for kk args tgt body))) := by
  refine PS.imp (ps_for g.pas g.calm hI hg hb (folded_none hs)) fun D σ H q => ?_
  have q1 : tS X T W (fun ρ S => ((evL (callF F k) args ρ S).bind (itV kk)).bind fun items S => loopF (fF (callF F k) tgt body) items ρ S) D σ H := by
    obtain ⟨ρ, S, M, e, s, p⟩ := q
    refine ⟨ρ, S, M, e, s, ?_⟩
    show PostF X T W M H (((evL (callF F k) args ρ S).bind (itV kk)).bind fun items S => loopF (fF (callF F k) tgt body) items ρ S) D
    rw [R.bind_assoc]
    exact p
  refine rd_mono (rdF_bind (rep := fun M H items J => ItRep X.K M H J items) (f := fun ρ items S => loopF (fF (callF F k) tgt body) items ρ S) q1) fun J H1 ⟨ρ, items, S, M, e, s, r, p⟩ => ?_
  refine ⟨fun i n σ H => ∃ ρ S M, n = items.length - i ∧ i ≤ items.length ∧ StoreOk T X.K M H S ∧ EnvOk X.K M H ρ σ ∧ ItRep X.K M H J items ∧ PostF X T W M H (loopF (fF (callF F k) tgt body) (items.drop i) ρ S) D, ⟨items.length, ρ, S, M, by simp, Nat.zero_le _, s, e, r, p⟩, ?_⟩
  rintro i n σ2 H2 ⟨ρ2, S2, M2, rfl, hi, s2, e2, r2, p2⟩
  obtain ⟨tStop, tGo⟩ := r2.turn s2
  by_cases hlt : i < items.length
  · have hd : items[i]? = some items[i] := List.getElem?_eq_getElem hlt
    obtain ⟨go, yld⟩ := tGo i _ hd
    refine .inr ⟨go, fun σ' H' => ∃ ρ S M, items.length - (i + 1) = items.length - (i + 1) ∧ i + 1 ≤ items.length ∧ StoreOk T X.K M H' S ∧ EnvOk X.K M H' ρ σ' ∧ ItRep X.K M H' J items ∧ PostF X T W M H' (loopF (fF (callF F k) tgt body) (items.drop (i + 1)) ρ S) D, fun σ' H' h => ⟨items.length - (i + 1), by omega, h⟩, fun x H3 hy => ?_⟩
    obtain ⟨x3, s3, r3⟩ := yld x H3 hy
    rw [List.drop_eq_getElem_cons hlt] at p2
    simp only [loopF] at p2
    have p2 := PostF.ext x3 p2
    unfold fF onTg at p2
    cases hbt : bindTg tgt items[i] ρ2 with
    | none => rw [hbt] at p2; exact (show False from p2).elim
    | some ρ' =>
      rw [hbt] at p2
      dsimp only at p2
      refine ⟨items[i], ρ2, M2, ρ', r3, e2.ext x3, hbt, fun σ' e4 _ _ => ⟨ρ', S2, M2, e4, s3, ?_⟩⟩
      have p2 : PostF X T W M2 H3 ((exB (callF F k) body ρ' S2).bind fun fl S => match fl with
        | .nx ρ => loopF (fF (callF F k) tgt body) (items.drop (i + 1)) ρ S
        | .ct ρ => loopF (fF (callF F k) tgt body) (items.drop (i + 1)) ρ S
        | .bk ρ => .ok (.nx ρ) S
        | .ret v => .ok (.ret v) S) D := p2
      match hm : exB (callF F k) body ρ' S2, p2 with
      | .ok (.nx ρ5) S', p => exact fun σ' M' H' x' s' e' => ⟨ρ5, S', M', rfl, hlt, s', e', r2.ext (x3.trans x'), PostF.ext x' p⟩
      | .ok (.ct ρ5) S', p => exact fun σ' M' H' x' s' e' => ⟨ρ5, S', M', rfl, hlt, s', e', r2.ext (x3.trans x'), PostF.ext x' p⟩
      | .ok (.bk ρ5) S', p => exact p
      | .ok (.ret v) S', p => exact p
      | .ex c S', p => exact p
      | .no, p => exact p
  · have hi' : i = items.length := by omega
    subst hi'
    refine .inl ⟨tStop _ (Nat.le_refl _), ?_⟩
    rw [List.drop_length] at p2
    exact p2 σ2 M2 H2 (Ext.refl _ _) s2 e2
theorem st_whil (g : GoodS X T W c F k) {l : LE} {body : List LS} {e : Expr} {ss : List Stmt} {p : Pos} (hc : PT X e (rT X T W (evT (callF F k) l))) (hb : PSs X ss (tS X T W (exB (callF F k) body))) : PS X (.While e ss [] p) (tS X T W (exS (callF F k) (.whil l body))) := by
  refine PS.imp (ps_while g.pas hc hb) fun D σ H ⟨ρ, S, M, e, s, q⟩ => ?_
  refine ⟨fun n σ H => ∃ ρ S M, StoreOk T X.K M H S ∧ EnvOk X.K M H ρ σ ∧ PostF X T W M H (loopW (fun ρ S => evT (callF F k) l ρ S) (fun ρ S => exB (callF F k) body ρ S) n ρ S) D, ⟨fuelW, ρ, S, M, s, e, q⟩, ?_⟩
  clear q s e
  rintro n σ2 H2 ⟨ρ2, S2, M2, s2, e2, p2⟩
  cases n with
  | zero => exact (show False from p2).elim
  | succ n =>
    have p2 : PostF X T W M2 H2 ((evT (callF F k) l ρ2 S2).bind fun b S => if b then (exB (callF F k) body ρ2 S).bind fun fl S => match fl with
        | .nx ρ => loopW (fun ρ S => evT (callF F k) l ρ S) (fun ρ S => exB (callF F k) body ρ S) n ρ S
        | .ct ρ => loopW (fun ρ S => evT (callF F k) l ρ S) (fun ρ S => exB (callF F k) body ρ S) n ρ S
        | .bk ρ => .ok (.nx ρ) S
        | .ret v => .ok (.ret v) S
      else .ok (.nx ρ2) S) D := p2
    refine ⟨ρ2, S2, M2, e2, s2, ?_⟩
    refine Post.mono (stepF (rep := fun _ _ a b => a = b) e2 s2 p2) fun b H3 ⟨a, S3, M3, e3, x3, s3, r3, p3⟩ => ?_
    subst r3
    cases a with
    | false =>
      rw [if_neg Bool.false_ne_true]
      exact p3 σ2 M3 H3 (Ext.refl _ _) s3 e3
    | true =>
      rw [if_pos rfl]
      rw [if_pos rfl] at p3
      refine ⟨fun σ' H' => ∃ ρ S M, StoreOk T X.K M H' S ∧ EnvOk X.K M H' ρ σ' ∧ PostF X T W M H' (loopW (fun ρ S => evT (callF F k) l ρ S) (fun ρ S => exB (callF F k) body ρ S) n ρ S) D, fun σ' H' h => ⟨n, Nat.lt_succ_self n, h⟩, ρ2, S3, M3, e3, s3, ?_⟩
      match hm : exB (callF F k) body ρ2 S3, p3 with
      | .ok (.nx ρ5) S', p => exact fun σ' M' H' x' s' e' => ⟨ρ5, S', M', s', e', PostF.ext x' p⟩
      | .ok (.ct ρ5) S', p => exact fun σ' M' H' x' s' e' => ⟨ρ5, S', M', s', e', PostF.ext x' p⟩
      | .ok (.bk ρ5) S', p => exact p
      | .ok (.ret v) S', p => exact p
      | .ex c S', p => exact p
      | .no, p => exact p
theorem st_raise (g : GoodS X T W c F k) {x m : Str} {j : Nat} {p1 p2 p3 p4 : Pos} (hx : gl c x = true) (he : x ∈ c.excs) : PS X (.Raise (some (.Call (.Name x p1) [.Constant (.str m) j p2] [] p3)) none p4) (tS X T W (exS (callF F k) (.raise x))) := by
  obtain ⟨C, h1, h2, h3, h4, h5⟩ := g.gg.exc x he
  obtain ⟨g1, g2⟩ := g.toGood.gl hx
  refine PS.imp (ps_raise g.calm g.tk (pmk_own PySem.F.excBase_ValueError h2 h1 h3 (raises_own h4 h5) g1 g2)) fun D σ H ⟨ρ, S, M, e, s, q⟩ => ?_
  exact q σ M H C (Ext.refl _ _) s h1
theorem names_shape {sc : Scope} {N : List Str} {i : Nat} {t : Expr} {n : Nat} {x : Str} {p : Pos} (h : chkTg1 N sc i t = true) (e : t = .Name x p) : N[i]? = some x := by
  subst e
  simp only [chkTg1, Bool.and_eq_true, decide_eq_true_eq] at h
  exact h.1
theorem names_two {sc : Scope} {n : Nat} {x y : Str} {p q : Pos} {ns : List Str} (h : namesAll sc n [.Name x p, .Name y q] = some ns) : ns = [x, y] := by
  cases h1 : (decide (sc.names.lookup x = some .local) && p.line == n) <;> cases h2 : (decide (sc.names.lookup y = some .local) && q.line == n) <;> simp only [namesAll, h1, h2, if_true, if_false, Option.map_some, Option.map_none, Bool.false_eq_true, reduceCtorEq] at h
  exact (Option.some.inj h).symm
theorem names_three {sc : Scope} {n : Nat} {x y z : Str} {p q r : Pos} {ns : List Str} (h : namesAll sc n [.Name x p, .Name y q, .Name z r] = some ns) : ns = [x, y, z] := by
  cases h1 : (decide (sc.names.lookup x = some .local) && p.line == n) <;> cases h2 : (decide (sc.names.lookup y = some .local) && q.line == n) <;> cases h3 : (decide (sc.names.lookup z = some .local) && r.line == n) <;> simp only [namesAll, h1, h2, h3, if_true, if_false, Option.map_some, Option.map_none, Bool.false_eq_true, reduceCtorEq] at h
  exact (Option.some.inj h).symm
theorem st_asgTs (g : GoodS X T W c F k) {is : List Nat} {es : List LE} {ts fs : List Expr} {p1 p2 p3 : Pos} {k1 k2 : Nat} (h : chkTgs c.N c.sc is ts = true) (hlen : ts.length = fs.length) (hs : swapT c.sc ts fs = true) (hst : ∀ e ∈ fs, ∀ v p, e ≠ Expr.Starred v p) (he : PA X fs (rA X T W (evL (callF F k) es))) : PS X (.Assign [.Tuple ts k1 p1] (.Tuple fs k2 p2) p3) (tS X T W (exS (callF F k) (.asgT is es))) := by
  unfold swapT at hs
  simp only [Bool.and_eq_true, Bool.or_eq_true, beq_iff_eq] at hs
  obtain ⟨hl, hs⟩ := hs
  split at hs
  · rename_i ns hns
    simp only [Bool.and_eq_true, decide_eq_true_eq, Bool.not_eq_true'] at hs
    obtain ⟨⟨hnd, hf⟩, hk⟩ := hs
    obtain ⟨nl, nlen⟩ := names_loc hns
    match ts, fs, is, hlen, hl, h, nl, hns with
    | [t1, t2], [a, b], [i, j], _, _, h, nl, hns =>
      obtain ⟨x, q1, rfl, lx, m1⟩ := nl t1 (by simp)
      obtain ⟨y, q2, rfl, ly, m2⟩ := nl t2 (by simp)
      simp only [chkTgs, Bool.and_eq_true] at h
      have hne : x ≠ y := by
        have := names_two hns
        subst this
        simpa using hnd
      exact st_asgT2 g (names_shape (n := 0) h.1 rfl) (names_shape (n := 0) h.2.1 rfl) lx ly hne (show (q2.line == q1.line) = true from m2) hf hk he hst
    | [], _, _, _, hl, _, _, _ => simp at hl
    | [_], _, _, _, hl, _, _, _ => simp at hl
    | [t1, t2, t3], [a, b, d], [i, j, l], _, _, h, nl, hns =>
      obtain ⟨x, q1, rfl, lx, m1⟩ := nl t1 (by simp)
      obtain ⟨y, q2, rfl, ly, m2⟩ := nl t2 (by simp)
      obtain ⟨z, q3, rfl, lz, m3⟩ := nl t3 (by simp)
      simp only [chkTgs, Bool.and_eq_true] at h
      have hne : x ≠ y ∧ x ≠ z ∧ y ≠ z := by
        have := names_three hns
        subst this
        simp at hnd
        exact ⟨hnd.1.1, hnd.1.2, hnd.2⟩
      exact st_asgT3 g (names_shape (n := 0) h.1 rfl) (names_shape (n := 0) h.2.1 rfl) (names_shape (n := 0) h.2.2.1 rfl) lx ly lz hne.1 hne.2.1 hne.2.2 (show (q2.line == q1.line) = true from m2) (show (q3.line == q1.line) = true from m3) hf hk he hst
    | _ :: _ :: _ :: _ :: _, _, _, _, hl, _, _, _ => simp at hl
    | [_, _], [], _, hlen, _, _, _, _ => simp at hlen
    | [_, _], [_], _, hlen, _, _, _, _ => simp at hlen
    | [_, _], _ :: _ :: _ :: _, _, hlen, _, _, _, _ => simp at hlen
    | [_, _, _], [], _, hlen, _, _, _, _ => simp at hlen
    | [_, _, _], [_], _, hlen, _, _, _, _ => simp at hlen
    | [_, _, _], [_, _], _, hlen, _, _, _, _ => simp at hlen
    | [_, _, _], _ :: _ :: _ :: _ :: _, _, hlen, _, _, _, _ => simp at hlen
    | [_, _], [_, _], [], _, _, h, _, _ => simp [chkTgs] at h
    | [_, _], [_, _], [_], _, _, h, _, _ => simp [chkTgs] at h
    | [_, _], [_, _], _ :: _ :: _ :: _, _, _, h, _, _ => simp [chkTgs] at h
    | [_, _, _], [_, _, _], [], _, _, h, _, _ => simp [chkTgs] at h
    | [_, _, _], [_, _, _], [_], _, _, h, _, _ => simp [chkTgs] at h
    | [_, _, _], [_, _, _], [_, _], _, _, h, _, _ => simp [chkTgs] at h
    | [_, _, _], [_, _, _], _ :: _ :: _ :: _ :: _, _, _, h, _, _ => simp [chkTgs] at h
  · cases hs
theorem soundIt (kk : IK) (args : List LE) (tgt : Tg) (t it : Expr) (g : Good X T W c F k) (h3 : chkTg c.N c.sc tgt t = true) (h : chkIt c kk args tgt it = true) : isSet it = false ∧ PI X t it (rI X T W fun ρ S => (evL (callF F k) args ρ S).bind (itV kk)) := by
  unfold chkIt at h
  simp only [Bool.and_eq_true, Bool.not_eq_true'] at h
  refine ⟨h.1, ?_⟩
  have h6 := h.2
  have hL : PAs T F k X W c args := fun es h => soundL args X W c es g h
  cases kk with
  | seq =>
    match args, h6 with
    | [a], h6 => exact i_seq (notStar h6) (soundE a X W c it g h6)
    | [], h6 => simp at h6
    | _ :: _ :: _, h6 => simp at h6
  | range => exact soundI .range args tgt X W c t it g hL (fun z => nomatch z) h3 h6
  | enum => exact soundI .enum args tgt X W c t it g hL (fun z => nomatch z) h3 h6
  | zip => exact soundI .zip args tgt X W c t it g hL (fun z => nomatch z) h3 h6
theorem inv_asg {s : Stmt} {i : Nat} {e : LE} (h : chkS c (.asg i e) s = true) : ∃ x p f q, s = .Assign [.Name x p] f q ∧ okSet c i x = true ∧ chkE c e f = true := by
  unfold chkS at h
  split at h
  all_goals first | (cases h; done) | (rename_i q1 q2; cases q1; done) | skip
  all_goals (rename_i q1 q2; cases q1; cases q2)
  simp only [Bool.and_eq_true] at h
  exact ⟨_, _, _, _, rfl, h⟩
theorem inv_asgT {s : Stmt} {is : List Nat} {es : List LE} (h : chkS c (.asgT is es) s = true) : ∃ ts k1 p1 fs k2 p2 p, s = .Assign [.Tuple ts k1 p1] (.Tuple fs k2 p2) p ∧ chkTgs c.N c.sc is ts = true ∧ ts.length = fs.length ∧ es.length ≤ 1000 ∧ (swapT c.sc ts fs = true ∨ noSwapT c.sc ts fs = true) ∧ chkL c es fs = true := by
  unfold chkS at h
  split at h
  all_goals first | (cases h; done) | (rename_i q1 q2; cases q1; done) | skip
  all_goals (rename_i q1 q2; cases q1; cases q2)
  simp only [Bool.and_eq_true, decide_eq_true_eq, Bool.or_eq_true] at h
  exact ⟨_, _, _, _, _, _, _, rfl, h.1.1.1.1, h.1.1.1.2, h.1.1.2, h.1.2, h.2⟩
theorem inv_unp {s : Stmt} {is : List Nat} {e : LE} (h : chkS c (.unp is e) s = true) : ∃ ts k1 p1 f p, s = .Assign [.Tuple ts k1 p1] f p ∧ chkTgs c.N c.sc is ts = true ∧ isTup f = false ∧ chkE c e f = true := by
  unfold chkS at h
  split at h
  all_goals first | (cases h; done) | (rename_i q1 q2; cases q1; done) | skip
  all_goals (rename_i q1 q2; cases q1; cases q2)
  simp only [Bool.and_eq_true, Bool.not_eq_true'] at h
  exact ⟨_, _, _, _, _, rfl, h.1.1, h.1.2, h.2⟩
theorem inv_setix {s : Stmt} {o i e : LE} (h : chkS c (.setix o i e) s = true) : ∃ f g p x q, s = .Assign [.Subscript f g p] x q ∧ isComp x = false ∧ slicy g = false ∧ chkE c o f = true ∧ chkE c i g = true ∧ chkE c e x = true := by
  unfold chkS at h
  split at h
  all_goals first | (cases h; done) | (rename_i q1 q2; cases q1; done) | skip
  all_goals (rename_i q1 q2; cases q1; cases q2)
  simp only [Bool.and_eq_true, Bool.not_eq_true'] at h
  exact ⟨_, _, _, _, _, rfl, h.1.1, h.1.2, h.2.1, h.2.2.1, h.2.2.2⟩
theorem inv_app {s : Stmt} {o e : LE} (h : chkS c (.app o e) s = true) : ∃ n x p1 p2 g p3 p4, o = .var n ∧ s = .Expr (.Call (.Attribute (.Name x p1) "append" p2) [g] [] p3) p4 ∧ (p2.endLine == p3.line) = true ∧ okVar c n x = true ∧ chkE c e g = true := by
  unfold chkS at h
  split at h
  all_goals first | (cases h; done) | (rename_i q1 q2; cases q1; done) | skip
  all_goals (rename_i q1 q2; cases q1; cases q2)
  simp only [Bool.and_eq_true, decide_eq_true_eq] at h
  obtain ⟨⟨rfl, h1⟩, h2, h3⟩ := h
  exact ⟨_, _, _, _, _, _, _, rfl, rfl, h1, h2, h3⟩
theorem inv_aug {s : Stmt} {i : Nat} {o : Op2} {e : LE} (h : chkS c (.aug i o e) s = true) : ∃ x p f q, s = .AugAssign (.Name x p) (opOf o) f q ∧ okSet c i x = true ∧ chkE c e f = true := by
  unfold chkS at h
  split at h
  all_goals first | (cases h; done) | (rename_i q1 q2; cases q1; done) | skip
  all_goals (rename_i q1 q2; cases q1; cases q2)
  simp only [Bool.and_eq_true, decide_eq_true_eq] at h
  obtain ⟨⟨h1, rfl⟩, h2⟩ := h
  exact ⟨_, _, _, _, rfl, h1, h2⟩
theorem inv_exp {s : Stmt} {e : LE} (h : chkS c (.exp e) s = true) : ∃ f p, s = .Expr f p ∧ isComp f = false ∧ chkE c e f = true := by
  unfold chkS at h
  split at h
  all_goals first | (cases h; done) | (rename_i q1 q2; cases q1; done) | skip
  all_goals (rename_i q1 q2; cases q1; cases q2)
  simp only [Bool.and_eq_true, Bool.not_eq_true'] at h
  exact ⟨_, _, rfl, h⟩
theorem inv_ret {s : Stmt} {e : LE} (h : chkS c (.ret e) s = true) : ∃ f p, s = .Return (some f) p ∧ chkE c e f = true := by
  unfold chkS at h
  split at h
  all_goals first | (cases h; done) | (rename_i q1 q2; cases q1; done) | skip
  all_goals (rename_i q1 q2; cases q1; cases q2)
  exact ⟨_, _, rfl, h⟩
theorem inv_ite {s : Stmt} {t : LE} {a b : List LS} (h : chkS c (.ite t a b) s = true) : ∃ f x y p, s = .If f x y p ∧ chkE c t f = true ∧ chkB c a x = true ∧ chkB c b y = true := by
  unfold chkS at h
  split at h
  all_goals first | (cases h; done) | (rename_i q1 q2; cases q1; done) | skip
  all_goals (rename_i q1 q2; cases q1; cases q2)
  simp only [Bool.and_eq_true] at h
  exact ⟨_, _, _, _, rfl, h⟩
theorem inv_for {s : Stmt} {kk : IK} {args : List LE} {tg : Tg} {body : List LS} (h : chkS c (.for kk args tg body) s = true) : ∃ t it x p, s = .For t it x [] p ∧ chkTg c.N c.sc tg t = true ∧ chkIt c kk args tg it = true ∧ chkB c body x = true := by
  unfold chkS at h
  split at h
  all_goals first | (cases h; done) | (rename_i q1 q2; cases q1; done) | skip
  all_goals (rename_i q1 q2; cases q1; cases q2)
  simp only [Bool.and_eq_true] at h
  exact ⟨_, _, _, _, rfl, h.1.1, h.1.2, h.2⟩
theorem inv_whil {s : Stmt} {t : LE} {b : List LS} (h : chkS c (.whil t b) s = true) : ∃ f x p, s = .While f x [] p ∧ chkE c t f = true ∧ chkB c b x = true := by
  unfold chkS at h
  split at h
  all_goals first | (cases h; done) | (rename_i q1 q2; cases q1; done) | skip
  all_goals (rename_i q1 q2; cases q1; cases q2)
  simp only [Bool.and_eq_true] at h
  exact ⟨_, _, _, rfl, h.1, h.2⟩
theorem inv_raise {s : Stmt} {x : Str} (h : chkS c (.raise x) s = true) : ∃ m j p1 p2 p3 p4, s = .Raise (some (.Call (.Name x p1) [.Constant (.str m) j p2] [] p3)) none p4 ∧ gl c x = true ∧ x ∈ c.excs := by
  unfold chkS at h
  split at h
  all_goals first | (cases h; done) | (rename_i q1 q2; cases q1; done) | skip
  all_goals (rename_i q1 q2; cases q1; cases q2)
  simp only [Bool.and_eq_true, decide_eq_true_eq] at h
  obtain ⟨⟨rfl, h1⟩, h2⟩ := h
  exact ⟨_, _, _, _, _, _, rfl, h1, h2⟩
theorem inv_brk {s : Stmt}  (h : chkS c (.brk) s = true) : ∃ p, s = .Break p := by
  unfold chkS at h
  split at h
  all_goals first | (cases h; done) | (rename_i q1 q2; cases q1; done) | skip
  all_goals (rename_i q1 q2; cases q1; cases q2)
  exact ⟨_, rfl⟩
theorem inv_cont {s : Stmt}  (h : chkS c (.cont) s = true) : ∃ p, s = .Continue p := by
  unfold chkS at h
  split at h
  all_goals first | (cases h; done) | (rename_i q1 q2; cases q1; done) | skip
  all_goals (rename_i q1 q2; cases q1; cases q2)
  exact ⟨_, rfl⟩
theorem inv_pass {s : Stmt}  (h : chkS c (.pass) s = true) : (∃ p, s = .Pass p) ∨ ∃ x j p q, s = .Expr (.Constant (.str x) j p) q := by
  unfold chkS at h
  split at h
  all_goals first | (cases h; done) | (rename_i q1 q2; cases q1; done) | skip
  all_goals (rename_i q1 q2; cases q1; cases q2)
  · exact .inl ⟨_, rfl⟩
  · exact .inr ⟨_, _, _, _, rfl⟩
mutual
theorem soundS (l : LS) (s : Stmt) (g : GoodS X T W c F k) (h : chkS c l s = true) : PS X s (tS X T W (exS (callF F k) l)) := by
  cases l with
  | asg i e =>
    obtain ⟨x, p, f, q, rfl, h1, h2⟩ := inv_asg h
    exact st_asg g h1 h2
  | asgT is es =>
    obtain ⟨ts, k1, p1, fs, k2, p2, p, rfl, h1, h2, h3, h4, h5⟩ := inv_asgT h
    obtain ⟨q1, q2, q3⟩ := soundL es X W c fs g.toGood h5
    rcases h4 with h4 | h4
    · exact st_asgTs g h1 h2 h4 q2 q1
    · exact st_asgTn g h1 h3 h4 q1
  | unp is e =>
    obtain ⟨ts, k1, p1, f, p, rfl, h1, h2, h3⟩ := inv_unp h
    exact st_unp g h1 h2 (soundE e X W c f g.toGood h3)
  | setix o i e =>
    obtain ⟨f, u, p, x, q, rfl, h1, h2, h3, h4, h5⟩ := inv_setix h
    exact st_setix g h1 h2 (soundE o X W c f g.toGood h3) (soundE i X W c u g.toGood h4) (soundE e X W c x g.toGood h5)
  | app o e =>
    obtain ⟨n, x, p1, p2, f, p3, p4, rfl, rfl, h1, h2, h3⟩ := inv_app h
    exact st_app g h2 h1 (notStar h3) (soundE e X W c f g.toGood h3)
  | aug i o e =>
    obtain ⟨x, p, f, q, rfl, h1, h2⟩ := inv_aug h
    exact st_aug g h1 (soundE e X W c f g.toGood h2)
  | exp e =>
    obtain ⟨f, p, rfl, h1, h2⟩ := inv_exp h
    exact st_exp h1 (soundE e X W c f g.toGood h2)
  | ret e =>
    obtain ⟨f, p, rfl, h1⟩ := inv_ret h
    exact st_ret (soundE e X W c f g.toGood h1)
  | ite t a b =>
    obtain ⟨f, x, y, p, rfl, h1, h2, h3⟩ := inv_ite h
    exact st_if (soundT t X W c f g.toGood h1) (soundB a x g h2) (soundB b y g h3)
  | «for» kk args tg body =>
    obtain ⟨t, it, x, p, rfl, h1, h2, h3⟩ := inv_for h
    obtain ⟨q1, q2⟩ := soundIt kk args tg t it g.toGood h1 h2
    refine st_for g q2 (tg_ok g.calm g.ndX g.N (fun y hy => ?_) h1) q1 (soundB body x g h3)
    have hl : Loc X.env.scope y := by rw [g.sc]; exact hy
    exact ⟨hl, g.fn y hl⟩
  | whil t b =>
    obtain ⟨f, x, p, rfl, h1, h2⟩ := inv_whil h
    exact st_whil g (soundT t X W c f g.toGood h1) (soundB b x g h2)
  | raise x =>
    obtain ⟨m, j, p1, p2, p3, p4, rfl, h1, h2⟩ := inv_raise h
    exact st_raise g h1 h2
  | brk =>
    obtain ⟨p, rfl⟩ := inv_brk h
    exact st_brk
  | cont =>
    obtain ⟨p, rfl⟩ := inv_cont h
    exact st_cont
  | pass =>
    rcases inv_pass h with ⟨p, rfl⟩ | ⟨x, j, p, q, rfl⟩
    · exact st_pass
    · exact st_doc
termination_by structural l
theorem soundB (ls : List LS) (ss : List Stmt) (g : GoodS X T W c F k) (h : chkB c ls ss = true) : PSs X ss (tS X T W (exB (callF F k) ls)) := by
  cases ls with
  | nil => cases ss with
    | nil => exact st_nil
    | cons _ _ => simp [chkB] at h
  | cons a as => cases ss with
    | nil => simp [chkB] at h
    | cons s ss =>
      simp only [chkB, Bool.and_eq_true] at h
      exact st_cons (soundS a s g h.1) (soundB as ss g h.2)
termination_by structural ls
end
end
end Z

/-! Every def of a text is as its term in the small language. -/
namespace Z
open PySem PySem.Spec PyProof.Rows L2 RZ

/-- the names that all defs of a text share -/
structure Md where
  fns : List (Str × Nat)
  cons : List (Str × PyData)
  excs : List Str
  blt : List Str
  tabs : List (Str × List (Str × PyData)) := []
abbrev Md.sc (m : Md) (N : List Str) (sc : Scope) : SC := ⟨N, sc, m.fns, m.cons, m.excs, m.blt, m.tabs⟩
section
variable {P : Program} {w : World} {K : PySem.W.Frag} {mg : Str → Option Value} {base : Heap} {T : List (Addr × Str)} {F : Tab} {k : Nat}
theorem start_ok {M : MM} {H : Hp} {ps N : List Str} {nn : Nat} {ds : List Val} {vs : List V} (r : RepVs K M H ds vs) (hn : nn = N.length) (hl : ds.length = ps.length) : EnvOk K M H (Z.start ps.length nn ds) (L2.start N vs) := by
  have hv := r.length
  have key : ∀ (ds : List Val) (vs : List V) (q : Nat), RepVs K M H ds vs → EnvOk K M H (ds.map some ++ List.replicate q none) (vs.map some ++ List.replicate q none) := fun ds => by
    induction ds with
    | nil =>
      intro vs q r
      have r : vs = [] := r
      subst r
      refine ⟨by simp, fun i v h => ?_⟩
      simp [List.getElem?_replicate] at h
    | cons d ds ih =>
      intro vs q r
      obtain ⟨v, r', rfl, r1, r2⟩ := r
      have e := ih r' q r2
      refine ⟨by simpa using e.len, fun i u h => ?_⟩
      cases i with
      | zero =>
        simp at h
        subst h
        exact ⟨v, by simp, r1⟩
      | succ i => exact e.at_ i u (by simpa using h)
  subst hn
  unfold Z.start L2.start
  rw [← hv, hl]
  exact key ds vs _ r
theorem one_def {m : Md} {x qual : Str} {params : Arguments} {body : List Stmt} {scope : Scope} {a : Addr} {fd : FuncData} {N ps : List Str} {n : Nat} {d : LDef} (D : FunD K x qual params body scope [] [] a fd) (S : FnScope N ps scope) (hF : F n = some d) (hp : d.np = ps.length) (hn : d.nn = N.length) (hc : chkB (m.sc N scope) d.body body = true)
    (gg : GG P w K mg base T (m.sc N scope) F k) : FnOk P w K mg base (L2.CX P w) (k + 1) a fd ps (spG K mg T (callF F (k + 1) n)) := by
  have hlen : ∀ (ds : List Val) (S : Sto), callF F (k + 1) n ds S = .no ∨ ds.length = ps.length := fun ds S => by
    unfold callF
    rw [hF]
    dsimp only
    split
    · rename_i h
      exact .inr (h.trans hp)
    · exact .inl rfl
  refine D.ok S (fun vs H Q E h => ?_) (fun cdv A outer s H vs Q E hr h => ?_)
  · obtain ⟨ds, S', M, _, r, h⟩ := h
    rcases hlen ds S' with q | q
    · rw [q] at h; exact h.elim
    · rw [← r.length]; exact q
  · refine ⟨tS _ T (fun cls d _ H => E cls d H) (exB (callF F k) d.body), soundB (c := m.sc N scope) (k := k) d.body body ⟨⟨rfl, S.nd, rfl, rfl, hr, takes_of rfl rfl rfl rfl, gg⟩, fun _ _ => .inl rfl, passes_of rfl⟩ hc, ?_⟩
    obtain ⟨ds, S', M, so, r, h⟩ := h
    have hl : ds.length = ps.length := by
      rcases hlen ds S' with q | q
      · rw [q] at h; exact h.elim
      · exact q
    refine ⟨Z.start d.np d.nn ds, S', M, by rw [hp]; exact start_ok r hn hl, so, ?_⟩
    unfold callF at h
    rw [hF] at h
    dsimp only at h
    rw [if_pos (hl.trans hp.symm)] at h
    have sl : S'.length = M.m.length := so.len.symm
    match he : exB (callF F k) d.body (Z.start d.np d.nn ds) S', h with
    | .ok (.ret v) S2, h =>
      intro y M2 H2 x2 s2 r2
      cases v with
      | d dd =>
        have h : ∀ v M' H', Ext M H M' H' → StoreOk T K M' H' (S2.take S'.length) → RepV K M' H' (.d dd) v → Q v H' := h
        rw [sl] at h
        exact h y (M2.take M.m.length) H2 (ext_take x2) (s2.take _) (Rep.cut (fun _ => fre_take _) r2)
      | r q => exact h y M2 H2 x2 s2 r2
      | s q => exact (show False from h).elim
    | .ok (.nx ρ) S2, h =>
      intro σ' M2 H2 x2 s2 e2
      have h : ∀ v M' H', Ext M H M' H' → StoreOk T K M' H' (S2.take S'.length) → RepV K M' H' (.d .none) v → Q v H' := h
      rw [sl] at h
      exact h .non (M2.take M.m.length) H2 (ext_take x2) (s2.take _) rfl
    | .ok (.bk ρ) S2, h => exact (show False from h).elim
    | .ok (.ct ρ) S2, h => exact (show False from h).elim
    | .ex c S2, h =>
      intro σ' M2 H2 C x2 s2 g2
      have h : ∀ M' H' C, Ext M H M' H' → StoreOk T K M' H' (S2.take S'.length) → mg c = some (.ref C) → E (.ref C) none H' := h
      rw [sl] at h
      exact h (M2.take M.m.length) H2 C (ext_take x2) (s2.take _) g2
    | .no, h => exact h.elim
/-- a def, and what stands for it -/
structure DefOk (K : PySem.W.Frag) (mg : Str → Option Value) (m : Md) (F : Tab) (x : Str) (n : Nat) : Prop where
  ex : ∃ (qx qual : Str) (params : Arguments) (body : List Stmt) (scope : Scope) (a : Addr) (fd : FuncData) (N ps : List Str) (d : LDef), mg x = some (.ref a) ∧ Binds K fd ps [] ∧ FunD K qx qual params body scope [] [] a fd ∧ FnScope N ps scope ∧ F n = some d ∧ d.np = ps.length ∧ d.nn = N.length ∧ chkB (m.sc N scope) d.body body = true
theorem defs_ok {m : Md} (con : ∀ x d, (match m.cons.lookup x with
    | some e => pdEq d e
    | none => false) = true → ∃ u v, mg x = some u ∧ RelV v u ∧ ∀ M H, Rep K M H d v) (blt : ∀ x, x ∈ m.blt → mg x = none)
    (exc : ∀ x, x ∈ m.excs → ∃ C : Addr, mg x = some (.ref C) ∧ PySem.W.excIn K C [.type "ValueError", .type "Exception", .type "BaseException", .type "object"] "ValueError.__new__" = true ∧ PySem.W.keepIn K (.ref C) = true ∧ PySem.W.subIn K (.ref C) (.type "BaseException") = some true ∧ PySem.W.typeIn K (.ref C) = some (.type "type"))
    (dct : ∀ x t, (match m.tabs.lookup x with
    | some u => tEq t u
    | none => false) = true → DctOk K w mg x t) (defs : ∀ x n, m.fns.lookup x = some n → DefOk K mg m F x n) : ∀ k N sc, GG P w K mg base T (m.sc N sc) F k
  | 0, N, sc => ⟨con, fun x n h => by
      obtain ⟨qx, qual, params, body, scope, a, fd, N, ps, d, h1, h2, h3, h4, h5, h6, h7, h8⟩ := (defs x n h).ex
      refine ⟨a, fd, ps, h1, h3.kp, h2, ⟨fun vs H Q E z => ?_, fun A outer s H args us vs Q E _ _ _ _ z => ?_⟩⟩
      · obtain ⟨_, _, _, _, _, z⟩ := z; exact z.elim
      · obtain ⟨_, _, _, _, _, z⟩ := z; exact z.elim, blt, exc, dct⟩
  | k + 1, N, sc => ⟨con, fun x n h => by
      obtain ⟨qx, qual, params, body, scope, a, fd, N, ps, d, h1, h2, h3, h4, h5, h6, h7, h8⟩ := (defs x n h).ex
      exact ⟨a, fd, ps, h1, h3.kp, h2, one_def (m := m) h3 h4 h5 h6 h7 h8 (defs_ok con blt exc dct defs k N scope)⟩, blt, exc, dct⟩
end
end Z

/-! The law's def, at the script. -/
namespace Z
open PySem PySem.Spec PyProof.Rows L2 RZ
theorem law_sp {K : PySem.W.Frag} {mg : Str → Option Value} {F : Tab} {k n : Nat} {H : Hp} {a : Addr} {ns : List Int} (hO : Only H) (hS : SqL K H a (ns.map V.int)) (h : ∃ S, callF F k n [.s (ns.map PyData.int)] [] = .ok (.d (.bool true)) S) :
    spG K mg [] (callF F k n) [.ref a] H (fun v _ => v = .bl true) fun _ _ _ => False := by
  obtain ⟨S, h⟩ := h
  refine ⟨[.s (ns.map PyData.int)], [], ⟨[], []⟩, ⟨rfl, fun n m a h => by simp at h, fun n xs h => by simp at h, fun n h => by simp at h, fun a h => (nomatch h), fun p hp => (nomatch hp)⟩, ⟨_, _, rfl, ⟨a, ns.map V.int, rfl, ?_, ns, rfl, rfl⟩, rfl⟩, ?_⟩
  · rcases hS with (hS | ⟨o, hS⟩) | hS
    · rcases hO a with q | ⟨o, xs, q⟩
      · rw [hS] at q; cases q
      · rw [hS] at q; cases q
    · exact .inl ⟨o, hS⟩
    · exact .inr hS
  · rw [h]
    exact fun v M' H' _ _ r => r
/-- the frame of an exception, whatever the world -/
def CXw (P : Program) : CXT := fun outer H s E u s' => ∃ w, L2.CX P w outer H s E u s'
theorem fn_w {P : Program} {w : World} {K : PySem.W.Frag} {mg : Str → Option Value} {base : Heap} {k : Nat} {f : Addr} {fd : FuncData} {ps : List Str} {sp : Sp} (h : FnOk P w K mg base (L2.CX P w) k f fd ps sp) : FnOk P w K mg base (CXw P) k f fd ps sp :=
  ⟨h.len, fun A outer s H args us vs Q E hr e0 hb r hs => codeAny_mono (h.run A outer s H args us vs Q E hr e0 hb r hs) fun r s' q => by
    match r, q with
    | .ok (.ret u), q => exact q
    | .ok .next, q => exact q
    | .ok .brk, q => exact q
    | .ok .cont, q => exact q
    | .error e, q => exact ⟨w, q⟩⟩
theorem no_exc {P : Program} {H : Hp} {s : Shared} {e : Value} {s' : Shared} (h : CXw P [] H s (fun _ _ _ => False) e s') : False := by
  obtain ⟨w, a, B, H', cls, d, h⟩ := h
  exact h.2.2.2.2.2.2.2
end Z

/-! The module's tuples and dicts, as the head finds them. -/
namespace Z
open PySem PySem.Spec PyProof.Rows L2
mutual
def repB (K : PySem.W.Frag) : PyData → Value → Bool
  | .none, .none => true
  | .bool b, .bool c => b == c
  | .int i, .int j _ => decide (i = j)
  | .str s, .str t _ => decide (s = t)
  | .tuple ds, .ref a => match K.lookup a with
    | some ⟨.type c, _, .seq its _, _⟩ => decide (c = "tuple") && (decide (its.size ≤ sizeLine) && repA K ds its.toList)
    | _ => false
  | _, _ => false
def repA (K : PySem.W.Frag) : List PyData → List Value → Bool
  | [], [] => true
  | d :: ds, u :: us => repB K d u && repA K ds us
  | _, _ => false
end
mutual
theorem repB_ok {K : PySem.W.Frag} : ∀ {d : PyData} {u : Value}, repB K d u = true → ∃ v, RelV v u ∧ ∀ M H, Rep K M H d v
  | .none, u, h => by cases u <;> first | exact ⟨.non, rfl, fun _ _ => rfl⟩ | (simp [repB] at h)
  | .bool b, u, h => by
    cases u <;> first | (simp only [repB, beq_iff_eq] at h; exact ⟨.bl b, by rw [h]; rfl, fun _ _ => rfl⟩) | (simp [repB] at h)
  | .int i, u, h => by
    cases u <;> first | (simp only [repB, decide_eq_true_eq] at h; exact ⟨.int i, ⟨_, by rw [h]⟩, fun _ _ => rfl⟩) | (simp [repB] at h)
  | .str i, u, h => by
    cases u <;> first | (simp only [repB, decide_eq_true_eq] at h; exact ⟨.str i, ⟨_, by rw [h]⟩, fun _ _ => rfl⟩) | (simp [repB] at h)
  | .list _, u, h => by simp [repB] at h
  | .dict _, u, h => by simp [repB] at h
  | .tuple ds, u, h => by
    cases u with
    | ref a =>
      simp only [repB] at h
      split at h
      · rename_i c od its n sl hl
        simp only [Bool.and_eq_true, decide_eq_true_eq] at h
        obtain ⟨rfl, h1, h2⟩ := h
        obtain ⟨vs, r, hv⟩ := repA_ok h2
        exact ⟨.ref a, rfl, fun M H => ⟨a, vs, rfl, .inr ⟨_, its, n, hl, rfl, rfl, h1, r⟩, hv M H⟩⟩
      · cases h
    | _ => simp [repB] at h
theorem repA_ok {K : PySem.W.Frag} : ∀ {ds : List PyData} {us : List Value}, repA K ds us = true → ∃ vs, Vals vs us ∧ ∀ M H, RepL K M H ds vs
  | [], us, h => by
    cases us with
    | nil => exact ⟨[], .nil, fun _ _ => rfl⟩
    | cons _ _ => simp [repA] at h
  | d :: ds, us, h => by
    cases us with
    | nil => simp [repA] at h
    | cons u us =>
      simp only [repA, Bool.and_eq_true] at h
      obtain ⟨v, r1, h1⟩ := repB_ok h.1
      obtain ⟨vs, r2, h2⟩ := repA_ok h.2
      exact ⟨v :: vs, .cons r1 r2, fun M H => ⟨v, vs, rfl, h1 M H, h2 M H⟩⟩
end
/-- the module's name x is this data -/
def conB (K : PySem.W.Frag) (x : Str) (d : PyData) : Bool := match PySem.W.nsIn K mainGlobals x with
  | some (some u) => repB K d u
  | _ => false
theorem conB_ok {K : PySem.W.Frag} {h : Heap} {mg : Str → Option Value} (X : K.In h) (G : h.Ns mainGlobals mg) {x : Str} {d : PyData} (q : conB K x d = true) : ∃ u v, mg x = some u ∧ RelV v u ∧ ∀ M H, Rep K M H d v := by
  unfold conB at q
  split at q
  · rename_i u hu
    obtain ⟨v, r, hv⟩ := repB_ok q
    exact ⟨u, v, PySem.W.mg_of X G hu, r, hv⟩
  · cases q
/-- the values of the module's dict x -/
def tabB (K : PySem.W.Frag) (x : Str) (t : List (Str × PyData)) : Bool := t.all fun p => match PySem.W.nsIn K (He.ga K x) p.1 with
  | some (some u) => repB K p.2 u
  | _ => false
theorem find_absent {P : Params} {z : Str} : ∀ {l : List DictEntry} {ks : List Str}, l.map He.keyOf = He.keysIn P ks → z ∉ ks → l.find? (·.key.isStr z) = none ∧ l.any (·.refKey) = false
  | [], ks, _, _ => ⟨rfl, rfl⟩
  | e :: r, [], h, _ => by cases h
  | e :: r, k :: ks, h, hz => by
    have h1 : He.keyOf e :: r.map He.keyOf = some (k, PyData.keyHash P k) :: He.keysIn P ks := h
    injection h1 with h2 h3
    obtain ⟨i1, i2⟩ := find_absent h3 fun q => hz (List.mem_cons_of_mem _ q)
    unfold He.keyOf at h2
    split at h2
    · rename_i y t q
      have hy : y = k := (Prod.mk.inj (Option.some.inj h2)).1
      subst hy
      have ne : z ≠ y := fun q => hz (q ▸ List.mem_cons_self)
      refine ⟨?_, ?_⟩
      · rw [List.find?_cons, q]
        have : (Value.str y t).isStr z = false := by
          have h0 : (y == z) = false := beq_eq_false_iff_ne.mpr fun q => ne q.symm
          first | exact h0 | (unfold Value.isStr; exact h0) | (simp [Value.isStr, h0])
        rw [this]
        exact i1
      · rw [List.any_cons, i2, Bool.or_false]
        unfold DictEntry.refKey
        rw [q]
    · cases h2
theorem nsIn_absent {K : PySem.W.Frag} {P : Params} {a : Addr} {ks : List Str} {z : Str} (h : He.dicW K a = some (He.keysIn P ks)) (hz : z ∉ ks) : PySem.W.nsIn K a z = some none := by
  unfold He.dicW at h
  split at h
  · rename_i c es n sl hl
    split at h
    · obtain ⟨h1, h2⟩ := find_absent (Option.some.inj h) hz
      unfold PySem.W.nsIn
      rw [hl]
      dsimp only
      rw [h1, h2]
      rfl
    · cases h
  · cases h
theorem lookup_none {z : Str} : ∀ {t : List (Str × PyData)}, t.lookup z = none → z ∉ t.map (·.1)
  | [], _, q => nomatch q
  | (k, d) :: t, h, q => by
    rw [List.lookup_cons] at h
    split at h
    · cases h
    · rename_i hk
      rcases List.mem_cons.mp q with e | e
      · subst e
        simp at hk
      · exact lookup_none h e
theorem dct_of {K : PySem.W.Frag} {w : World} {h : Heap} {mg : Str → Option Value} (X : K.In h) (G : h.Ns mainGlobals mg) {x : Str} {t : List (Str × PyData)} (h1 : (He.Fa.glo x).ok K = true) (h2 : He.dicW K (He.ga K x) = some (He.keysIn w.params (t.map (·.1)))) (h3 : tabB K x t = true) : DctOk K w mg x t := by
  obtain ⟨es, n, D⟩ := He.dicW_ok h2
  refine ⟨He.ga K x, es, n, He.glo_ok X G h1, D, fun z => ?_⟩
  cases hl : t.lookup z with
  | none => exact nsIn_absent h2 (lookup_none hl)
  | some d =>
    have h4 := List.all_eq_true.mp h3 (z, d) (PySem.mem_of_lookup hl)
    dsimp only at h4
    split at h4
    · rename_i u hu
      obtain ⟨v, r, hv⟩ := repB_ok h4
      exact ⟨u, v, hu, r, hv⟩
    · cases h4
theorem tab_eq {fa : List He.Fa} {fn : List He.DefD} {ts : List He.Tab} {w : World} {K : PySem.W.Frag} (c : He.SaysT fa fn ts w K) (i : Nat) {t : He.Tab} (h : ts[i]? = some t) : He.dicW K (t.1 K) = some (He.keysIn w.params t.2) := by
  have e : ts.map (fun t => He.dicW K (t.1 K)) = ts.map fun t => some (He.keysIn w.params t.2) := congrArg (fun z : He.AlT => z.2) c
  have e2 := congrArg (fun l => l[i]?) e
  simp only [List.getElem?_map, h, Option.map_some] at e2
  exact Option.some.inj e2
/-- the world, with one of its answers written out (a dict display of the top asks it) -/
def told (b : Bool) (w : World) : World := ⟨w.draws, { w.params with followText := fun row => match decide (row = "special-get-raises") with
  | true => b
  | false => w.params.followText row }⟩
theorem told_eq (w : World) : told (w.params.followText "special-get-raises") w = w := by
  obtain ⟨d, P⟩ := w
  have e : (fun row => match decide (row = "special-get-raises") with
    | true => P.followText "special-get-raises"
    | false => P.followText row) = P.followText := by
    funext row
    by_cases h : row = "special-get-raises"
    · rw [decide_eq_true h, h]
    · rw [decide_eq_false h]
  show (⟨d, { P with followText := _ }⟩ : World) = ⟨d, P⟩
  rw [e]
theorem of_told {p : World → Prop} (h1 : ∀ w, p (told true w)) (h0 : ∀ w, p (told false w)) (w : World) : p w := by
  have e := told_eq w
  cases h : w.params.followText "special-get-raises" with
  | true =>
    rw [h] at e
    rw [← e]
    exact h1 w
  | false =>
    rw [h] at e
    rw [← e]
    exact h0 w
end Z

/-! Facts about runs of the small language. -/
namespace Z
open PySem

/-- the run ends with a value of which Q holds -/
structure Ok {α : Type} (x : R α) (Q : α → Sto → Prop) : Prop where
  eq : ∃ a S, x = .ok a S ∧ Q a S
section
variable {α β : Type}
theorem Ok_ok {a : α} {S : Sto} {Q : α → Sto → Prop} : Ok (.ok a S) Q ↔ Q a S := ⟨fun ⟨_, _, e, q⟩ => by cases e; exact q, fun q => ⟨a, S, rfl, q⟩⟩
theorem Ok_no {Q : α → Sto → Prop} : Ok (.no : R α) Q ↔ False := ⟨fun ⟨_, _, e, _⟩ => (by cases e), fun h => h.elim⟩
theorem Ok_ex {c : Str} {S : Sto} {Q : α → Sto → Prop} : Ok (.ex c S : R α) Q ↔ False := ⟨fun ⟨_, _, e, _⟩ => (by cases e), fun h => h.elim⟩
theorem Ok_bind {x : R α} {f : α → Sto → R β} {Q : β → Sto → Prop} : Ok (x.bind f) Q ↔ Ok x fun a S => Ok (f a S) Q := by
  cases x with
  | ok a S => rw [Ok_ok]; rfl
  | ex c S => rw [Ok_ex]; exact Ok_ex
  | no => rw [Ok_no]; exact Ok_no
theorem Ok_if {p : Prop} [Decidable p] {x y : R α} {Q : α → Sto → Prop} : Ok (if p then x else y) Q ↔ if p then Ok x Q else Ok y Q := by
  split <;> rfl
theorem Ok.mono {x : R α} {Q Q' : α → Sto → Prop} (h : Ok x Q) (i : ∀ a S, Q a S → Q' a S) : Ok x Q' := by
  obtain ⟨a, S, e, q⟩ := h
  exact ⟨a, S, e, i a S q⟩
theorem Ok.of {x : R α} {a : α} {S : Sto} {Q : α → Sto → Prop} (e : x = .ok a S) (q : Q a S) : Ok x Q := ⟨a, S, e, q⟩
theorem Ok_okD {o : Option PyData} {S : Sto} {Q : Val → Sto → Prop} : Ok (okD o S) Q ↔ ∃ y, o = some y ∧ Q (.d y) S := by
  cases o with
  | none => exact ⟨fun h => (Ok_no.mp h).elim, fun ⟨_, h, _⟩ => by cases h⟩
  | some y => exact ⟨fun h => ⟨y, rfl, Ok_ok.mp h⟩, fun ⟨z, h, q⟩ => by cases h; exact Ok_ok.mpr q⟩
theorem Ok_lift {o : Option α} {S : Sto} {Q : α → Sto → Prop} : Ok (lift o S) Q ↔ ∃ y, o = some y ∧ Q y S := by
  cases o with
  | none => exact ⟨fun h => (Ok_no.mp h).elim, fun ⟨_, h, _⟩ => by cases h⟩
  | some y => exact ⟨fun h => ⟨y, rfl, Ok_ok.mp h⟩, fun ⟨z, h, q⟩ => by cases h; exact Ok_ok.mpr q⟩
theorem some_if {p : Prop} [Decidable p] {x y : α} : (if p then some x else none) = some y ↔ p ∧ x = y := by
  split <;> simp_all
end
/-- what becomes of a body's end -/
def finQ (S : Sto) (Q : Val → Sto → Prop) : Fl → Sto → Prop := fun fl S' => match fl with
  | .ret (.d x) => Q (.d x) (S'.take S.length)
  | .ret (.r n) => Q (.r n) S'
  | .ret (.s _) => False
  | .nx _ => Q (.d .none) (S'.take S.length)
  | .bk _ => False
  | .ct _ => False
theorem Ok_call {F : Tab} {k n : Nat} {d : LDef} {vs : List Val} {S : Sto} {Q : Val → Sto → Prop} (hF : F n = some d) (hl : vs.length = d.np) (h : Ok (exB (callF F k) d.body (start d.np d.nn vs) S) (finQ S Q)) : Ok (callF F (k + 1) n vs S) Q := by
  unfold callF
  rw [hF]
  dsimp only
  rw [if_pos hl]
  obtain ⟨fl, S', e, q⟩ := h
  rw [e]
  match fl, q with
  | .ret (.d x), q => exact Ok_ok.mpr q
  | .ret (.r x), q => exact Ok_ok.mpr q
  | .nx _, q => exact Ok_ok.mpr q
/-- a block, statement by statement -/
theorem Ok_cons {C : Nat → List Val → Sto → R Val} {s : LS} {r : List LS} {ρ : Env} {S : Sto} {Q : Fl → Sto → Prop} : Ok (exB C (s :: r) ρ S) Q ↔ Ok (exS C s ρ S) fun fl S' => match fl with
    | .nx ρ' => Ok (exB C r ρ' S') Q
    | fl => Q fl S' := by
  simp only [exB, Ok_bind]
  constructor <;> intro h <;> refine Ok.mono h fun fl S' q => ?_
  · cases fl with
    | nx ρ' => exact q
    | _ => exact Ok_ok.mp q
  · cases fl with
    | nx ρ' => exact q
    | _ => exact Ok_ok.mpr q
theorem Ok_nil {C : Nat → List Val → Sto → R Val} {ρ : Env} {S : Sto} {Q : Fl → Sto → Prop} : Ok (exB C [] ρ S) Q ↔ Q (.nx ρ) S := Ok_ok
theorem Ok_loopF {f : PyData → Env → Sto → R Fl} {Q : Fl → Sto → Prop} (I : List PyData → Env → Sto → Prop)
    (step : ∀ x r ρ S, I (x :: r) ρ S → Ok (f x ρ S) fun fl S' => match fl with
      | .nx ρ' => I r ρ' S'
      | .ct ρ' => I r ρ' S'
      | .bk ρ' => Q (.nx ρ') S'
      | .ret v => Q (.ret v) S') (hend : ∀ ρ S, I [] ρ S → Q (.nx ρ) S) : ∀ {items : List PyData} {ρ : Env} {S : Sto}, I items ρ S → Ok (loopF f items ρ S) Q
  | [], ρ, S, h => Ok_ok.mpr (hend ρ S h)
  | x :: r, ρ, S, h => by
    simp only [loopF, Ok_bind]
    refine Ok.mono (step x r ρ S h) fun fl S' q => ?_
    cases fl with
    | nx ρ' => exact Ok_loopF I step hend q
    | ct ρ' => exact Ok_loopF I step hend q
    | bk ρ' => exact Ok_ok.mpr q
    | ret v => exact Ok_ok.mpr q
/-- a comprehension whose turns change nothing -/
theorem loopC_pure {f : PyData → Sto → R (Option PyData)} {g : PyData → Option PyData} {S : Sto} : ∀ {items acc : List PyData}, (∀ x ∈ items, f x S = .ok (g x) S) → acc.length + items.length ≤ lim → loopC f items acc S = .ok (acc ++ items.filterMap g) S
  | [], acc, _, _ => by simp [loopC]
  | x :: r, acc, h, hl => by
    have h1 := h x List.mem_cons_self
    have h2 : ∀ y ∈ r, f y S = .ok (g y) S := fun y hy => h y (List.mem_cons_of_mem _ hy)
    simp only [loopC, h1]
    simp only [List.length_cons] at hl
    cases hg : g x with
    | none =>
      dsimp only
      rw [loopC_pure h2 (by omega)]
      simp [hg]
    | some y =>
      dsimp only
      rw [if_pos (by omega), loopC_pure h2 (by simp; omega)]
      simp [hg]
theorem loopC_map {α : Type} {f : PyData → Sto → R (Option PyData)} {h e : α → PyData} {S : Sto} : ∀ {cs : List α} {acc : List PyData}, (∀ c ∈ cs, f (h c) S = .ok (some (e c)) S) → acc.length + cs.length ≤ lim → loopC f (cs.map h) acc S = .ok (acc ++ cs.map e) S
  | [], acc, _, _ => by simp [loopC]
  | x :: r, acc, h', hl => by
    simp only [List.length_cons] at hl
    simp only [List.map_cons, loopC, h' x List.mem_cons_self]
    rw [if_pos (by omega), loopC_map (fun y hy => h' y (List.mem_cons_of_mem _ hy)) (by simp; omega)]
    simp
theorem loopC_filt {α : Type} {f : PyData → Sto → R (Option PyData)} {h e : α → PyData} {p : α → Bool} {S : Sto} : ∀ {cs : List α} {acc : List PyData}, (∀ c ∈ cs, f (h c) S = .ok (if p c then some (e c) else none) S) → acc.length + cs.length ≤ lim → loopC f (cs.map h) acc S = .ok (acc ++ (cs.filter p).map e) S
  | [], acc, _, _ => by simp [loopC]
  | x :: r, acc, h', hl => by
    simp only [List.length_cons] at hl
    simp only [List.map_cons, loopC, h' x List.mem_cons_self]
    cases hp : p x with
    | false =>
      simp only [Bool.false_eq_true, if_false]
      rw [loopC_filt (fun y hy => h' y (List.mem_cons_of_mem _ hy)) (by omega)]
      simp [hp]
    | true =>
      simp only [if_true]
      rw [if_pos (by omega), loopC_filt (fun y hy => h' y (List.mem_cons_of_mem _ hy)) (by simp; omega)]
      simp [hp]
theorem boolsOf_map {α : Type} (p : α → Bool) : ∀ cs : List α, boolsOf (cs.map fun c => .bool (p c)) = some (cs.map p)
  | [] => rfl
  | c :: cs => by simp [boolsOf, boolsOf_map p cs]
theorem intsOf_map {α : Type} (p : α → Int) : ∀ cs : List α, intsOf (cs.map fun c => .int (p c)) = some (cs.map p)
  | [] => rfl
  | c :: cs => by simp [intsOf, intsOf_map p cs]
/-- a list's == with the empty one -/
theorem eqv_nil (xs : List PyData) : PyData.eqv (.list xs) (.list []) = xs.isEmpty := by
  cases xs <;> simp [PyData.eqv, PyData.eqvAll]
theorem shaped_nil : SeqAt.shaped (.list []) = true := by decide
theorem canLayAll0_of {xs : List PyData} (h : ∀ x ∈ xs, x.canLay0 = true) : PyData.canLayAll0 xs = true := by
  induction xs with
  | nil => rfl
  | cons x xs ih => simp [PyData.canLayAll0, h x List.mem_cons_self, ih fun y hy => h y (List.mem_cons_of_mem _ hy)]
theorem depthAll_of {xs : List PyData} {n : Nat} (h : ∀ x ∈ xs, x.depth ≤ n) : PyData.depthAll xs ≤ n := by
  induction xs with
  | nil => exact Nat.zero_le _
  | cons x xs ih =>
    simp only [PyData.depthAll]
    exact Nat.max_le.mpr ⟨h x List.mem_cons_self, ih fun y hy => h y (List.mem_cons_of_mem _ hy)⟩
theorem shaped_list {xs : List PyData} {n : Nat} (h : ∀ x ∈ xs, x.canLay0 = true ∧ x.depth ≤ n) (hn : n < 64) : SeqAt.shaped (.list xs) = true := by
  unfold SeqAt.shaped
  have h1 : PyData.canLayAll0 xs = true := canLayAll0_of fun x hx => (h x hx).1
  have h2 := depthAll_of fun x hx => (h x hx).2
  have h3 : PyData.depth (.list xs) ≤ 64 := by
    show PyData.depthAll xs + 1 ≤ 64
    omega
  have h4 : PyData.canLay0 (.list xs) = true := h1
  rw [h4, Bool.true_and, decide_eq_true_eq]
  exact h3
/-- a comprehension, by what its turns keep -/
theorem Ok_loopC {f : PyData → Sto → R (Option PyData)} {Q : List PyData → Sto → Prop} (P : Sto → Prop) (E : PyData → Prop) : ∀ {items acc : List PyData} {S : Sto}, (∀ x ∈ items, ∀ S, P S → Ok (f x S) fun o S' => P S' ∧ ∃ y, o = some y ∧ E y) → P S → acc.length + items.length ≤ lim →
    (∀ ys S', P S' → (∀ y ∈ ys, E y) → ys.length = items.length → Q (acc ++ ys) S') → Ok (loopC f items acc S) Q
  | [], acc, S, _, hP, _, hQ => by
    have := hQ [] S hP (fun _ z => nomatch z) rfl
    simpa [loopC, Ok_ok] using this
  | x :: r, acc, S, h, hP, hl, hQ => by
    obtain ⟨o, S1, e1, h1, y, rfl, hy⟩ := (h x List.mem_cons_self S hP).eq
    simp only [List.length_cons] at hl
    simp only [loopC, e1]
    rw [if_pos (by omega)]
    refine Ok_loopC P E (fun z hz => h z (List.mem_cons_of_mem _ hz)) h1 (by simp; omega) fun ys S' hP' hE hlen => ?_
    have := hQ (y :: ys) S' hP' (fun z hz => (List.mem_cons.mp hz).elim (fun e => e ▸ hy) (hE z)) (by simp [hlen])
    simpa using this
theorem plain_d (xs : List PyData) : plain (xs.map .d) = some xs := by
  induction xs with
  | nil => rfl
  | cons x xs ih => simp [plain, ih]
/-! ### numbers -/
theorem log2_lt {n k : Nat} (h : n < 2 ^ k) : n.log2 < k ∨ n = 0 := by
  by_cases hn : n = 0
  · exact .inr hn
  · exact .inl ((Nat.log2_lt hn).mpr h)
theorem fitM_of {i : Int} (h1 : -(2 ^ 250) < i) (h2 : i < 2 ^ 250) : fitM i = true := by
  unfold fitM
  rw [decide_eq_true_eq]
  have h : i.natAbs < 2 ^ 250 := by
    have : (i.natAbs : Int) < 2 ^ 250 := by omega
    exact_mod_cast this
  rcases log2_lt h with q | q
  · omega
  · rw [q]; decide
theorem fitD_of {i : Int} (h1 : -(2 ^ 250) < i) (h2 : i < 2 ^ 250) : fitD i = true := by
  unfold fitD
  rw [decide_eq_true_eq]
  have h : i.natAbs < 2 ^ 250 := by
    have : (i.natAbs : Int) < 2 ^ 250 := by omega
    exact_mod_cast this
  rcases log2_lt h with q | q
  · omega
  · rw [q]; decide
theorem atI_nat {α : Type} {xs : List α} {n : Nat} (h : n < xs.length) : L2.atI xs (n : Int) = xs[n]? := by
  unfold L2.atI L2.ixN
  rw [if_pos (by omega), if_pos (by omega)]
  rfl
theorem atI_mem {α : Type} {xs : List α} {i : Int} (h0 : 0 ≤ i) (h : i < xs.length) : ∃ x, L2.atI xs i = some x ∧ x ∈ xs := by
  obtain ⟨n, rfl⟩ := Int.eq_ofNat_of_zero_le h0
  have hn : n < xs.length := by omega
  exact ⟨xs[n], by rw [atI_nat hn, List.getElem?_eq_getElem hn], List.getElem_mem hn⟩
end Z

namespace W
open PySem Z
def d_is_integer : LDef := ⟨1, 1, [.ret (.and (.isi (.var 0) .int) (.not (.isi (.var 0) .bool)))]⟩
def d_is_word : LDef := ⟨1, 2, [.ret (.and (.isi (.var 0) .str) (.and (.chain .le .le (.lit (.int 1)) (.bi .len [(.var 0)]) (.lit (.int 6))) (.bi .all [(.comp false .seq [(.var 0)] (.one 1) [1] none (.cmp .in_ (.var 1) (.glo "LETTERS" (.str "abcdefghijklmnopqrstuvwxyz"))))])))]⟩
def d_is_numbered : LDef := ⟨1, 1, [.ret (.and (.isi (.var 0) .tuple) (.and (.cmp .eq (.bi .len [(.var 0)]) (.lit (.int 2))) (.and (.call 2 [(.ix (.var 0) (.lit (.int 0)))]) (.call 1 [(.ix (.var 0) (.lit (.int 1)))]))))]⟩
def d_a_cell : LDef := ⟨1, 1, [.ret (.or (.call 1 [(.var 0)]) (.or (.call 2 [(.var 0)]) (.call 3 [(.var 0)])))]⟩
def d_are_cells : LDef := ⟨3, 4, [.ret (.and (.isi (.var 0) .tuple) (.and (.chain .le .le (.var 1) (.bi .len [(.var 0)]) (.var 2)) (.bi .all [(.comp false .seq [(.var 0)] (.one 3) [3] none (.call 4 [(.var 3)]))])))]⟩
def d_a_selection : LDef := ⟨1, 1, [.ret (.call 5 [(.var 0), (.lit (.int 1)), (.glo "MOST" (.int 6))])]⟩
def d_is_cell : LDef := ⟨1, 1, [.ret (.call 4 [(.var 0)])]⟩
def d_is_selection : LDef := ⟨1, 1, [.ret (.call 6 [(.var 0)])]⟩
def d__law_source : LDef := ⟨2, 6, [.asg 2 (.bin .add (.bin .mul (.lit (.int 7919)) (.var 1)) (.lit (.int 101))),
    .ite (.cmp .lt (.var 1) (.bi .len [(.var 0)])) [.asg 2 (.ix (.var 0) (.var 1))] [],
    .asg 3 (.tup [(.lit (.int 2147483647)), (.lit (.int 2147483629)), (.lit (.int 2147483587)), (.lit (.int 2147483579)), (.lit (.int 2147483563)), (.lit (.int 2147483549)), (.lit (.int 2147483543)), (.lit (.int 2147483497))]),
    .asg 4 (.ix (.var 3) (.bin .mod (.bi .int [(.var 1)]) (.lit (.int 8)))),
    .asg 5 (.bin .mod (.bi .int [(.bin .add (.bin .mul (.bin .mod (.bi .int [(.var 2)]) (.var 4)) (.lit (.int 48271))) (.bin .mul (.lit (.int 104729)) (.bin .add (.var 1) (.lit (.int 1)))))]) (.var 4)),
    .ite (.cmp .ge (.var 2) (.bin .pow (.lit (.int 10)) (.lit (.int 18)))) [.ret (.lst true [(.bi .int [(.var 2)]), (.var 5), (.var 4)])] [],
    .ret (.lst true [(.lit (.int 0)), (.var 5), (.var 4)])]⟩
def d__law_pick : LDef := ⟨2, 3, [.ite (.cmp .gt (.ix (.var 0) (.lit (.int 0))) (.lit (.int 0))) [.asg 2 (.bin .mod (.bi .int [(.ix (.var 0) (.lit (.int 0)))]) (.var 1)),
    .setix (.var 0) (.lit (.int 0)) (.bin .fdiv (.ix (.var 0) (.lit (.int 0))) (.var 1)),
    .ret (.var 2)] [],
    .setix (.var 0) (.lit (.int 1)) (.bin .mod (.bi .int [(.bin .add (.bin .mul (.ix (.var 0) (.lit (.int 1))) (.lit (.int 48271))) (.lit (.int 11)))]) (.ix (.var 0) (.lit (.int 2)))),
    .ret (.bin .mod (.bi .int [(.bin .fdiv (.bin .mod (.bi .int [(.bin .mul (.ix (.var 0) (.lit (.int 1))) (.ix (.var 0) (.lit (.int 1))))]) (.lit (.int 2147483423))) (.lit (.int 7)))]) (.var 1))]⟩
def d__law_chosen : LDef := ⟨2, 2, [.ret (.ix (.var 1) (.call 10 [(.var 0), (.bi .len [(.var 1)])]))]⟩
def d__law_lists : LDef := ⟨0, 1, [.asg 0 (.lst false [(.tup [(.lit (.str "a")), (.lit (.str "b"))]), (.tup [(.lit (.str "a")), (.lit (.str "b")), (.lit (.str "c"))]), (.tup [(.lit (.str "b")), (.lit (.str "a"))]), (.tup [(.lit (.str "c")), (.lit (.str "a")), (.lit (.str "b"))]), (.tup [(.lit (.str "a")), (.lit (.str "c")), (.lit (.str "b")), (.lit (.str "d"))]), (.tup [(.lit (.str "x")), (.lit (.str "a"))]), (.tup [(.lit (.str "b")), (.lit (.str "c"))])]),
    .ret (.bin .add (.var 0) (.lst false [(.tup [(.lit (.str "d")), (.lit (.str "c")), (.lit (.str "b")), (.lit (.str "a"))])]))]⟩
def d__law_numbers : LDef := ⟨2, 9, [.asgT [2, 3] [(.call 10 [(.var 0), (.lit (.int 6))]), (.bin .sub (.call 10 [(.var 0), (.lit (.int 9))]) (.lit (.int 4)))],
    .ite (.cmp .eq (.var 2) (.lit (.int 0))) [.asgT [3, 5] [(.bin .add (.bin .mul (.var 3) (.bin .pow (.lit (.int 10)) (.lit (.int 12)))) (.call 10 [(.var 0), (.lit (.int 1000))])), (.bin .sub (.call 10 [(.var 0), (.bin .pow (.lit (.int 10)) (.lit (.int 6)))]) (.bin .mul (.lit (.int 5)) (.bin .pow (.lit (.int 10)) (.lit (.int 5)))))],
    .ret (.comp false .range [(.var 1)] (.one 8) [8] none (.bin .add (.var 3) (.bin .mul (.var 8) (.var 5))))] [],
    .ite (.cmp .lt (.var 2) (.lit (.int 3))) [.asg 5 (.bin .sub (.call 10 [(.var 0), (.lit (.int 7))]) (.lit (.int 3))),
    .ret (.comp false .range [(.var 1)] (.one 8) [8] none (.bin .add (.var 3) (.bin .mul (.var 8) (.var 5))))] [],
    .ite (.cmp .eq (.var 2) (.lit (.int 3))) [.asgT [6, 7] [(.ix (.lst false [(.lit (.int 2)), (.lit (.int 3)), (.neg (.lit (.int 2))), (.neg (.lit (.int 3))), (.lit (.int 5))]) (.call 10 [(.var 0), (.lit (.int 5))])), (.lst true [(.ite (.cmp .ne (.var 3) (.lit (.int 0))) (.var 3) (.lit (.int 1)))])],
    .for .range [(.bin .sub (.var 1) (.lit (.int 1)))] (.one 8) [.app (.var 7) (.bin .mul (.ix (.var 7) (.neg (.lit (.int 1)))) (.var 6))],
    .ret (.frz 7)] [],
    .asg 4 (.ix (.lst false [(.lit (.int 3)), (.lit (.int 9)), (.bin .pow (.lit (.int 10)) (.lit (.int 9)))]) (.call 10 [(.var 0), (.lit (.int 3))])),
    .ret (.comp false .range [(.var 1)] (.one 8) [8] none (.bin .sub (.call 10 [(.var 0), (.bin .add (.bin .mul (.lit (.int 2)) (.var 4)) (.lit (.int 1)))]) (.var 4)))]⟩
def d__law_some_cells : LDef := ⟨2, 9, [.asg 2 (.call 10 [(.var 0), (.lit (.int 8))]),
    .ite (.cmp .lt (.var 2) (.lit (.int 3))) [.ret (.bi .tuple [(.call 13 [(.var 0), (.var 1)])])] [],
    .ite (.cmp .eq (.var 2) (.lit (.int 3))) [.asg 3 (.ix (.lst false [(.lit (.str "a")), (.lit (.str "box")), (.lit (.str "zz"))]) (.call 10 [(.var 0), (.lit (.int 3))])),
    .ret (.bi .tuple [(.comp false .seq [(.call 13 [(.var 0), (.var 1)])] (.one 8) [8] none (.tup [(.var 3), (.var 8)]))])] [],
    .ite (.cmp .lt (.var 2) (.lit (.int 6))) [.asg 4 (.call 11 [(.var 0), (.call 12 [])]),
    .asgT [5, 6] [(.call 10 [(.var 0), (.bi .len [(.var 4)])]), (.call 10 [(.var 0), (.bi .len [(.var 4)])])],
    .ret (.bi .tuple [(.comp false .range [(.var 1)] (.one 7) [7] none (.ix (.var 4) (.bin .mod (.bi .int [(.bin .add (.var 5) (.bin .mul (.var 7) (.var 6)))]) (.bi .len [(.var 4)]))))])] [],
    .ite (.cmp .eq (.var 2) (.lit (.int 6))) [.ret (.bi .tuple [(.comp false .range [(.var 1)] (.one 7) [7] none (.ix (.lst false [(.lit (.str "a")), (.lit (.str "b")), (.lit (.str "c")), (.lit (.str "d")), (.lit (.str "x")), (.lit (.str "new"))]) (.call 10 [(.var 0), (.lit (.int 6))])))])] [],
    .ret (.bi .tuple [(.comp false .range [(.var 1)] (.one 7) [7] none (.ix (.lst false [(.lit (.int 1)), (.lit (.str "a")), (.tup [(.lit (.str "a")), (.lit (.int 1))]), (.lit (.int 2)), (.lit (.str "new")), (.tup [(.lit (.str "b")), (.lit (.int 1))])]) (.call 10 [(.var 0), (.lit (.int 6))])))])]⟩
def d__law_selection : LDef := ⟨1, 5, [.asg 1 (.bin .add (.lit (.int 1)) (.call 10 [(.var 0), (.lit (.int 6))])),
    .ite (.and (.cmp .eq (.var 1) (.lit (.int 4))) (.cmp .eq (.call 10 [(.var 0), (.lit (.int 2))]) (.lit (.int 0)))) [.asg 4 (.comp false .range [(.lit (.int 2))] (.one 3) [3] none (.call 14 [(.var 0), (.lit (.int 2))]))] [.ite (.and (.cmp .eq (.var 1) (.lit (.int 6))) (.cmp .eq (.call 10 [(.var 0), (.lit (.int 2))]) (.lit (.int 0)))) [.asg 4 (.comp false .range [(.lit (.int 2))] (.one 3) [3] none (.call 14 [(.var 0), (.lit (.int 3))]))] [.ite (.and (.cmp .eq (.var 1) (.lit (.int 6))) (.cmp .eq (.call 10 [(.var 0), (.lit (.int 2))]) (.lit (.int 0)))) [.asg 4 (.comp false .range [(.lit (.int 3))] (.one 3) [3] none (.call 14 [(.var 0), (.lit (.int 2))]))] [.asg 4 (.lst false [(.call 14 [(.var 0), (.var 1)])])]]],
    .asg 2 (.tup []),
    .for .range [(.var 1)] (.one 3) [.asg 2 (.bin .add (.var 2) (.tup [(.ix (.ix (.var 4) (.bin .mod (.bi .int [(.var 3)]) (.bi .len [(.var 4)]))) (.bin .fdiv (.var 3) (.bi .len [(.var 4)])))]))],
    .ret (.var 2)]⟩
def d__law_is_integer : LDef := ⟨1, 1, [.ret (.and (.isi (.var 0) .int) (.not (.isi (.var 0) .bool)))]⟩
def d__law_is_word : LDef := ⟨1, 2, [.ite (.or (.not (.isi (.var 0) .str)) (.not (.chain .le .le (.lit (.int 1)) (.bi .len [(.var 0)]) (.lit (.int 6))))) [.ret (.lit (.bool false))] [],
    .ret (.cmp .eq (.comp false .seq [(.var 0)] (.one 1) [1] (some (.cmp .nin (.var 1) (.lit (.str "abcdefghijklmnopqrstuvwxyz")))) (.var 1)) (.lst false []))]⟩
def d__law_is_cell : LDef := ⟨1, 1, [.ite (.or (.call 16 [(.var 0)]) (.call 17 [(.var 0)])) [.ret (.lit (.bool true))] [],
    .ite (.or (.not (.isi (.var 0) .tuple)) (.cmp .ne (.bi .len [(.var 0)]) (.lit (.int 2)))) [.ret (.lit (.bool false))] [],
    .ret (.and (.call 17 [(.ix (.var 0) (.lit (.int 0)))]) (.call 16 [(.ix (.var 0) (.lit (.int 1)))]))]⟩
def d__law_odd : LDef := ⟨1, 2, [.asg 1 (.lst false [(.lit .none), (.lit (.bool true)), (.lit (.bool false)), (.lit (.int 0)), (.neg (.lit (.int 7))), (.bin .pow (.lit (.int 10)) (.lit (.int 39))), (.lit (.str "")), (.lit (.str "a")), (.lit (.str "word")), (.lit (.str "abcdefg")), (.lit (.str "Word")), (.lit (.str "a1")), (.tup []), (.tup [(.lit (.str "a"))]), (.tup [(.lit (.str "a")), (.lit (.int 1))])]),
    .asg 1 (.bin .add (.var 1) (.lst false [(.tup [(.lit (.str "a")), (.lit (.bool true))]), (.tup [(.lit (.str "a")), (.lit (.int 1)), (.lit (.int 2))]), (.lst false [(.lit (.str "a")), (.lit (.int 1))]), (.tup [(.lit (.int 1)), (.lit (.str "a"))]), (.tup [(.lit (.str "")), (.lit (.int 1))]), (.tup [(.lit (.str "abcdefg")), (.lit (.int 1))]), (.tup [(.lit (.str "a")), (.lit (.str "b"))]), (.lst false [(.lit (.int 1))])])),
    .asg 1 (.bin .add (.var 1) (.lst false [(.tup [(.lit (.str "a")), (.lit .none)]), (.lit (.str "a b")), (.tup [(.tup [(.lit (.str "a")), (.lit (.int 1))])])])),
    .ret (.ix (.var 1) (.call 10 [(.var 0), (.bi .len [(.var 1)])]))]⟩
def d_law_k01 : LDef := ⟨1, 11, [.for .range [(.lit (.int 10))] (.one 1) [.asg 2 (.call 9 [(.var 0), (.var 1)]),
    .for .range [(.lit (.int 8))] (.one 3) [.asgT [4, 5] [(.call 15 [(.var 2)]), (.call 19 [(.var 2)])],
    .ite (.or (.cmp .isn (.call 8 [(.var 4)]) (.lit (.bool true))) (.cmp .ne (.comp false .seq [(.var 4)] (.one 10) [10] (some (.cmp .isn (.call 7 [(.var 10)]) (.lit (.bool true)))) (.lit (.int 1))) (.lst false []))) [.ret (.lit (.bool false))] [],
    .asg 6 (.call 7 [(.var 5)]),
    .ite (.or (.not (.isi (.var 6) .bool)) (.cmp .ne (.var 6) (.call 18 [(.var 5)]))) [.ret (.lit (.bool false))] [],
    .asg 7 (.call 10 [(.var 2), (.bin .add (.bi .len [(.var 4)]) (.lit (.int 1)))]),
    .for .seq [(.lst false [(.bin .add (.bin .add (.sl (.var 4) none (some (.var 7))) (.tup [(.var 5)])) (.sl (.var 4) (some (.bin .add (.var 7) (.lit (.int 1)))) none)), (.bin .add (.var 4) (.tup [(.var 5)])), (.bi .list [(.var 4)]), (.var 5), (.bin .add (.var 4) (.sl (.var 4) none (some (.lit (.int 1)))))])] (.one 8) [.asg 9 (.and (.isi (.var 8) .tuple) (.chain .le .le (.lit (.int 1)) (.bi .len [(.var 8)]) (.lit (.int 6)))),
    .asg 9 (.and (.var 9) (.cmp .eq (.comp false .seq [(.var 8)] (.one 10) [10] (some (.not (.call 18 [(.var 10)]))) (.lit (.int 1))) (.lst false []))),
    .asg 6 (.call 8 [(.var 8)]),
    .ite (.or (.not (.isi (.var 6) .bool)) (.cmp .ne (.var 6) (.var 9))) [.ret (.lit (.bool false))] []]]],
    .ret (.and (.cmp .is (.call 8 [(.bin .mul (.tup [(.lit (.int 1))]) (.lit (.int 6)))]) (.lit (.bool true))) (.and (.cmp .is (.call 8 [(.bin .mul (.tup [(.lit (.int 1))]) (.lit (.int 7)))]) (.lit (.bool false))) (.cmp .is (.call 8 [(.tup [])]) (.lit (.bool false)))))]⟩
def d_is_between : LDef := ⟨3, 3, [.ret (.and (.call 1 [(.var 0)]) (.chain .le .le (.var 1) (.var 0) (.var 2)))]⟩
def d_are_words : LDef := ⟨1, 2, [.ite (.or (.not (.isi (.var 0) .tuple)) (.or (.not (.chain .le .le (.lit (.int 2)) (.bi .len [(.var 0)]) (.lit (.int 7)))) (.not (.bi .all [(.comp false .seq [(.var 0)] (.one 1) [1] none (.call 2 [(.var 1)]))])))) [.ret (.lit (.bool false))] [],
    .ret (.cmp .eq (.lenset (.var 0)) (.bi .len [(.var 0)]))]⟩
def d_a_guesser : LDef := ⟨1, 1, [.ite (.or (.not (.isi (.var 0) .tuple)) (.or (.cmp .ne (.bi .len [(.var 0)]) (.lit (.int 2))) (.not (.isi (.ix (.var 0) (.lit (.int 0))) .str)))) [.ret (.lit (.bool false))] [],
    .ite (.din "LEASTS" [("step", (.tuple [(.int 1), (.int 4)])), ("times", (.tuple [(.int 2), (.int 4)])), ("count", (.tuple [(.int 1), (.int 3)]))] (.ix (.var 0) (.lit (.int 0)))) [.ret (.call 20 [(.ix (.var 0) (.lit (.int 1))), (.ix (.dix "LEASTS" [("step", (.tuple [(.int 1), (.int 4)])), ("times", (.tuple [(.int 2), (.int 4)])), ("count", (.tuple [(.int 1), (.int 3)]))] (.ix (.var 0) (.lit (.int 0)))) (.lit (.int 0))), (.ix (.dix "LEASTS" [("step", (.tuple [(.int 1), (.int 4)])), ("times", (.tuple [(.int 2), (.int 4)])), ("count", (.tuple [(.int 1), (.int 3)]))] (.ix (.var 0) (.lit (.int 0)))) (.lit (.int 1)))])] [],
    .ite (.cmp .eq (.ix (.var 0) (.lit (.int 0))) (.lit (.str "line"))) [.ret (.and (.isi (.ix (.var 0) (.lit (.int 1))) .str) (.cmp .in_ (.ix (.var 0) (.lit (.int 1))) (.tup [(.lit (.str "down")), (.lit (.str "half"))])))] [],
    .ret (.and (.cmp .eq (.ix (.var 0) (.lit (.int 0))) (.lit (.str "list"))) (.call 21 [(.ix (.var 0) (.lit (.int 1)))]))]⟩
def d_is_guesser : LDef := ⟨1, 1, [.ret (.call 22 [(.var 0)])]⟩
def d_is_manner : LDef := ⟨1, 2, [.ite (.or (.not (.isi (.var 0) .tuple)) (.or (.cmp .ne (.bi .len [(.var 0)]) (.lit (.int 3))) (.or (.not (.isi (.ix (.var 0) (.lit (.int 0))) .tuple)) (.cmp .gt (.bi .len [(.ix (.var 0) (.lit (.int 0)))]) (.lit (.int 5)))))) [.ret (.lit (.bool false))] [],
    .ite (.or (.not (.bi .all [(.comp false .seq [(.ix (.var 0) (.lit (.int 0)))] (.one 1) [1] none (.call 22 [(.var 1)]))])) (.cmp .ne (.lenset (.ix (.var 0) (.lit (.int 0)))) (.bi .len [(.ix (.var 0) (.lit (.int 0)))]))) [.ret (.lit (.bool false))] [],
    .ite (.or (.isi (.ix (.var 0) (.lit (.int 1))) .bool) (.or (.not (.isi (.ix (.var 0) (.lit (.int 1))) .int)) (.cmp .nin (.ix (.var 0) (.lit (.int 1))) (.tup [(.lit (.int 0)), (.lit (.int 2)), (.lit (.int 3))])))) [.ret (.lit (.bool false))] [],
    .ret (.and (.isi (.ix (.var 0) (.lit (.int 2))) .str) (.cmp .in_ (.ix (.var 0) (.lit (.int 2))) (.tup [(.lit (.str "copy")), (.lit (.str "stop"))])))]⟩
def d__law_guesser : LDef := ⟨1, 2, [.asg 1 (.call 10 [(.var 0), (.lit (.int 9))]),
    .ite (.cmp .lt (.var 1) (.lit (.int 3))) [.ret (.tup [(.lit (.str "step")), (.bin .add (.lit (.int 1)) (.call 10 [(.var 0), (.lit (.int 4))]))])] [],
    .ite (.cmp .lt (.var 1) (.lit (.int 5))) [.ret (.tup [(.lit (.str "times")), (.bin .add (.lit (.int 2)) (.call 10 [(.var 0), (.lit (.int 3))]))])] [],
    .ite (.cmp .eq (.var 1) (.lit (.int 5))) [.ret (.tup [(.lit (.str "line")), (.ix (.lst false [(.lit (.str "down")), (.lit (.str "half"))]) (.call 10 [(.var 0), (.lit (.int 2))]))])] [],
    .ite (.cmp .eq (.var 1) (.lit (.int 6))) [.ret (.tup [(.lit (.str "count")), (.bin .add (.lit (.int 1)) (.call 10 [(.var 0), (.lit (.int 3))]))])] [],
    .ret (.tup [(.lit (.str "list")), (.call 11 [(.var 0), (.call 12 [])])])]⟩
def d__law_manner : LDef := ⟨2, 5, [.asg 2 (.tup []),
    .for .range [(.call 10 [(.var 0), (.bin .add (.var 1) (.lit (.int 1)))])] (.one 3) [.asg 4 (.call 25 [(.var 0)]),
    .asg 2 (.ite (.cmp .in_ (.var 4) (.var 2)) (.var 2) (.bin .add (.var 2) (.tup [(.var 4)])))],
    .ret (.tup [(.var 2), (.ix (.lst false [(.lit (.int 0)), (.lit (.int 0)), (.lit (.int 2)), (.lit (.int 3))]) (.call 10 [(.var 0), (.lit (.int 4))])), (.ix (.lst false [(.lit (.str "copy")), (.lit (.str "stop"))]) (.call 10 [(.var 0), (.lit (.int 2))]))])]⟩
def d__law_is_guesser : LDef := ⟨1, 7, [.ite (.or (.not (.isi (.var 0) .tuple)) (.or (.cmp .ne (.bi .len [(.var 0)]) (.lit (.int 2))) (.not (.isi (.ix (.var 0) (.lit (.int 0))) .str)))) [.ret (.lit (.bool false))] [],
    .unp [1, 2] (.var 0),
    .ite (.cmp .in_ (.var 1) (.lst false [(.lit (.str "step")), (.lit (.str "times")), (.lit (.str "count"))])) [.unp [3, 4] (.ext (.ddix [("step", (.tuple [(.int 1), (.int 4)])), ("times", (.tuple [(.int 2), (.int 4)])), ("count", (.tuple [(.int 1), (.int 3)]))]) [(.var 1)]),
    .ret (.and (.call 16 [(.var 2)]) (.chain .le .le (.var 3) (.var 2) (.var 4)))] [],
    .ite (.cmp .eq (.var 1) (.lit (.str "line"))) [.ret (.and (.isi (.var 2) .str) (.cmp .in_ (.var 2) (.lst false [(.lit (.str "down")), (.lit (.str "half"))])))] [],
    .ite (.or (.cmp .ne (.var 1) (.lit (.str "list"))) (.or (.not (.isi (.var 2) .tuple)) (.not (.chain .le .le (.lit (.int 2)) (.bi .len [(.var 2)]) (.lit (.int 7)))))) [.ret (.lit (.bool false))] [],
    .ite (.cmp .ne (.comp false .seq [(.var 2)] (.one 5) [5] (some (.not (.call 17 [(.var 5)]))) (.var 5)) (.lst false [])) [.ret (.lit (.bool false))] [],
    .ret (.cmp .eq (.comp false .range [(.bi .len [(.var 2)])] (.one 6) [6] (some (.cmp .in_ (.ix (.var 2) (.var 6)) (.sl (.var 2) none (some (.var 6))))) (.lit (.int 1))) (.lst false []))]⟩
def d__law_is_manner : LDef := ⟨1, 3, [.ite (.or (.not (.isi (.var 0) .tuple)) (.or (.cmp .ne (.bi .len [(.var 0)]) (.lit (.int 3))) (.or (.not (.isi (.ix (.var 0) (.lit (.int 0))) .tuple)) (.cmp .gt (.bi .len [(.ix (.var 0) (.lit (.int 0)))]) (.lit (.int 5)))))) [.ret (.lit (.bool false))] [],
    .ite (.cmp .ne (.comp false .seq [(.ix (.var 0) (.lit (.int 0)))] (.one 1) [1] (some (.not (.call 27 [(.var 1)]))) (.var 1)) (.lst false [])) [.ret (.lit (.bool false))] [],
    .ite (.cmp .ne (.comp false .range [(.bi .len [(.ix (.var 0) (.lit (.int 0)))])] (.one 2) [2] (some (.cmp .in_ (.ix (.ix (.var 0) (.lit (.int 0))) (.var 2)) (.sl (.ix (.var 0) (.lit (.int 0))) none (some (.var 2))))) (.lit (.int 1))) (.lst false [])) [.ret (.lit (.bool false))] [],
    .ite (.or (.not (.call 16 [(.ix (.var 0) (.lit (.int 1)))])) (.cmp .nin (.ix (.var 0) (.lit (.int 1))) (.lst false [(.lit (.int 0)), (.lit (.int 2)), (.lit (.int 3))]))) [.ret (.lit (.bool false))] [],
    .ret (.and (.isi (.ix (.var 0) (.lit (.int 2))) .str) (.cmp .in_ (.ix (.var 0) (.lit (.int 2))) (.lst false [(.lit (.str "copy")), (.lit (.str "stop"))])))]⟩
def d__law_odd_2 : LDef := ⟨1, 2, [.asg 1 (.lst false [(.lit .none), (.lit (.bool true)), (.lit (.bool false)), (.lit (.int 0)), (.lit (.int 1)), (.lit (.int 2)), (.lit (.int 3)), (.lit (.int 4)), (.lit (.int 5)), (.neg (.lit (.int 1))), (.lit (.str "")), (.lit (.str "step")), (.lit (.str "times")), (.lit (.str "line")), (.lit (.str "list")), (.lit (.str "count")), (.lit (.str "down")), (.lit (.str "half"))]),
    .asg 1 (.bin .add (.var 1) (.lst false [(.lit (.str "copy")), (.lit (.str "stop")), (.tup []), (.tup [(.lit (.str "a")), (.lit (.str "b"))]), (.tup [(.lit (.str "a")), (.lit (.str "a"))]), (.tup [(.lit (.str "a"))]), (.lst false [(.lit (.str "a")), (.lit (.str "b"))]), (.tup [(.lit (.str "a")), (.lit (.int 1))])])),
    .asg 1 (.bin .add (.var 1) (.lst false [(.bi .tuple [(.lit (.str "abcdefg"))]), (.bi .tuple [(.lit (.str "abcdefgh"))])])),
    .asg 1 (.bin .add (.var 1) (.lst false [(.tup [(.lit (.str "step")), (.lit (.int 2))]), (.tup [(.lit (.str "line")), (.lit (.str "half"))]), (.tup [(.tup [(.lit (.str "step")), (.lit (.int 1))])]), (.lit (.str "Step")), (.bin .pow (.lit (.int 10)) (.lit (.int 20))), (.tup [(.lit (.str "times")), (.lit (.int 2))]), (.bin .mul (.tup [(.tup [(.lit (.str "step")), (.lit (.int 2))])]) (.lit (.int 2)))])),
    .ret (.ix (.var 1) (.call 10 [(.var 0), (.bi .len [(.var 1)])]))]⟩
def d__law_parted : LDef := ⟨2, 4, [.asgT [2, 3] [(.call 10 [(.var 0), (.bi .len [(.var 1)])]), (.call 10 [(.var 0), (.lit (.int 6))])],
    .ite (.cmp .eq (.var 3) (.lit (.int 0))) [.ret (.bin .add (.sl (.var 1) none (some (.var 2))) (.sl (.var 1) (some (.bin .add (.var 2) (.lit (.int 1)))) none))] [],
    .ite (.cmp .eq (.var 3) (.lit (.int 1))) [.ret (.bin .add (.sl (.var 1) none (some (.bin .add (.var 2) (.lit (.int 1))))) (.sl (.var 1) (some (.var 2)) none))] [],
    .ite (.cmp .eq (.var 3) (.lit (.int 2))) [.ret (.bi .list [(.var 1)])] [],
    .ite (.and (.cmp .eq (.var 3) (.lit (.int 3))) (.and (.isi (.ix (.var 1) (.var 2)) .tuple) (.cmp .ne (.ix (.var 1) (.var 2)) (.tup [])))) [.ret (.bin .add (.bin .add (.sl (.var 1) none (some (.var 2))) (.tup [(.call 30 [(.var 0), (.ix (.var 1) (.var 2))])])) (.sl (.var 1) (some (.bin .add (.var 2) (.lit (.int 1)))) none))] [],
    .ret (.bin .add (.bin .add (.sl (.var 1) none (some (.var 2))) (.tup [(.call 29 [(.var 0)])])) (.sl (.var 1) (some (.bin .add (.var 2) (.lit (.int 1)))) none))]⟩
def d_law_k02 : LDef := ⟨1, 9, [.for .range [(.lit (.int 10))] (.one 1) [.asg 3 (.call 9 [(.var 0), (.var 1)]),
    .for .range [(.lit (.int 6))] (.one 4) [.asgT [5, 6] [(.call 25 [(.var 3)]), (.call 26 [(.var 3), (.lit (.int 5))])],
    .ite (.or (.cmp .isn (.call 23 [(.var 5)]) (.lit (.bool true))) (.cmp .isn (.call 24 [(.var 6)]) (.lit (.bool true)))) [.ret (.lit (.bool false))] [],
    .for .seq [(.lst false [(.call 30 [(.var 3), (.var 5)]), (.call 29 [(.var 3)]), (.call 30 [(.var 3), (.var 5)]), (.var 6)])] (.one 7) [.ite (.or (.not (.isi (.call 23 [(.var 7)]) .bool)) (.cmp .ne (.call 23 [(.var 7)]) (.call 27 [(.var 7)]))) [.ret (.lit (.bool false))] []],
    .for .seq [(.lst false [(.call 30 [(.var 3), (.var 6)]), (.call 30 [(.var 3), (.var 6)]), (.call 29 [(.var 3)]), (.var 5)])] (.one 7) [.ite (.or (.not (.isi (.call 24 [(.var 7)]) .bool)) (.cmp .ne (.call 24 [(.var 7)]) (.call 28 [(.var 7)]))) [.ret (.lit (.bool false))] []]]],
    .asg 2 (.bi .tuple [(.comp false .range [(.lit (.int 1)), (.lit (.int 5))] (.one 8) [8] none (.tup [(.lit (.str "step")), (.var 8)]))]),
    .ite (.or (.cmp .isn (.call 24 [(.tup [(.bin .add (.var 2) (.tup [(.tup [(.lit (.str "line")), (.lit (.str "down"))])])), (.lit (.int 3)), (.lit (.str "stop"))])]) (.lit (.bool true))) (.cmp .isn (.call 24 [(.tup [(.tup []), (.lit (.int 0)), (.lit (.str "copy"))])]) (.lit (.bool true)))) [.ret (.lit (.bool false))] [],
    .ret (.cmp .is (.call 24 [(.tup [(.bin .add (.var 2) (.tup [(.tup [(.lit (.str "times")), (.lit (.int 2))]), (.tup [(.lit (.str "times")), (.lit (.int 3))])])), (.lit (.int 0)), (.lit (.str "copy"))])]) (.lit (.bool false)))]⟩
def d_even_step : LDef := ⟨2, 5, [.ite (.cmp .eq (.bi .len [(.var 0)]) (.lit (.int 1))) [.ret (.var 1)] [],
    .asg 2 (.comp false .zip [(.var 0), (.sl (.var 0) (some (.lit (.int 1))) none)] (.many [3, 4]) [3, 4] none (.bin .sub (.var 4) (.var 3))),
    .ret (.ite (.cmp .eq (.var 2) (.bin .mul (.lst false [(.ix (.var 2) (.lit (.int 0)))]) (.bi .len [(.var 2)]))) (.ix (.var 2) (.lit (.int 0))) (.lit .none))]⟩
def d_even_factor : LDef := ⟨1, 5, [.ite (.or (.cmp .in_ (.lit (.int 0)) (.var 0)) (.cmp .ne (.bin .mod (.ix (.var 0) (.lit (.int 1))) (.ix (.var 0) (.lit (.int 0)))) (.lit (.int 0)))) [.ret (.lit .none)] [],
    .asg 1 (.bin .fdiv (.ix (.var 0) (.lit (.int 1))) (.ix (.var 0) (.lit (.int 0)))),
    .ite (.chain .lt .lt (.neg (.lit (.int 2))) (.var 1) (.lit (.int 2))) [.ret (.lit .none)] [],
    .asg 2 (.comp false .zip [(.var 0), (.sl (.var 0) (some (.lit (.int 1))) none)] (.many [3, 4]) [3, 4] (some (.cmp .eq (.var 4) (.bin .mul (.var 3) (.var 1)))) (.lit (.int 1))),
    .ret (.ite (.cmp .eq (.bi .len [(.var 2)]) (.bin .sub (.bi .len [(.var 0)]) (.lit (.int 1)))) (.var 1) (.lit .none))]⟩
def d_stepped : LDef := ⟨3, 5, [.ite (.or (.cmp .lt (.bi .len [(.var 0)]) (.var 1)) (.not (.bi .all [(.comp false .seq [(.var 0)] (.one 4) [4] none (.call 1 [(.var 4)]))]))) [.ret (.lit .none)] [],
    .asg 3 (.call 31 [(.bi .list [(.var 0)]), (.var 2)]),
    .ret (.ite (.cmp .is (.var 3) (.lit .none)) (.lit .none) (.tup [(.lit (.str "step")), (.ix (.var 0) (.lit (.int 0))), (.var 3)]))]⟩
def d_multiplied : LDef := ⟨2, 4, [.ite (.or (.cmp .lt (.bi .len [(.var 0)]) (.var 1)) (.not (.bi .all [(.comp false .seq [(.var 0)] (.one 3) [3] none (.call 1 [(.var 3)]))]))) [.ret (.lit .none)] [],
    .asg 2 (.call 32 [(.var 0)]),
    .ret (.ite (.cmp .is (.var 2) (.lit .none)) (.lit .none) (.tup [(.lit (.str "times")), (.ix (.var 0) (.lit (.int 0))), (.var 2)]))]⟩
def d_fitted : LDef := ⟨2, 4, [.ite (.or (.cmp .lt (.bi .len [(.var 0)]) (.lit (.int 2))) (.not (.bi .all [(.comp false .seq [(.var 0)] (.one 3) [3] none (.call 1 [(.var 3)]))]))) [.ret (.lit .none)] [],
    .asg 2 (.call 33 [(.var 0), (.lit (.int 2)), (.lit (.int 1))]),
    .ret (.ite (.cmp .is (.var 2) (.lit .none)) (.tup [(.lit (.str "line")), (.var 0), (.var 1)]) (.var 2))]⟩
def d_counted : LDef := ⟨3, 5, [.ite (.or (.cmp .lt (.bi .len [(.var 0)]) (.var 1)) (.not (.bi .all [(.comp false .seq [(.var 0)] (.one 4) [4] none (.call 3 [(.var 4)]))]))) [.ret (.lit .none)] [],
    .ite (.not (.bi .all [(.comp false .seq [(.var 0)] (.one 4) [4] none (.cmp .eq (.ix (.var 4) (.lit (.int 0))) (.ix (.ix (.var 0) (.lit (.int 0))) (.lit (.int 0)))))])) [.ret (.lit .none)] [],
    .asg 3 (.call 31 [(.comp false .seq [(.var 0)] (.one 4) [4] none (.ix (.var 4) (.lit (.int 1)))), (.var 2)]),
    .ret (.ite (.cmp .is (.var 3) (.lit .none)) (.lit .none) (.tup [(.lit (.str "count")), (.ix (.ix (.var 0) (.lit (.int 0))) (.lit (.int 0))), (.ix (.ix (.var 0) (.lit (.int 0))) (.lit (.int 1))), (.var 3)]))]⟩
def d_listed : LDef := ⟨3, 10, [.ite (.not (.bi .all [(.comp false .seq [(.var 0)] (.one 5) [5] none (.cmp .in_ (.var 5) (.var 1)))])) [.ret (.lit .none)] [],
    .asg 3 (.comp2 false .seq [(.var 0)] (.one 5) none .enum [(.var 1)] (.many [6, 7]) [6, 7] (some (.cmp .eq (.var 7) (.var 5))) [5, 6, 7] (.var 6)),
    .ite (.cmp .eq (.bi .len [(.var 3)]) (.lit (.int 1))) [.ret (.tup [(.lit (.str "list")), (.var 1), (.ix (.var 3) (.lit (.int 0))), (.bin .mod (.var 2) (.bi .len [(.var 1)]))])] [],
    .asg 4 (.comp false .zip [(.var 3), (.sl (.var 3) (some (.lit (.int 1))) none)] (.many [8, 9]) [8, 9] none (.bin .mod (.bin .sub (.var 9) (.var 8)) (.bi .len [(.var 1)]))),
    .ret (.ite (.cmp .eq (.var 4) (.bin .mul (.lst false [(.ix (.var 4) (.lit (.int 0)))]) (.bi .len [(.var 4)]))) (.tup [(.lit (.str "list")), (.var 1), (.ix (.var 3) (.lit (.int 0))), (.ix (.var 4) (.lit (.int 0)))]) (.lit .none))]⟩
def d_guessed : LDef := ⟨3, 5, [.unp [3, 4] (.var 0),
    .ite (.cmp .eq (.var 3) (.lit (.str "step"))) [.ret (.call 33 [(.var 1), (.var 4), (.var 2)])] [],
    .ite (.cmp .eq (.var 3) (.lit (.str "times"))) [.ret (.call 34 [(.var 1), (.var 4)])] [],
    .ite (.cmp .eq (.var 3) (.lit (.str "line"))) [.ret (.call 35 [(.var 1), (.var 4)])] [],
    .ite (.cmp .eq (.var 3) (.lit (.str "count"))) [.ret (.call 36 [(.var 1), (.var 4), (.var 2)])] [],
    .ret (.call 37 [(.var 1), (.var 4), (.var 2)])]⟩
def d_need_selection : LDef := ⟨1, 1, [.ite (.not (.call 6 [(.var 0)])) [.raise "InvalidSelection"] []]⟩
def d_fits : LDef := ⟨2, 2, [.ite (.not (.call 22 [(.var 0)])) [.raise "InvalidManner"] [],
    .exp (.call 39 [(.var 1)]),
    .ret (.cmp .isn (.call 38 [(.var 0), (.var 1), (.glo "DOWN" (.int 1))]) (.lit .none))]⟩
def d__law_steps : LDef := ⟨2, 3, [.ite (.cmp .eq (.bi .len [(.var 0)]) (.lit (.int 1))) [.ret (.var 1)] [],
    .for .range [(.lit (.int 1)), (.bin .sub (.bi .len [(.var 0)]) (.lit (.int 1)))] (.one 2) [.ite (.cmp .ne (.bin .sub (.ix (.var 0) (.bin .add (.var 2) (.lit (.int 1)))) (.ix (.var 0) (.var 2))) (.bin .sub (.ix (.var 0) (.lit (.int 1))) (.ix (.var 0) (.lit (.int 0))))) [.ret (.lit .none)] []],
    .ret (.bin .sub (.ix (.var 0) (.lit (.int 1))) (.ix (.var 0) (.lit (.int 0))))]⟩
def d__law_factor : LDef := ⟨1, 3, [.ite (.cmp .in_ (.lit (.int 0)) (.var 0)) [.ret (.lit .none)] [],
    .asg 1 (.bin .fdiv (.ix (.var 0) (.lit (.int 1))) (.ix (.var 0) (.lit (.int 0)))),
    .for .range [(.bin .sub (.bi .len [(.var 0)]) (.lit (.int 1)))] (.one 2) [.ite (.cmp .ne (.ix (.var 0) (.bin .add (.var 2) (.lit (.int 1)))) (.bin .mul (.ix (.var 0) (.var 2)) (.var 1))) [.ret (.lit .none)] []],
    .ret (.ite (.cmp .gt (.bi .abs [(.var 1)]) (.lit (.int 1))) (.var 1) (.lit .none))]⟩
def d__law_line : LDef := ⟨3, 14, [.asg 3 (.ext .lrange [(.bi .len [(.var 0)])]),
    .asgT [4, 5] [(.bi .sum [(.var 3)]), (.bi .sum [(.comp false .seq [(.var 3)] (.one 12) [12] none (.bin .mul (.var 12) (.var 12)))])],
    .asgT [6, 7] [(.bi .sum [(.var 0)]), (.bi .sum [(.comp false .seq [(.var 3)] (.one 12) [12] none (.bin .mul (.var 12) (.ix (.var 0) (.var 12))))])],
    .asg 8 (.bin .sub (.bin .mul (.bi .len [(.var 0)]) (.var 5)) (.bin .mul (.var 4) (.var 4))),
    .asg 9 (.bin .sub (.bin .mul (.var 6) (.var 5)) (.bin .mul (.var 4) (.var 7))),
    .asg 10 (.bin .sub (.bin .mul (.bi .len [(.var 0)]) (.var 7)) (.bin .mul (.var 4) (.var 6))),
    .asg 11 (.ext .mlist [(.var 0)]),
    .for .range [(.bi .len [(.var 0)]), (.bin .add (.bi .len [(.var 0)]) (.var 2))] (.one 12) [.asg 13 (.bin .add (.var 9) (.bin .mul (.var 10) (.var 12))),
    .app (.var 11) (.ite (.cmp .eq (.var 1) (.lit (.str "down"))) (.bin .fdiv (.var 13) (.var 8)) (.bin .fdiv (.bin .add (.bin .mul (.lit (.int 2)) (.var 13)) (.var 8)) (.bin .mul (.lit (.int 2)) (.var 8))))],
    .ret (.frz 11)]⟩
def d__law_told : LDef := ⟨4, 14, [.unp [4, 5] (.var 0),
    .asgT [6, 7] [(.bi .len [(.var 1)]), (.bin .add (.bi .len [(.var 1)]) (.var 3))],
    .ite (.cmp .eq (.var 4) (.lit (.str "list"))) [.ite (.cmp .ne (.comp false .seq [(.var 1)] (.one 13) [13] (some (.cmp .nin (.var 13) (.bi .list [(.var 5)]))) (.var 13)) (.lst false [])) [.ret (.lit .none)] [],
    .asg 11 (.comp false .seq [(.var 1)] (.one 13) [13] none (.meth .index (.bi .list [(.var 5)]) (.var 13))),
    .asg 12 (.ite (.cmp .eq (.var 6) (.lit (.int 1))) (.var 2) (.bin .sub (.ix (.var 11) (.lit (.int 1))) (.ix (.var 11) (.lit (.int 0))))),
    .asg 9 (.comp true .range [(.var 7)] (.one 10) [10] none (.ix (.var 5) (.bin .mod (.bi .int [(.bin .add (.ix (.var 11) (.lit (.int 0))) (.bin .mul (.var 10) (.var 12)))]) (.bi .len [(.var 5)])))),
    .ret (.ite (.cmp .eq (.sl (.var 9) none (some (.var 6))) (.bi .list [(.var 1)])) (.var 9) (.lit .none))] [],
    .ite (.cmp .eq (.var 4) (.lit (.str "count"))) [.ite (.or (.cmp .ne (.comp false .seq [(.var 1)] (.one 13) [13] (some (.not (.isi (.var 13) .tuple))) (.lit (.int 1))) (.lst false [])) (.cmp .lt (.var 6) (.var 5))) [.ret (.lit .none)] [],
    .asg 12 (.call 41 [(.comp false .seq [(.var 1)] (.one 13) [13] none (.ix (.var 13) (.lit (.int 1)))), (.var 2)]),
    .ite (.or (.cmp .is (.var 12) (.lit .none)) (.cmp .ne (.comp false .seq [(.var 1)] (.one 13) [13] (some (.cmp .ne (.ix (.var 13) (.lit (.int 0))) (.ix (.ix (.var 1) (.lit (.int 0))) (.lit (.int 0))))) (.lit (.int 1))) (.lst false []))) [.ret (.lit .none)] [],
    .ret (.comp false .range [(.var 7)] (.one 10) [10] none (.tup [(.ix (.ix (.var 1) (.lit (.int 0))) (.lit (.int 0))), (.bin .add (.ix (.ix (.var 1) (.lit (.int 0))) (.lit (.int 1))) (.bin .mul (.var 10) (.var 12)))]))] [],
    .ite (.or (.cmp .ne (.comp false .seq [(.var 1)] (.one 13) [13] (some (.not (.call 16 [(.var 13)]))) (.lit (.int 1))) (.lst false [])) (.cmp .lt (.var 6) (.ite (.cmp .eq (.var 4) (.lit (.str "line"))) (.lit (.int 2)) (.var 5)))) [.ret (.lit .none)] [],
    .ite (.cmp .eq (.var 4) (.lit (.str "line"))) [.ret (.call 43 [(.bi .list [(.var 1)]), (.var 5), (.var 3)])] [],
    .ite (.cmp .eq (.var 4) (.lit (.str "step"))) [.asg 12 (.call 41 [(.bi .list [(.var 1)]), (.var 2)]),
    .ret (.ite (.cmp .is (.var 12) (.lit .none)) (.lit .none) (.comp false .range [(.var 7)] (.one 10) [10] none (.bin .add (.ix (.var 1) (.lit (.int 0))) (.bin .mul (.var 10) (.var 12)))))] [],
    .asgT [8, 9] [(.call 42 [(.bi .list [(.var 1)])]), (.ext .mlist [(.var 1)])],
    .ite (.cmp .is (.var 8) (.lit .none)) [.ret (.lit .none)] [],
    .for .range [(.var 3)] (.one 10) [.app (.var 9) (.bin .mul (.ix (.var 9) (.neg (.lit (.int 1)))) (.var 8))],
    .ret (.frz 9)]⟩
def d_need_manner : LDef := ⟨1, 1, [.ite (.not (.call 24 [(.var 0)])) [.raise "InvalidManner"] []]⟩
def d_first_guess : LDef := ⟨3, 6, [.for .enum [(.var 0)] (.many [3, 4]) [.asg 5 (.call 38 [(.var 4), (.var 1), (.var 2)]),
    .ite (.cmp .isn (.var 5) (.lit .none)) [.ret (.tup [(.var 3), (.var 5)])] []],
    .ret (.tup [(.lit .none), (.lit .none)])]⟩
def d_woven_row : LDef := ⟨3, 6, [.asg 3 (.ix (.var 0) (.lit (.int 1))),
    .ite (.or (.cmp .eq (.var 3) (.lit (.int 0))) (.or (.cmp .ne (.bin .mod (.bi .len [(.var 1)]) (.var 3)) (.lit (.int 0))) (.cmp .lt (.bi .len [(.var 1)]) (.bin .mul (.lit (.int 2)) (.var 3))))) [.ret (.lit .none)] [],
    .asg 4 (.comp false .range [(.var 3)] (.one 5) [5] none (.ix (.call 48 [(.ix (.var 0) (.lit (.int 0))), (.slst (.var 1) (some (.var 5)) none (.var 3)), (.var 2)]) (.lit (.int 1)))),
    .ret (.ite (.cmp .in_ (.lit .none) (.var 4)) (.lit .none) (.tup [(.lit (.str "woven")), (.bi .tuple [(.var 4)])]))]⟩
def d_told_by : LDef := ⟨3, 5, [.unp [3, 4] (.call 48 [(.ix (.var 0) (.lit (.int 0))), (.var 1), (.var 2)]),
    .ite (.cmp .isn (.var 4) (.lit .none)) [.ret (.tup [(.var 3), (.var 4)])] [],
    .asg 4 (.call 49 [(.var 0), (.var 1), (.var 2)]),
    .ite (.cmp .isn (.var 4) (.lit .none)) [.ret (.tup [(.lit (.str "woven")), (.var 4)])] [],
    .ret (.ite (.cmp .eq (.ix (.var 0) (.lit (.int 2))) (.lit (.str "copy"))) (.tup [(.lit (.str "copy")), (.tup [(.lit (.str "round")), (.var 1)])]) (.tup [(.lit (.str "stop")), (.lit .none)]))]⟩
def d_taken_by : LDef := ⟨2, 2, [.exp (.call 47 [(.var 0)]),
    .exp (.call 39 [(.var 1)]),
    .ret (.ix (.call 50 [(.var 0), (.var 1), (.glo "DOWN" (.int 1))]) (.lit (.int 0)))]⟩
def d__law_first : LDef := ⟨4, 7, [.for .enum [(.ix (.var 0) (.lit (.int 0)))] (.many [4, 5]) [.asg 6 (.call 44 [(.var 5), (.var 1), (.var 2), (.var 3)]),
    .ite (.cmp .isn (.var 6) (.lit .none)) [.ret (.tup [(.var 4), (.var 6)])] []],
    .ret (.tup [(.lit .none), (.lit .none)])]⟩
def d__law_row : LDef := ⟨4, 9, [.unp [4, 5] (.call 52 [(.var 0), (.var 1), (.var 2), (.var 3)]),
    .ite (.cmp .isn (.var 5) (.lit .none)) [.ret (.tup [(.var 4), (.var 5)])] [],
    .asg 6 (.bi .len [(.var 1)]),
    .ite (.and (.cmp .gt (.ix (.var 0) (.lit (.int 1))) (.lit (.int 0))) (.and (.cmp .eq (.bin .mod (.bi .int [(.var 6)]) (.ix (.var 0) (.lit (.int 1)))) (.lit (.int 0))) (.cmp .gt (.var 6) (.ix (.var 0) (.lit (.int 1)))))) [.asg 7 (.comp false .range [(.ix (.var 0) (.lit (.int 1)))] (.one 8) [8] none (.ix (.call 52 [(.var 0), (.slst (.var 1) (some (.var 8)) none (.ix (.var 0) (.lit (.int 1)))), (.var 2), (.var 3)]) (.lit (.int 1)))),
    .ite (.cmp .nin (.lit .none) (.var 7)) [.ret (.tup [(.lit (.str "woven")), (.comp false .range [(.bin .add (.var 6) (.var 3))] (.one 8) [8] none (.ix (.ix (.var 7) (.bin .mod (.bi .int [(.var 8)]) (.ix (.var 0) (.lit (.int 1))))) (.bin .fdiv (.var 8) (.ix (.var 0) (.lit (.int 1))))))])] []] [],
    .ite (.cmp .eq (.ix (.var 0) (.lit (.int 2))) (.lit (.str "copy"))) [.ret (.tup [(.lit (.str "copy")), (.comp false .range [(.bin .add (.var 6) (.var 3))] (.one 8) [8] none (.ix (.var 1) (.bin .mod (.bi .int [(.var 8)]) (.var 6))))])] [],
    .ret (.tup [(.lit (.str "stop")), (.lit .none)])]⟩
def d_row_for : LDef := ⟨2, 2, [.ret (.ix (.call 50 [(.var 0), (.var 1), (.glo "DOWN" (.int 1))]) (.lit (.int 1)))]⟩
def d_power : LDef := ⟨2, 4, [.asg 2 (.lit (.int 1)),
    .for .range [(.var 1)] (.one 3) [.asg 2 (.bin .mul (.var 2) (.var 0))],
    .ret (.var 2)]⟩
def d_line_parts : LDef := ⟨1, 8, [.asg 1 (.bi .len [(.var 0)]),
    .asg 2 (.bi .sum [(.var 0)]),
    .asg 3 (.bi .sum [(.comp false .enum [(.var 0)] (.many [6, 7]) [6, 7] none (.bin .mul (.var 6) (.var 7)))]),
    .asg 4 (.bin .sub (.bin .mul (.lit (.int 12)) (.var 3)) (.bin .mul (.bin .mul (.lit (.int 6)) (.bin .sub (.var 1) (.lit (.int 1)))) (.var 2))),
    .asg 5 (.bin .sub (.bin .mul (.bin .mul (.lit (.int 2)) (.bin .sub (.bin .mul (.var 1) (.var 1)) (.lit (.int 1)))) (.var 2)) (.bin .mul (.bin .sub (.var 1) (.lit (.int 1))) (.var 4))),
    .ret (.tup [(.var 5), (.bin .mul (.lit (.int 2)) (.var 4)), (.bin .mul (.bin .mul (.lit (.int 2)) (.var 1)) (.bin .sub (.bin .mul (.var 1) (.var 1)) (.lit (.int 1))))])]⟩
def d_line_at : LDef := ⟨3, 7, [.unp [3, 4, 5] (.call 56 [(.var 0)]),
    .asg 6 (.bin .add (.var 3) (.bin .mul (.var 4) (.var 2))),
    .ret (.ite (.cmp .eq (.var 1) (.lit (.str "down"))) (.bin .fdiv (.var 6) (.var 5)) (.bin .fdiv (.bin .add (.bin .mul (.lit (.int 2)) (.var 6)) (.var 5)) (.bin .mul (.lit (.int 2)) (.var 5))))]⟩
def d_at : LDef := ⟨2, 3, [.asg 2 (.ix (.var 0) (.lit (.int 0))),
    .ite (.cmp .eq (.var 2) (.lit (.str "step"))) [.ret (.bin .add (.ix (.var 0) (.lit (.int 1))) (.bin .mul (.var 1) (.ix (.var 0) (.lit (.int 2)))))] [],
    .ite (.cmp .eq (.var 2) (.lit (.str "times"))) [.ret (.bin .mul (.ix (.var 0) (.lit (.int 1))) (.call 55 [(.ix (.var 0) (.lit (.int 2))), (.var 1)]))] [],
    .ite (.cmp .eq (.var 2) (.lit (.str "line"))) [.ret (.ite (.cmp .lt (.var 1) (.bi .len [(.ix (.var 0) (.lit (.int 1)))])) (.ix (.ix (.var 0) (.lit (.int 1))) (.var 1)) (.call 57 [(.ix (.var 0) (.lit (.int 1))), (.ix (.var 0) (.lit (.int 2))), (.var 1)]))] [],
    .ite (.cmp .eq (.var 2) (.lit (.str "count"))) [.ret (.tup [(.ix (.var 0) (.lit (.int 1))), (.bin .add (.ix (.var 0) (.lit (.int 2))) (.bin .mul (.var 1) (.ix (.var 0) (.lit (.int 3)))))])] [],
    .ite (.cmp .eq (.var 2) (.lit (.str "list"))) [.ret (.ix (.ix (.var 0) (.lit (.int 1))) (.bin .mod (.bin .add (.ix (.var 0) (.lit (.int 2))) (.bin .mul (.var 1) (.ix (.var 0) (.lit (.int 3))))) (.bi .len [(.ix (.var 0) (.lit (.int 1)))])))] [],
    .ite (.cmp .eq (.var 2) (.lit (.str "round"))) [.ret (.ix (.ix (.var 0) (.lit (.int 1))) (.bin .mod (.var 1) (.bi .len [(.ix (.var 0) (.lit (.int 1)))])))] [],
    .ret (.call 58 [(.ix (.ix (.var 0) (.lit (.int 1))) (.bin .mod (.var 1) (.bi .len [(.ix (.var 0) (.lit (.int 1)))]))), (.bin .fdiv (.var 1) (.bi .len [(.ix (.var 0) (.lit (.int 1)))]))])]⟩
def d_need_number : LDef := ⟨3, 3, [.ite (.not (.call 20 [(.var 0), (.var 1), (.var 2)])) [.raise "InvalidNumber"] []]⟩
def d_need_filling : LDef := ⟨2, 2, [.exp (.call 47 [(.var 0)]),
    .exp (.call 39 [(.var 1)])]⟩
def d_cells_behind : LDef := ⟨3, 4, [.ret (.comp true .range [(.var 2)] (.one 3) [3] none (.call 58 [(.var 0), (.bin .add (.var 1) (.var 3))]))]⟩
def d_continued : LDef := ⟨3, 4, [.exp (.call 60 [(.var 0), (.var 1)]),
    .exp (.call 59 [(.var 2), (.lit (.int 0)), (.glo "FAR" (.int 60))]),
    .asg 3 (.call 54 [(.var 0), (.var 1)]),
    .ret (.ite (.cmp .is (.var 3) (.lit .none)) (.lit .none) (.call 61 [(.var 3), (.bi .len [(.var 1)]), (.var 2)]))]⟩
def d_cells_above : LDef := ⟨3, 4, [.asg 3 (.ix (.call 50 [(.var 0), (.slst (.var 1) none none (.neg (.lit (.int 1)))), (.glo "UP" (.int (-1)))]) (.lit (.int 1))),
    .ret (.ite (.cmp .is (.var 3) (.lit .none)) (.lit .none) (.call 61 [(.var 3), (.bi .len [(.var 1)]), (.var 2)]))]⟩
def d_above : LDef := ⟨3, 3, [.exp (.call 60 [(.var 0), (.var 1)]),
    .exp (.call 59 [(.var 2), (.lit (.int 0)), (.glo "FAR" (.int 60))]),
    .ret (.call 63 [(.var 0), (.var 1), (.var 2)])]⟩
def d_power_rest : LDef := ⟨3, 4, [.asg 3 (.bin .mod (.lit (.int 1)) (.var 2)),
    .whil (.cmp .gt (.var 1) (.lit (.int 0))) [.ite (.cmp .eq (.bin .mod (.var 1) (.lit (.int 2))) (.lit (.int 1))) [.asg 3 (.bin .mod (.bin .mul (.var 3) (.var 0)) (.var 2))] [],
    .asgT [0, 1] [(.bin .mod (.bin .mul (.var 0) (.var 0)) (.var 2)), (.bin .fdiv (.var 1) (.lit (.int 2)))]],
    .ret (.var 3)]⟩
def d_rest_in : LDef := ⟨3, 4, [.ite (.cmp .eq (.ix (.var 0) (.lit (.int 0))) (.lit (.str "times"))) [.ret (.bin .mod (.bin .mul (.ix (.var 0) (.lit (.int 1))) (.call 65 [(.ix (.var 0) (.lit (.int 2))), (.var 1), (.var 2)])) (.var 2))] [],
    .ite (.cmp .eq (.ix (.var 0) (.lit (.int 0))) (.lit (.str "woven"))) [.ret (.call 66 [(.ix (.ix (.var 0) (.lit (.int 1))) (.bin .mod (.var 1) (.bi .len [(.ix (.var 0) (.lit (.int 1)))]))), (.bin .fdiv (.var 1) (.bi .len [(.ix (.var 0) (.lit (.int 1)))])), (.var 2)])] [],
    .asg 3 (.call 58 [(.var 0), (.var 1)]),
    .ite (.call 1 [(.var 3)]) [.ret (.bin .mod (.var 3) (.var 2))] [],
    .ret (.ite (.call 3 [(.var 3)]) (.tup [(.ix (.var 3) (.lit (.int 0))), (.bin .mod (.ix (.var 3) (.lit (.int 1))) (.var 2))]) (.var 3))]⟩
def d_cell_at : LDef := ⟨3, 4, [.exp (.call 60 [(.var 0), (.var 1)]),
    .exp (.call 59 [(.var 2), (.lit (.int 0)), (.glo "FAR" (.int 60))]),
    .asg 3 (.call 54 [(.var 0), (.var 1)]),
    .ite (.cmp .is (.var 3) (.lit .none)) [.ret (.ite (.cmp .lt (.var 2) (.bi .len [(.var 1)])) (.ix (.var 1) (.var 2)) (.lit .none))] [],
    .ret (.call 58 [(.var 3), (.var 2)])]⟩
def d_rest_at : LDef := ⟨4, 5, [.exp (.call 60 [(.var 0), (.var 1)]),
    .exp (.call 59 [(.var 2), (.lit (.int 0)), (.glo "FARTHEST" (.int 1000000000000000))]),
    .exp (.call 59 [(.var 3), (.lit (.int 1)), (.glo "FARTHEST" (.int 1000000000000000))]),
    .asg 4 (.call 54 [(.var 0), (.var 1)]),
    .ite (.and (.cmp .is (.var 4) (.lit .none)) (.cmp .ge (.var 2) (.bi .len [(.var 1)]))) [.ret (.lit .none)] [],
    .ret (.call 66 [(.ite (.cmp .is (.var 4) (.lit .none)) (.tup [(.lit (.str "round")), (.var 1)]) (.var 4)), (.var 2), (.var 3)])]⟩
def d__law_product : LDef := ⟨3, 4, [.ite (.cmp .eq (.var 1) (.lit (.int 0))) [.ret (.bin .mod (.bi .int [(.lit (.int 1))]) (.var 2))] [],
    .asg 3 (.call 69 [(.var 0), (.bin .fdiv (.var 1) (.lit (.int 2))), (.var 2)]),
    .ret (.bin .mod (.bi .int [(.bin .mul (.bin .mul (.var 3) (.var 3)) (.ite (.cmp .eq (.bin .mod (.bi .int [(.var 1)]) (.lit (.int 2))) (.lit (.int 1))) (.var 0) (.lit (.int 1))))]) (.var 2))]⟩
def d__law_far : LDef := ⟨4, 17, [.unp [4, 5] (.var 0),
    .ite (.cmp .eq (.var 4) (.lit (.str "list"))) [.asg 6 (.comp false .seq [(.var 1)] (.one 15) [15] none (.meth .index (.bi .list [(.var 5)]) (.var 15))),
    .asg 13 (.ite (.cmp .eq (.bi .len [(.var 1)]) (.lit (.int 1))) (.lit (.int 1)) (.bin .sub (.ix (.var 6) (.lit (.int 1))) (.ix (.var 6) (.lit (.int 0))))),
    .ret (.ix (.var 5) (.bin .mod (.bi .int [(.bin .add (.ix (.var 6) (.lit (.int 0))) (.bin .mul (.var 2) (.var 13)))]) (.bi .len [(.var 5)])))] [],
    .ite (.cmp .eq (.var 4) (.lit (.str "count"))) [.asg 14 (.comp false .seq [(.var 1)] (.one 15) [15] none (.ix (.var 15) (.lit (.int 1)))),
    .ret (.tup [(.ix (.ix (.var 1) (.lit (.int 0))) (.lit (.int 0))), (.bin .mod (.bi .int [(.bin .add (.ix (.var 14) (.lit (.int 0))) (.bin .mul (.var 2) (.call 41 [(.var 14), (.lit (.int 1))])))]) (.var 3))])] [],
    .ite (.cmp .eq (.var 4) (.lit (.str "step"))) [.ret (.bin .mod (.bi .int [(.bin .add (.ix (.var 1) (.lit (.int 0))) (.bin .mul (.var 2) (.call 41 [(.bi .list [(.var 1)]), (.lit (.int 1))])))]) (.var 3))] [],
    .ite (.cmp .eq (.var 4) (.lit (.str "times"))) [.ret (.bin .mod (.bi .int [(.bin .mul (.ix (.var 1) (.lit (.int 0))) (.call 69 [(.call 42 [(.bi .list [(.var 1)])]), (.var 2), (.var 3)]))]) (.var 3))] [],
    .ite (.cmp .lt (.var 2) (.bi .len [(.var 1)])) [.ret (.bin .mod (.bi .int [(.ix (.var 1) (.var 2))]) (.var 3))] [],
    .asg 6 (.ext .lrange [(.bi .len [(.var 1)])]),
    .asgT [7, 8] [(.bi .sum [(.var 6)]), (.bi .sum [(.comp false .seq [(.var 6)] (.one 16) [16] none (.bin .mul (.var 16) (.var 16)))])],
    .asgT [9, 10] [(.bi .sum [(.var 1)]), (.bi .sum [(.comp false .seq [(.var 6)] (.one 16) [16] none (.bin .mul (.var 16) (.ix (.var 1) (.var 16))))])],
    .asg 11 (.bin .sub (.bin .mul (.bi .len [(.var 1)]) (.var 8)) (.bin .mul (.var 7) (.var 7))),
    .asg 12 (.bin .add (.bin .sub (.bin .mul (.var 9) (.var 8)) (.bin .mul (.var 7) (.var 10))) (.bin .mul (.bin .sub (.bin .mul (.bi .len [(.var 1)]) (.var 10)) (.bin .mul (.var 7) (.var 9))) (.var 2))),
    .ret (.bin .mod (.bi .int [(.ite (.cmp .eq (.var 5) (.lit (.str "down"))) (.bin .fdiv (.var 12) (.var 11)) (.bin .fdiv (.bin .add (.bin .mul (.lit (.int 2)) (.var 12)) (.var 11)) (.bin .mul (.lit (.int 2)) (.var 11))))]) (.var 3))]⟩
def d__law_rest : LDef := ⟨4, 7, [.asg 4 (.ix (.call 53 [(.var 0), (.var 1), (.lit (.int 1)), (.lit (.int 1))]) (.lit (.int 0))),
    .ite (.and (.cmp .eq (.var 4) (.lit (.str "stop"))) (.cmp .ge (.var 2) (.bi .len [(.var 1)]))) [.ret (.lit .none)] [],
    .ite (.or (.cmp .eq (.var 4) (.lit (.str "copy"))) (.cmp .eq (.var 4) (.lit (.str "stop")))) [.asg 5 (.ix (.var 1) (.bin .mod (.bi .int [(.var 2)]) (.bi .len [(.var 1)]))),
    .ite (.call 16 [(.var 5)]) [.ret (.bin .mod (.bi .int [(.var 5)]) (.var 3))] [],
    .ret (.ite (.isi (.var 5) .tuple) (.tup [(.ix (.var 5) (.lit (.int 0))), (.bin .mod (.bi .int [(.ix (.var 5) (.lit (.int 1)))]) (.var 3))]) (.var 5))] [],
    .ite (.cmp .eq (.var 4) (.lit (.str "woven"))) [.asg 6 (.slst (.var 1) (some (.bin .mod (.bi .int [(.var 2)]) (.ix (.var 0) (.lit (.int 1))))) none (.ix (.var 0) (.lit (.int 1)))),
    .ret (.call 70 [(.ix (.ix (.var 0) (.lit (.int 0))) (.ix (.call 52 [(.var 0), (.var 6), (.lit (.int 1)), (.lit (.int 1))]) (.lit (.int 0)))), (.var 6), (.bin .fdiv (.var 2) (.ix (.var 0) (.lit (.int 1)))), (.var 3)])] [],
    .ret (.call 70 [(.ix (.ix (.var 0) (.lit (.int 0))) (.var 4)), (.var 1), (.var 2), (.var 3)])]⟩
def d_step_place : LDef := ⟨3, 4, [.ite (.cmp .eq (.var 1) (.lit (.int 0))) [.ret (.ite (.cmp .eq (.var 0) (.var 2)) (.lit (.int 0)) (.lit .none))] [],
    .asg 3 (.bin .sub (.var 2) (.var 0)),
    .ret (.ite (.and (.cmp .eq (.bin .mod (.var 3) (.var 1)) (.lit (.int 0))) (.cmp .ge (.bin .fdiv (.var 3) (.var 1)) (.lit (.int 0)))) (.bin .fdiv (.var 3) (.var 1)) (.lit .none))]⟩
def d_times_place : LDef := ⟨3, 5, [.asgT [3, 4] [(.lit (.int 0)), (.var 0)],
    .whil (.cmp .lt (.bi .abs [(.var 4)]) (.bi .abs [(.var 2)])) [.asgT [3, 4] [(.bin .add (.var 3) (.lit (.int 1))), (.bin .mul (.var 4) (.var 1))]],
    .ret (.ite (.cmp .eq (.var 4) (.var 2)) (.var 3) (.lit .none))]⟩
def d_place_in : LDef := ⟨2, 8, [.asg 2 (.ix (.var 0) (.lit (.int 0))),
    .ite (.cmp .eq (.var 2) (.lit (.str "woven"))) [.asg 3 (.comp false .seq [(.ix (.var 0) (.lit (.int 1)))] (.one 5) [5] none (.call 75 [(.var 5), (.var 1)])),
    .asg 4 (.comp false .enum [(.var 3)] (.many [5, 6]) [5, 6] (some (.cmp .isn (.var 6) (.lit .none))) (.bin .add (.bin .mul (.var 6) (.bi .len [(.var 3)])) (.var 5))),
    .ret (.ite (.cmp .ne (.var 4) (.lst false [])) (.bi .min [(.var 4)]) (.lit .none))] [],
    .ite (.cmp .in_ (.var 2) (.tup [(.lit (.str "list")), (.lit (.str "round"))])) [.asg 3 (.comp false .range [(.bi .len [(.ix (.var 0) (.lit (.int 1)))])] (.one 7) [7] (some (.cmp .eq (.call 58 [(.var 0), (.var 7)]) (.var 1))) (.var 7)),
    .ret (.ite (.cmp .ne (.var 3) (.lst false [])) (.ix (.var 3) (.lit (.int 0))) (.lit .none))] [],
    .ite (.cmp .eq (.var 2) (.lit (.str "count"))) [.ret (.ite (.and (.call 3 [(.var 1)]) (.cmp .eq (.ix (.var 1) (.lit (.int 0))) (.ix (.var 0) (.lit (.int 1))))) (.call 72 [(.ix (.var 0) (.lit (.int 2))), (.ix (.var 0) (.lit (.int 3))), (.ix (.var 1) (.lit (.int 1)))]) (.lit .none))] [],
    .ite (.not (.call 1 [(.var 1)])) [.ret (.lit .none)] [],
    .ite (.cmp .eq (.var 2) (.lit (.str "step"))) [.ret (.call 72 [(.ix (.var 0) (.lit (.int 1))), (.ix (.var 0) (.lit (.int 2))), (.var 1)])] [],
    .ret (.ite (.cmp .eq (.var 2) (.lit (.str "times"))) (.call 73 [(.ix (.var 0) (.lit (.int 1))), (.ix (.var 0) (.lit (.int 2))), (.var 1)]) (.call 74 [(.ix (.var 0) (.lit (.int 1))), (.ix (.var 0) (.lit (.int 2))), (.var 1)]))]⟩
def d__law_place_of : LDef := ⟨3, 4, [.ite (.cmp .eq (.var 1) (.lit (.int 0))) [.ret (.ite (.cmp .eq (.var 2) (.var 0)) (.lit (.int 0)) (.lit .none))] [],
    .asg 3 (.bin .mul (.bin .sub (.var 2) (.var 0)) (.ite (.cmp .gt (.var 1) (.lit (.int 0))) (.lit (.int 1)) (.neg (.lit (.int 1))))),
    .ret (.ite (.and (.cmp .ge (.var 3) (.lit (.int 0))) (.cmp .eq (.bin .mod (.bi .int [(.var 3)]) (.bi .abs [(.var 1)])) (.lit (.int 0)))) (.bin .fdiv (.var 3) (.bi .abs [(.var 1)])) (.lit .none))]⟩
def d__law_by_line : LDef := ⟨3, 8, [.ite (.cmp .in_ (.var 2) (.var 0)) [.ret (.meth .index (.bi .list [(.var 0)]) (.var 2))] [],
    .asgT [3, 4] [(.bi .len [(.var 0)]), (.bin .add (.bi .len [(.var 0)]) (.lit (.int 1)))],
    .asg 5 (.cmp .ge (.call 79 [(.var 0), (.var 1), (.bin .pow (.lit (.int 10)) (.lit (.int 9)))]) (.call 79 [(.var 0), (.var 1), (.var 3)])),
    .asg 6 (.ite (.var 5) (.lit (.int 1)) (.neg (.lit (.int 1)))),
    .whil (.and (.cmp .lt (.bin .mul (.var 6) (.call 79 [(.var 0), (.var 1), (.var 4)])) (.bin .mul (.var 6) (.var 2))) (.cmp .lt (.var 4) (.bin .pow (.lit (.int 10)) (.lit (.int 60))))) [.asg 4 (.bin .mul (.lit (.int 2)) (.var 4))],
    .whil (.cmp .lt (.var 3) (.var 4)) [.asg 7 (.bin .fdiv (.bin .add (.var 3) (.var 4)) (.lit (.int 2))),
    .ite (.cmp .lt (.bin .mul (.var 6) (.call 79 [(.var 0), (.var 1), (.var 7)])) (.bin .mul (.var 6) (.var 2))) [.asg 3 (.bin .add (.var 7) (.lit (.int 1)))] [.asg 4 (.var 7)]],
    .ret (.ite (.cmp .eq (.call 79 [(.var 0), (.var 1), (.var 3)]) (.var 2)) (.var 3) (.lit .none))]⟩
def d__law_line_at : LDef := ⟨3, 11, [.asg 3 (.ext .lrange [(.bi .len [(.var 0)])]),
    .asgT [4, 5] [(.bi .sum [(.var 3)]), (.bi .sum [(.comp false .seq [(.var 3)] (.one 10) [10] none (.bin .mul (.var 10) (.var 10)))])],
    .asgT [6, 7] [(.bi .sum [(.var 0)]), (.bi .sum [(.comp false .seq [(.var 3)] (.one 10) [10] none (.bin .mul (.var 10) (.ix (.var 0) (.var 10))))])],
    .asg 8 (.bin .sub (.bin .mul (.bi .len [(.var 0)]) (.var 5)) (.bin .mul (.var 4) (.var 4))),
    .asg 9 (.bin .add (.bin .sub (.bin .mul (.var 6) (.var 5)) (.bin .mul (.var 4) (.var 7))) (.bin .mul (.bin .sub (.bin .mul (.bi .len [(.var 0)]) (.var 7)) (.bin .mul (.var 4) (.var 6))) (.var 2))),
    .ret (.ite (.cmp .eq (.var 1) (.lit (.str "down"))) (.bin .fdiv (.var 9) (.var 8)) (.bin .fdiv (.bin .add (.bin .mul (.lit (.int 2)) (.var 9)) (.var 8)) (.bin .mul (.lit (.int 2)) (.var 8))))]⟩
def d__law_within : LDef := ⟨3, 7, [.unp [3, 4] (.var 0),
    .ite (.cmp .eq (.var 3) (.lit (.str "list"))) [.asg 5 (.call 44 [(.var 0), (.var 1), (.lit (.int 1)), (.bi .len [(.var 4)])]),
    .ret (.ite (.cmp .in_ (.var 2) (.var 5)) (.meth .index (.var 5) (.var 2)) (.lit .none))] [],
    .ite (.cmp .eq (.var 3) (.lit (.str "count"))) [.ite (.or (.not (.isi (.var 2) .tuple)) (.cmp .ne (.ix (.var 2) (.lit (.int 0))) (.ix (.ix (.var 1) (.lit (.int 0))) (.lit (.int 0))))) [.ret (.lit .none)] [],
    .ret (.call 77 [(.ix (.ix (.var 1) (.lit (.int 0))) (.lit (.int 1))), (.call 41 [(.comp false .seq [(.var 1)] (.one 6) [6] none (.ix (.var 6) (.lit (.int 1)))), (.lit (.int 1))]), (.ix (.var 2) (.lit (.int 1)))])] [],
    .ite (.not (.call 16 [(.var 2)])) [.ret (.lit .none)] [],
    .ite (.cmp .eq (.var 3) (.lit (.str "step"))) [.ret (.call 77 [(.ix (.var 1) (.lit (.int 0))), (.call 41 [(.bi .list [(.var 1)]), (.lit (.int 1))]), (.var 2)])] [],
    .ite (.cmp .eq (.var 3) (.lit (.str "line"))) [.ret (.call 78 [(.var 1), (.var 4), (.var 2)])] [],
    .asg 5 (.call 44 [(.var 0), (.var 1), (.lit (.int 1)), (.lit (.int 140))]),
    .ret (.ite (.cmp .in_ (.var 2) (.var 5)) (.meth .index (.var 5) (.var 2)) (.lit .none))]⟩
def d__law_place : LDef := ⟨3, 8, [.asg 3 (.ix (.call 53 [(.var 0), (.var 1), (.lit (.int 1)), (.lit (.int 1))]) (.lit (.int 0))),
    .ite (.or (.cmp .eq (.var 3) (.lit (.str "copy"))) (.cmp .eq (.var 3) (.lit (.str "stop")))) [.ret (.ite (.cmp .in_ (.var 2) (.var 1)) (.meth .index (.bi .list [(.var 1)]) (.var 2)) (.lit .none))] [],
    .ite (.cmp .eq (.var 3) (.lit (.str "woven"))) [.asg 4 (.lst false []),
    .for .range [(.ix (.var 0) (.lit (.int 1)))] (.one 5) [.asg 6 (.slst (.var 1) (some (.var 5)) none (.ix (.var 0) (.lit (.int 1)))),
    .asg 7 (.call 80 [(.ix (.ix (.var 0) (.lit (.int 0))) (.ix (.call 52 [(.var 0), (.var 6), (.lit (.int 1)), (.lit (.int 1))]) (.lit (.int 0)))), (.var 6), (.var 2)]),
    .asg 4 (.ite (.cmp .is (.var 7) (.lit .none)) (.var 4) (.bin .add (.var 4) (.lst false [(.bin .add (.bin .mul (.var 7) (.ix (.var 0) (.lit (.int 1)))) (.var 5))])))],
    .ret (.ite (.cmp .ne (.var 4) (.lst false [])) (.bi .min [(.var 4)]) (.lit .none))] [],
    .ret (.call 80 [(.ix (.ix (.var 0) (.lit (.int 0))) (.var 3)), (.var 1), (.var 2)])]⟩
def d_first_other : LDef := ⟨2, 3, [.ite (.cmp .eq (.var 0) (.var 1)) [.ret (.lit .none)] [],
    .for .range [(.glo "LOOKED" (.int 300))] (.one 2) [.ite (.cmp .ne (.call 58 [(.var 0), (.var 2)]) (.call 58 [(.var 1), (.var 2)])) [.ret (.var 2)] []],
    .ret (.lit .none)]⟩
def d_parting_place : LDef := ⟨3, 5, [.exp (.call 47 [(.var 0)]),
    .exp (.call 47 [(.var 1)]),
    .exp (.call 39 [(.var 2)]),
    .asgT [3, 4] [(.call 54 [(.var 0), (.var 2)]), (.call 54 [(.var 1), (.var 2)])],
    .ite (.or (.cmp .is (.var 3) (.lit .none)) (.cmp .is (.var 4) (.lit .none))) [.ret (.ite (.and (.cmp .is (.var 3) (.lit .none)) (.cmp .is (.var 4) (.lit .none))) (.lit .none) (.bi .len [(.var 2)]))] [],
    .ret (.call 82 [(.var 3), (.var 4)])]⟩
def d__law_near : LDef := ⟨2, 7, [.asgT [2, 3] [(.ix (.var 1) (.lit (.int 0))), (.call 10 [(.var 0), (.lit (.int 7))])],
    .ite (.cmp .eq (.var 3) (.lit (.int 0))) [.ret (.tup [(.var 2), (.ix (.lst false [(.lit (.int 0)), (.lit (.int 2)), (.lit (.int 3))]) (.call 10 [(.var 0), (.lit (.int 3))])), (.ix (.var 1) (.lit (.int 2)))])] [],
    .ite (.cmp .eq (.var 3) (.lit (.int 1))) [.ret (.tup [(.var 2), (.ix (.var 1) (.lit (.int 1))), (.ix (.lst false [(.lit (.str "copy")), (.lit (.str "stop"))]) (.call 10 [(.var 0), (.lit (.int 2))]))])] [],
    .ite (.or (.cmp .eq (.var 3) (.lit (.int 2))) (.cmp .eq (.var 2) (.tup []))) [.asg 5 (.call 25 [(.var 0)]),
    .ret (.ite (.or (.cmp .in_ (.var 5) (.var 2)) (.cmp .eq (.bi .len [(.var 2)]) (.lit (.int 5)))) (.var 1) (.bin .add (.tup [(.bin .add (.var 2) (.tup [(.var 5)]))]) (.sl (.var 1) (some (.lit (.int 1))) none)))] [],
    .asg 4 (.call 10 [(.var 0), (.bi .len [(.var 2)])]),
    .ite (.cmp .eq (.var 3) (.lit (.int 3))) [.ret (.bin .add (.tup [(.bin .add (.sl (.var 2) none (some (.var 4))) (.sl (.var 2) (some (.bin .add (.var 4) (.lit (.int 1)))) none))]) (.sl (.var 1) (some (.lit (.int 1))) none))] [],
    .ite (.cmp .eq (.var 3) (.lit (.int 4))) [.asg 6 (.slst (.sl (.var 2) (some (.var 4)) (some (.bin .add (.var 4) (.lit (.int 2))))) none none (.neg (.lit (.int 1)))),
    .ret (.bin .add (.tup [(.bin .add (.bin .add (.sl (.var 2) none (some (.var 4))) (.var 6)) (.sl (.var 2) (some (.bin .add (.var 4) (.lit (.int 2)))) none))]) (.sl (.var 1) (some (.lit (.int 1))) none))] [],
    .asg 5 (.call 25 [(.var 0)]),
    .ite (.and (.cmp .eq (.var 3) (.lit (.int 5))) (.cmp .in_ (.ix (.ix (.var 2) (.var 4)) (.lit (.int 0))) (.lst false [(.lit (.str "step")), (.lit (.str "times")), (.lit (.str "count"))]))) [.asg 5 (.tup [(.ix (.ix (.var 2) (.var 4)) (.lit (.int 0))), (.bin .add (.lit (.int 2)) (.call 10 [(.var 0), (.lit (.int 2))]))])] [],
    .ite (.cmp .in_ (.var 5) (.var 2)) [.ret (.var 1)] [],
    .ret (.bin .add (.tup [(.bin .add (.bin .add (.sl (.var 2) none (some (.var 4))) (.tup [(.var 5)])) (.sl (.var 2) (some (.bin .add (.var 4) (.lit (.int 1)))) none))]) (.sl (.var 1) (some (.lit (.int 1))) none))]⟩
def d_law_k15 : LDef := ⟨1, 15, [.for .range [(.lit (.int 10))] (.one 1) [.asg 4 (.call 9 [(.var 0), (.var 1)]),
    .for .range [(.lit (.int 8))] (.one 5) [.asgT [6, 7] [(.call 26 [(.var 4), (.lit (.int 5))]), (.call 15 [(.var 4)])],
    .asg 8 (.call 11 [(.var 4), (.lst false [(.call 84 [(.var 4), (.var 6)]), (.call 26 [(.var 4), (.lit (.int 5))]), (.var 6)])]),
    .asgT [9, 10] [(.ix (.call 53 [(.var 6), (.var 7), (.lit (.int 1)), (.lit (.int 130))]) (.lit (.int 1))), (.ix (.call 53 [(.var 8), (.var 7), (.lit (.int 1)), (.lit (.int 130))]) (.lit (.int 1)))],
    .ite (.or (.cmp .is (.var 9) (.lit .none)) (.cmp .is (.var 10) (.lit .none))) [.asg 12 (.ite (.and (.cmp .is (.var 9) (.lit .none)) (.cmp .is (.var 10) (.lit .none))) (.lit .none) (.bi .len [(.var 7)]))] [.asg 13 (.comp false .range [(.bin .add (.bi .len [(.var 7)]) (.lit (.int 130)))] (.one 14) [14] (some (.cmp .ne (.ix (.var 9) (.var 14)) (.ix (.var 10) (.var 14)))) (.var 14)),
    .asg 12 (.ite (.cmp .ne (.var 13) (.lst false [])) (.ix (.var 13) (.lit (.int 0))) (.lit .none))],
    .asg 11 (.call 83 [(.var 6), (.var 8), (.var 7)]),
    .ite (.or (.cmp .ne (.var 11) (.var 12)) (.or (.cmp .ne (.call 83 [(.var 8), (.var 6), (.var 7)]) (.var 12)) (.isi (.var 11) .bool))) [.ret (.lit (.bool false))] [],
    .ite (.cmp .isn (.call 83 [(.var 6), (.var 6), (.var 7)]) (.lit .none)) [.ret (.lit (.bool false))] []]],
    .asgT [2, 3] [(.tup [(.tup [(.tup [(.lit (.str "line")), (.lit (.str "down"))])]), (.lit (.int 0)), (.lit (.str "stop"))]), (.tup [(.tup [(.tup [(.lit (.str "line")), (.lit (.str "half"))])]), (.lit (.int 0)), (.lit (.str "stop"))])],
    .ite (.or (.cmp .isn (.call 83 [(.var 2), (.var 3), (.tup [(.lit (.int 1)), (.lit (.int 5))])]) (.lit .none)) (.cmp .isn (.call 83 [(.var 2), (.var 3), (.tup [(.lit (.int 0)), (.lit (.int 3)), (.lit (.int 0))])]) (.lit .none))) [.ret (.lit (.bool false))] [],
    .ite (.cmp .ne (.call 83 [(.var 2), (.tup [(.tup []), (.lit (.int 0)), (.lit (.str "copy"))]), (.tup [(.lit (.str "a")), (.lit (.str "b"))])]) (.lit (.int 2))) [.ret (.lit (.bool false))] [],
    .ite (.cmp .isn (.call 83 [(.var 2), (.tup [(.tup [(.tup [(.lit (.str "step")), (.lit (.int 2))])]), (.lit (.int 0)), (.lit (.str "stop"))]), (.tup [(.lit (.int 2)), (.lit (.int 4))])]) (.lit .none)) [.ret (.lit (.bool false))] [],
    .ret (.cmp .eq (.call 83 [(.var 2), (.var 3), (.tup [(.lit (.int 0)), (.lit (.int 0)), (.lit (.int 1))])]) (.lit (.int 4)))]⟩
def d__law_fitting : LDef := ⟨2, 12, [.unp [2, 3] (.var 1),
    .asg 4 (.bin .add (.lit (.int 1)) (.call 10 [(.var 0), (.lit (.int 6))])),
    .ite (.cmp .eq (.var 2) (.lit (.str "list"))) [.asgT [5, 6] [(.call 10 [(.var 0), (.bi .len [(.var 3)])]), (.call 10 [(.var 0), (.bi .len [(.var 3)])])],
    .ret (.bi .tuple [(.comp false .range [(.var 4)] (.one 10) [10] none (.ix (.var 3) (.bin .mod (.bi .int [(.bin .add (.var 5) (.bin .mul (.var 10) (.var 6)))]) (.bi .len [(.var 3)]))))])] [],
    .asg 4 (.bi .max [(.var 4), (.var 3)]),
    .asgT [5, 6] [(.bin .sub (.call 10 [(.var 0), (.lit (.int 99))]) (.lit (.int 49))), (.bin .sub (.call 10 [(.var 0), (.lit (.int 99))]) (.lit (.int 49)))],
    .ite (.cmp .eq (.var 2) (.lit (.str "times"))) [.asgT [8, 9] [(.ix (.lst false [(.lit (.int 2)), (.neg (.lit (.int 2))), (.lit (.int 3)), (.lit (.int 10)), (.neg (.lit (.int 7)))]) (.call 10 [(.var 0), (.lit (.int 5))])), (.lst true [(.ite (.cmp .ne (.var 5) (.lit (.int 0))) (.var 5) (.lit (.int 5)))])],
    .for .range [(.bin .sub (.var 4) (.lit (.int 1)))] (.one 10) [.app (.var 9) (.bin .mul (.ix (.var 9) (.neg (.lit (.int 1)))) (.var 8))],
    .ret (.bi .tuple [(.var 9)])] [],
    .asg 7 (.comp false .range [(.var 4)] (.one 10) [10] none (.bin .add (.var 5) (.bin .mul (.var 10) (.var 6)))),
    .ret (.ite (.cmp .eq (.var 2) (.lit (.str "step"))) (.bi .tuple [(.var 7)]) (.bi .tuple [(.comp false .seq [(.var 7)] (.one 11) [11] none (.tup [(.lit (.str "box")), (.var 11)]))]))]⟩
def d_law_k16 : LDef := ⟨1, 12, [.for .range [(.lit (.int 10))] (.one 1) [.asg 2 (.call 9 [(.var 0), (.var 1)]),
    .for .range [(.lit (.int 10))] (.one 3) [.asg 4 (.call 25 [(.var 2)]),
    .asg 4 (.ite (.cmp .eq (.ix (.var 4) (.lit (.int 0))) (.lit (.str "line"))) (.tup [(.lit (.str "step")), (.lit (.int 2))]) (.var 4)),
    .asg 5 (.call 85 [(.var 2), (.var 4)]),
    .ite (.cmp .isn (.call 40 [(.var 4), (.var 5)]) (.lit (.bool true))) [.ret (.lit (.bool false))] [],
    .asg 6 (.tup [(.tup [(.var 4)]), (.lit (.int 0)), (.lit (.str "stop"))]),
    .asg 7 (.bin .add (.bi .list [(.var 5)]) (.call 62 [(.var 6), (.var 5), (.lit (.int 30))])),
    .for .range [(.lit (.int 4))] (.one 8) [.asgT [9, 10] [(.call 10 [(.var 2), (.lit (.int 30))]), (.bi .max [(.lit (.int 2)), (.bi .len [(.var 5)])])],
    .asg 11 (.bi .tuple [(.sl (.var 7) (some (.var 9)) (some (.bin .add (.var 9) (.var 10))))]),
    .ite (.and (.cmp .eq (.bi .len [(.var 11)]) (.var 10)) (.cmp .isn (.call 40 [(.var 4), (.var 11)]) (.lit (.bool true)))) [.ret (.lit (.bool false))] [],
    .ite (.cmp .le (.bin .add (.bin .add (.var 9) (.var 10)) (.lit (.int 3))) (.bi .len [(.var 7)])) [.ite (.cmp .ne (.call 62 [(.var 6), (.var 11), (.lit (.int 3))]) (.sl (.var 7) (some (.bin .add (.var 9) (.var 10))) (some (.bin .add (.bin .add (.var 9) (.var 10)) (.lit (.int 3)))))) [.ret (.lit (.bool false))] []] []]]],
    .ret (.and (.call 40 [(.tup [(.lit (.str "list")), (.tup [(.lit (.str "a")), (.lit (.str "b"))])]), (.tup [(.lit (.str "b")), (.lit (.str "b")), (.lit (.str "b"))])]) (.call 40 [(.tup [(.lit (.str "times")), (.lit (.int 2))]), (.tup [(.lit (.int 1)), (.neg (.lit (.int 2))), (.lit (.int 4)), (.neg (.lit (.int 8))), (.lit (.int 16)), (.neg (.lit (.int 32)))])]))]⟩
def d_same : LDef := ⟨2, 2, [.ite (.or (.cmp .is (.var 0) (.lit .none)) (.cmp .is (.var 1) (.lit .none))) [.ret (.and (.cmp .is (.var 0) (.lit .none)) (.cmp .is (.var 1) (.lit .none)))] [],
    .ret (.cmp .is (.call 82 [(.var 0), (.var 1)]) (.lit .none))]⟩
def d_turned : LDef := ⟨1, 2, [.ret (.comp false .range [(.bi .len [(.var 0)])] (.one 1) [1] none (.bin .add (.sl (.var 0) (some (.var 1)) none) (.sl (.var 0) none (some (.var 1)))))]⟩
def d_steps_of : LDef := ⟨3, 4, [.ret (.bi .tuple [(.comp false .range [(.var 2)] (.one 3) [3] none (.bin .add (.var 0) (.bin .mul (.var 3) (.var 1))))])]⟩
def d_factors_of : LDef := ⟨3, 4, [.ret (.bi .tuple [(.comp false .range [(.var 2)] (.one 3) [3] none (.bin .mul (.var 0) (.call 55 [(.var 1), (.var 3)])))])]⟩
def d_small_rows : LDef := ⟨1, 5, [.asg 1 (.lst false [(.tup [])]),
    .for .range [(.var 0)] (.one 2) [.asg 1 (.comp2 false .seq [(.var 1)] (.one 3) none .seq [(.glo "SMALL" (.tuple [(.int (-4)), (.int (-3)), (.int (-2)), (.int (-1)), (.int 0), (.int 1), (.int 2), (.int 3), (.int 4)]))] (.one 4) [4] none [3, 4] (.bin .add (.var 3) (.tup [(.var 4)])))],
    .ret (.var 1)]⟩
def d_number_rows : LDef := ⟨1, 8, [.asg 1 (.ite (.cmp .le (.var 0) (.lit (.int 2))) (.call 90 [(.var 0)]) (.lst false [])),
    .asg 2 (.comp false .seq [(.glo "STARTS" (.tuple [(.tuple [(.int 5), (.int 0)]), (.tuple [(.int 0), (.int 0)]), (.tuple [(.int 1), (.int 2)]), (.tuple [(.int 0), (.int (-2))]), (.tuple [(.int 1), (.int 1)]), (.tuple [(.int (-1)), (.int 2)])]))] (.many [4, 5]) [4, 5] none (.call 88 [(.var 4), (.var 5), (.var 0)])),
    .asg 2 (.bin .add (.var 2) (.comp false .seq [(.glo "FACTORS" (.tuple [(.tuple [(.int 1), (.int 2)]), (.tuple [(.int 1), (.int (-2))]), (.tuple [(.int 2), (.int 3)]), (.tuple [(.int 2), (.int 2)]), (.tuple [(.int 3), (.int 2)]), (.tuple [(.int (-3)), (.int (-2))]), (.tuple [(.int 1), (.int 3)])]))] (.many [4, 6]) [4, 6] none (.call 89 [(.var 4), (.var 6), (.var 0)]))),
    .for .seq [(.var 2)] (.one 3) [.asg 1 (.bin .add (.bin .add (.var 1) (.call 87 [(.var 3)])) (.call 87 [(.slst (.var 3) none none (.neg (.lit (.int 1))))]))],
    .asg 1 (.bin .add (.var 1) (.comp false .range [(.var 0)] (.one 7) [7] none (.bin .add (.bin .add (.bin .mul (.tup [(.lit (.int 0))]) (.var 7)) (.tup [(.lit (.int 1))])) (.bin .mul (.tup [(.lit (.int 0))]) (.bin .sub (.bin .sub (.var 0) (.var 7)) (.lit (.int 1))))))),
    .ret (.bin .add (.var 1) (.comp false .seq [(.glo "ODD" (.tuple [(.tuple [(.int 1), (.int 1), (.int 2), (.int 3), (.int 5), (.int 8)]), (.tuple [(.int 5), (.int 1), (.int 4), (.int 1), (.int 9), (.int 2)]), (.tuple [(.int 0), (.int 0), (.int 0), (.int 0), (.int 0), (.int 2)]), (.tuple [(.int 2), (.int 0), (.int 0), (.int 0), (.int 0), (.int 0)]), (.tuple [(.int 7), (.int 7), (.int 1), (.int 1), (.int 7), (.int 7)])]))] (.one 3) [3] none (.sl (.var 3) none (some (.var 0)))))]⟩
def d_counted_rows : LDef := ⟨1, 6, [.asg 1 (.lst false []),
    .for .seq [(.tup [(.tup [(.lit (.int 3)), (.lit (.int 0))]), (.tup [(.lit (.int 1)), (.lit (.int 1))]), (.tup [(.lit (.int 5)), (.neg (.lit (.int 2)))]), (.tup [(.lit (.int 1)), (.lit (.int 2))])])] (.many [2, 3]) [.asg 1 (.bin .add (.var 1) (.call 87 [(.bi .tuple [(.comp false .seq [(.call 88 [(.var 2), (.var 3), (.var 0)])] (.one 5) [5] none (.tup [(.lit (.str "qz")), (.var 5)]))])]))],
    .asg 1 (.bin .add (.var 1) (.lst false [(.bi .tuple [(.comp false .range [(.var 0)] (.one 4) [4] none (.tup [(.lit (.str "qz")), (.bin .mul (.var 4) (.var 4))]))])])),
    .ret (.bin .add (.var 1) (.lst false [(.bi .tuple [(.comp false .range [(.var 0)] (.one 4) [4] none (.tup [(.ix (.glo "NEW" (.tuple [(.str "qz"), (.str "qy")])) (.bin .mod (.var 4) (.lit (.int 2)))), (.lit (.int 1))]))])]))]⟩
def d_walk : LDef := ⟨4, 5, [.ret (.bi .tuple [(.comp false .range [(.var 3)] (.one 4) [4] none (.ix (.var 0) (.bin .mod (.bin .add (.var 1) (.bin .mul (.var 4) (.var 2))) (.bi .len [(.var 0)]))))])]⟩
def d_walks : LDef := ⟨2, 5, [.asg 2 (.ext .lrange [(.bi .len [(.var 0)])]),
    .ret (.comp2 false .seq [(.var 2)] (.one 3) none .seq [(.var 2)] (.one 4) [4] none [3, 4] (.call 93 [(.var 0), (.var 3), (.var 4), (.var 1)]))]⟩
def d_plain_rows : LDef := ⟨2, 4, [.asg 2 (.bi .tuple [(.comp false .range [(.var 1)] (.one 3) [3] none (.ix (.tup [(.lit (.int 1)), (.ix (.glo "NEW" (.tuple [(.str "qz"), (.str "qy")])) (.lit (.int 0))), (.tup [(.ix (.glo "NEW" (.tuple [(.str "qz"), (.str "qy")])) (.lit (.int 0))), (.lit (.int 1))])]) (.bin .mod (.var 3) (.lit (.int 3)))))]),
    .ret (.bin .add (.bin .add (.bin .add (.call 91 [(.var 1)]) (.call 92 [(.var 1)])) (.call 95 [(.var 0), (.var 1)])) (.lst false [(.var 2)]))]⟩
def d_all_parts : LDef := ⟨2, 6, [.asg 2 (.bi .list [(.ite (.cmp .eq (.var 1) (.lit (.int 2))) (.glo "PAIRS" (.tuple [(.tuple [(.int 5), (.int 5)]), (.tuple [(.int 7), (.int 7)]), (.tuple [(.int 0), (.int 4)]), (.tuple [(.int 1), (.int 2)]), (.tuple [(.int 4), (.int 0)]), (.tuple [(.int 1), (.int (-2))]), (.tuple [(.int 3), (.int 6)]), (.tuple [(.int 2), (.int 1)]), (.tuple [(.int (-1)), (.int 5)]), (.tuple [(.int 1), (.int 7)]), (.tuple [(.int 3), (.int 9)]), (.tuple [(.int 2), (.int 8)])])) (.glo "TRIPLES" (.tuple [(.tuple [(.int 5), (.int 5), (.int 5)]), (.tuple [(.int 7), (.int 7), (.int 7)]), (.tuple [(.int 1), (.int 3), (.int 5)]), (.tuple [(.int 3), (.int 2), (.int 1)]), (.tuple [(.int 1), (.int 2), (.int 4)]), (.tuple [(.int 2), (.int 4), (.int 8)]), (.tuple [(.int 1), (.int (-2)), (.int 4)]), (.tuple [(.int 0), (.int 0), (.int 1)])])))]),
    .asg 2 (.bin .add (.bin .add (.call 97 [(.var 0), (.var 1)]) (.var 2)) (.comp false .seq [(.var 2)] (.one 4) [4] none (.bi .tuple [(.comp false .seq [(.var 4)] (.one 5) [5] none (.tup [(.lit (.str "qz")), (.var 5)]))]))),
    .for .seq [(.var 0)] (.one 3) [.asg 2 (.bin .add (.var 2) (.call 94 [(.var 3), (.var 1)]))],
    .asg 2 (.bin .add (.var 2) (.lst false [(.bin .mul (.tup [(.ix (.glo "NEW" (.tuple [(.str "qz"), (.str "qy")])) (.lit (.int 0)))]) (.var 1)), (.sl (.tup [(.ix (.glo "NEW" (.tuple [(.str "qz"), (.str "qy")])) (.lit (.int 0))), (.ix (.glo "NEW" (.tuple [(.str "qz"), (.str "qy")])) (.lit (.int 1))), (.ix (.glo "NEW" (.tuple [(.str "qz"), (.str "qy")])) (.lit (.int 1)))]) none (some (.var 1))), (.sl (.tup [(.lit (.int 1)), (.ix (.glo "NEW" (.tuple [(.str "qz"), (.str "qy")])) (.lit (.int 0))), (.lit (.int 2))]) none (some (.var 1)))])),
    .ret (.bin .add (.var 2) (.lst false [(.sl (.tup [(.tup [(.lit (.str "qz")), (.lit (.int 1))]), (.tup [(.lit (.str "qy")), (.lit (.int 2))]), (.tup [(.lit (.str "qz")), (.lit (.int 3))])]) none (some (.var 1)))]))]⟩
def d_woven_rows : LDef := ⟨2, 7, [.asg 2 (.lst false []),
    .ite (.cmp .in_ (.var 1) (.tup [(.lit (.int 4)), (.lit (.int 6))])) [.asgT [3, 4] [(.call 98 [(.var 0), (.bin .fdiv (.var 1) (.lit (.int 2)))]), (.call 97 [(.var 0), (.bin .fdiv (.var 1) (.lit (.int 2)))])],
    .asg 2 (.comp2 false .seq [(.var 3)] (.one 5) none .seq [(.var 4)] (.one 6) [6] none [5, 6] (.call 99 [(.tup [(.var 5), (.var 6)])])),
    .asg 2 (.bin .add (.var 2) (.comp2 false .seq [(.var 3)] (.one 5) none .seq [(.var 4)] (.one 6) [6] none [5, 6] (.call 99 [(.tup [(.var 6), (.var 5)])])))] [],
    .ite (.cmp .eq (.var 1) (.lit (.int 4))) [.ret (.bin .add (.var 2) (.lst false [(.tup [(.lit (.int 1)), (.lit (.int 2)), (.lit (.int 3)), (.lit (.int 4))]), (.tup [(.lit (.int 1)), (.neg (.lit (.int 1))), (.neg (.lit (.int 3))), (.neg (.lit (.int 5)))])]))] [],
    .ite (.cmp .eq (.var 1) (.lit (.int 6))) [.asgT [3, 4] [(.call 98 [(.var 0), (.lit (.int 2))]), (.call 97 [(.var 0), (.lit (.int 2))])],
    .asg 2 (.bin .add (.var 2) (.comp2 false .seq [(.var 3)] (.one 5) none .seq [(.var 4)] (.one 6) [6] none [5, 6] (.call 99 [(.tup [(.var 5), (.var 6), (.var 6)])]))),
    .asg 2 (.bin .add (.var 2) (.lst false [(.tup [(.neg (.lit (.int 1))), (.lit (.int 1)), (.lit (.int 3)), (.lit (.int 5)), (.lit (.int 7)), (.lit (.int 9))]), (.tup [(.lit (.int 1)), (.lit (.int 2)), (.lit (.int 3)), (.lit (.int 4)), (.lit (.int 5)), (.lit (.int 6))])]))] [],
    .ret (.var 2)]⟩
def d_selections : LDef := ⟨2, 5, [.asg 2 (.call 101 [(.var 0)]),
    .asg 3 (.cmp .ne (.comp false .seq [(.var 0)] (.one 4) [4] (some (.cmp .gt (.ix (.var 4) (.lit (.int 1))) (.lit (.int 0)))) (.lit (.int 1))) (.lst false [])),
    .ret (.bin .add (.call 96 [(.var 2), (.var 1)]) (.ite (.var 3) (.call 100 [(.var 2), (.var 1)]) (.lst false [])))]⟩
def d_parted_by : LDef := ⟨2, 4, [.ite (.cmp .eq (.var 0) (.var 1)) [.ret (.lit .none)] [],
    .for .range [(.lit (.int 1)), (.bin .add (.glo "MOST" (.int 6)) (.lit (.int 1)))] (.one 2) [.for .seq [(.call 102 [(.tup [(.var 0), (.var 1)]), (.var 2)])] (.one 3) [.ite (.not (.call 86 [(.call 54 [(.var 0), (.var 3)]), (.call 54 [(.var 1), (.var 3)])])) [.ret (.var 3)] []]],
    .ret (.lit .none)]⟩
def d_need_both : LDef := ⟨2, 2, [.exp (.call 47 [(.var 0)]),
    .exp (.call 47 [(.var 1)])]⟩
def d_alike : LDef := ⟨2, 2, [.exp (.call 104 [(.var 0), (.var 1)]),
    .ret (.cmp .is (.call 103 [(.var 0), (.var 1)]) (.lit .none))]⟩
def d_parting_selection : LDef := ⟨2, 2, [.exp (.call 104 [(.var 0), (.var 1)]),
    .ret (.call 103 [(.var 0), (.var 1)])]⟩
def d__law_alike_here : LDef := ⟨4, 6, [.asgT [4, 5] [(.ix (.call 53 [(.var 0), (.var 2), (.lit (.int 1)), (.var 3)]) (.lit (.int 1))), (.ix (.call 53 [(.var 1), (.var 2), (.lit (.int 1)), (.var 3)]) (.lit (.int 1)))],
    .ret (.cmp .eq (.var 4) (.var 5))]⟩
def d_law_k21 : LDef := ⟨1, 10, [.for .range [(.lit (.int 4))] (.one 1) [.asg 4 (.call 9 [(.var 0), (.var 1)]),
    .for .range [(.lit (.int 2))] (.one 5) [.asg 2 (.call 26 [(.var 4), (.lit (.int 4))]),
    .asg 6 (.call 84 [(.var 4), (.var 2)]),
    .asg 3 (.call 11 [(.var 4), (.lst false [(.var 6), (.var 6), (.call 26 [(.var 4), (.lit (.int 4))])])]),
    .asgT [7, 8] [(.call 105 [(.var 2), (.var 3)]), (.call 106 [(.var 2), (.var 3)])],
    .ite (.or (.not (.isi (.var 7) .bool)) (.or (.cmp .ne (.var 7) (.cmp .is (.var 8) (.lit .none))) (.cmp .ne (.call 105 [(.var 3), (.var 2)]) (.var 7)))) [.ret (.lit (.bool false))] [],
    .ite (.and (.cmp .isn (.var 8) (.lit .none)) (.or (.not (.chain .le .le (.lit (.int 1)) (.bi .len [(.var 8)]) (.lit (.int 6)))) (.call 107 [(.var 2), (.var 3), (.var 8), (.lit (.int 130))]))) [.ret (.lit (.bool false))] [],
    .for .range [(.ite (.var 7) (.lit (.int 40)) (.lit (.int 0)))] (.one 9) [.ite (.not (.call 107 [(.var 2), (.var 3), (.call 15 [(.var 4)]), (.lit (.int 40))])) [.ret (.lit (.bool false))] []],
    .ite (.or (.cmp .isn (.call 105 [(.var 2), (.var 2)]) (.lit (.bool true))) (.cmp .isn (.call 106 [(.var 3), (.var 3)]) (.lit .none))) [.ret (.lit (.bool false))] []]],
    .asgT [2, 3] [(.tup [(.tup [(.tup [(.lit (.str "step")), (.lit (.int 2))]), (.tup [(.lit (.str "line")), (.lit (.str "half"))])]), (.lit (.int 0)), (.lit (.str "stop"))]), (.tup [(.tup [(.tup [(.lit (.str "line")), (.lit (.str "half"))])]), (.lit (.int 0)), (.lit (.str "stop"))])],
    .ite (.or (.cmp .isn (.call 105 [(.var 2), (.var 3)]) (.lit (.bool true))) (.cmp .isn (.call 105 [(.var 3), (.tup [(.tup [(.tup [(.lit (.str "line")), (.lit (.str "down"))])]), (.lit (.int 0)), (.lit (.str "stop"))])]) (.lit (.bool false)))) [.ret (.lit (.bool false))] [],
    .ret (.cmp .is (.call 105 [(.tup [(.tup [(.tup [(.lit (.str "list")), (.tup [(.lit (.str "a")), (.lit (.str "b"))])])]), (.lit (.int 0)), (.lit (.str "stop"))]), (.tup [(.tup [(.tup [(.lit (.str "list")), (.tup [(.lit (.str "b")), (.lit (.str "a"))])])]), (.lit (.int 0)), (.lit (.str "stop"))])]) (.lit (.bool true)))]⟩
def d__law_more : LDef := ⟨2, 5, [.asg 2 (.lst true []),
    .for .seq [(.var 0)] (.one 3) [.asg 2 (.ext .madd [(.var 2), (.comp false .seq [(.var 1)] (.one 4) [4] none (.bin .add (.var 3) (.tup [(.var 4)])))])],
    .ret (.var 2)]⟩
def d__law_kinds : LDef := ⟨2, 10, [.asgT [2, 3, 4] [(.lst true [(.tup [])]), (.lst false [(.tup [])]), (.lst false [(.lit (.str "qz"))])],
    .for .seq [(.var 0)] (.one 5) [.asg 4 (.bin .add (.var 4) (.comp false .seq [(.var 5)] (.one 9) [9] (some (.cmp .nin (.var 9) (.var 4))) (.var 9)))],
    .for .range [(.var 1)] (.one 6) [.asg 2 (.call 108 [(.frz 2), (.ite (.cmp .lt (.var 1) (.lit (.int 3))) (.lst false [(.neg (.lit (.int 2))), (.neg (.lit (.int 1))), (.lit (.int 0)), (.lit (.int 1)), (.lit (.int 2)), (.lit (.int 3)), (.lit (.int 4))]) (.lst false [(.lit (.int 0)), (.lit (.int 1)), (.lit (.int 2)), (.lit (.int 4))]))]),
    .asg 3 (.ite (.cmp .lt (.var 1) (.lit (.int 4))) (.call 108 [(.var 3), (.sl (.var 4) none (some (.lit (.int 5))))]) (.lst false []))],
    .for .seq [(.lst false [(.tup [(.lit (.int 1)), (.lit (.int 0))]), (.tup [(.lit (.int 1)), (.lit (.int 1))]), (.tup [(.lit (.int 3)), (.neg (.lit (.int 2)))])])] (.many [7, 8]) [.app (.var 2) (.bi .tuple [(.comp false .range [(.var 1)] (.one 6) [6] none (.tup [(.lit (.str "qz")), (.bin .add (.var 7) (.bin .mul (.var 6) (.var 8)))]))])],
    .app (.var 2) (.bi .tuple [(.comp false .range [(.var 1)] (.one 6) [6] none (.tup [(.lit (.str "qz")), (.bin .mul (.var 6) (.var 6))]))]),
    .ret (.bin .add (.var 2) (.var 3))]⟩
def d__law_lists_of : LDef := ⟨1, 4, [.asg 1 (.lst false []),
    .for .seq [(.var 0)] (.one 2) [.asg 1 (.bin .add (.var 1) (.comp false .seq [(.ix (.var 2) (.lit (.int 0)))] (.one 3) [3] (some (.cmp .eq (.ix (.var 3) (.lit (.int 0))) (.lit (.str "list")))) (.ix (.var 3) (.lit (.int 1)))))],
    .ret (.var 1)]⟩
def d_law_k22 : LDef := ⟨1, 14, [.for .range [(.lit (.int 3))] (.one 1) [.asg 8 (.call 9 [(.var 0), (.var 1)]),
    .asg 6 (.call 26 [(.var 8), (.lit (.int 3))]),
    .asg 9 (.call 84 [(.var 8), (.var 6)]),
    .asg 7 (.call 11 [(.var 8), (.lst false [(.var 9), (.var 9), (.call 26 [(.var 8), (.lit (.int 2))])])]),
    .asgT [10, 11] [(.call 106 [(.var 6), (.var 7)]), (.call 110 [(.tup [(.var 6), (.var 7)])])],
    .for .range [(.lit (.int 1)), (.ite (.cmp .is (.var 10) (.lit .none)) (.lit (.int 4)) (.bi .min [(.lit (.int 4)), (.bi .len [(.var 10)])]))] (.one 5) [.for .seq [(.call 109 [(.var 11), (.var 5)])] (.one 13) [.ite (.not (.call 107 [(.var 6), (.var 7), (.var 13), (.lit (.int 24))])) [.ret (.lit (.bool false))] []]],
    .ite (.and (.cmp .isn (.var 10) (.lit .none)) (.call 107 [(.var 6), (.var 7), (.var 10), (.lit (.int 130))])) [.ret (.lit (.bool false))] []],
    .asg 2 (.lst false [(.tup [(.tup [(.lit (.str "step")), (.lit (.int 1))]), (.tup [(.lit (.str "step")), (.lit (.int 2))]), (.lit (.int 1))]), (.tup [(.tup [(.lit (.str "step")), (.lit (.int 2))]), (.tup [(.lit (.str "step")), (.lit (.int 3))]), (.lit (.int 2))]), (.tup [(.tup [(.lit (.str "step")), (.lit (.int 3))]), (.tup [(.lit (.str "step")), (.lit (.int 4))]), (.lit (.int 3))])]),
    .asg 2 (.bin .add (.var 2) (.lst false [(.tup [(.tup [(.lit (.str "times")), (.lit (.int 2))]), (.tup [(.lit (.str "times")), (.lit (.int 3))]), (.lit (.int 2))]), (.tup [(.tup [(.lit (.str "times")), (.lit (.int 3))]), (.tup [(.lit (.str "times")), (.lit (.int 4))]), (.lit (.int 3))]), (.tup [(.tup [(.lit (.str "count")), (.lit (.int 1))]), (.tup [(.lit (.str "count")), (.lit (.int 3))]), (.lit (.int 1))])])),
    .asg 2 (.bin .add (.var 2) (.lst false [(.tup [(.tup [(.lit (.str "line")), (.lit (.str "down"))]), (.tup [(.lit (.str "line")), (.lit (.str "half"))]), (.lit (.int 3))]), (.tup [(.tup [(.lit (.str "list")), (.tup [(.lit (.str "a")), (.lit (.str "b")), (.lit (.str "c"))])]), (.tup [(.lit (.str "list")), (.tup [(.lit (.str "c")), (.lit (.str "b")), (.lit (.str "a"))])]), (.lit (.int 1))])])),
    .for .seq [(.var 2)] (.many [3, 4, 5]) [.for .seq [(.lst false [(.lit (.str "copy")), (.lit (.str "stop"))])] (.one 12) [.ite (.cmp .ne (.bi .len [(.call 106 [(.tup [(.tup [(.var 3)]), (.lit (.int 0)), (.var 12)]), (.tup [(.tup [(.var 4)]), (.lit (.int 0)), (.var 12)])])]) (.var 5)) [.ret (.lit (.bool false))] []]],
    .asgT [6, 7] [(.tup [(.tup [(.tup [(.lit (.str "step")), (.lit (.int 2))])]), (.lit (.int 2)), (.lit (.str "stop"))]), (.tup [(.tup [(.tup [(.lit (.str "step")), (.lit (.int 2))])]), (.lit (.int 3)), (.lit (.str "stop"))])],
    .ret (.and (.cmp .eq (.bi .len [(.call 106 [(.var 6), (.var 7)])]) (.lit (.int 4))) (.cmp .eq (.bi .len [(.call 106 [(.bin .add (.sl (.var 6) none (some (.lit (.int 1)))) (.tup [(.lit (.int 0)), (.lit (.str "stop"))])), (.var 7)])]) (.lit (.int 6))))]⟩
def d__law_pairs : LDef := ⟨0, 8, [.asgT [0, 1, 2, 3] [(.tup [(.lit (.str "step")), (.lit (.int 2))]), (.tup [(.lit (.str "times")), (.lit (.int 2))]), (.tup [(.lit (.str "line")), (.lit (.str "down"))]), (.tup [(.lit (.str "line")), (.lit (.str "half"))])],
    .asgT [4, 5] [(.tup [(.lit (.str "list")), (.tup [(.lit (.str "a")), (.lit (.str "b")), (.lit (.str "c"))])]), (.tup [(.lit (.str "list")), (.tup [(.lit (.str "c")), (.lit (.str "a")), (.lit (.str "b"))])])],
    .asg 6 (.tup [(.lit (.str "list")), (.tup [(.lit (.str "c")), (.lit (.str "b")), (.lit (.str "a"))])]),
    .asg 7 (.lst false [(.tup [(.tup [(.var 0), (.var 2)]), (.lit (.int 0)), (.tup [(.var 2)]), (.lit (.int 0)), (.lit (.bool true))]), (.tup [(.tup [(.var 2), (.var 0)]), (.lit (.int 0)), (.tup [(.var 2)]), (.lit (.int 2)), (.lit (.bool true))])]),
    .asg 7 (.bin .add (.var 7) (.lst false [(.tup [(.tup [(.var 0)]), (.lit (.int 0)), (.tup [(.var 2)]), (.lit (.int 0)), (.lit (.bool false))])])),
    .asg 7 (.bin .add (.var 7) (.lst false [(.tup [(.tup [(.var 0), (.var 1)]), (.lit (.int 0)), (.tup [(.var 1), (.var 0)]), (.lit (.int 0)), (.lit (.bool false))])])),
    .asg 7 (.bin .add (.var 7) (.lst false [(.tup [(.tup [(.var 0), (.tup [(.lit (.str "times")), (.lit (.int 3))])]), (.lit (.int 0)), (.tup [(.tup [(.lit (.str "times")), (.lit (.int 3))]), (.var 0)]), (.lit (.int 0)), (.lit (.bool true))])])),
    .asg 7 (.bin .add (.var 7) (.lst false [(.tup [(.tup [(.var 1), (.var 2)]), (.lit (.int 0)), (.tup [(.var 2), (.var 1)]), (.lit (.int 0)), (.lit (.bool false))]), (.tup [(.tup [(.var 2), (.var 1)]), (.lit (.int 0)), (.tup [(.var 2)]), (.lit (.int 0)), (.lit (.bool true))])])),
    .asg 7 (.bin .add (.var 7) (.lst false [(.tup [(.tup [(.var 4)]), (.lit (.int 0)), (.tup [(.var 5)]), (.lit (.int 0)), (.lit (.bool true))]), (.tup [(.tup [(.var 4)]), (.lit (.int 0)), (.tup [(.var 6)]), (.lit (.int 0)), (.lit (.bool false))]), (.tup [(.tup [(.var 4), (.var 6)]), (.lit (.int 0)), (.tup [(.var 4)]), (.lit (.int 0)), (.lit (.bool true))])])),
    .asg 7 (.bin .add (.var 7) (.lst false [(.tup [(.tup [(.tup [(.lit (.str "step")), (.lit (.int 1))]), (.var 0)]), (.lit (.int 0)), (.tup [(.tup [(.lit (.str "step")), (.lit (.int 1))])]), (.lit (.int 0)), (.lit (.bool true))])])),
    .asg 7 (.bin .add (.var 7) (.lst false [(.tup [(.tup [(.var 0), (.tup [(.lit (.str "step")), (.lit (.int 1))])]), (.lit (.int 0)), (.tup [(.tup [(.lit (.str "step")), (.lit (.int 1))])]), (.lit (.int 0)), (.lit (.bool true))])])),
    .asg 7 (.bin .add (.var 7) (.lst false [(.tup [(.tup [(.var 2)]), (.lit (.int 0)), (.tup [(.var 3)]), (.lit (.int 0)), (.lit (.bool false))]), (.tup [(.tup [(.var 2), (.var 3)]), (.lit (.int 0)), (.tup [(.var 2)]), (.lit (.int 3)), (.lit (.bool true))]), (.tup [(.tup []), (.lit (.int 2)), (.tup []), (.lit (.int 3)), (.lit (.bool true))])])),
    .asg 7 (.bin .add (.var 7) (.lst false [(.tup [(.tup [(.tup [(.lit (.str "times")), (.lit (.int 4))])]), (.lit (.int 3)), (.tup [(.tup [(.lit (.str "times")), (.lit (.int 4))])]), (.lit (.int 0)), (.lit (.bool true))]), (.tup [(.tup [(.tup [(.lit (.str "step")), (.lit (.int 3))])]), (.lit (.int 2)), (.tup [(.tup [(.lit (.str "step")), (.lit (.int 3))])]), (.lit (.int 0)), (.lit (.bool false))])])),
    .asg 7 (.bin .add (.var 7) (.lst false [(.tup [(.tup [(.tup [(.lit (.str "step")), (.lit (.int 3))])]), (.lit (.int 3)), (.tup [(.tup [(.lit (.str "step")), (.lit (.int 3))])]), (.lit (.int 0)), (.lit (.bool true))])])),
    .ret (.bin .add (.var 7) (.lst false [(.tup [(.tup [(.tup [(.lit (.str "list")), (.tup [(.lit (.str "a")), (.lit (.str "b"))])])]), (.lit (.int 0)), (.tup [(.tup [(.lit (.str "list")), (.tup [(.lit (.str "b")), (.lit (.str "a"))])])]), (.lit (.int 0)), (.lit (.bool true))])]))]⟩
def d_law_k23 : LDef := ⟨1, 13, [.asg 1 (.call 111 []),
    .for .range [(.lit (.int 3))] (.one 2) [.asg 3 (.call 9 [(.var 0), (.var 2)]),
    .for .range [(.lit (.int 3))] (.one 4) [.asg 11 (.ix (.var 1) (.call 10 [(.var 3), (.bi .len [(.var 1)])])),
    .unp [6, 7, 8, 9, 10] (.var 11),
    .asg 12 (.call 11 [(.var 3), (.lst false [(.lit (.str "copy")), (.lit (.str "stop"))])]),
    .ite (.cmp .ne (.call 105 [(.tup [(.var 6), (.var 7), (.var 12)]), (.tup [(.var 8), (.var 9), (.var 12)])]) (.var 10)) [.ret (.lit (.bool false))] [],
    .ite (.and (.cmp .ne (.var 6) (.var 8)) (.call 105 [(.tup [(.var 6), (.lit (.int 0)), (.lit (.str "copy"))]), (.tup [(.var 8), (.lit (.int 0)), (.lit (.str "stop"))])])) [.ret (.lit (.bool false))] []],
    .asg 5 (.tup [(.lit (.str "list")), (.call 11 [(.var 3), (.lst false [(.tup [(.lit (.str "red")), (.lit (.str "blue"))]), (.tup [(.lit (.str "mon")), (.lit (.str "tue")), (.lit (.str "wed"))]), (.tup [(.lit (.str "no")), (.lit (.str "yes"))])])])]),
    .unp [6, 7, 8, 9, 10] (.ix (.var 1) (.call 10 [(.var 3), (.lit (.int 12))])),
    .ite (.and (.cmp .eq (.var 7) (.lit (.int 0))) (.cmp .eq (.var 9) (.lit (.int 0)))) [.ite (.cmp .ne (.call 105 [(.tup [(.bin .add (.tup [(.var 5)]) (.var 6)), (.lit (.int 0)), (.lit (.str "stop"))]), (.tup [(.bin .add (.var 8) (.tup [(.var 5)])), (.lit (.int 0)), (.lit (.str "stop"))])]) (.var 10)) [.ret (.lit (.bool false))] []] [],
    .ite (.cmp .isn (.call 105 [(.tup [(.tup [(.tup [(.lit (.str "count")), (.lit (.int 1))]), (.var 5)]), (.lit (.int 0)), (.lit (.str "stop"))]), (.tup [(.tup [(.var 5), (.tup [(.lit (.str "count")), (.lit (.int 1))])]), (.lit (.int 0)), (.lit (.str "stop"))])]) (.lit (.bool true))) [.ret (.lit (.bool false))] []],
    .ret (.and (.call 105 [(.tup [(.tup []), (.lit (.int 0)), (.lit (.str "copy"))]), (.tup [(.tup []), (.lit (.int 2)), (.lit (.str "copy"))])]) (.not (.call 105 [(.tup [(.tup []), (.lit (.int 0)), (.lit (.str "copy"))]), (.tup [(.tup []), (.lit (.int 0)), (.lit (.str "stop"))])])))]⟩
def d_goes_along : LDef := ⟨2, 5, [.for .range [(.lit (.int 1)), (.bin .add (.glo "MOST" (.int 6)) (.lit (.int 1)))] (.one 2) [.for .seq [(.call 102 [(.tup [(.var 0), (.var 1)]), (.var 2)])] (.one 3) [.asg 4 (.call 54 [(.var 0), (.var 3)]),
    .ite (.and (.cmp .isn (.var 4) (.lit .none)) (.not (.call 86 [(.var 4), (.call 54 [(.var 1), (.var 3)])]))) [.ret (.lit (.bool false))] []]],
    .ret (.lit (.bool true))]⟩
def d_is_within : LDef := ⟨2, 2, [.exp (.call 104 [(.var 0), (.var 1)]),
    .ret (.call 112 [(.var 0), (.var 1)])]⟩
def d_law_k24 : LDef := ⟨1, 11, [.for .range [(.lit (.int 2))] (.one 1) [.asg 4 (.call 9 [(.var 0), (.var 1)]),
    .asg 2 (.call 26 [(.var 4), (.lit (.int 3))]),
    .asg 3 (.call 11 [(.var 4), (.lst false [(.call 84 [(.var 4), (.var 2)]), (.bin .add (.sl (.var 2) none (some (.lit (.int 2)))) (.tup [(.lit (.str "copy"))])), (.bin .add (.sl (.var 2) none (some (.lit (.int 2)))) (.tup [(.lit (.str "stop"))]))])]),
    .asg 5 (.call 11 [(.var 4), (.lst false [(.call 84 [(.var 4), (.var 3)]), (.bin .add (.sl (.var 3) none (some (.lit (.int 2)))) (.tup [(.lit (.str "copy"))]))])]),
    .asgT [6, 7] [(.call 113 [(.var 2), (.var 3)]), (.call 113 [(.var 3), (.var 2)])],
    .ite (.or (.not (.isi (.var 6) .bool)) (.or (.cmp .ne (.call 105 [(.var 2), (.var 3)]) (.and (.var 6) (.var 7))) (.cmp .isn (.call 113 [(.var 2), (.var 2)]) (.lit (.bool true))))) [.ret (.lit (.bool false))] [],
    .ite (.and (.var 6) (.and (.call 113 [(.var 3), (.var 5)]) (.cmp .isn (.call 113 [(.var 2), (.var 5)]) (.lit (.bool true))))) [.ret (.lit (.bool false))] [],
    .ite (.cmp .isn (.call 113 [(.bin .add (.sl (.var 2) none (some (.lit (.int 2)))) (.tup [(.lit (.str "stop"))])), (.bin .add (.sl (.var 2) none (some (.lit (.int 2)))) (.tup [(.lit (.str "copy"))]))]) (.lit (.bool true))) [.ret (.lit (.bool false))] [],
    .ite (.cmp .isn (.call 113 [(.tup [(.tup []), (.lit (.int 0)), (.lit (.str "stop"))]), (.var 2)]) (.lit (.bool true))) [.ret (.lit (.bool false))] [],
    .ite (.cmp .isn (.call 113 [(.bin .add (.sl (.var 2) none (some (.lit (.int 2)))) (.tup [(.lit (.str "copy"))])), (.bin .add (.sl (.var 2) none (some (.lit (.int 2)))) (.tup [(.lit (.str "stop"))]))]) (.lit (.bool false))) [.ret (.lit (.bool false))] [],
    .for .range [(.ite (.var 6) (.lit (.int 40)) (.lit (.int 0)))] (.one 8) [.asg 9 (.call 15 [(.var 4)]),
    .asg 10 (.ix (.call 53 [(.var 2), (.var 9), (.lit (.int 1)), (.lit (.int 40))]) (.lit (.int 1))),
    .ite (.and (.cmp .isn (.var 10) (.lit .none)) (.cmp .ne (.var 10) (.ix (.call 53 [(.var 3), (.var 9), (.lit (.int 1)), (.lit (.int 40))]) (.lit (.int 1))))) [.ret (.lit (.bool false))] []]],
    .asgT [2, 3] [(.tup [(.tup [(.tup [(.lit (.str "step")), (.lit (.int 3))])]), (.lit (.int 0)), (.lit (.str "stop"))]), (.tup [(.tup [(.tup [(.lit (.str "step")), (.lit (.int 2))])]), (.lit (.int 0)), (.lit (.str "stop"))])],
    .ite (.or (.cmp .isn (.call 113 [(.var 2), (.var 3)]) (.lit (.bool true))) (.cmp .isn (.call 113 [(.var 3), (.var 2)]) (.lit (.bool false)))) [.ret (.lit (.bool false))] [],
    .ret (.cmp .is (.call 113 [(.tup [(.tup [(.tup [(.lit (.str "times")), (.lit (.int 2))])]), (.lit (.int 0)), (.lit (.str "stop"))]), (.tup [(.tup [(.tup [(.lit (.str "times")), (.lit (.int 2))]), (.tup [(.lit (.str "step")), (.lit (.int 2))])]), (.lit (.int 2)), (.lit (.str "stop"))])]) (.lit (.bool true)))]⟩
def d_with_guessers : LDef := ⟨2, 2, [.ret (.bin .add (.tup [(.var 1)]) (.sl (.var 0) (some (.lit (.int 1))) none))]⟩
def d_without : LDef := ⟨2, 2, [.ret (.call 114 [(.var 0), (.bin .add (.sl (.ix (.var 0) (.lit (.int 0))) none (some (.var 1))) (.sl (.ix (.var 0) (.lit (.int 0))) (some (.bin .add (.var 1) (.lit (.int 1)))) none))])]⟩
def d_needless : LDef := ⟨1, 2, [.exp (.call 47 [(.var 0)]),
    .ret (.comp false .range [(.bi .len [(.ix (.var 0) (.lit (.int 0)))])] (.one 1) [1] (some (.cmp .is (.call 103 [(.var 0), (.call 115 [(.var 0), (.var 1)])]) (.lit .none))) (.var 1))]⟩
def d_shortened : LDef := ⟨1, 4, [.exp (.call 47 [(.var 0)]),
    .asg 1 (.var 0),
    .for .range [(.bin .sub (.bi .len [(.ix (.var 0) (.lit (.int 0)))]) (.lit (.int 1))), (.neg (.lit (.int 1))), (.neg (.lit (.int 1)))] (.one 2) [.asg 3 (.call 115 [(.var 1), (.var 2)]),
    .ite (.cmp .is (.call 103 [(.var 0), (.var 3)]) (.lit .none)) [.asg 1 (.var 3)] []],
    .ret (.var 1)]⟩
def d_exchanged : LDef := ⟨2, 4, [.asg 2 (.ix (.var 0) (.lit (.int 0))),
    .asg 3 (.tup [(.ix (.var 2) (.bin .add (.var 1) (.lit (.int 1)))), (.ix (.var 2) (.var 1))]),
    .ret (.call 114 [(.var 0), (.bin .add (.bin .add (.sl (.var 2) none (some (.var 1))) (.var 3)) (.sl (.var 2) (some (.bin .add (.var 1) (.lit (.int 2)))) none))])]⟩
def d_exchangeable : LDef := ⟨1, 2, [.exp (.call 47 [(.var 0)]),
    .ret (.comp false .range [(.bin .sub (.bi .len [(.ix (.var 0) (.lit (.int 0)))]) (.lit (.int 1)))] (.one 1) [1] (some (.cmp .is (.call 103 [(.var 0), (.call 118 [(.var 0), (.var 1)])]) (.lit .none))) (.var 1))]⟩
def d_with_least : LDef := ⟨3, 4, [.asg 3 (.ix (.var 0) (.lit (.int 0))),
    .ret (.call 114 [(.var 0), (.bin .add (.bin .add (.sl (.var 3) none (some (.var 1))) (.tup [(.tup [(.ix (.ix (.var 3) (.var 1)) (.lit (.int 0))), (.var 2)])])) (.sl (.var 3) (some (.bin .add (.var 1) (.lit (.int 1)))) none))])]⟩
def d_leasts_of : LDef := ⟨2, 5, [.ite (.or (.not (.call 20 [(.var 1), (.lit (.int 0)), (.bin .sub (.bi .len [(.ix (.var 0) (.lit (.int 0)))]) (.lit (.int 1)))])) (.dnin "LEASTS" [("step", (.tuple [(.int 1), (.int 4)])), ("times", (.tuple [(.int 2), (.int 4)])), ("count", (.tuple [(.int 1), (.int 3)]))] (.ix (.ix (.ix (.var 0) (.lit (.int 0))) (.var 1)) (.lit (.int 0))))) [.raise "InvalidIndex"] [],
    .unp [2, 3] (.dix "LEASTS" [("step", (.tuple [(.int 1), (.int 4)])), ("times", (.tuple [(.int 2), (.int 4)])), ("count", (.tuple [(.int 1), (.int 3)]))] (.ix (.ix (.ix (.var 0) (.lit (.int 0))) (.var 1)) (.lit (.int 0)))),
    .ret (.comp false .range [(.var 2), (.bin .add (.var 3) (.lit (.int 1)))] (.one 4) [4] (some (.call 24 [(.call 120 [(.var 0), (.var 1), (.var 4)])])) (.var 4))]⟩
def d_same_leasts : LDef := ⟨2, 4, [.exp (.call 47 [(.var 0)]),
    .asg 2 (.call 121 [(.var 0), (.var 1)]),
    .ret (.comp false .seq [(.var 2)] (.one 3) [3] (some (.cmp .is (.call 103 [(.var 0), (.call 120 [(.var 0), (.var 1), (.var 3)])]) (.lit .none))) (.var 3))]⟩
def d_same_woven : LDef := ⟨1, 2, [.exp (.call 47 [(.var 0)]),
    .ret (.comp false .seq [(.tup [(.lit (.int 0)), (.lit (.int 2)), (.lit (.int 3))])] (.one 1) [1] (some (.cmp .is (.call 103 [(.var 0), (.tup [(.ix (.var 0) (.lit (.int 0))), (.var 1), (.ix (.var 0) (.lit (.int 2)))])]) (.lit .none))) (.var 1))]⟩
def d__law_leasts : LDef := ⟨2, 6, [.unp [2, 3] (.ext (.ddix [("step", (.tuple [(.int 1), (.int 4)])), ("times", (.tuple [(.int 2), (.int 4)])), ("count", (.tuple [(.int 1), (.int 3)]))]) [(.ix (.ix (.ix (.var 0) (.lit (.int 0))) (.var 1)) (.lit (.int 0)))]),
    .asg 4 (.bin .add (.sl (.ix (.var 0) (.lit (.int 0))) none (some (.var 1))) (.sl (.ix (.var 0) (.lit (.int 0))) (some (.bin .add (.var 1) (.lit (.int 1)))) none)),
    .ret (.comp false .range [(.var 2), (.bin .add (.var 3) (.lit (.int 1)))] (.one 5) [5] (some (.cmp .nin (.tup [(.ix (.ix (.ix (.var 0) (.lit (.int 0))) (.var 1)) (.lit (.int 0))), (.var 5)]) (.var 4))) (.var 5))]⟩
def d_first_cells : LDef := ⟨2, 3, [.ret (.comp false .range [(.var 1)] (.one 2) [2] none (.call 58 [(.var 0), (.var 2)]))]⟩
def d_shaken : LDef := ⟨1, 5, [.for .range [(.lit (.int 2)), (.bin .add (.glo "MOST" (.int 6)) (.lit (.int 1)))] (.one 1) [.for .range [(.lit (.int 1)), (.var 1)] (.one 2) [.for .seq [(.call 102 [(.tup [(.var 0)]), (.var 2)])] (.one 3) [.asg 4 (.call 54 [(.var 0), (.var 3)]),
    .ite (.and (.cmp .isn (.var 4) (.lit .none)) (.not (.call 86 [(.var 4), (.call 54 [(.var 0), (.bi .tuple [(.call 125 [(.var 4), (.var 1)])])])]))) [.ret (.tup [(.var 3), (.bin .sub (.var 1) (.var 2))])] []]]],
    .ret (.lit .none)]⟩
def d_is_steady : LDef := ⟨1, 1, [.exp (.call 47 [(.var 0)]),
    .ret (.cmp .is (.call 126 [(.var 0)]) (.lit .none))]⟩
def d_unsteady : LDef := ⟨1, 1, [.exp (.call 47 [(.var 0)]),
    .ret (.call 126 [(.var 0)])]⟩
def d__law_steady_here : LDef := ⟨3, 5, [.asg 3 (.ix (.call 53 [(.var 0), (.var 1), (.lit (.int 1)), (.lit (.int 130))]) (.lit (.int 1))),
    .ite (.cmp .is (.var 3) (.lit .none)) [.ret (.lit (.bool true))] [],
    .asg 4 (.ix (.call 53 [(.var 0), (.bi .tuple [(.sl (.var 3) none (some (.bin .add (.bi .len [(.var 1)]) (.var 2))))]), (.lit (.int 1)), (.lit (.int 100))]) (.lit (.int 1))),
    .ret (.and (.cmp .isn (.var 4) (.lit .none)) (.cmp .eq (.sl (.var 4) none (some (.lit (.int 100)))) (.sl (.var 3) none (some (.lit (.int 100))))))]⟩
def d_law_k41 : LDef := ⟨1, 13, [.for .range [(.lit (.int 3))] (.one 1) [.asg 3 (.call 9 [(.var 0), (.var 1)]),
    .asg 2 (.call 26 [(.var 3), (.lit (.int 3))]),
    .asg 2 (.ite (.cmp .gt (.call 10 [(.var 3), (.lit (.int 3))]) (.lit (.int 0))) (.tup [(.ix (.var 2) (.lit (.int 0))), (.ix (.var 2) (.lit (.int 1))), (.lit (.str "stop"))]) (.var 2)),
    .asgT [4, 5] [(.call 127 [(.var 2)]), (.call 128 [(.var 2)])],
    .ite (.or (.not (.isi (.var 4) .bool)) (.cmp .ne (.var 4) (.cmp .is (.var 5) (.lit .none)))) [.ret (.lit (.bool false))] [],
    .ite (.cmp .isn (.var 5) (.lit .none)) [.unp [9, 10] (.var 5),
    .ite (.or (.not (.cmp .le (.lit (.int 1)) (.var 10))) (.or (.cmp .gt (.bin .add (.bi .len [(.var 9)]) (.var 10)) (.lit (.int 6))) (.call 129 [(.var 2), (.var 9), (.var 10)]))) [.ret (.lit (.bool false))] []] [],
    .asg 6 (.comp false .seq [(.ix (.var 2) (.lit (.int 0)))] (.one 12) [12] (some (.cmp .eq (.ix (.var 12) (.lit (.int 0))) (.lit (.str "list")))) (.ix (.var 12) (.lit (.int 1)))),
    .for .range [(.lit (.int 2)), (.ite (.cmp .is (.var 5) (.lit .none)) (.lit (.int 4)) (.bi .min [(.lit (.int 4)), (.bin .add (.bi .len [(.ix (.var 5) (.lit (.int 0)))]) (.ix (.var 5) (.lit (.int 1))))]))] (.one 7) [.for .range [(.lit (.int 1)), (.var 7)] (.one 11) [.for .seq [(.call 109 [(.var 6), (.var 11)])] (.one 9) [.ite (.not (.call 129 [(.var 2), (.var 9), (.bin .sub (.var 7) (.var 11))])) [.ret (.lit (.bool false))] []]]],
    .for .range [(.ite (.var 4) (.lit (.int 30)) (.lit (.int 0)))] (.one 8) [.asg 9 (.call 15 [(.var 3)]),
    .for .range [(.lit (.int 1)), (.bin .sub (.lit (.int 7)) (.bi .len [(.var 9)]))] (.one 10) [.ite (.not (.call 129 [(.var 2), (.var 9), (.var 10)])) [.ret (.lit (.bool false))] []]]],
    .asg 2 (.tup [(.tup [(.tup [(.lit (.str "times")), (.lit (.int 2))]), (.tup [(.lit (.str "step")), (.lit (.int 1))]), (.tup [(.lit (.str "list")), (.tup [(.lit (.str "a")), (.lit (.str "b")), (.lit (.str "c"))])])]), (.lit (.int 0)), (.lit (.str "stop"))]),
    .ite (.or (.cmp .ne (.call 128 [(.var 2)]) (.tup [(.tup [(.lit (.int 1))]), (.lit (.int 1))])) (.or (.cmp .isn (.call 127 [(.tup [(.sl (.ix (.var 2) (.lit (.int 0))) (some (.lit (.int 1))) none), (.lit (.int 0)), (.lit (.str "stop"))])]) (.lit (.bool true))) (.call 127 [(.tup [(.tup []), (.lit (.int 0)), (.lit (.str "copy"))])]))) [.ret (.lit (.bool false))] [],
    .ret (.and (.cmp .eq (.bi .len [(.ix (.call 128 [(.tup [(.tup [(.tup [(.lit (.str "line")), (.lit (.str "down"))])]), (.lit (.int 0)), (.lit (.str "stop"))])]) (.lit (.int 0)))]) (.lit (.int 3))) (.cmp .is (.call 127 [(.tup [(.tup [(.tup [(.lit (.str "step")), (.lit (.int 2))])]), (.lit (.int 2)), (.lit (.str "stop"))])]) (.lit (.bool false))))]⟩
def d__law_firm : LDef := ⟨1, 4, [.asg 1 (.tup []),
    .for .range [(.bin .add (.lit (.int 1)) (.call 10 [(.var 0), (.lit (.int 4))]))] (.one 2) [.asg 3 (.call 25 [(.var 0)]),
    .asg 1 (.ite (.or (.cmp .in_ (.var 3) (.var 1)) (.cmp .in_ (.ix (.var 3) (.lit (.int 0))) (.lst false [(.lit (.str "line")), (.lit (.str "times"))]))) (.var 1) (.bin .add (.var 1) (.tup [(.var 3)])))],
    .ret (.var 1)]⟩
def d_law_k42 : LDef := ⟨1, 11, [.for .range [(.lit (.int 3))] (.one 1) [.asg 2 (.call 9 [(.var 0), (.var 1)]),
    .asg 3 (.call 130 [(.var 2)]),
    .ite (.or (.cmp .isn (.call 127 [(.tup [(.var 3), (.lit (.int 0)), (.lit (.str "stop"))])]) (.lit (.bool true))) (.cmp .isn (.call 127 [(.tup [(.var 3), (.lit (.int 0)), (.lit (.str "copy"))])]) (.lit (.bool false)))) [.ret (.lit (.bool false))] [],
    .asgT [4, 5] [(.call 10 [(.var 2), (.bin .add (.bi .len [(.var 3)]) (.lit (.int 1)))]), (.ix (.lst false [(.lit (.str "down")), (.lit (.str "half"))]) (.call 10 [(.var 2), (.lit (.int 2))]))],
    .ite (.cmp .isn (.call 127 [(.tup [(.bin .add (.bin .add (.sl (.var 3) none (some (.var 4))) (.tup [(.tup [(.lit (.str "line")), (.var 5)])])) (.sl (.var 3) (some (.var 4)) none)), (.lit (.int 0)), (.lit (.str "stop"))])]) (.lit (.bool false))) [.ret (.lit (.bool false))] [],
    .ite (.cmp .isn (.call 127 [(.tup [(.var 3), (.lit (.int 3)), (.lit (.str "stop"))])]) (.lit (.bool true))) [.ret (.lit (.bool false))] [],
    .asg 6 (.comp false .seq [(.var 3)] (.one 10) [10] (some (.or (.cmp .eq (.ix (.var 10) (.lit (.int 0))) (.lit (.str "list"))) (.cmp .lt (.ix (.var 10) (.lit (.int 1))) (.lit (.int 3))))) (.var 10)),
    .ite (.and (.cmp .ne (.var 6) (.lst false [])) (.cmp .isn (.call 127 [(.tup [(.var 3), (.lit (.int 2)), (.lit (.str "stop"))])]) (.lit (.bool false)))) [.ret (.lit (.bool false))] [],
    .asg 7 (.comp false .seq [(.var 3)] (.one 10) [10] (some (.cmp .eq (.ix (.var 10) (.lit (.int 0))) (.lit (.str "step")))) (.ix (.var 10) (.lit (.int 1)))),
    .asg 8 (.tup [(.lit (.str "times")), (.bin .add (.lit (.int 2)) (.call 10 [(.var 2), (.lit (.int 3))]))]),
    .asg 9 (.or (.cmp .gt (.ix (.var 8) (.lit (.int 1))) (.lit (.int 2))) (.cmp .nin (.lit (.int 1)) (.var 7))),
    .ite (.cmp .ne (.call 127 [(.tup [(.bin .add (.tup [(.var 8)]) (.var 3)), (.lit (.int 0)), (.lit (.str "stop"))])]) (.var 9)) [.ret (.lit (.bool false))] []],
    .ret (.and (.cmp .is (.call 127 [(.tup [(.tup [(.tup [(.lit (.str "times")), (.lit (.int 2))])]), (.lit (.int 0)), (.lit (.str "stop"))])]) (.lit (.bool true))) (.cmp .is (.call 127 [(.tup [(.tup []), (.lit (.int 3)), (.lit (.str "stop"))])]) (.lit (.bool true))))]⟩
def d_goes_back : LDef := ⟨4, 5, [.asg 4 (.bi .tuple [(.call 125 [(.var 1), (.bin .add (.var 2) (.var 3))])]),
    .ret (.cmp .eq (.call 63 [(.var 0), (.sl (.var 4) (some (.var 3)) none), (.var 3)]) (.bi .list [(.slst (.sl (.var 4) none (some (.var 3))) none none (.neg (.lit (.int 1))))]))]⟩
def d_leads_back : LDef := ⟨3, 4, [.exp (.call 60 [(.var 0), (.var 1)]),
    .exp (.call 59 [(.var 2), (.lit (.int 1)), (.glo "FAR" (.int 60))]),
    .asg 3 (.call 54 [(.var 0), (.var 1)]),
    .ret (.ite (.cmp .is (.var 3) (.lit .none)) (.lit .none) (.call 131 [(.var 0), (.var 3), (.bi .len [(.var 1)]), (.var 2)]))]⟩
def d__law_back_here : LDef := ⟨3, 6, [.asg 3 (.ix (.call 53 [(.var 0), (.var 1), (.lit (.int 1)), (.var 2)]) (.lit (.int 1))),
    .ite (.cmp .is (.var 3) (.lit .none)) [.ret (.lit .none)] [],
    .asg 4 (.bi .tuple [(.sl (.var 3) (some (.var 2)) none)]),
    .asg 5 (.ix (.call 53 [(.var 0), (.slst (.var 4) none none (.neg (.lit (.int 1)))), (.neg (.lit (.int 1))), (.var 2)]) (.lit (.int 1))),
    .ret (.and (.cmp .isn (.var 5) (.lit .none)) (.cmp .eq (.sl (.var 5) (some (.bi .len [(.var 1)])) none) (.slst (.sl (.var 3) none (some (.var 2))) none none (.neg (.lit (.int 1))))))]⟩
def d_astray : LDef := ⟨1, 9, [.exp (.call 47 [(.var 0)]),
    .ite (.cmp .ne (.ix (.var 0) (.lit (.int 1))) (.lit (.int 0))) [.raise "InvalidManner"] [],
    .asg 1 (.call 101 [(.tup [(.var 0)])]),
    .asg 2 (.comp2 false .range [(.lit (.int 1)), (.bin .add (.glo "MOST" (.int 6)) (.lit (.int 1)))] (.one 7) none .seq [(.call 96 [(.var 1), (.var 7)])] (.one 5) [5] none [7, 5] (.tup [(.var 5), (.call 54 [(.var 0), (.var 5)])])),
    .asg 3 (.comp false .seq [(.var 2)] (.many [5, 6]) [5, 6] (some (.cmp .isn (.var 6) (.lit .none))) (.tup [(.var 5), (.var 6)])),
    .for .range [(.lit (.int 2)), (.bin .add (.bin .mul (.lit (.int 2)) (.glo "MOST" (.int 6))) (.lit (.int 1)))] (.one 4) [.for .seq [(.var 3)] (.many [5, 6]) [.asg 8 (.bin .sub (.var 4) (.bi .len [(.var 5)])),
    .ite (.and (.chain .le .le (.lit (.int 1)) (.var 8) (.glo "MOST" (.int 6))) (.not (.call 131 [(.var 0), (.var 6), (.bi .len [(.var 5)]), (.var 8)]))) [.ret (.tup [(.var 5), (.var 8)])] []]],
    .ret (.lit .none)]⟩
def d_always_leads_back : LDef := ⟨1, 1, [.ret (.cmp .is (.call 134 [(.var 0)]) (.lit .none))]⟩
def d_not_leading_back : LDef := ⟨1, 1, [.ret (.call 134 [(.var 0)])]⟩
def d__law_back_here_2 : LDef := ⟨3, 5, [.asg 3 (.ix (.call 53 [(.var 0), (.var 1), (.lit (.int 1)), (.var 2)]) (.lit (.int 1))),
    .ite (.cmp .is (.var 3) (.lit .none)) [.ret (.lit (.bool true))] [],
    .asg 4 (.ix (.call 53 [(.var 0), (.slst (.bi .tuple [(.sl (.var 3) (some (.var 2)) none)]) none none (.neg (.lit (.int 1)))), (.neg (.lit (.int 1))), (.var 2)]) (.lit (.int 1))),
    .ret (.and (.cmp .isn (.var 4) (.lit .none)) (.cmp .eq (.sl (.var 4) (some (.bi .len [(.var 1)])) none) (.slst (.sl (.var 3) none (some (.var 2))) none none (.neg (.lit (.int 1))))))]⟩
def d_is_series : LDef := ⟨1, 2, [.ite (.or (.not (.isi (.var 0) .tuple)) (.or (.cmp .lt (.bi .len [(.var 0)]) (.lit (.int 2))) (.not (.isi (.ix (.var 0) (.lit (.int 0))) .str)))) [.ret (.lit (.bool false))] [],
    .ite (.cmp .eq (.ix (.var 0) (.lit (.int 0))) (.lit (.str "round"))) [.ret (.and (.cmp .eq (.bi .len [(.var 0)]) (.lit (.int 2))) (.call 5 [(.ix (.var 0) (.lit (.int 1))), (.lit (.int 1)), (.lit (.int 4))]))] [],
    .ite (.cmp .eq (.ix (.var 0) (.lit (.int 0))) (.lit (.str "step"))) [.ret (.and (.cmp .eq (.bi .len [(.var 0)]) (.lit (.int 3))) (.and (.call 1 [(.ix (.var 0) (.lit (.int 1)))]) (.call 1 [(.ix (.var 0) (.lit (.int 2)))])))] [],
    .ite (.cmp .eq (.ix (.var 0) (.lit (.int 0))) (.lit (.str "times"))) [.asg 1 (.and (.cmp .eq (.bi .len [(.var 0)]) (.lit (.int 3))) (.and (.call 1 [(.ix (.var 0) (.lit (.int 1)))]) (.call 1 [(.ix (.var 0) (.lit (.int 2)))]))),
    .ret (.and (.var 1) (.and (.cmp .ne (.ix (.var 0) (.lit (.int 1))) (.lit (.int 0))) (.not (.chain .lt .lt (.neg (.lit (.int 2))) (.ix (.var 0) (.lit (.int 2))) (.lit (.int 2))))))] [],
    .ite (.cmp .ne (.bi .len [(.var 0)]) (.lit (.int 4))) [.ret (.lit (.bool false))] [],
    .ite (.cmp .eq (.ix (.var 0) (.lit (.int 0))) (.lit (.str "count"))) [.ret (.and (.call 2 [(.ix (.var 0) (.lit (.int 1)))]) (.and (.call 1 [(.ix (.var 0) (.lit (.int 2)))]) (.call 1 [(.ix (.var 0) (.lit (.int 3)))])))] [],
    .ite (.or (.cmp .ne (.ix (.var 0) (.lit (.int 0))) (.lit (.str "list"))) (.not (.call 21 [(.ix (.var 0) (.lit (.int 1)))]))) [.ret (.lit (.bool false))] [],
    .ret (.and (.call 20 [(.ix (.var 0) (.lit (.int 2))), (.lit (.int 0)), (.bin .sub (.bi .len [(.ix (.var 0) (.lit (.int 1)))]) (.lit (.int 1)))]) (.call 20 [(.ix (.var 0) (.lit (.int 3))), (.lit (.int 0)), (.bin .sub (.bi .len [(.ix (.var 0) (.lit (.int 1)))]) (.lit (.int 1)))]))]⟩
def d_need_series : LDef := ⟨1, 1, [.ite (.not (.call 138 [(.var 0)])) [.raise "InvalidSeries"] []]⟩
def d_series_cells : LDef := ⟨2, 2, [.exp (.call 139 [(.var 0)]),
    .exp (.call 59 [(.var 1), (.lit (.int 0)), (.glo "FAR" (.int 60))]),
    .ret (.call 125 [(.var 0), (.var 1)])]⟩
def d__law_series_row : LDef := ⟨2, 4, [.ite (.cmp .eq (.ix (.var 0) (.lit (.int 0))) (.lit (.str "round"))) [.ret (.comp false .range [(.var 1)] (.one 3) [3] none (.ix (.ix (.var 0) (.lit (.int 1))) (.bin .mod (.bi .int [(.var 3)]) (.bi .len [(.ix (.var 0) (.lit (.int 1)))]))))] [],
    .ite (.cmp .eq (.ix (.var 0) (.lit (.int 0))) (.lit (.str "list"))) [.ret (.comp false .range [(.var 1)] (.one 3) [3] none (.ix (.ix (.var 0) (.lit (.int 1))) (.bin .mod (.bi .int [(.bin .add (.ix (.var 0) (.lit (.int 2))) (.bin .mul (.var 3) (.ix (.var 0) (.lit (.int 3)))))]) (.bi .len [(.ix (.var 0) (.lit (.int 1)))]))))] [],
    .ite (.cmp .eq (.ix (.var 0) (.lit (.int 0))) (.lit (.str "count"))) [.ret (.comp false .range [(.var 1)] (.one 3) [3] none (.tup [(.ix (.var 0) (.lit (.int 1))), (.bin .add (.ix (.var 0) (.lit (.int 2))) (.bin .mul (.var 3) (.ix (.var 0) (.lit (.int 3)))))]))] [],
    .asg 2 (.lst true [(.ix (.var 0) (.lit (.int 1)))]),
    .for .range [(.var 1)] (.one 3) [.app (.var 2) (.ite (.cmp .eq (.ix (.var 0) (.lit (.int 0))) (.lit (.str "step"))) (.bin .add (.ix (.var 2) (.neg (.lit (.int 1)))) (.ix (.var 0) (.lit (.int 2)))) (.bin .mul (.ix (.var 2) (.neg (.lit (.int 1)))) (.ix (.var 0) (.lit (.int 2)))))],
    .ret (.sl (.var 2) none (some (.var 1)))]⟩
def d__law_series : LDef := ⟨1, 5, [.asgT [1, 2, 3] [(.call 10 [(.var 0), (.lit (.int 7))]), (.bin .sub (.call 10 [(.var 0), (.lit (.int 19))]) (.lit (.int 9))), (.bin .sub (.call 10 [(.var 0), (.lit (.int 9))]) (.lit (.int 4)))],
    .ite (.cmp .lt (.var 1) (.lit (.int 2))) [.ret (.tup [(.lit (.str "step")), (.var 2), (.var 3)])] [],
    .ite (.cmp .eq (.var 1) (.lit (.int 2))) [.ret (.tup [(.lit (.str "times")), (.ite (.cmp .ne (.var 2) (.lit (.int 0))) (.var 2) (.lit (.int 1))), (.ite (.cmp .gt (.bi .abs [(.var 3)]) (.lit (.int 1))) (.var 3) (.lit (.int 2)))])] [],
    .ite (.cmp .eq (.var 1) (.lit (.int 3))) [.ret (.tup [(.lit (.str "count")), (.call 11 [(.var 0), (.lst false [(.lit (.str "a")), (.lit (.str "box"))])]), (.var 2), (.var 3)])] [],
    .ite (.cmp .eq (.var 1) (.lit (.int 4))) [.ret (.tup [(.lit (.str "round")), (.call 14 [(.var 0), (.bin .add (.lit (.int 1)) (.call 10 [(.var 0), (.lit (.int 4))]))])])] [],
    .asg 4 (.call 11 [(.var 0), (.call 12 [])]),
    .ret (.tup [(.lit (.str "list")), (.var 4), (.call 10 [(.var 0), (.bi .len [(.var 4)])]), (.call 10 [(.var 0), (.bi .len [(.var 4)])])])]⟩
def d__law_is_cell_2 : LDef := ⟨1, 1, [.ite (.or (.call 16 [(.var 0)]) (.call 17 [(.var 0)])) [.ret (.lit (.bool true))] [],
    .ret (.and (.isi (.var 0) .tuple) (.and (.cmp .eq (.bi .len [(.var 0)]) (.lit (.int 2))) (.and (.call 17 [(.ix (.var 0) (.lit (.int 0)))]) (.call 16 [(.ix (.var 0) (.lit (.int 1)))]))))]⟩
def d__law_are_words : LDef := ⟨1, 3, [.ite (.or (.not (.isi (.var 0) .tuple)) (.not (.chain .le .le (.lit (.int 2)) (.bi .len [(.var 0)]) (.lit (.int 7))))) [.ret (.lit (.bool false))] [],
    .ite (.cmp .ne (.comp false .seq [(.var 0)] (.one 1) [1] (some (.not (.call 17 [(.var 1)]))) (.var 1)) (.lst false [])) [.ret (.lit (.bool false))] [],
    .ret (.cmp .eq (.comp false .range [(.bi .len [(.var 0)])] (.one 2) [2] (some (.cmp .in_ (.ix (.var 0) (.var 2)) (.sl (.var 0) none (some (.var 2))))) (.lit (.int 1))) (.lst false []))]⟩
def d__law_is : LDef := ⟨1, 4, [.ite (.or (.not (.isi (.var 0) .tuple)) (.or (.cmp .eq (.var 0) (.tup [])) (.not (.isi (.ix (.var 0) (.lit (.int 0))) .str)))) [.ret (.lit (.bool false))] [],
    .asgT [1, 2] [(.ix (.var 0) (.lit (.int 0))), (.sl (.var 0) (some (.lit (.int 1))) none)],
    .ite (.cmp .in_ (.var 1) (.lst false [(.lit (.str "step")), (.lit (.str "times"))])) [.ite (.or (.cmp .ne (.bi .len [(.var 2)]) (.lit (.int 2))) (.or (.not (.call 16 [(.ix (.var 2) (.lit (.int 0)))])) (.not (.call 16 [(.ix (.var 2) (.lit (.int 1)))])))) [.ret (.lit (.bool false))] [],
    .ret (.or (.cmp .eq (.var 1) (.lit (.str "step"))) (.and (.cmp .ne (.ix (.var 2) (.lit (.int 0))) (.lit (.int 0))) (.cmp .gt (.bi .abs [(.ix (.var 2) (.lit (.int 1)))]) (.lit (.int 1)))))] [],
    .ite (.cmp .eq (.var 1) (.lit (.str "round"))) [.ite (.or (.cmp .ne (.bi .len [(.var 2)]) (.lit (.int 1))) (.or (.not (.isi (.ix (.var 2) (.lit (.int 0))) .tuple)) (.not (.chain .le .le (.lit (.int 1)) (.bi .len [(.ix (.var 2) (.lit (.int 0)))]) (.lit (.int 4)))))) [.ret (.lit (.bool false))] [],
    .ret (.cmp .eq (.comp false .seq [(.ix (.var 2) (.lit (.int 0)))] (.one 3) [3] (some (.not (.call 143 [(.var 3)]))) (.var 3)) (.lst false []))] [],
    .ite (.or (.cmp .ne (.bi .len [(.var 2)]) (.lit (.int 3))) (.or (.not (.call 16 [(.ix (.var 2) (.lit (.int 1)))])) (.not (.call 16 [(.ix (.var 2) (.lit (.int 2)))])))) [.ret (.lit (.bool false))] [],
    .ite (.cmp .eq (.var 1) (.lit (.str "count"))) [.ret (.call 17 [(.ix (.var 2) (.lit (.int 0)))])] [],
    .ret (.and (.cmp .eq (.var 1) (.lit (.str "list"))) (.and (.call 144 [(.ix (.var 2) (.lit (.int 0)))]) (.and (.cmp .le (.lit (.int 0)) (.bi .min [(.sl (.var 2) (some (.lit (.int 1))) none)])) (.cmp .lt (.bi .max [(.sl (.var 2) (some (.lit (.int 1))) none)]) (.bi .len [(.ix (.var 2) (.lit (.int 0)))])))))]⟩
def d_is_right : LDef := ⟨3, 4, [.asg 3 (.call 54 [(.var 0), (.bi .tuple [(.call 125 [(.var 1), (.var 2)])])]),
    .ret (.and (.cmp .isn (.var 3) (.lit .none)) (.call 86 [(.var 3), (.var 1)]))]⟩
def d_sizes_right : LDef := ⟨2, 3, [.ret (.comp true .range [(.lit (.int 1)), (.bin .add (.glo "MOST" (.int 6)) (.lit (.int 1)))] (.one 2) [2] (some (.call 146 [(.var 0), (.var 1), (.var 2)])) (.var 2))]⟩
def d_from_on : LDef := ⟨1, 3, [.asg 1 (.lit .none),
    .for .range [(.glo "MOST" (.int 6)), (.lit (.int 0)), (.neg (.lit (.int 1)))] (.one 2) [.ite (.cmp .nin (.var 2) (.var 0)) [.ret (.var 1)] [],
    .asg 1 (.var 2)],
    .ret (.var 1)]⟩
def d_right_sizes : LDef := ⟨2, 2, [.exp (.call 47 [(.var 0)]),
    .exp (.call 139 [(.var 1)]),
    .ret (.call 147 [(.var 0), (.var 1)])]⟩
def d_enough : LDef := ⟨2, 2, [.exp (.call 47 [(.var 0)]),
    .exp (.call 139 [(.var 1)]),
    .ret (.call 148 [(.call 147 [(.var 0), (.var 1)])])]⟩
def d__law_right_here : LDef := ⟨3, 5, [.asg 3 (.call 141 [(.var 1), (.lit (.int 130))]),
    .asg 4 (.ix (.call 53 [(.var 0), (.bi .tuple [(.sl (.var 3) none (some (.var 2)))]), (.lit (.int 1)), (.bin .sub (.lit (.int 130)) (.var 2))]) (.lit (.int 1))),
    .ret (.and (.cmp .isn (.var 4) (.lit .none)) (.cmp .eq (.sl (.var 4) none (some (.lit (.int 130)))) (.var 3)))]⟩
def d_is_kind : LDef := ⟨1, 1, [.ite (.isi (.var 0) .str) [.ret (.cmp .in_ (.var 0) (.tup [(.lit (.str "step")), (.lit (.str "times")), (.lit (.str "count"))]))] [],
    .ret (.call 21 [(.var 0)])]⟩
def d_need_kind : LDef := ⟨1, 1, [.ite (.not (.call 152 [(.var 0)])) [.raise "InvalidKind"] []]⟩
def d_all_of : LDef := ⟨1, 5, [.ite (.cmp .eq (.var 0) (.lit (.str "step"))) [.ret (.comp2 false .seq [(.glo "NUMBERS" (.tuple [(.int (-4)), (.int (-3)), (.int (-2)), (.int (-1)), (.int 0), (.int 1), (.int 2), (.int 3), (.int 4)]))] (.one 4) none .seq [(.glo "NUMBERS" (.tuple [(.int (-4)), (.int (-3)), (.int (-2)), (.int (-1)), (.int 0), (.int 1), (.int 2), (.int 3), (.int 4)]))] (.one 3) [3] none [4, 3] (.tup [(.lit (.str "step")), (.var 4), (.var 3)]))] [],
    .ite (.cmp .eq (.var 0) (.lit (.str "times"))) [.ret (.comp2 false .seq [(.glo "NUMBERS" (.tuple [(.int (-4)), (.int (-3)), (.int (-2)), (.int (-1)), (.int 0), (.int 1), (.int 2), (.int 3), (.int 4)]))] (.one 4) (some (.cmp .ne (.var 4) (.lit (.int 0)))) .seq [(.glo "NUMBERS" (.tuple [(.int (-4)), (.int (-3)), (.int (-2)), (.int (-1)), (.int 0), (.int 1), (.int 2), (.int 3), (.int 4)]))] (.one 3) [3] (some (.not (.chain .lt .lt (.neg (.lit (.int 2))) (.var 3) (.lit (.int 2))))) [4, 3] (.tup [(.lit (.str "times")), (.var 4), (.var 3)]))] [],
    .ite (.cmp .eq (.var 0) (.lit (.str "count"))) [.ret (.comp2 false .seq [(.glo "NUMBERS" (.tuple [(.int (-4)), (.int (-3)), (.int (-2)), (.int (-1)), (.int 0), (.int 1), (.int 2), (.int 3), (.int 4)]))] (.one 4) none .seq [(.glo "NUMBERS" (.tuple [(.int (-4)), (.int (-3)), (.int (-2)), (.int (-1)), (.int 0), (.int 1), (.int 2), (.int 3), (.int 4)]))] (.one 3) [3] none [4, 3] (.tup [(.lit (.str "count")), (.lit (.str "qz")), (.var 4), (.var 3)]))] [],
    .asg 1 (.ext .lrange [(.bi .len [(.var 0)])]),
    .ret (.comp2 false .seq [(.var 1)] (.one 2) none .seq [(.var 1)] (.one 3) [3] none [2, 3] (.tup [(.lit (.str "list")), (.var 0), (.var 2), (.var 3)]))]⟩
def d_enough_for_all : LDef := ⟨2, 5, [.exp (.call 47 [(.var 0)]),
    .exp (.call 153 [(.var 1)]),
    .asg 2 (.call 154 [(.var 1)]),
    .ret (.call 148 [(.comp false .range [(.lit (.int 1)), (.bin .add (.glo "MOST" (.int 6)) (.lit (.int 1)))] (.one 3) [3] (some (.bi .all [(.comp false .seq [(.var 2)] (.one 4) [4] none (.call 146 [(.var 0), (.var 4), (.var 3)]))])) (.var 3))])]⟩
def d_failing : LDef := ⟨3, 5, [.exp (.call 47 [(.var 0)]),
    .exp (.call 153 [(.var 1)]),
    .exp (.call 59 [(.var 2), (.lit (.int 1)), (.glo "MOST" (.int 6))]),
    .asg 3 (.comp false .seq [(.call 154 [(.var 1)])] (.one 4) [4] (some (.not (.call 146 [(.var 0), (.var 4), (.var 2)]))) (.var 4)),
    .ret (.ite (.cmp .ne (.var 3) (.lst false [])) (.ix (.var 3) (.lit (.int 0))) (.lit .none))]⟩
def d__law_all_series : LDef := ⟨1, 5, [.asg 1 (.lst true []),
    .ite (.isi (.var 0) .tuple) [.for .range [(.bi .len [(.var 0)])] (.one 3) [.asg 1 (.ext .madd [(.var 1), (.comp false .range [(.bi .len [(.var 0)])] (.one 4) [4] none (.tup [(.lit (.str "list")), (.var 0), (.var 3), (.var 4)]))])],
    .ret (.frz 1)] [],
    .for .range [(.neg (.lit (.int 3))), (.lit (.int 4))] (.one 2) [.for .range [(.neg (.lit (.int 3))), (.lit (.int 4))] (.one 4) [.ite (.cmp .eq (.var 0) (.lit (.str "count"))) [.app (.var 1) (.tup [(.lit (.str "count")), (.lit (.str "a")), (.var 2), (.var 4)])] [.ite (.or (.cmp .eq (.var 0) (.lit (.str "step"))) (.and (.cmp .ne (.var 2) (.lit (.int 0))) (.cmp .gt (.bi .abs [(.var 4)]) (.lit (.int 1))))) [.app (.var 1) (.tup [(.var 0), (.var 2), (.var 4)])] []]]],
    .ret (.frz 1)]⟩
def d__law_is_of : LDef := ⟨2, 2, [.ite (.isi (.var 1) .tuple) [.ret (.and (.cmp .eq (.ix (.var 0) (.lit (.int 0))) (.lit (.str "list"))) (.and (.cmp .eq (.ix (.var 0) (.lit (.int 1))) (.var 1)) (.and (.cmp .le (.lit (.int 0)) (.bi .min [(.sl (.var 0) (some (.lit (.int 2))) none)])) (.cmp .lt (.bi .max [(.sl (.var 0) (some (.lit (.int 2))) none)]) (.bi .len [(.var 1)])))))] [],
    .ite (.or (.cmp .ne (.ix (.var 0) (.lit (.int 0))) (.var 1)) (.cmp .ne (.bi .len [(.var 0)]) (.ite (.cmp .eq (.var 1) (.lit (.str "count"))) (.lit (.int 4)) (.lit (.int 3))))) [.ret (.lit (.bool false))] [],
    .ret (.or (.cmp .ne (.var 1) (.lit (.str "times"))) (.and (.cmp .ne (.ix (.var 0) (.lit (.int 1))) (.lit (.int 0))) (.cmp .gt (.bi .abs [(.ix (.var 0) (.lit (.int 2)))]) (.lit (.int 1)))))]⟩
def d__law_great : LDef := ⟨2, 5, [.ite (.isi (.var 1) .tuple) [.ret (.tup [(.lit (.str "list")), (.var 1), (.call 10 [(.var 0), (.bi .len [(.var 1)])]), (.call 10 [(.var 0), (.bi .len [(.var 1)])])])] [],
    .asg 2 (.call 11 [(.var 0), (.lst false [(.lit (.int 6)), (.lit (.int 60)), (.bin .pow (.lit (.int 10)) (.lit (.int 6))), (.ite (.cmp .eq (.var 1) (.lit (.str "times"))) (.bin .pow (.lit (.int 10)) (.lit (.int 6))) (.bin .pow (.lit (.int 10)) (.lit (.int 20))))])]),
    .asgT [3, 4] [(.bin .sub (.call 10 [(.var 0), (.bin .add (.bin .mul (.lit (.int 2)) (.var 2)) (.lit (.int 1)))]) (.var 2)), (.bin .sub (.call 10 [(.var 0), (.bin .add (.bin .mul (.lit (.int 2)) (.var 2)) (.lit (.int 1)))]) (.var 2))],
    .ite (.cmp .eq (.var 1) (.lit (.str "times"))) [.ret (.tup [(.lit (.str "times")), (.ite (.cmp .ne (.var 3) (.lit (.int 0))) (.var 3) (.lit (.int 3))), (.ite (.cmp .gt (.bi .abs [(.var 4)]) (.lit (.int 1))) (.var 4) (.neg (.lit (.int 2))))])] [],
    .ret (.ite (.cmp .eq (.var 1) (.lit (.str "count"))) (.tup [(.lit (.str "count")), (.lit (.str "new")), (.var 3), (.var 4)]) (.tup [(.lit (.str "step")), (.var 3), (.var 4)]))]⟩
def d_law_k54 : LDef := ⟨1, 10, [.for .range [(.lit (.int 10))] (.one 1) [.asg 3 (.call 9 [(.var 0), (.var 1)]),
    .asg 2 (.call 26 [(.var 3), (.lit (.int 4))]),
    .for .seq [(.lst false [(.lit (.str "step")), (.lit (.str "times")), (.lit (.str "count")), (.call 11 [(.var 3), (.call 12 [])])])] (.one 4) [.asg 5 (.call 155 [(.var 2), (.var 4)]),
    .ite (.and (.cmp .isn (.var 5) (.lit .none)) (.not (.and (.isi (.var 5) .int) (.chain .le .le (.lit (.int 1)) (.var 5) (.lit (.int 6)))))) [.ret (.lit (.bool false))] [],
    .for .range [(.ite (.cmp .isn (.var 5) (.lit .none)) (.lit (.int 4)) (.lit (.int 0)))] (.one 6) [.asg 7 (.call 159 [(.var 3), (.var 4)]),
    .asg 8 (.bin .add (.var 5) (.call 10 [(.var 3), (.bin .sub (.lit (.int 7)) (.var 5))])),
    .asg 9 (.call 141 [(.var 7), (.bin .add (.var 8) (.lit (.int 20)))]),
    .ite (.cmp .ne (.call 62 [(.var 2), (.bi .tuple [(.sl (.var 9) none (some (.var 8)))]), (.lit (.int 20))]) (.sl (.var 9) (some (.var 8)) none)) [.ret (.lit (.bool false))] []]]],
    .asg 2 (.tup [(.tup [(.tup [(.lit (.str "line")), (.lit (.str "half"))]), (.tup [(.lit (.str "times")), (.lit (.int 2))])]), (.lit (.int 0)), (.lit (.str "copy"))]),
    .ite (.cmp .ne (.call 155 [(.tup [(.tup [(.tup [(.lit (.str "step")), (.lit (.int 1))])]), (.lit (.int 0)), (.lit (.str "stop"))]), (.lit (.str "step"))]) (.lit (.int 2))) [.ret (.lit (.bool false))] [],
    .ret (.cmp .eq (.comp false .seq [(.lst false [(.lit (.str "step")), (.lit (.str "times")), (.lit (.str "count"))])] (.one 4) [4] none (.call 155 [(.var 2), (.var 4)])) (.lst false [(.lit (.int 2)), (.lit .none), (.lit .none)]))]⟩
def d_parts_sum : LDef := ⟨1, 4, [.asgT [1, 2] [(.lit (.int 0)), (.lit (.int 2))],
    .whil (.cmp .le (.var 2) (.var 0)) [.asg 3 (.bin .fdiv (.var 0) (.bin .fdiv (.var 0) (.var 2))),
    .aug 1 .add (.bin .mul (.bin .add (.bin .sub (.var 3) (.var 2)) (.lit (.int 1))) (.bin .fdiv (.var 0) (.var 2))),
    .asg 2 (.bin .add (.var 3) (.lit (.int 1)))],
    .ret (.var 1)]⟩
def d_factor_rows : LDef := ⟨2, 4, [.ite (.cmp .eq (.var 0) (.lit (.int 1))) [.ret (.lit (.int 0))] [],
    .ite (.cmp .eq (.var 0) (.lit (.int 2))) [.ret (.call 160 [(.var 1)])] [],
    .asgT [2, 3] [(.lit (.int 0)), (.lit (.int 2))],
    .whil (.cmp .le (.call 55 [(.var 3), (.bin .sub (.var 0) (.lit (.int 1)))]) (.var 1)) [.aug 2 .add (.bin .fdiv (.var 1) (.call 55 [(.var 3), (.bin .sub (.var 0) (.lit (.int 1)))])),
    .aug 3 .add (.lit (.int 1))],
    .ret (.var 2)]⟩
def d_step_rows : LDef := ⟨2, 3, [.ite (.cmp .eq (.var 0) (.lit (.int 1))) [.ret (.bin .add (.var 1) (.lit (.int 1)))] [],
    .asg 2 (.bin .fdiv (.var 1) (.bin .sub (.var 0) (.lit (.int 1)))),
    .ret (.bin .add (.bin .add (.var 1) (.lit (.int 1))) (.bin .mul (.lit (.int 2)) (.bin .sub (.bin .mul (.var 2) (.bin .add (.var 1) (.lit (.int 1)))) (.bin .fdiv (.bin .mul (.bin .mul (.bin .sub (.var 0) (.lit (.int 1))) (.var 2)) (.bin .add (.var 2) (.lit (.int 1)))) (.lit (.int 2))))))]⟩
def d_takes : LDef := ⟨2, 4, [.unp [2, 3] (.var 0),
    .ite (.and (.cmp .eq (.var 2) (.lit (.str "step"))) (.cmp .ge (.var 1) (.var 3))) [.ret (.tup [(.lit (.str "step")), (.lit (.str "both"))])] [],
    .ite (.and (.cmp .eq (.var 2) (.lit (.str "times"))) (.cmp .ge (.var 1) (.var 3))) [.ret (.tup [(.lit (.str "factor")), (.lit (.str "both"))])] [],
    .ret (.ite (.and (.cmp .eq (.var 2) (.lit (.str "line"))) (.cmp .ge (.var 1) (.lit (.int 2)))) (.tup [(.lit (.str "step")), (.lit (.str "factor")), (.lit (.str "both")), (.lit (.str "neither"))]) (.tup []))]⟩
def d_need_counted : LDef := ⟨2, 2, [.exp (.call 59 [(.var 0), (.lit (.int 1)), (.glo "MOST" (.int 6))]),
    .exp (.call 59 [(.var 1), (.lit (.int 0)), (.glo "HIGHEST" (.int 1000000000000))])]⟩
def d_count_taken : LDef := ⟨4, 4, [.exp (.call 47 [(.var 0)]),
    .ite (.not (.call 20 [(.var 1), (.lit (.int 0)), (.bin .sub (.bi .len [(.ix (.var 0) (.lit (.int 0)))]) (.lit (.int 1)))])) [.raise "InvalidIndex"] [],
    .exp (.call 166 [(.var 2), (.var 3)]),
    .ret (.ix (.ix (.call 165 [(.var 0), (.var 2), (.var 3)]) (.lit (.int 0))) (.var 1))]⟩
def d_count_left : LDef := ⟨3, 3, [.exp (.call 47 [(.var 0)]),
    .exp (.call 166 [(.var 1), (.var 2)]),
    .ret (.ix (.call 165 [(.var 0), (.var 1), (.var 2)]) (.lit (.int 1)))]⟩
def d__law_step_rows : LDef := ⟨2, 3, [.ret (.bi .sum [(.comp false .range [(.neg (.var 1)), (.bin .add (.var 1) (.lit (.int 1)))] (.one 2) [2] none (.bi .max [(.lit (.int 0)), (.bin .sub (.bin .add (.var 1) (.lit (.int 1))) (.bin .mul (.bin .sub (.var 0) (.lit (.int 1))) (.bi .abs [(.var 2)])))]))])]⟩
def d__law_factor_rows : LDef := ⟨2, 7, [.asg 2 (.lit (.int 0)),
    .for .range [(.lit (.int 1)), (.bin .add (.var 1) (.lit (.int 1)))] (.one 3) [.asg 4 (.lit (.int 2)),
    .whil (.or (.and (.cmp .gt (.var 0) (.lit (.int 2))) (.cmp .le (.bin .mul (.var 3) (.bin .pow (.var 4) (.lit (.int 2)))) (.var 1))) (.and (.cmp .eq (.var 0) (.lit (.int 2))) (.cmp .le (.bin .mul (.var 3) (.var 4)) (.var 1)))) [.asg 5 (.var 3),
    .for .range [(.bin .sub (.var 0) (.lit (.int 1)))] (.one 6) [.asg 5 (.bin .mul (.var 5) (.var 4))],
    .asg 2 (.bin .add (.var 2) (.bi .int [(.cmp .le (.var 5) (.var 1))])),
    .asg 4 (.bin .add (.var 4) (.lit (.int 1)))]],
    .ret (.var 2)]⟩
def d_law_k62 : LDef := ⟨1, 19, [.for .range [(.lit (.int 5))] (.one 1) [.asg 4 (.call 9 [(.var 0), (.var 1)]),
    .asgT [2, 5] [(.call 26 [(.var 4), (.lit (.int 5))]), (.bin .add (.lit (.int 1)) (.call 10 [(.var 4), (.lit (.int 6))]))],
    .asg 6 (.call 10 [(.var 4), (.bin .pow (.lit (.int 10)) (.lit (.int 6)))]),
    .asg 6 (.call 11 [(.var 4), (.lst false [(.bin .pow (.lit (.int 10)) (.lit (.int 9))), (.var 6), (.bin .add (.bin .pow (.lit (.int 10)) (.lit (.int 8))) (.var 6)), (.lit (.int 0)), (.lit (.int 1))])]),
    .asg 7 (.lit (.int 1)),
    .for .range [(.var 5)] (.one 8) [.asg 7 (.bin .mul (.var 7) (.bin .add (.var 6) (.lit (.int 1))))],
    .asg 9 (.comp false .range [(.bi .len [(.ix (.var 2) (.lit (.int 0)))])] (.one 18) [18] none (.call 167 [(.var 2), (.var 18), (.var 5), (.var 6)])),
    .ite (.or (.cmp .lt (.bi .min [(.bin .add (.var 9) (.lst false [(.lit (.int 0))]))]) (.lit (.int 0))) (.cmp .ne (.bin .add (.bi .sum [(.var 9)]) (.call 168 [(.var 2), (.var 5), (.var 6)])) (.var 7))) [.ret (.lit (.bool false))] [],
    .asgT [6, 5] [(.call 10 [(.var 4), (.lit (.int 1500))]), (.bin .add (.lit (.int 2)) (.call 10 [(.var 4), (.lit (.int 5))]))],
    .asgT [10, 11] [(.call 169 [(.var 5), (.var 6)]), (.call 170 [(.var 5), (.var 6)])],
    .ite (.cmp .ne (.call 167 [(.tup [(.tup [(.tup [(.lit (.str "step")), (.lit (.int 2))])]), (.lit (.int 0)), (.lit (.str "stop"))]), (.lit (.int 0)), (.var 5), (.var 6)]) (.var 10)) [.ret (.lit (.bool false))] [],
    .asg 12 (.bi .min [(.var 5), (.lit (.int 4))]),
    .for .seq [(.lst false [(.tup [(.tup [(.lit (.str "step")), (.var 12)]), (.tup [(.lit (.str "times")), (.var 12)])]), (.tup [(.tup [(.lit (.str "times")), (.var 12)]), (.tup [(.lit (.str "step")), (.var 12)])])])] (.many [13, 14]) [.asg 15 (.tup [(.tup [(.var 13), (.var 14)]), (.lit (.int 0)), (.lit (.str "stop"))]),
    .asg 9 (.lst false [(.call 167 [(.var 15), (.lit (.int 0)), (.var 5), (.var 6)]), (.call 167 [(.var 15), (.lit (.int 1)), (.var 5), (.var 6)])]),
    .asg 16 (.ite (.cmp .eq (.var 5) (.lit (.int 2))) (.var 11) (.lit (.int 0))),
    .asg 17 (.ite (.cmp .eq (.ix (.var 13) (.lit (.int 0))) (.lit (.str "step"))) (.lst false [(.var 10), (.bin .sub (.var 11) (.var 16))]) (.lst false [(.var 11), (.bin .sub (.var 10) (.var 16))])),
    .ite (.cmp .ne (.var 9) (.var 17)) [.ret (.lit (.bool false))] []]],
    .asg 2 (.tup [(.tup [(.tup [(.lit (.str "times")), (.lit (.int 2))]), (.tup [(.lit (.str "step")), (.lit (.int 2))])]), (.lit (.int 0)), (.lit (.str "stop"))]),
    .asg 3 (.bin .mul (.lit (.int 5)) (.bin .pow (.lit (.int 10)) (.lit (.int 9)))),
    .ite (.cmp .ne (.call 167 [(.var 2), (.lit (.int 1)), (.lit (.int 3)), (.bin .mul (.lit (.int 2)) (.var 3))]) (.bin .sub (.bin .mul (.bin .add (.bin .mul (.lit (.int 2)) (.var 3)) (.lit (.int 1))) (.bin .add (.bin .mul (.lit (.int 2)) (.var 3)) (.lit (.int 1)))) (.bin .mul (.bin .mul (.lit (.int 2)) (.var 3)) (.bin .add (.var 3) (.lit (.int 1)))))) [.ret (.lit (.bool false))] [],
    .ret (.and (.cmp .eq (.call 167 [(.var 2), (.lit (.int 0)), (.lit (.int 6)), (.lit (.int 32))]) (.lit (.int 1))) (.and (.cmp .eq (.call 167 [(.var 2), (.lit (.int 0)), (.lit (.int 6)), (.lit (.int 31))]) (.lit (.int 0))) (.cmp .eq (.call 167 [(.var 2), (.lit (.int 0)), (.lit (.int 2)), (.bin .pow (.lit (.int 10)) (.lit (.int 6)))]) (.lit (.int 12970034)))))]⟩
def d_need_column : LDef := ⟨1, 1, [.ite (.not (.call 5 [(.var 0), (.lit (.int 1)), (.glo "LONGEST" (.int 30))])) [.raise "InvalidColumn"] []]⟩
def d_reach : LDef := ⟨4, 6, [.asg 4 (.call 54 [(.var 0), (.sl (.var 1) (some (.bin .sub (.var 2) (.var 3))) (some (.var 2)))]),
    .asg 5 (.lit (.int 0)),
    .whil (.and (.cmp .isn (.var 4) (.lit .none)) (.and (.cmp .lt (.bin .add (.var 2) (.var 5)) (.bi .len [(.var 1)])) (.cmp .eq (.call 58 [(.var 4), (.bin .add (.var 3) (.var 5))]) (.ix (.var 1) (.bin .add (.var 2) (.var 5)))))) [.aug 5 .add (.lit (.int 1))],
    .ret (.var 5)]⟩
def d_least_rows : LDef := ⟨2, 11, [.asg 2 (.ext .madd [(.lst false [(.lit (.int 0))]), (.bin .mul (.lst false [(.bin .add (.glo "LONGEST" (.int 30)) (.lit (.int 1)))]) (.bi .len [(.var 1)]))]),
    .asg 3 (.comp true .seq [(.frz 2)] (.one 9) [9] none (.lst false [])),
    .for .range [(.bi .len [(.var 1)])] (.one 4) [.asg 5 (.lst true [(.tup [(.tup [(.lit (.str "write")), (.ix (.var 1) (.var 4))]), (.bin .add (.var 4) (.lit (.int 1)))])]),
    .for .range [(.lit (.int 1)), (.bin .add (.bi .min [(.glo "MOST" (.int 6)), (.var 4)]) (.lit (.int 1)))] (.one 6) [.for .range [(.lit (.int 1)), (.bin .add (.call 172 [(.var 0), (.var 1), (.var 4), (.var 6)]) (.lit (.int 1)))] (.one 10) [.app (.var 5) (.tup [(.tup [(.lit (.str "fill")), (.var 6), (.var 10)]), (.bin .add (.var 4) (.var 10))])]],
    .for .seq [(.frz 5)] (.many [7, 8]) [.ite (.cmp .lt (.bin .add (.ix (.var 2) (.var 4)) (.lit (.int 1))) (.ix (.var 2) (.var 8))) [.setix (.var 2) (.var 8) (.bin .add (.ix (.var 2) (.var 4)) (.lit (.int 1))),
    .setix (.var 3) (.var 8) (.bin .add (.ix (.var 3) (.var 4)) (.lst false [(.var 7)]))] []]],
    .ret (.frz 3)]⟩
def d_fewest_deeds : LDef := ⟨2, 2, [.exp (.call 47 [(.var 0)]),
    .exp (.call 171 [(.var 1)]),
    .ret (.bi .len [(.ix (.call 173 [(.var 0), (.var 1)]) (.neg (.lit (.int 1))))])]⟩
def d_deeds_for : LDef := ⟨2, 2, [.exp (.call 47 [(.var 0)]),
    .exp (.call 171 [(.var 1)]),
    .ret (.ix (.call 173 [(.var 0), (.var 1)]) (.neg (.lit (.int 1))))]⟩
def d__law_next : LDef := ⟨3, 4, [.asg 3 (.ix (.call 53 [(.var 0), (.var 1), (.lit (.int 1)), (.var 2)]) (.lit (.int 1))),
    .ret (.ite (.cmp .is (.var 3) (.lit .none)) (.lit .none) (.sl (.var 3) (some (.bi .len [(.var 1)])) none))]⟩
def d__law_column : LDef := ⟨2, 7, [.asg 2 (.tup []),
    .whil (.cmp .lt (.bi .len [(.var 2)]) (.bin .add (.lit (.int 2)) (.call 10 [(.var 0), (.lit (.int 14))]))) [.asg 4 (.bi .min [(.bi .len [(.var 2)]), (.bin .add (.lit (.int 1)) (.call 10 [(.var 0), (.lit (.int 6))]))]),
    .asg 5 (.lit .none),
    .ite (.and (.cmp .gt (.var 4) (.lit (.int 0))) (.cmp .eq (.call 10 [(.var 0), (.lit (.int 2))]) (.lit (.int 0)))) [.asg 5 (.call 176 [(.var 1), (.sl (.var 2) (some (.bin .sub (.bi .len [(.var 2)]) (.var 4))) none), (.bin .add (.lit (.int 1)) (.call 10 [(.var 0), (.lit (.int 6))]))])] [],
    .ite (.cmp .is (.var 5) (.lit .none)) [.asg 5 (.call 14 [(.var 0), (.bin .add (.lit (.int 1)) (.call 10 [(.var 0), (.lit (.int 3))]))])] [],
    .asg 2 (.bin .add (.var 2) (.bi .tuple [(.var 5)]))],
    .asg 2 (.sl (.var 2) none (some (.lit (.int 24)))),
    .asg 3 (.comp false .seq [(.var 2)] (.one 6) [6] (some (.or (.not (.call 16 [(.var 6)])) (.cmp .lt (.bi .abs [(.var 6)]) (.bin .pow (.lit (.int 10)) (.lit (.int 36)))))) (.var 6)),
    .ret (.ite (.cmp .eq (.bi .len [(.var 3)]) (.bi .len [(.var 2)])) (.var 2) (.tup [(.lit (.int 1)), (.lit (.int 2)), (.lit (.int 3))]))]⟩
def d__law_fewest : LDef := ⟨2, 9, [.asg 2 (.bi .len [(.var 1)]),
    .asg 3 (.ext .mmul [(.lst false [(.lit (.int 0))]), (.bin .add (.var 2) (.lit (.int 1)))]),
    .for .range [(.bin .sub (.var 2) (.lit (.int 1))), (.bin .sub (.lit (.int 0)) (.lit (.int 1))), (.bin .sub (.lit (.int 0)) (.lit (.int 1)))] (.one 4) [.asg 5 (.bin .add (.lit (.int 1)) (.ix (.var 3) (.bin .add (.var 4) (.lit (.int 1))))),
    .for .range [(.lit (.int 1)), (.bin .add (.bi .min [(.lit (.int 6)), (.var 4)]) (.lit (.int 1)))] (.one 6) [.asg 7 (.call 176 [(.var 0), (.sl (.var 1) (some (.bin .sub (.var 4) (.var 6))) (some (.var 4))), (.bin .sub (.var 2) (.var 4))]),
    .asg 8 (.var 4),
    .whil (.and (.cmp .isn (.var 7) (.lit .none)) (.and (.cmp .lt (.var 8) (.var 2)) (.cmp .eq (.ix (.var 7) (.bin .sub (.var 8) (.var 4))) (.ix (.var 1) (.var 8))))) [.asg 8 (.bin .add (.var 8) (.lit (.int 1))),
    .asg 5 (.bi .min [(.var 5), (.bin .add (.lit (.int 1)) (.ix (.var 3) (.var 8)))])]],
    .setix (.var 3) (.var 4) (.var 5)],
    .ret (.ix (.var 3) (.lit (.int 0)))]⟩
def d_law_k64 : LDef := ⟨1, 6, [.for .range [(.lit (.int 5))] (.one 1) [.asg 3 (.call 9 [(.var 0), (.var 1)]),
    .for .range [(.lit (.int 3))] (.one 4) [.asg 2 (.call 26 [(.var 3), (.lit (.int 4))]),
    .asg 5 (.call 177 [(.var 3), (.var 2)]),
    .ite (.cmp .ne (.call 174 [(.var 2), (.var 5)]) (.call 178 [(.var 2), (.var 5)])) [.ret (.lit (.bool false))] [],
    .ite (.or (.cmp .ne (.call 174 [(.var 2), (.sl (.var 5) none (some (.lit (.int 1))))]) (.lit (.int 1))) (.cmp .ne (.call 174 [(.tup [(.tup []), (.lit (.int 0)), (.lit (.str "stop"))]), (.var 5)]) (.bi .len [(.var 5)]))) [.ret (.lit (.bool false))] []]],
    .asg 2 (.tup [(.tup [(.tup [(.lit (.str "times")), (.lit (.int 3))]), (.tup [(.lit (.str "step")), (.lit (.int 2))]), (.tup [(.lit (.str "list")), (.tup [(.lit (.str "mon")), (.lit (.str "tue")), (.lit (.str "wed"))])]), (.tup [(.lit (.str "count")), (.lit (.int 1))])]), (.lit (.int 2)), (.lit (.str "copy"))]),
    .ite (.or (.cmp .ne (.call 174 [(.var 2), (.tup [(.lit (.int 1)), (.lit (.int 2)), (.lit (.int 3)), (.lit (.int 4)), (.lit (.int 5))])]) (.lit (.int 3))) (.cmp .ne (.call 174 [(.var 2), (.tup [(.lit (.int 1)), (.lit (.int 2)), (.lit (.int 4)), (.lit (.int 8)), (.lit (.int 16)), (.lit (.int 5)), (.lit (.int 5))])]) (.lit (.int 6)))) [.ret (.lit (.bool false))] [],
    .ite (.cmp .ne (.call 174 [(.tup [(.tup []), (.lit (.int 0)), (.lit (.str "copy"))]), (.tup [(.lit (.int 1)), (.lit (.int 5)), (.lit (.int 2)), (.lit (.int 9)), (.lit (.int 1)), (.lit (.int 5)), (.lit (.int 2)), (.lit (.int 9))])]) (.lit (.int 5))) [.ret (.lit (.bool false))] [],
    .ret (.cmp .eq (.call 174 [(.var 2), (.tup [(.lit (.str "mon")), (.lit (.str "tue")), (.lit (.str "wed")), (.lit (.str "mon")), (.tup [(.lit (.str "a")), (.lit (.int 1))]), (.tup [(.lit (.str "a")), (.lit (.int 2))]), (.tup [(.lit (.str "a")), (.lit (.int 3))])])]) (.lit (.int 4)))]⟩
def d_need_seen : LDef := ⟨1, 2, [.ite (.or (.not (.isi (.var 0) .tuple)) (.cmp .gt (.bi .len [(.var 0)]) (.lit (.int 6)))) [.raise "InvalidSeen"] [],
    .for .seq [(.var 0)] (.one 1) [.ite (.or (.not (.isi (.var 1) .tuple)) (.or (.cmp .ne (.bi .len [(.var 1)]) (.lit (.int 2))) (.not (.call 6 [(.ix (.var 1) (.lit (.int 0)))])))) [.raise "InvalidSeen"] [],
    .ite (.and (.cmp .isn (.ix (.var 1) (.lit (.int 1))) (.lit .none)) (.not (.call 5 [(.ix (.var 1) (.lit (.int 1))), (.lit (.int 1)), (.glo "LONGEST" (.int 12))]))) [.raise "InvalidSeen"] []]]⟩
def d_explains : LDef := ⟨2, 5, [.for .seq [(.var 1)] (.many [2, 3]) [.asg 4 (.call 54 [(.var 0), (.var 2)]),
    .ite (.or (.cmp .is (.var 4) (.lit .none)) (.cmp .is (.var 3) (.lit .none))) [.ite (.or (.cmp .isn (.var 4) (.lit .none)) (.cmp .isn (.var 3) (.lit .none))) [.ret (.lit (.bool false))] []] [.ite (.cmp .ne (.call 61 [(.var 4), (.bi .len [(.var 2)]), (.bi .len [(.var 3)])]) (.bi .list [(.var 3)])) [.ret (.lit (.bool false))] []]],
    .ret (.lit (.bool true))]⟩
def d_fitting : LDef := ⟨2, 5, [.ite (.or (.not (.isi (.var 0) .tuple)) (.or (.not (.chain .le .le (.lit (.int 1)) (.bi .len [(.var 0)]) (.lit (.int 6)))) (.not (.bi .all [(.comp false .seq [(.var 0)] (.one 4) [4] none (.call 24 [(.var 4)]))])))) [.raise "InvalidManner"] [],
    .exp (.call 179 [(.var 1)]),
    .ret (.comp false .enum [(.var 0)] (.many [2, 3]) [2, 3] (some (.call 180 [(.var 3), (.var 1)])) (.var 2))]⟩
def d__law_seen : LDef := ⟨2, 12, [.asg 2 (.lst true []),
    .for .range [(.call 10 [(.var 0), (.lit (.int 5))])] (.one 3) [.asgT [4, 5] [(.call 15 [(.var 0)]), (.bin .add (.lit (.int 1)) (.call 10 [(.var 0), (.lit (.int 8))]))],
    .asg 6 (.ix (.call 53 [(.var 1), (.var 4), (.lit (.int 1)), (.var 5)]) (.lit (.int 1))),
    .asg 7 (.ite (.cmp .is (.var 6) (.lit .none)) (.lit .none) (.bi .tuple [(.sl (.var 6) (some (.bi .len [(.var 4)])) none)])),
    .asg 8 (.ite (.cmp .is (.var 7) (.lit .none)) (.lst false []) (.comp false .seq [(.var 7)] (.one 10) [10] (some (.call 16 [(.var 10)])) (.var 10))),
    .ite (.and (.cmp .isn (.var 7) (.lit .none)) (.cmp .ne (.comp false .seq [(.var 8)] (.one 11) [11] (some (.cmp .gt (.bi .abs [(.var 11)]) (.bin .pow (.lit (.int 10)) (.lit (.int 38))))) (.var 11)) (.lst false []))) [.asg 7 (.sl (.var 7) none (some (.lit (.int 1))))] [],
    .asg 9 (.call 10 [(.var 0), (.lit (.int 10))]),
    .ite (.cmp .eq (.var 9) (.lit (.int 0))) [.asg 7 (.ite (.cmp .is (.var 7) (.lit .none)) (.tup [(.ix (.var 4) (.lit (.int 0)))]) (.lit .none))] [],
    .ite (.and (.cmp .eq (.var 9) (.lit (.int 1))) (.cmp .isn (.var 7) (.lit .none))) [.asg 7 (.bin .add (.sl (.var 7) none (some (.neg (.lit (.int 1))))) (.tup [(.ix (.var 4) (.lit (.int 0)))]))] [],
    .app (.var 2) (.tup [(.var 4), (.var 7)])],
    .ret (.bi .tuple [(.var 2)])]⟩
def d__law_explains : LDef := ⟨2, 5, [.for .seq [(.var 1)] (.many [2, 3]) [.asg 4 (.ix (.call 53 [(.var 0), (.var 2), (.lit (.int 1)), (.ite (.cmp .is (.var 3) (.lit .none)) (.lit (.int 0)) (.bi .len [(.var 3)]))]) (.lit (.int 1))),
    .ite (.or (.cmp .ne (.cmp .is (.var 4) (.lit .none)) (.cmp .is (.var 3) (.lit .none))) (.and (.cmp .isn (.var 3) (.lit .none)) (.cmp .ne (.bi .tuple [(.sl (.var 4) (some (.bi .len [(.var 2)])) none)]) (.var 3)))) [.ret (.lit (.bool false))] []],
    .ret (.lit (.bool true))]⟩
def d_in_order : LDef := ⟨2, 3, [.ret (.call 114 [(.var 0), (.bi .tuple [(.comp false .seq [(.var 1)] (.one 2) [2] none (.ix (.ix (.var 0) (.lit (.int 0))) (.var 2)))])])]⟩
def d_orders_of : LDef := ⟨1, 5, [.asg 1 (.lst false [(.tup [])]),
    .for .range [(.var 0)] (.one 2) [.asg 1 (.comp2 false .seq [(.var 1)] (.one 3) none .range [(.var 0)] (.one 4) [4] (some (.cmp .nin (.var 4) (.var 3))) [3, 4] (.bin .add (.var 3) (.tup [(.var 4)])))],
    .ret (.var 1)]⟩
def d_orders_for : LDef := ⟨2, 3, [.exp (.call 47 [(.var 0)]),
    .exp (.call 179 [(.var 1)]),
    .ret (.comp false .seq [(.call 185 [(.bi .len [(.ix (.var 0) (.lit (.int 0)))])])] (.one 2) [2] (some (.call 180 [(.call 184 [(.var 0), (.var 2)]), (.var 1)])) (.var 2))]⟩
def d_leasts_for : LDef := ⟨3, 5, [.exp (.call 47 [(.var 0)]),
    .asg 3 (.call 121 [(.var 0), (.var 1)]),
    .exp (.call 179 [(.var 2)]),
    .ret (.comp false .seq [(.var 3)] (.one 4) [4] (some (.call 180 [(.call 120 [(.var 0), (.var 1), (.var 4)]), (.var 2)])) (.var 4))]⟩
def d__law_orders : LDef := ⟨1, 6, [.asg 1 (.lst false [(.tup [])]),
    .for .range [(.var 0)] (.one 2) [.asg 3 (.lst false []),
    .for .seq [(.var 1)] (.one 4) [.asg 3 (.bin .add (.var 3) (.comp false .range [(.var 0)] (.one 5) [5] (some (.cmp .nin (.var 5) (.var 4))) (.bin .add (.var 4) (.tup [(.var 5)]))))],
    .asg 1 (.var 3)],
    .ret (.var 1)]⟩
def d_guesser_text : LDef := ⟨1, 3, [.unp [1, 2] (.var 0),
    .ret (.bin .add (.bin .add (.var 1) (.lit (.str " "))) (.ite (.cmp .eq (.var 1) (.lit (.str "list"))) (.meth .join (.lit (.str " ")) (.var 2)) (.bi .str [(.var 2)])))]⟩
def d_written : LDef := ⟨1, 3, [.asg 1 (.comp true .seq [(.ix (.var 0) (.lit (.int 0)))] (.one 2) [2] none (.call 189 [(.var 2)])),
    .ite (.cmp .gt (.ix (.var 0) (.lit (.int 1))) (.lit (.int 0))) [.app (.var 1) (.bin .add (.lit (.str "woven ")) (.bi .str [(.ix (.var 0) (.lit (.int 1)))]))] [],
    .ret (.meth .join (.lit (.str "\n")) (.bin .add (.var 1) (.lst false [(.ix (.var 0) (.lit (.int 2)))])))]⟩
def d_manner_text : LDef := ⟨1, 1, [.exp (.call 47 [(.var 0)]),
    .ret (.call 190 [(.var 0)])]⟩
def d_guesser_of : LDef := ⟨1, 3, [.asg 1 (.meth .split (.var 0) (.lit (.str " "))),
    .ite (.cmp .eq (.ix (.var 1) (.lit (.int 0))) (.lit (.str "list"))) [.asg 2 (.tup [(.lit (.str "list")), (.bi .tuple [(.sl (.var 1) (some (.lit (.int 1))) none)])])] [.ite (.and (.cmp .eq (.bi .len [(.var 1)]) (.lit (.int 2))) (.and (.cmp .ne (.ix (.var 1) (.lit (.int 0))) (.lit (.str "line"))) (.cmp .in_ (.ix (.var 1) (.lit (.int 1))) (.tup [(.lit (.str "1")), (.lit (.str "2")), (.lit (.str "3")), (.lit (.str "4"))])))) [.asg 2 (.tup [(.ix (.var 1) (.lit (.int 0))), (.bi .int [(.ix (.var 1) (.lit (.int 1)))])])] [.asg 2 (.ite (.cmp .eq (.bi .len [(.var 1)]) (.lit (.int 2))) (.tup [(.ix (.var 1) (.lit (.int 0))), (.ix (.var 1) (.lit (.int 1)))]) (.lit .none))]],
    .ret (.ite (.call 22 [(.var 2)]) (.var 2) (.lit .none))]⟩
def d__law_text : LDef := ⟨1, 4, [.asg 1 (.lst true []),
    .for .seq [(.ix (.var 0) (.lit (.int 0)))] (.many [2, 3]) [.app (.var 1) (.bin .add (.bin .add (.var 2) (.lit (.str " "))) (.ite (.cmp .eq (.var 2) (.lit (.str "list"))) (.meth .join (.lit (.str " ")) (.var 3)) (.bi .str [(.var 3)])))],
    .ret (.meth .join (.lit (.str "\n")) (.bin .add (.bin .add (.var 1) (.ite (.cmp .gt (.ix (.var 0) (.lit (.int 1))) (.lit (.int 0))) (.lst false [(.bin .add (.lit (.str "woven ")) (.bi .str [(.ix (.var 0) (.lit (.int 1)))]))]) (.lst false []))) (.lst false [(.ix (.var 0) (.lit (.int 2)))])))]⟩
def d__law_due : LDef := ⟨1, 7, [.asgT [1, 2, 3] [(.lst true []), (.lit (.int 0)), (.meth .split (.var 0) (.lit (.str "\n")))],
    .for .enum [(.var 3)] (.many [4, 5]) [.ite (.cmp .in_ (.var 5) (.lst false [(.lit (.str "copy")), (.lit (.str "stop"))])) [.ret (.ite (.cmp .eq (.var 4) (.bin .sub (.bi .len [(.var 3)]) (.lit (.int 1)))) (.tup [(.bi .tuple [(.var 1)]), (.var 2), (.var 5)]) (.bin .add (.var 4) (.lit (.int 2))))] [],
    .asg 6 (.call 195 [(.var 5)]),
    .ite (.and (.cmp .in_ (.var 5) (.lst false [(.lit (.str "woven 2")), (.lit (.str "woven 3"))])) (.cmp .eq (.var 2) (.lit (.int 0)))) [.asg 2 (.bi .int [(.sl (.var 5) (some (.neg (.lit (.int 1)))) none)])] [.ite (.or (.cmp .is (.var 6) (.lit .none)) (.or (.cmp .in_ (.var 6) (.var 1)) (.or (.cmp .gt (.var 2) (.lit (.int 0))) (.cmp .eq (.bi .len [(.var 1)]) (.lit (.int 5)))))) [.ret (.bin .add (.var 4) (.lit (.int 1)))] [.app (.var 1) (.var 6)]]],
    .ret (.bin .add (.bi .len [(.var 3)]) (.lit (.int 1)))]⟩
def d_law_k81 : LDef := ⟨1, 15, [.for .range [(.lit (.int 10))] (.one 1) [.asg 2 (.call 9 [(.var 0), (.var 1)]),
    .for .range [(.lit (.int 4))] (.one 3) [.asg 5 (.call 26 [(.var 2), (.lit (.int 5))]),
    .asg 6 (.call 194 [(.var 5)]),
    .ite (.or (.cmp .ne (.call 191 [(.var 5)]) (.var 6)) (.or (.cmp .ne (.call 193 [(.var 6)]) (.var 5)) (.cmp .ne (.call 196 [(.var 6)]) (.var 5)))) [.ret (.lit (.bool false))] [],
    .for .range [(.lit (.int 8))] (.one 7) [.asgT [8, 9] [(.meth .split (.var 6) (.lit (.str "\n"))), (.call 10 [(.var 2), (.bi .len [(.meth .split (.var 6) (.lit (.str "\n")))])])],
    .asg 10 (.lst false [(.lit (.str "")), (.lit (.str "step 2")), (.lit (.str "step 5")), (.lit (.str "times 1")), (.lit (.str "line up")), (.lit (.str "list a b")), (.lit (.str "list a a")), (.lit (.str "list a")), (.lit (.str "count 1"))]),
    .asg 10 (.bin .add (.var 10) (.lst false [(.lit (.str "copy")), (.lit (.str "stop")), (.lit (.str "woven 2")), (.lit (.str "woven 0")), (.lit (.str "step  2")), (.lit (.str "step 02")), (.lit (.str " copy")), (.lit (.str "line half"))])),
    .asg 10 (.bin .add (.var 10) (.lst false [(.lit (.str "list a b c d e f g h"))])),
    .asg 11 (.ix (.var 10) (.call 10 [(.var 2), (.bi .len [(.var 10)])])),
    .asg 12 (.call 10 [(.var 2), (.lit (.int 4))]),
    .asg 13 (.bin .add (.bin .add (.sl (.var 8) none (some (.var 9))) (.ite (.cmp .lt (.var 12) (.lit (.int 3))) (.lst false [(.var 11)]) (.lst false []))) (.sl (.var 8) (some (.bin .add (.var 9) (.bi .int [(.cmp .ne (.var 12) (.lit (.int 1)))]))) none)),
    .asg 14 (.meth .join (.lit (.str "\n")) (.var 13)),
    .ite (.cmp .ne (.call 197 [(.var 14)]) (.call 196 [(.var 14)])) [.ret (.lit (.bool false))] []]],
    .asg 4 (.call 11 [(.var 2), (.lst false [(.lit .none), (.lit (.int 5)), (.tup []), (.lst false [(.lit (.str "copy"))]), (.lit (.bool true))])]),
    .ite (.or (.cmp .ne (.call 197 [(.var 4)]) (.lit (.int 0))) (.isi (.call 197 [(.var 4)]) .bool)) [.ret (.lit (.bool false))] []],
    .ite (.or (.cmp .ne (.call 193 [(.lit (.str "stop"))]) (.tup [(.tup []), (.lit (.int 0)), (.lit (.str "stop"))])) (.or (.cmp .ne (.call 197 [(.lit (.str ""))]) (.lit (.int 1))) (.cmp .ne (.call 197 [(.lit (.str "step 1"))]) (.lit (.int 2))))) [.ret (.lit (.bool false))] [],
    .ret (.and (.cmp .eq (.call 197 [(.lit (.str "copy\n"))]) (.lit (.int 2))) (.cmp .eq (.call 193 [(.lit (.str "line half\nwoven 3\ncopy"))]) (.tup [(.tup [(.tup [(.lit (.str "line")), (.lit (.str "half"))])]), (.lit (.int 3)), (.lit (.str "copy"))])))]⟩
def d__law_cell_text : LDef := ⟨1, 1, [.ite (.isi (.var 0) .tuple) [.ret (.bin .add (.bin .add (.ix (.var 0) (.lit (.int 0))) (.lit (.str " "))) (.bi .str [(.ix (.var 0) (.lit (.int 1)))]))] [],
    .ret (.bi .str [(.var 0)])]⟩
def d__law_lines : LDef := ⟨1, 5, [.asg 1 (.comp false .seq [(.var 0)] (.one 3) [3] none (.call 201 [(.var 3)])),
    .asg 2 (.bi .max [(.bin .add (.lst false [(.lit (.int 0))]) (.comp false .seq [(.var 1)] (.one 4) [4] none (.bi .len [(.var 4)])))]),
    .ret (.comp false .seq [(.var 1)] (.one 4) [4] none (.bin .add (.bin .mul (.lit (.str " ")) (.bin .sub (.var 2) (.bi .len [(.var 4)]))) (.var 4)))]⟩
def d__law_due_2 : LDef := ⟨2, 9, [.unp [2, 3] (.var 0),
    .ite (.cmp .eq (.ix (.var 1) (.lit (.int 0))) (.lit (.str "write"))) [.ite (.cmp .ne (.comp false .seq [(.ix (.var 1) (.lit (.int 1)))] (.one 8) [8] (some (.or (.cmp .is (.var 8) (.lit .none)) (.isi (.var 8) .bool))) (.var 8)) (.lst false [])) [.ret (.tup [(.lit .none), (.lit (.str "cell"))])] [],
    .ite (.cmp .gt (.bin .add (.bi .len [(.var 3)]) (.bi .len [(.ix (.var 1) (.lit (.int 1)))])) (.lit (.int 60))) [.ret (.tup [(.lit .none), (.lit (.str "many"))])] [],
    .ret (.tup [(.tup [(.var 2), (.bin .add (.var 3) (.ix (.var 1) (.lit (.int 1))))]), (.bin .add (.bi .len [(.var 3)]) (.bi .len [(.ix (.var 1) (.lit (.int 1)))]))])] [],
    .ite (.cmp .eq (.ix (.var 1) (.lit (.int 0))) (.lit (.str "fill"))) [.unp [4, 5] (.sl (.var 1) (some (.lit (.int 1))) none),
    .ite (.or (.not (.call 16 [(.var 4)])) (.not (.chain .le .le (.lit (.int 1)) (.var 4) (.bi .min [(.lit (.int 6)), (.bi .len [(.var 3)])])))) [.ret (.tup [(.lit .none), (.lit (.str "number"))])] [],
    .ite (.or (.not (.call 16 [(.var 5)])) (.not (.chain .le .le (.lit (.int 1)) (.var 5) (.lit (.int 60))))) [.ret (.tup [(.lit .none), (.lit (.str "number"))])] [],
    .asg 6 (.ix (.call 53 [(.var 2), (.sl (.var 3) (some (.bin .sub (.bi .len [(.var 3)]) (.var 4))) none), (.lit (.int 1)), (.var 5)]) (.lit (.int 1))),
    .ite (.or (.cmp .is (.var 6) (.lit .none)) (.cmp .gt (.bin .add (.bi .len [(.var 3)]) (.var 5)) (.lit (.int 60)))) [.ret (.tup [(.lit .none), (.ite (.cmp .is (.var 6) (.lit .none)) (.lit (.str "filled")) (.lit (.str "many")))])] [],
    .ret (.tup [(.tup [(.var 2), (.bin .add (.var 3) (.bi .tuple [(.sl (.var 6) (some (.var 4)) none)]))]), (.sl (.var 6) (some (.var 4)) none)])] [],
    .ite (.cmp .eq (.ix (.var 1) (.lit (.int 0))) (.lit (.str "cut"))) [.ite (.or (.not (.call 16 [(.ix (.var 1) (.lit (.int 1)))])) (.not (.chain .le .le (.lit (.int 0)) (.ix (.var 1) (.lit (.int 1))) (.bi .len [(.var 3)])))) [.ret (.tup [(.lit .none), (.lit (.str "number"))])] [],
    .asg 7 (.bin .sub (.bi .len [(.var 3)]) (.ix (.var 1) (.lit (.int 1)))),
    .ret (.tup [(.tup [(.var 2), (.sl (.var 3) none (some (.var 7)))]), (.bi .list [(.sl (.var 3) (some (.var 7)) none)])])] [],
    .ret (.ite (.and (.isi (.ix (.var 1) (.lit (.int 1))) .tuple) (.cmp .eq (.bi .len [(.ix (.var 1) (.lit (.int 1)))]) (.lit (.int 3)))) (.tup [(.tup [(.ix (.var 1) (.lit (.int 1))), (.var 3)]), (.lit .none)]) (.tup [(.lit .none), (.lit (.str "manner"))]))]⟩
def d__law_deed : LDef := ⟨1, 5, [.asg 1 (.call 10 [(.var 0), (.lit (.int 10))]),
    .ite (.cmp .lt (.var 1) (.lit (.int 4))) [.asg 2 (.call 14 [(.var 0), (.bin .add (.call 10 [(.var 0), (.lit (.int 4))]) (.bi .int [(.cmp .gt (.var 1) (.lit (.int 0)))]))]),
    .asg 3 (.call 11 [(.var 0), (.lst false [(.lit .none), (.lit (.bool true))])]),
    .ret (.tup [(.lit (.str "write")), (.ite (.cmp .eq (.call 10 [(.var 0), (.lit (.int 9))]) (.lit (.int 0))) (.bin .add (.var 2) (.tup [(.var 3)])) (.var 2))])] [],
    .ite (.cmp .lt (.var 1) (.lit (.int 8))) [.asg 4 (.call 11 [(.var 0), (.lst false [(.lit (.int 1)), (.lit (.int 2)), (.lit (.int 3)), (.lit (.int 4)), (.lit (.int 5)), (.lit (.int 6)), (.lit (.int 2)), (.lit (.int 3)), (.lit (.int 0)), (.lit (.int 7)), (.lit .none), (.lit (.bool true))])]),
    .ret (.tup [(.lit (.str "fill")), (.var 4), (.call 11 [(.var 0), (.lst false [(.lit (.int 1)), (.lit (.int 2)), (.lit (.int 3)), (.lit (.int 5)), (.lit (.int 9)), (.lit (.int 40)), (.lit (.int 0)), (.lit (.int 61)), (.lit .none)])])])] [],
    .ite (.cmp .eq (.var 1) (.lit (.int 8))) [.ret (.tup [(.lit (.str "cut")), (.call 11 [(.var 0), (.lst false [(.lit (.int 0)), (.lit (.int 1)), (.lit (.int 2)), (.lit (.int 5)), (.lit (.int 61)), (.neg (.lit (.int 1))), (.lit .none), (.lit (.bool true))])])])] [],
    .ret (.tup [(.lit (.str "turn")), (.ite (.cmp .gt (.call 10 [(.var 0), (.lit (.int 5))]) (.lit (.int 0))) (.call 26 [(.var 0), (.lit (.int 3))]) (.tup [(.tup []), (.lit (.int 0))]))])]⟩
def d_need_seen_2 : LDef := ⟨1, 2, [.ite (.or (.not (.isi (.var 0) .tuple)) (.cmp .gt (.bi .len [(.var 0)]) (.lit (.int 6)))) [.raise "InvalidSeen"] [],
    .for .seq [(.var 0)] (.one 1) [.ite (.or (.not (.isi (.var 1) .tuple)) (.or (.cmp .ne (.bi .len [(.var 1)]) (.lit (.int 2))) (.not (.call 6 [(.ix (.var 1) (.lit (.int 0)))])))) [.raise "InvalidSeen"] [],
    .ite (.and (.cmp .isn (.ix (.var 1) (.lit (.int 1))) (.lit .none)) (.not (.call 5 [(.ix (.var 1) (.lit (.int 1))), (.lit (.int 1)), (.glo "LONGEST_told" (.int 12))]))) [.raise "InvalidSeen"] []]]⟩
def d_need_column_2 : LDef := ⟨1, 1, [.ite (.not (.call 5 [(.var 0), (.lit (.int 1)), (.glo "LONGEST_writing" (.int 30))])) [.raise "InvalidColumn"] []]⟩
def d_least_rows_2 : LDef := ⟨2, 11, [.asg 2 (.ext .madd [(.lst false [(.lit (.int 0))]), (.bin .mul (.lst false [(.bin .add (.glo "LONGEST_writing" (.int 30)) (.lit (.int 1)))]) (.bi .len [(.var 1)]))]),
    .asg 3 (.comp true .seq [(.frz 2)] (.one 9) [9] none (.lst false [])),
    .for .range [(.bi .len [(.var 1)])] (.one 4) [.asg 5 (.lst true [(.tup [(.tup [(.lit (.str "write")), (.ix (.var 1) (.var 4))]), (.bin .add (.var 4) (.lit (.int 1)))])]),
    .for .range [(.lit (.int 1)), (.bin .add (.bi .min [(.glo "MOST" (.int 6)), (.var 4)]) (.lit (.int 1)))] (.one 6) [.for .range [(.lit (.int 1)), (.bin .add (.call 172 [(.var 0), (.var 1), (.var 4), (.var 6)]) (.lit (.int 1)))] (.one 10) [.app (.var 5) (.tup [(.tup [(.lit (.str "fill")), (.var 6), (.var 10)]), (.bin .add (.var 4) (.var 10))])]],
    .for .seq [(.frz 5)] (.many [7, 8]) [.ite (.cmp .lt (.bin .add (.ix (.var 2) (.var 4)) (.lit (.int 1))) (.ix (.var 2) (.var 8))) [.setix (.var 2) (.var 8) (.bin .add (.ix (.var 2) (.var 4)) (.lit (.int 1))),
    .setix (.var 3) (.var 8) (.bin .add (.ix (.var 3) (.var 4)) (.lst false [(.var 7)]))] []]],
    .ret (.frz 3)]⟩
def d__law_manner_calls : LDef := ⟨1, 1, [.ret (.bin .add (.call 212 [(.var 0)]) (.call 213 [(.var 0)]))]⟩
def d__law_second_calls : LDef := ⟨2, 2, [.ret (.bin .add (.call 215 [(.var 0), (.var 1)]) (.call 216 [(.var 0), (.var 1)]))]⟩
def d__law_filled : LDef := ⟨2, 2, [.ite (.or (.cmp .ne (.call 62 [(.var 0), (.tup [(.var 1), (.bin .add (.var 1) (.lit (.int 1)))]), (.lit (.int 3))]) (.lst false [(.bin .add (.var 1) (.lit (.int 2))), (.bin .add (.var 1) (.lit (.int 3))), (.bin .add (.var 1) (.lit (.int 4)))])) (.cmp .ne (.call 62 [(.var 0), (.tup [(.lit (.int 1)), (.lit (.int 2)), (.lit (.int 4))]), (.lit (.int 2))]) (.lst false [(.lit (.int 8)), (.lit (.int 16))]))) [.ret (.lit (.bool false))] [],
    .ite (.or (.cmp .ne (.call 62 [(.var 0), (.tup [(.lit (.str "wed"))]), (.lit (.int 2))]) (.lst false [(.lit (.str "mon")), (.lit (.str "tue"))])) (.cmp .ne (.call 62 [(.var 0), (.tup [(.tup [(.lit (.str "box")), (.var 1)])]), (.lit (.int 1))]) (.lst false [(.tup [(.lit (.str "box")), (.bin .add (.var 1) (.lit (.int 1)))])]))) [.ret (.lit (.bool false))] [],
    .ite (.cmp .ne (.call 62 [(.var 0), (.tup [(.var 1), (.lit (.str "mon")), (.bin .add (.var 1) (.lit (.int 4))), (.lit (.str "wed"))]), (.lit (.int 4))]) (.lst false [(.bin .add (.var 1) (.lit (.int 8))), (.lit (.str "tue")), (.bin .add (.var 1) (.lit (.int 12))), (.lit (.str "mon"))])) [.ret (.lit (.bool false))] [],
    .ite (.or (.cmp .ne (.call 64 [(.var 0), (.tup [(.var 1), (.bin .add (.var 1) (.lit (.int 1)))]), (.lit (.int 2))]) (.lst false [(.bin .sub (.var 1) (.lit (.int 1))), (.bin .sub (.var 1) (.lit (.int 2)))])) (.cmp .ne (.call 64 [(.var 0), (.tup [(.lit (.str "mon"))]), (.lit (.int 2))]) (.lst false [(.lit (.str "wed")), (.lit (.str "tue"))]))) [.ret (.lit (.bool false))] [],
    .ret (.and (.cmp .eq (.call 67 [(.var 0), (.tup [(.lit (.int 1)), (.lit (.int 2)), (.lit (.int 4))]), (.lit (.int 10))]) (.lit (.int 1024))) (.cmp .eq (.call 68 [(.var 0), (.tup [(.lit (.int 1)), (.lit (.int 2)), (.lit (.int 4))]), (.bin .pow (.lit (.int 10)) (.lit (.int 15))), (.lit (.int 1000))]) (.lit (.int 376))))]⟩
def d__law_judged : LDef := ⟨3, 4, [.ite (.or (.cmp .ne (.call 116 [(.var 0)]) (.lst false [])) (.or (.cmp .ne (.call 116 [(.var 1)]) (.lst false [(.lit (.int 0))])) (.or (.cmp .ne (.call 119 [(.var 0)]) (.lst false [(.lit (.int 0)), (.lit (.int 1)), (.lit (.int 2))])) (.cmp .ne (.call 123 [(.var 1)]) (.lst false [(.lit (.int 0)), (.lit (.int 2)), (.lit (.int 3))]))))) [.ret (.lit (.bool false))] [],
    .ite (.or (.cmp .ne (.call 117 [(.var 1)]) (.tup [(.tup [(.tup [(.lit (.str "line")), (.lit (.str "half"))])]), (.lit (.int 0)), (.lit (.str "stop"))])) (.or (.cmp .ne (.call 122 [(.var 1), (.lit (.int 0))]) (.lst false [(.lit (.int 2)), (.lit (.int 3)), (.lit (.int 4))])) (.cmp .ne (.call 122 [(.var 0), (.lit (.int 0))]) (.lst false [(.lit (.int 3))])))) [.ret (.lit (.bool false))] [],
    .ite (.or (.cmp .isn (.call 105 [(.var 1), (.call 117 [(.var 1)])]) (.lit (.bool true))) (.or (.cmp .isn (.call 106 [(.var 1), (.call 117 [(.var 1)])]) (.lit .none)) (.call 113 [(.var 0), (.var 1)]))) [.ret (.lit (.bool false))] [],
    .ite (.or (.call 127 [(.var 1)]) (.or (.cmp .ne (.call 128 [(.var 2)]) (.tup [(.tup [(.lit (.int 1))]), (.lit (.int 1))])) (.not (.call 127 [(.tup [(.sl (.ix (.var 2) (.lit (.int 0))) (some (.lit (.int 1))) none), (.lit (.int 0)), (.lit (.str "stop"))])])))) [.ret (.lit (.bool false))] [],
    .ite (.cmp .ne (.comp false .seq [(.lst false [(.lit (.str "step")), (.lit (.str "times")), (.tup [(.lit (.str "wed")), (.lit (.str "tue")), (.lit (.str "mon"))]), (.tup [(.lit (.str "mon")), (.lit (.str "tue"))])])] (.one 3) [3] none (.call 155 [(.var 0), (.var 3)])) (.lst false [(.lit (.int 2)), (.lit (.int 3)), (.lit (.int 2)), (.lit (.int 6))])) [.ret (.lit (.bool false))] [],
    .ret (.and (.cmp .eq (.call 155 [(.var 2), (.lit (.str "step"))]) (.lit (.int 3))) (.cmp .is (.call 155 [(.var 2), (.lit (.str "count"))]) (.lit .none)))]⟩
def d_law_k92 : LDef := ⟨1, 7, [.asg 1 (.tup [(.tup [(.tup [(.lit (.str "times")), (.lit (.int 3))]), (.tup [(.lit (.str "step")), (.lit (.int 2))]), (.tup [(.lit (.str "list")), (.tup [(.lit (.str "mon")), (.lit (.str "tue")), (.lit (.str "wed"))])]), (.tup [(.lit (.str "count")), (.lit (.int 1))])]), (.lit (.int 2)), (.lit (.str "copy"))]),
    .asg 2 (.tup [(.tup [(.tup [(.lit (.str "step")), (.lit (.int 2))]), (.tup [(.lit (.str "line")), (.lit (.str "half"))])]), (.lit (.int 0)), (.lit (.str "stop"))]),
    .asg 3 (.tup [(.tup [(.tup [(.lit (.str "times")), (.lit (.int 2))]), (.tup [(.lit (.str "step")), (.lit (.int 1))]), (.tup [(.lit (.str "list")), (.tup [(.lit (.str "a")), (.lit (.str "b")), (.lit (.str "c"))])])]), (.lit (.int 0)), (.lit (.str "stop"))]),
    .for .range [(.lit (.int 8))] (.one 4) [.asg 5 (.call 9 [(.var 0), (.var 4)]),
    .asg 6 (.bin .sub (.call 10 [(.var 5), (.bin .mul (.lit (.int 2)) (.bin .pow (.lit (.int 10)) (.lit (.int 6))))]) (.bin .pow (.lit (.int 10)) (.lit (.int 6)))),
    .ite (.or (.not (.call 218 [(.var 1), (.var 6)])) (.cmp .isn (.call 132 [(.var 2), (.tup [(.var 6), (.bin .add (.var 6) (.lit (.int 7)))]), (.lit (.int 5))]) (.lit (.bool true)))) [.ret (.lit (.bool false))] [],
    .ite (.or (.cmp .ne (.call 149 [(.var 1), (.tup [(.lit (.str "step")), (.var 6), (.lit (.int 5))])]) (.lst false [(.lit (.int 2)), (.lit (.int 3)), (.lit (.int 4)), (.lit (.int 5)), (.lit (.int 6))])) (.cmp .ne (.call 150 [(.var 1), (.tup [(.lit (.str "times")), (.bin .add (.var 6) (.bin .mul (.lit (.int 2)) (.bin .pow (.lit (.int 10)) (.lit (.int 6))))), (.lit (.int 2))])]) (.lit (.int 3)))) [.ret (.lit (.bool false))] [],
    .ite (.or (.cmp .isn (.call 83 [(.var 1), (.var 2), (.tup [(.var 6), (.bin .add (.var 6) (.lit (.int 1)))])]) (.lit .none)) (.cmp .ne (.call 83 [(.var 1), (.var 2), (.tup [(.lit (.int 1)), (.lit (.int 2)), (.lit (.int 4))])]) (.lit (.int 3)))) [.ret (.lit (.bool false))] []],
    .ite (.or (.not (.call 219 [(.var 1), (.var 2), (.var 3)])) (.or (.cmp .isn (.call 132 [(.var 2), (.tup [(.lit (.int 0)), (.lit (.int 1)), (.lit (.int 0))]), (.lit (.int 1))]) (.lit (.bool false))) (.cmp .isn (.call 132 [(.var 2), (.tup [(.lit (.str "a"))]), (.lit (.int 1))]) (.lit .none)))) [.ret (.lit (.bool false))] [],
    .ret (.and (.cmp .is (.call 132 [(.var 3), (.tup [(.lit (.int 1)), (.lit (.int 2))]), (.lit (.int 1))]) (.lit (.bool false))) (.cmp .eq (.call 149 [(.var 1), (.tup [(.lit (.str "round")), (.tup [(.lit (.str "x")), (.lit (.str "y"))])])]) (.lst false [(.lit (.int 2)), (.lit (.int 4)), (.lit (.int 6))])))]⟩
def GT : Tab
  | 1 => some d_is_integer
  | 2 => some d_is_word
  | 3 => some d_is_numbered
  | 4 => some d_a_cell
  | 5 => some d_are_cells
  | 6 => some d_a_selection
  | 7 => some d_is_cell
  | 8 => some d_is_selection
  | 9 => some d__law_source
  | 10 => some d__law_pick
  | 11 => some d__law_chosen
  | 12 => some d__law_lists
  | 13 => some d__law_numbers
  | 14 => some d__law_some_cells
  | 15 => some d__law_selection
  | 16 => some d__law_is_integer
  | 17 => some d__law_is_word
  | 18 => some d__law_is_cell
  | 19 => some d__law_odd
  | 20 => some d_is_between
  | 21 => some d_are_words
  | 22 => some d_a_guesser
  | 23 => some d_is_guesser
  | 24 => some d_is_manner
  | 25 => some d__law_guesser
  | 26 => some d__law_manner
  | 27 => some d__law_is_guesser
  | 28 => some d__law_is_manner
  | 29 => some d__law_odd_2
  | 30 => some d__law_parted
  | 31 => some d_even_step
  | 32 => some d_even_factor
  | 33 => some d_stepped
  | 34 => some d_multiplied
  | 35 => some d_fitted
  | 36 => some d_counted
  | 37 => some d_listed
  | 38 => some d_guessed
  | 39 => some d_need_selection
  | 40 => some d_fits
  | 41 => some d__law_steps
  | 42 => some d__law_factor
  | 43 => some d__law_line
  | 44 => some d__law_told
  | 47 => some d_need_manner
  | 48 => some d_first_guess
  | 49 => some d_woven_row
  | 50 => some d_told_by
  | 51 => some d_taken_by
  | 52 => some d__law_first
  | 53 => some d__law_row
  | 54 => some d_row_for
  | 55 => some d_power
  | 56 => some d_line_parts
  | 57 => some d_line_at
  | 58 => some d_at
  | 59 => some d_need_number
  | 60 => some d_need_filling
  | 61 => some d_cells_behind
  | 62 => some d_continued
  | 63 => some d_cells_above
  | 64 => some d_above
  | 65 => some d_power_rest
  | 66 => some d_rest_in
  | 67 => some d_cell_at
  | 68 => some d_rest_at
  | 69 => some d__law_product
  | 70 => some d__law_far
  | 71 => some d__law_rest
  | 72 => some d_step_place
  | 73 => some d_times_place
  | 75 => some d_place_in
  | 77 => some d__law_place_of
  | 78 => some d__law_by_line
  | 79 => some d__law_line_at
  | 80 => some d__law_within
  | 81 => some d__law_place
  | 82 => some d_first_other
  | 83 => some d_parting_place
  | 84 => some d__law_near
  | 85 => some d__law_fitting
  | 86 => some d_same
  | 87 => some d_turned
  | 88 => some d_steps_of
  | 89 => some d_factors_of
  | 90 => some d_small_rows
  | 91 => some d_number_rows
  | 92 => some d_counted_rows
  | 93 => some d_walk
  | 94 => some d_walks
  | 96 => some d_plain_rows
  | 98 => some d_all_parts
  | 100 => some d_woven_rows
  | 102 => some d_selections
  | 103 => some d_parted_by
  | 104 => some d_need_both
  | 105 => some d_alike
  | 106 => some d_parting_selection
  | 107 => some d__law_alike_here
  | 108 => some d__law_more
  | 109 => some d__law_kinds
  | 110 => some d__law_lists_of
  | 111 => some d__law_pairs
  | 112 => some d_goes_along
  | 113 => some d_is_within
  | 114 => some d_with_guessers
  | 115 => some d_without
  | 116 => some d_needless
  | 117 => some d_shortened
  | 118 => some d_exchanged
  | 119 => some d_exchangeable
  | 120 => some d_with_least
  | 121 => some d_leasts_of
  | 122 => some d_same_leasts
  | 123 => some d_same_woven
  | 124 => some d__law_leasts
  | 125 => some d_first_cells
  | 126 => some d_shaken
  | 127 => some d_is_steady
  | 128 => some d_unsteady
  | 129 => some d__law_steady_here
  | 130 => some d__law_firm
  | 131 => some d_goes_back
  | 132 => some d_leads_back
  | 133 => some d__law_back_here
  | 134 => some d_astray
  | 135 => some d_always_leads_back
  | 136 => some d_not_leading_back
  | 137 => some d__law_back_here_2
  | 138 => some d_is_series
  | 139 => some d_need_series
  | 140 => some d_series_cells
  | 141 => some d__law_series_row
  | 142 => some d__law_series
  | 143 => some d__law_is_cell_2
  | 144 => some d__law_are_words
  | 145 => some d__law_is
  | 146 => some d_is_right
  | 147 => some d_sizes_right
  | 148 => some d_from_on
  | 149 => some d_right_sizes
  | 150 => some d_enough
  | 151 => some d__law_right_here
  | 152 => some d_is_kind
  | 153 => some d_need_kind
  | 154 => some d_all_of
  | 155 => some d_enough_for_all
  | 156 => some d_failing
  | 157 => some d__law_all_series
  | 158 => some d__law_is_of
  | 159 => some d__law_great
  | 160 => some d_parts_sum
  | 161 => some d_factor_rows
  | 162 => some d_step_rows
  | 164 => some d_takes
  | 166 => some d_need_counted
  | 167 => some d_count_taken
  | 168 => some d_count_left
  | 169 => some d__law_step_rows
  | 170 => some d__law_factor_rows
  | 171 => some d_need_column
  | 172 => some d_reach
  | 173 => some d_least_rows
  | 174 => some d_fewest_deeds
  | 175 => some d_deeds_for
  | 176 => some d__law_next
  | 177 => some d__law_column
  | 178 => some d__law_fewest
  | 179 => some d_need_seen
  | 180 => some d_explains
  | 181 => some d_fitting
  | 182 => some d__law_seen
  | 183 => some d__law_explains
  | 184 => some d_in_order
  | 185 => some d_orders_of
  | 186 => some d_orders_for
  | 187 => some d_leasts_for
  | 188 => some d__law_orders
  | 189 => some d_guesser_text
  | 190 => some d_written
  | 191 => some d_manner_text
  | 192 => some d_guesser_of
  | 194 => some d__law_text
  | 196 => some d__law_due
  | 201 => some d__law_cell_text
  | 202 => some d__law_lines
  | 204 => some d__law_due_2
  | 205 => some d__law_deed
  | 209 => some d_need_seen_2
  | 210 => some d_need_column_2
  | 211 => some d_least_rows_2
  | 214 => some d__law_manner_calls
  | 217 => some d__law_second_calls
  | 218 => some d__law_filled
  | 219 => some d__law_judged
  | 1001 => some d_law_k01
  | 1002 => some d_law_k02
  | 1015 => some d_law_k15
  | 1016 => some d_law_k16
  | 1021 => some d_law_k21
  | 1022 => some d_law_k22
  | 1023 => some d_law_k23
  | 1024 => some d_law_k24
  | 1041 => some d_law_k41
  | 1042 => some d_law_k42
  | 1054 => some d_law_k54
  | 1062 => some d_law_k62
  | 1064 => some d_law_k64
  | 1081 => some d_law_k81
  | 1092 => some d_law_k92
  | _ => none
theorem g_is_integer : GT 1 = some d_is_integer := rfl
theorem g_is_word : GT 2 = some d_is_word := rfl
theorem g_is_numbered : GT 3 = some d_is_numbered := rfl
theorem g_a_cell : GT 4 = some d_a_cell := rfl
theorem g_are_cells : GT 5 = some d_are_cells := rfl
theorem g_a_selection : GT 6 = some d_a_selection := rfl
theorem g_is_cell : GT 7 = some d_is_cell := rfl
theorem g_is_selection : GT 8 = some d_is_selection := rfl
theorem g__law_source : GT 9 = some d__law_source := rfl
theorem g__law_pick : GT 10 = some d__law_pick := rfl
theorem g__law_chosen : GT 11 = some d__law_chosen := rfl
theorem g__law_lists : GT 12 = some d__law_lists := rfl
theorem g__law_numbers : GT 13 = some d__law_numbers := rfl
theorem g__law_some_cells : GT 14 = some d__law_some_cells := rfl
theorem g__law_selection : GT 15 = some d__law_selection := rfl
theorem g__law_is_integer : GT 16 = some d__law_is_integer := rfl
theorem g__law_is_word : GT 17 = some d__law_is_word := rfl
theorem g__law_is_cell : GT 18 = some d__law_is_cell := rfl
theorem g__law_odd : GT 19 = some d__law_odd := rfl
theorem g_is_between : GT 20 = some d_is_between := rfl
theorem g_are_words : GT 21 = some d_are_words := rfl
theorem g_a_guesser : GT 22 = some d_a_guesser := rfl
theorem g_is_guesser : GT 23 = some d_is_guesser := rfl
theorem g_is_manner : GT 24 = some d_is_manner := rfl
theorem g__law_guesser : GT 25 = some d__law_guesser := rfl
theorem g__law_manner : GT 26 = some d__law_manner := rfl
theorem g__law_is_guesser : GT 27 = some d__law_is_guesser := rfl
theorem g__law_is_manner : GT 28 = some d__law_is_manner := rfl
theorem g__law_odd_2 : GT 29 = some d__law_odd_2 := rfl
theorem g__law_parted : GT 30 = some d__law_parted := rfl
theorem g_even_step : GT 31 = some d_even_step := rfl
theorem g_even_factor : GT 32 = some d_even_factor := rfl
theorem g_stepped : GT 33 = some d_stepped := rfl
theorem g_multiplied : GT 34 = some d_multiplied := rfl
theorem g_fitted : GT 35 = some d_fitted := rfl
theorem g_counted : GT 36 = some d_counted := rfl
theorem g_listed : GT 37 = some d_listed := rfl
theorem g_guessed : GT 38 = some d_guessed := rfl
theorem g_need_selection : GT 39 = some d_need_selection := rfl
theorem g_fits : GT 40 = some d_fits := rfl
theorem g__law_steps : GT 41 = some d__law_steps := rfl
theorem g__law_factor : GT 42 = some d__law_factor := rfl
theorem g__law_line : GT 43 = some d__law_line := rfl
theorem g__law_told : GT 44 = some d__law_told := rfl
theorem g_need_manner : GT 47 = some d_need_manner := rfl
theorem g_first_guess : GT 48 = some d_first_guess := rfl
theorem g_woven_row : GT 49 = some d_woven_row := rfl
theorem g_told_by : GT 50 = some d_told_by := rfl
theorem g_taken_by : GT 51 = some d_taken_by := rfl
theorem g__law_first : GT 52 = some d__law_first := rfl
theorem g__law_row : GT 53 = some d__law_row := rfl
theorem g_row_for : GT 54 = some d_row_for := rfl
theorem g_power : GT 55 = some d_power := rfl
theorem g_line_parts : GT 56 = some d_line_parts := rfl
theorem g_line_at : GT 57 = some d_line_at := rfl
theorem g_at : GT 58 = some d_at := rfl
theorem g_need_number : GT 59 = some d_need_number := rfl
theorem g_need_filling : GT 60 = some d_need_filling := rfl
theorem g_cells_behind : GT 61 = some d_cells_behind := rfl
theorem g_continued : GT 62 = some d_continued := rfl
theorem g_cells_above : GT 63 = some d_cells_above := rfl
theorem g_above : GT 64 = some d_above := rfl
theorem g_power_rest : GT 65 = some d_power_rest := rfl
theorem g_rest_in : GT 66 = some d_rest_in := rfl
theorem g_cell_at : GT 67 = some d_cell_at := rfl
theorem g_rest_at : GT 68 = some d_rest_at := rfl
theorem g__law_product : GT 69 = some d__law_product := rfl
theorem g__law_far : GT 70 = some d__law_far := rfl
theorem g__law_rest : GT 71 = some d__law_rest := rfl
theorem g_step_place : GT 72 = some d_step_place := rfl
theorem g_times_place : GT 73 = some d_times_place := rfl
theorem g_place_in : GT 75 = some d_place_in := rfl
theorem g__law_place_of : GT 77 = some d__law_place_of := rfl
theorem g__law_by_line : GT 78 = some d__law_by_line := rfl
theorem g__law_line_at : GT 79 = some d__law_line_at := rfl
theorem g__law_within : GT 80 = some d__law_within := rfl
theorem g__law_place : GT 81 = some d__law_place := rfl
theorem g_first_other : GT 82 = some d_first_other := rfl
theorem g_parting_place : GT 83 = some d_parting_place := rfl
theorem g__law_near : GT 84 = some d__law_near := rfl
theorem g__law_fitting : GT 85 = some d__law_fitting := rfl
theorem g_same : GT 86 = some d_same := rfl
theorem g_turned : GT 87 = some d_turned := rfl
theorem g_steps_of : GT 88 = some d_steps_of := rfl
theorem g_factors_of : GT 89 = some d_factors_of := rfl
theorem g_small_rows : GT 90 = some d_small_rows := rfl
theorem g_number_rows : GT 91 = some d_number_rows := rfl
theorem g_counted_rows : GT 92 = some d_counted_rows := rfl
theorem g_walk : GT 93 = some d_walk := rfl
theorem g_walks : GT 94 = some d_walks := rfl
theorem g_plain_rows : GT 96 = some d_plain_rows := rfl
theorem g_all_parts : GT 98 = some d_all_parts := rfl
theorem g_woven_rows : GT 100 = some d_woven_rows := rfl
theorem g_selections : GT 102 = some d_selections := rfl
theorem g_parted_by : GT 103 = some d_parted_by := rfl
theorem g_need_both : GT 104 = some d_need_both := rfl
theorem g_alike : GT 105 = some d_alike := rfl
theorem g_parting_selection : GT 106 = some d_parting_selection := rfl
theorem g__law_alike_here : GT 107 = some d__law_alike_here := rfl
theorem g__law_more : GT 108 = some d__law_more := rfl
theorem g__law_kinds : GT 109 = some d__law_kinds := rfl
theorem g__law_lists_of : GT 110 = some d__law_lists_of := rfl
theorem g__law_pairs : GT 111 = some d__law_pairs := rfl
theorem g_goes_along : GT 112 = some d_goes_along := rfl
theorem g_is_within : GT 113 = some d_is_within := rfl
theorem g_with_guessers : GT 114 = some d_with_guessers := rfl
theorem g_without : GT 115 = some d_without := rfl
theorem g_needless : GT 116 = some d_needless := rfl
theorem g_shortened : GT 117 = some d_shortened := rfl
theorem g_exchanged : GT 118 = some d_exchanged := rfl
theorem g_exchangeable : GT 119 = some d_exchangeable := rfl
theorem g_with_least : GT 120 = some d_with_least := rfl
theorem g_leasts_of : GT 121 = some d_leasts_of := rfl
theorem g_same_leasts : GT 122 = some d_same_leasts := rfl
theorem g_same_woven : GT 123 = some d_same_woven := rfl
theorem g__law_leasts : GT 124 = some d__law_leasts := rfl
theorem g_first_cells : GT 125 = some d_first_cells := rfl
theorem g_shaken : GT 126 = some d_shaken := rfl
theorem g_is_steady : GT 127 = some d_is_steady := rfl
theorem g_unsteady : GT 128 = some d_unsteady := rfl
theorem g__law_steady_here : GT 129 = some d__law_steady_here := rfl
theorem g__law_firm : GT 130 = some d__law_firm := rfl
theorem g_goes_back : GT 131 = some d_goes_back := rfl
theorem g_leads_back : GT 132 = some d_leads_back := rfl
theorem g__law_back_here : GT 133 = some d__law_back_here := rfl
theorem g_astray : GT 134 = some d_astray := rfl
theorem g_always_leads_back : GT 135 = some d_always_leads_back := rfl
theorem g_not_leading_back : GT 136 = some d_not_leading_back := rfl
theorem g__law_back_here_2 : GT 137 = some d__law_back_here_2 := rfl
theorem g_is_series : GT 138 = some d_is_series := rfl
theorem g_need_series : GT 139 = some d_need_series := rfl
theorem g_series_cells : GT 140 = some d_series_cells := rfl
theorem g__law_series_row : GT 141 = some d__law_series_row := rfl
theorem g__law_series : GT 142 = some d__law_series := rfl
theorem g__law_is_cell_2 : GT 143 = some d__law_is_cell_2 := rfl
theorem g__law_are_words : GT 144 = some d__law_are_words := rfl
theorem g__law_is : GT 145 = some d__law_is := rfl
theorem g_is_right : GT 146 = some d_is_right := rfl
theorem g_sizes_right : GT 147 = some d_sizes_right := rfl
theorem g_from_on : GT 148 = some d_from_on := rfl
theorem g_right_sizes : GT 149 = some d_right_sizes := rfl
theorem g_enough : GT 150 = some d_enough := rfl
theorem g__law_right_here : GT 151 = some d__law_right_here := rfl
theorem g_is_kind : GT 152 = some d_is_kind := rfl
theorem g_need_kind : GT 153 = some d_need_kind := rfl
theorem g_all_of : GT 154 = some d_all_of := rfl
theorem g_enough_for_all : GT 155 = some d_enough_for_all := rfl
theorem g_failing : GT 156 = some d_failing := rfl
theorem g__law_all_series : GT 157 = some d__law_all_series := rfl
theorem g__law_is_of : GT 158 = some d__law_is_of := rfl
theorem g__law_great : GT 159 = some d__law_great := rfl
theorem g_parts_sum : GT 160 = some d_parts_sum := rfl
theorem g_factor_rows : GT 161 = some d_factor_rows := rfl
theorem g_step_rows : GT 162 = some d_step_rows := rfl
theorem g_takes : GT 164 = some d_takes := rfl
theorem g_need_counted : GT 166 = some d_need_counted := rfl
theorem g_count_taken : GT 167 = some d_count_taken := rfl
theorem g_count_left : GT 168 = some d_count_left := rfl
theorem g__law_step_rows : GT 169 = some d__law_step_rows := rfl
theorem g__law_factor_rows : GT 170 = some d__law_factor_rows := rfl
theorem g_need_column : GT 171 = some d_need_column := rfl
theorem g_reach : GT 172 = some d_reach := rfl
theorem g_least_rows : GT 173 = some d_least_rows := rfl
theorem g_fewest_deeds : GT 174 = some d_fewest_deeds := rfl
theorem g_deeds_for : GT 175 = some d_deeds_for := rfl
theorem g__law_next : GT 176 = some d__law_next := rfl
theorem g__law_column : GT 177 = some d__law_column := rfl
theorem g__law_fewest : GT 178 = some d__law_fewest := rfl
theorem g_need_seen : GT 179 = some d_need_seen := rfl
theorem g_explains : GT 180 = some d_explains := rfl
theorem g_fitting : GT 181 = some d_fitting := rfl
theorem g__law_seen : GT 182 = some d__law_seen := rfl
theorem g__law_explains : GT 183 = some d__law_explains := rfl
theorem g_in_order : GT 184 = some d_in_order := rfl
theorem g_orders_of : GT 185 = some d_orders_of := rfl
theorem g_orders_for : GT 186 = some d_orders_for := rfl
theorem g_leasts_for : GT 187 = some d_leasts_for := rfl
theorem g__law_orders : GT 188 = some d__law_orders := rfl
theorem g_guesser_text : GT 189 = some d_guesser_text := rfl
theorem g_written : GT 190 = some d_written := rfl
theorem g_manner_text : GT 191 = some d_manner_text := rfl
theorem g_guesser_of : GT 192 = some d_guesser_of := rfl
theorem g__law_text : GT 194 = some d__law_text := rfl
theorem g__law_due : GT 196 = some d__law_due := rfl
theorem g__law_cell_text : GT 201 = some d__law_cell_text := rfl
theorem g__law_lines : GT 202 = some d__law_lines := rfl
theorem g__law_due_2 : GT 204 = some d__law_due_2 := rfl
theorem g__law_deed : GT 205 = some d__law_deed := rfl
theorem g_need_seen_2 : GT 209 = some d_need_seen_2 := rfl
theorem g_need_column_2 : GT 210 = some d_need_column_2 := rfl
theorem g_least_rows_2 : GT 211 = some d_least_rows_2 := rfl
theorem g__law_manner_calls : GT 214 = some d__law_manner_calls := rfl
theorem g__law_second_calls : GT 217 = some d__law_second_calls := rfl
theorem g__law_filled : GT 218 = some d__law_filled := rfl
theorem g__law_judged : GT 219 = some d__law_judged := rfl
theorem g_law_k01 : GT 1001 = some d_law_k01 := rfl
theorem g_law_k02 : GT 1002 = some d_law_k02 := rfl
theorem g_law_k15 : GT 1015 = some d_law_k15 := rfl
theorem g_law_k16 : GT 1016 = some d_law_k16 := rfl
theorem g_law_k21 : GT 1021 = some d_law_k21 := rfl
theorem g_law_k22 : GT 1022 = some d_law_k22 := rfl
theorem g_law_k23 : GT 1023 = some d_law_k23 := rfl
theorem g_law_k24 : GT 1024 = some d_law_k24 := rfl
theorem g_law_k41 : GT 1041 = some d_law_k41 := rfl
theorem g_law_k42 : GT 1042 = some d_law_k42 := rfl
theorem g_law_k54 : GT 1054 = some d_law_k54 := rfl
theorem g_law_k62 : GT 1062 = some d_law_k62 := rfl
theorem g_law_k64 : GT 1064 = some d_law_k64 := rfl
theorem g_law_k81 : GT 1081 = some d_law_k81 := rfl
theorem g_law_k92 : GT 1092 = some d_law_k92 := rfl
end W

namespace W
open PySem Z
/-! ### what the validators say -/
def isIntX : PyData → Bool
  | .int _ => true
  | _ => false
def inAl (c : Nat) : Bool := decide (c ∈ (("abcdefghijklmnopqrstuvwxyz" : Str).cps.toList))
def wordS (s : Str) : Bool := decide (1 ≤ s.cps.size) && decide (s.cps.size ≤ 6) && s.cps.toList.all inAl
def isWordX : PyData → Bool
  | .str s => wordS s
  | _ => false
def isNumX : PyData → Bool
  | .tuple [a, b] => isWordX a && isIntX b
  | _ => false
def isCellX (x : PyData) : Bool := isIntX x || isWordX x || isNumX x
/-- short texts alone -/
def nice : PyData → Bool
  | .str s => decide (s.cps.size ≤ 1000) && s.cps.toList.all fun c => decide (c < 128)
  | .tuple [.str s, _] => decide (s.cps.size ≤ 1000) && s.cps.toList.all fun c => decide (c < 128)
  | _ => true
theorem is_integer_ok (k : Nat) (x : PyData) (S : Sto) : callF GT (k + 1) 1 [.d x] S = .ok (.d (.bool (isIntX x))) S := by
  cases x <;> simp [Z.callF, g_is_integer, d_is_integer, isIntX, Z.exB, Z.exS, Z.evE, Z.evT, Z.evL, Z.evP, Z.evO, Z.Ok_bind, Z.Ok_ok, Z.Ok_no, Z.Ok_ex, Z.Ok_if, Z.Ok_okD, Z.Ok_lift, Z.some_if, Z.negV, Z.binV, Z.binD, Z.cmpV, Z.cmpD, Z.ixV, Z.ixD, Z.slV, Z.slD, Z.biV, Z.biD, Z.isiV, Z.isiD, Z.truV, Z.truD, Z.tupV, Z.lstV, Z.ret1, Z.dat1, Z.bV, Z.itV, Z.itD, Z.itSeq, Z.itRng, Z.itEnm, Z.itZip, Z.toD, Z.plain, Z.allD, Z.asBool, Z.onTg, Z.bindTg, Z.setMany, Z.setVals, Z.nxO, Z.unpV, Z.setV, Z.appV, Z.needL, Z.augV, Z.wipeE, Z.scalD, Z.eqD, Z.isNone, Z.R.bind, Z.okD, Z.lift, Z.start, Z.fin]
theorem law_is_integer_ok (k : Nat) (x : PyData) (S : Sto) : callF GT (k + 1) 16 [.d x] S = .ok (.d (.bool (isIntX x))) S := by
  cases x <;> simp [Z.callF, g__law_is_integer, d__law_is_integer, isIntX, Z.exB, Z.exS, Z.evE, Z.evT, Z.evL, Z.evP, Z.evO, Z.Ok_bind, Z.Ok_ok, Z.Ok_no, Z.Ok_ex, Z.Ok_if, Z.Ok_okD, Z.Ok_lift, Z.some_if, Z.negV, Z.binV, Z.binD, Z.cmpV, Z.cmpD, Z.ixV, Z.ixD, Z.slV, Z.slD, Z.biV, Z.biD, Z.isiV, Z.isiD, Z.truV, Z.truD, Z.tupV, Z.lstV, Z.ret1, Z.dat1, Z.bV, Z.itV, Z.itD, Z.itSeq, Z.itRng, Z.itEnm, Z.itZip, Z.toD, Z.plain, Z.allD, Z.asBool, Z.onTg, Z.bindTg, Z.setMany, Z.setVals, Z.nxO, Z.unpV, Z.setV, Z.appV, Z.needL, Z.augV, Z.wipeE, Z.scalD, Z.eqD, Z.isNone, Z.R.bind, Z.okD, Z.lift, Z.start, Z.fin]
def big : PyData → Prop
  | .str s => s.cps.size ≤ 1000 ∧ ∀ c ∈ s.cps.toList, c < 128
  | _ => True
theorem is_word_ok (k : Nat) (x : PyData) (S : Sto) (hb : big x) : callF GT (k + 1) 2 [.d x] S = .ok (.d (.bool (isWordX x))) S := by
  cases x with
  | str s =>
    have h1 : s.cps.size ≤ lim := Nat.le_trans hb.1 (by decide)
    simp [Z.callF, g_is_word, d_is_word, isWordX, wordS, Z.exB, Z.exS, Z.evE, Z.evT, Z.evL, Z.evP, Z.evO, Z.Ok_bind, Z.Ok_ok, Z.Ok_no, Z.Ok_ex, Z.Ok_if, Z.Ok_okD, Z.Ok_lift, Z.some_if, Z.negV, Z.binV, Z.binD, Z.cmpV, Z.cmpD, Z.ixV, Z.ixD, Z.slV, Z.slD, Z.biV, Z.biD, Z.isiV, Z.isiD, Z.truV, Z.truD, Z.tupV, Z.lstV, Z.ret1, Z.dat1, Z.bV, Z.itV, Z.itD, Z.itSeq, Z.itRng, Z.itEnm, Z.itZip, Z.toD, Z.plain, Z.allD, Z.asBool, Z.onTg, Z.bindTg, Z.setMany, Z.setVals, Z.nxO, Z.unpV, Z.setV, Z.appV, Z.needL, Z.augV, Z.wipeE, Z.scalD, Z.eqD, Z.isNone, Z.R.bind, Z.okD, Z.lift, Z.start, Z.fin, h1]
    by_cases a1 : (1 : Int) ≤ s.cps.size
    · by_cases a2 : (s.cps.size : Int) ≤ 6
      · simp [a1, a2]
        rw [loopC_map (e := fun c => .bool (inAl c)) (fun c hc => ?_) (by simp; omega)]
        · simp [boolsOf_map, Z.exB, Z.exS, Z.evE, Z.evT, Z.evL, Z.evP, Z.evO, Z.Ok_bind, Z.Ok_ok, Z.Ok_no, Z.Ok_ex, Z.Ok_if, Z.Ok_okD, Z.Ok_lift, Z.some_if, Z.negV, Z.binV, Z.binD, Z.cmpV, Z.cmpD, Z.ixV, Z.ixD, Z.slV, Z.slD, Z.biV, Z.biD, Z.isiV, Z.isiD, Z.truV, Z.truD, Z.tupV, Z.lstV, Z.ret1, Z.dat1, Z.bV, Z.itV, Z.itD, Z.itSeq, Z.itRng, Z.itEnm, Z.itZip, Z.toD, Z.plain, Z.allD, Z.asBool, Z.onTg, Z.bindTg, Z.setMany, Z.setVals, Z.nxO, Z.unpV, Z.setV, Z.appV, Z.needL, Z.augV, Z.wipeE, Z.scalD, Z.eqD, Z.isNone, Z.R.bind, Z.okD, Z.lift, Z.start, Z.fin, Array.all_toList]
          omega
        · simp [inD, inAl, Z.exB, Z.exS, Z.evE, Z.evT, Z.evL, Z.evP, Z.evO, Z.Ok_bind, Z.Ok_ok, Z.Ok_no, Z.Ok_ex, Z.Ok_if, Z.Ok_okD, Z.Ok_lift, Z.some_if, Z.negV, Z.binV, Z.binD, Z.cmpV, Z.cmpD, Z.ixV, Z.ixD, Z.slV, Z.slD, Z.biV, Z.biD, Z.isiV, Z.isiD, Z.truV, Z.truD, Z.tupV, Z.lstV, Z.ret1, Z.dat1, Z.bV, Z.itV, Z.itD, Z.itSeq, Z.itRng, Z.itEnm, Z.itZip, Z.toD, Z.plain, Z.allD, Z.asBool, Z.onTg, Z.bindTg, Z.setMany, Z.setVals, Z.nxO, Z.unpV, Z.setV, Z.appV, Z.needL, Z.augV, Z.wipeE, Z.scalD, Z.eqD, Z.isNone, Z.R.bind, Z.okD, Z.lift, Z.start, Z.fin]
      · have : ¬ s.cps.size ≤ 6 := by omega
        simp [a1, a2, this]
    · have : ¬ 1 ≤ s.cps.size := by omega
      simp [a1, this]
  | _ => simp [Z.callF, g_is_word, d_is_word, isWordX, Z.exB, Z.exS, Z.evE, Z.evT, Z.evL, Z.evP, Z.evO, Z.Ok_bind, Z.Ok_ok, Z.Ok_no, Z.Ok_ex, Z.Ok_if, Z.Ok_okD, Z.Ok_lift, Z.some_if, Z.negV, Z.binV, Z.binD, Z.cmpV, Z.cmpD, Z.ixV, Z.ixD, Z.slV, Z.slD, Z.biV, Z.biD, Z.isiV, Z.isiD, Z.truV, Z.truD, Z.tupV, Z.lstV, Z.ret1, Z.dat1, Z.bV, Z.itV, Z.itD, Z.itSeq, Z.itRng, Z.itEnm, Z.itZip, Z.toD, Z.plain, Z.allD, Z.asBool, Z.onTg, Z.bindTg, Z.setMany, Z.setVals, Z.nxO, Z.unpV, Z.setV, Z.appV, Z.needL, Z.augV, Z.wipeE, Z.scalD, Z.eqD, Z.isNone, Z.R.bind, Z.okD, Z.lift, Z.start, Z.fin]
theorem filter_none {α : Type} (p : α → Bool) : ∀ cs : List α, (cs.filter fun c => !p c).isEmpty = cs.all p
  | [] => rfl
  | c :: cs => by
    cases h : p c with
    | true => simp [h, filter_none p cs]
    | false => simp [h]
theorem law_is_word_ok (k : Nat) (x : PyData) (S : Sto) (hb : big x) : callF GT (k + 1) 17 [.d x] S = .ok (.d (.bool (isWordX x))) S := by
  cases x with
  | str s =>
    have h1 : s.cps.size ≤ lim := Nat.le_trans hb.1 (by decide)
    simp [Z.callF, g__law_is_word, d__law_is_word, isWordX, wordS, Z.exB, Z.exS, Z.evE, Z.evT, Z.evL, Z.evP, Z.evO, Z.Ok_bind, Z.Ok_ok, Z.Ok_no, Z.Ok_ex, Z.Ok_if, Z.Ok_okD, Z.Ok_lift, Z.some_if, Z.negV, Z.binV, Z.binD, Z.cmpV, Z.cmpD, Z.ixV, Z.ixD, Z.slV, Z.slD, Z.biV, Z.biD, Z.isiV, Z.isiD, Z.truV, Z.truD, Z.tupV, Z.lstV, Z.ret1, Z.dat1, Z.bV, Z.itV, Z.itD, Z.itSeq, Z.itRng, Z.itEnm, Z.itZip, Z.toD, Z.plain, Z.allD, Z.asBool, Z.onTg, Z.bindTg, Z.setMany, Z.setVals, Z.nxO, Z.unpV, Z.setV, Z.appV, Z.needL, Z.augV, Z.wipeE, Z.scalD, Z.eqD, Z.isNone, Z.R.bind, Z.okD, Z.lift, Z.start, Z.fin, h1]
    by_cases a1 : (1 : Int) ≤ s.cps.size
    · by_cases a2 : (s.cps.size : Int) ≤ 6
      · simp [a1, a2, h1, Z.exB, Z.exS, Z.evE, Z.evT, Z.evL, Z.evP, Z.evO, Z.Ok_bind, Z.Ok_ok, Z.Ok_no, Z.Ok_ex, Z.Ok_if, Z.Ok_okD, Z.Ok_lift, Z.some_if, Z.negV, Z.binV, Z.binD, Z.cmpV, Z.cmpD, Z.ixV, Z.ixD, Z.slV, Z.slD, Z.biV, Z.biD, Z.isiV, Z.isiD, Z.truV, Z.truD, Z.tupV, Z.lstV, Z.ret1, Z.dat1, Z.bV, Z.itV, Z.itD, Z.itSeq, Z.itRng, Z.itEnm, Z.itZip, Z.toD, Z.plain, Z.allD, Z.asBool, Z.onTg, Z.bindTg, Z.setMany, Z.setVals, Z.nxO, Z.unpV, Z.setV, Z.appV, Z.needL, Z.augV, Z.wipeE, Z.scalD, Z.eqD, Z.isNone, Z.R.bind, Z.okD, Z.lift, Z.start, Z.fin]
        rw [loopC_filt (e := fun c => .str ⟨#[c]⟩) (p := fun c => !inAl c) (fun c hc => ?_) (by simp; omega)]
        · have hs : SeqAt.shaped (.list ((s.cps.toList.filter fun c => !inAl c).map fun c => PyData.str ⟨#[c]⟩)) = true := by
            refine shaped_list (n := 0) (fun x hx => ?_) (by decide)
            obtain ⟨c, hc, rfl⟩ := List.mem_map.mp hx
            have := hb.2 c (List.mem_filter.mp hc).1
            refine ⟨?_, Nat.le_refl _⟩
            simp [PyData.canLay0, PyData.strOk]
            omega
          simp [Z.exB, Z.exS, Z.evE, Z.evT, Z.evL, Z.evP, Z.evO, Z.Ok_bind, Z.Ok_ok, Z.Ok_no, Z.Ok_ex, Z.Ok_if, Z.Ok_okD, Z.Ok_lift, Z.some_if, Z.negV, Z.binV, Z.binD, Z.cmpV, Z.cmpD, Z.ixV, Z.ixD, Z.slV, Z.slD, Z.biV, Z.biD, Z.isiV, Z.isiD, Z.truV, Z.truD, Z.tupV, Z.lstV, Z.ret1, Z.dat1, Z.bV, Z.itV, Z.itD, Z.itSeq, Z.itRng, Z.itEnm, Z.itZip, Z.toD, Z.plain, Z.allD, Z.asBool, Z.onTg, Z.bindTg, Z.setMany, Z.setVals, Z.nxO, Z.unpV, Z.setV, Z.appV, Z.needL, Z.augV, Z.wipeE, Z.scalD, Z.eqD, Z.isNone, Z.R.bind, Z.okD, Z.lift, Z.start, Z.fin, hs, shaped_nil, eqv_nil]
          have e1 : decide (1 ≤ s.cps.size) = true := by simp; omega
          have e2 : decide (s.cps.size ≤ 6) = true := by simp; omega
          rw [filter_none, e1, e2]
          simp [Array.all_toList]
        · simp [inD, inAl, Z.exB, Z.exS, Z.evE, Z.evT, Z.evL, Z.evP, Z.evO, Z.Ok_bind, Z.Ok_ok, Z.Ok_no, Z.Ok_ex, Z.Ok_if, Z.Ok_okD, Z.Ok_lift, Z.some_if, Z.negV, Z.binV, Z.binD, Z.cmpV, Z.cmpD, Z.ixV, Z.ixD, Z.slV, Z.slD, Z.biV, Z.biD, Z.isiV, Z.isiD, Z.truV, Z.truD, Z.tupV, Z.lstV, Z.ret1, Z.dat1, Z.bV, Z.itV, Z.itD, Z.itSeq, Z.itRng, Z.itEnm, Z.itZip, Z.toD, Z.plain, Z.allD, Z.asBool, Z.onTg, Z.bindTg, Z.setMany, Z.setVals, Z.nxO, Z.unpV, Z.setV, Z.appV, Z.needL, Z.augV, Z.wipeE, Z.scalD, Z.eqD, Z.isNone, Z.R.bind, Z.okD, Z.lift, Z.start, Z.fin]
          split <;> rfl
      · have : ¬ s.cps.size ≤ 6 := by omega
        simp [a1, a2, this]
    · have : ¬ 1 ≤ s.cps.size := by omega
      simp [a1, this]
  | _ => simp [Z.callF, g__law_is_word, d__law_is_word, isWordX, Z.exB, Z.exS, Z.evE, Z.evT, Z.evL, Z.evP, Z.evO, Z.Ok_bind, Z.Ok_ok, Z.Ok_no, Z.Ok_ex, Z.Ok_if, Z.Ok_okD, Z.Ok_lift, Z.some_if, Z.negV, Z.binV, Z.binD, Z.cmpV, Z.cmpD, Z.ixV, Z.ixD, Z.slV, Z.slD, Z.biV, Z.biD, Z.isiV, Z.isiD, Z.truV, Z.truD, Z.tupV, Z.lstV, Z.ret1, Z.dat1, Z.bV, Z.itV, Z.itD, Z.itSeq, Z.itRng, Z.itEnm, Z.itZip, Z.toD, Z.plain, Z.allD, Z.asBool, Z.onTg, Z.bindTg, Z.setMany, Z.setVals, Z.nxO, Z.unpV, Z.setV, Z.appV, Z.needL, Z.augV, Z.wipeE, Z.scalD, Z.eqD, Z.isNone, Z.R.bind, Z.okD, Z.lift, Z.start, Z.fin]
theorem is_numbered_ok (k : Nat) (x : PyData) (S : Sto) (hb : ∀ a b, x = .tuple [a, b] → big a) : callF GT (k + 2) 3 [.d x] S = .ok (.d (.bool (isNumX x))) S := by
  cases x with
  | tuple xs =>
    match xs, hb with
    | [], _ => simp [Z.callF, g_is_numbered, d_is_numbered, isNumX, Z.exB, Z.exS, Z.evE, Z.evT, Z.evL, Z.evP, Z.evO, Z.Ok_bind, Z.Ok_ok, Z.Ok_no, Z.Ok_ex, Z.Ok_if, Z.Ok_okD, Z.Ok_lift, Z.some_if, Z.negV, Z.binV, Z.binD, Z.cmpV, Z.cmpD, Z.ixV, Z.ixD, Z.slV, Z.slD, Z.biV, Z.biD, Z.isiV, Z.isiD, Z.truV, Z.truD, Z.tupV, Z.lstV, Z.ret1, Z.dat1, Z.bV, Z.itV, Z.itD, Z.itSeq, Z.itRng, Z.itEnm, Z.itZip, Z.toD, Z.plain, Z.allD, Z.asBool, Z.onTg, Z.bindTg, Z.setMany, Z.setVals, Z.nxO, Z.unpV, Z.setV, Z.appV, Z.needL, Z.augV, Z.wipeE, Z.scalD, Z.eqD, Z.isNone, Z.R.bind, Z.okD, Z.lift, Z.start, Z.fin, PyData.eqv]
    | [a], _ => simp [Z.callF, g_is_numbered, d_is_numbered, isNumX, Z.exB, Z.exS, Z.evE, Z.evT, Z.evL, Z.evP, Z.evO, Z.Ok_bind, Z.Ok_ok, Z.Ok_no, Z.Ok_ex, Z.Ok_if, Z.Ok_okD, Z.Ok_lift, Z.some_if, Z.negV, Z.binV, Z.binD, Z.cmpV, Z.cmpD, Z.ixV, Z.ixD, Z.slV, Z.slD, Z.biV, Z.biD, Z.isiV, Z.isiD, Z.truV, Z.truD, Z.tupV, Z.lstV, Z.ret1, Z.dat1, Z.bV, Z.itV, Z.itD, Z.itSeq, Z.itRng, Z.itEnm, Z.itZip, Z.toD, Z.plain, Z.allD, Z.asBool, Z.onTg, Z.bindTg, Z.setMany, Z.setVals, Z.nxO, Z.unpV, Z.setV, Z.appV, Z.needL, Z.augV, Z.wipeE, Z.scalD, Z.eqD, Z.isNone, Z.R.bind, Z.okD, Z.lift, Z.start, Z.fin, PyData.eqv]
    | [a, b], hb =>
      have h := hb a b rfl
      unfold Z.callF
      simp [g_is_numbered, d_is_numbered, isNumX, Z.exB, Z.exS, Z.evE, Z.evT, Z.evL, Z.evP, Z.evO, Z.Ok_bind, Z.Ok_ok, Z.Ok_no, Z.Ok_ex, Z.Ok_if, Z.Ok_okD, Z.Ok_lift, Z.some_if, Z.negV, Z.binV, Z.binD, Z.cmpV, Z.cmpD, Z.ixV, Z.ixD, Z.slV, Z.slD, Z.biV, Z.biD, Z.isiV, Z.isiD, Z.truV, Z.truD, Z.tupV, Z.lstV, Z.ret1, Z.dat1, Z.bV, Z.itV, Z.itD, Z.itSeq, Z.itRng, Z.itEnm, Z.itZip, Z.toD, Z.plain, Z.allD, Z.asBool, Z.onTg, Z.bindTg, Z.setMany, Z.setVals, Z.nxO, Z.unpV, Z.setV, Z.appV, Z.needL, Z.augV, Z.wipeE, Z.scalD, Z.eqD, Z.isNone, Z.R.bind, Z.okD, Z.lift, Z.start, Z.fin, PyData.eqv, L2.atI, L2.ixN, is_word_ok k a S h, is_integer_ok]
      cases isWordX a <;> simp
    | a :: b :: c :: r, _ =>
      have e : ¬ ((r.length : Int) + 1 + 1 + 1 = 2) := by omega
      simp [Z.callF, g_is_numbered, d_is_numbered, isNumX, Z.exB, Z.exS, Z.evE, Z.evT, Z.evL, Z.evP, Z.evO, Z.Ok_bind, Z.Ok_ok, Z.Ok_no, Z.Ok_ex, Z.Ok_if, Z.Ok_okD, Z.Ok_lift, Z.some_if, Z.negV, Z.binV, Z.binD, Z.cmpV, Z.cmpD, Z.ixV, Z.ixD, Z.slV, Z.slD, Z.biV, Z.biD, Z.isiV, Z.isiD, Z.truV, Z.truD, Z.tupV, Z.lstV, Z.ret1, Z.dat1, Z.bV, Z.itV, Z.itD, Z.itSeq, Z.itRng, Z.itEnm, Z.itZip, Z.toD, Z.plain, Z.allD, Z.asBool, Z.onTg, Z.bindTg, Z.setMany, Z.setVals, Z.nxO, Z.unpV, Z.setV, Z.appV, Z.needL, Z.augV, Z.wipeE, Z.scalD, Z.eqD, Z.isNone, Z.R.bind, Z.okD, Z.lift, Z.start, Z.fin, PyData.eqv, e]
  | _ => simp [Z.callF, g_is_numbered, d_is_numbered, isNumX, Z.exB, Z.exS, Z.evE, Z.evT, Z.evL, Z.evP, Z.evO, Z.Ok_bind, Z.Ok_ok, Z.Ok_no, Z.Ok_ex, Z.Ok_if, Z.Ok_okD, Z.Ok_lift, Z.some_if, Z.negV, Z.binV, Z.binD, Z.cmpV, Z.cmpD, Z.ixV, Z.ixD, Z.slV, Z.slD, Z.biV, Z.biD, Z.isiV, Z.isiD, Z.truV, Z.truD, Z.tupV, Z.lstV, Z.ret1, Z.dat1, Z.bV, Z.itV, Z.itD, Z.itSeq, Z.itRng, Z.itEnm, Z.itZip, Z.toD, Z.plain, Z.allD, Z.asBool, Z.onTg, Z.bindTg, Z.setMany, Z.setVals, Z.nxO, Z.unpV, Z.setV, Z.appV, Z.needL, Z.augV, Z.wipeE, Z.scalD, Z.eqD, Z.isNone, Z.R.bind, Z.okD, Z.lift, Z.start, Z.fin]
def bigC (x : PyData) : Prop := big x ∧ ∀ a b, x = .tuple [a, b] → big a
theorem a_cell_ok (k : Nat) (x : PyData) (S : Sto) (hb : bigC x) : callF GT (k + 3) 4 [.d x] S = .ok (.d (.bool (isCellX x))) S := by
  unfold Z.callF
  simp [g_a_cell, d_a_cell, isCellX, Z.exB, Z.exS, Z.evE, Z.evT, Z.evL, Z.evP, Z.evO, Z.Ok_bind, Z.Ok_ok, Z.Ok_no, Z.Ok_ex, Z.Ok_if, Z.Ok_okD, Z.Ok_lift, Z.some_if, Z.negV, Z.binV, Z.binD, Z.cmpV, Z.cmpD, Z.ixV, Z.ixD, Z.slV, Z.slD, Z.biV, Z.biD, Z.isiV, Z.isiD, Z.truV, Z.truD, Z.tupV, Z.lstV, Z.ret1, Z.dat1, Z.bV, Z.itV, Z.itD, Z.itSeq, Z.itRng, Z.itEnm, Z.itZip, Z.toD, Z.plain, Z.allD, Z.asBool, Z.onTg, Z.bindTg, Z.setMany, Z.setVals, Z.nxO, Z.unpV, Z.setV, Z.appV, Z.needL, Z.augV, Z.wipeE, Z.scalD, Z.eqD, Z.isNone, Z.R.bind, Z.okD, Z.lift, Z.start, Z.fin, is_integer_ok, is_word_ok _ x S hb.1, is_numbered_ok _ x S hb.2]
  cases isIntX x <;> cases isWordX x <;> simp
theorem is_cell_ok (k : Nat) (x : PyData) (S : Sto) (hb : bigC x) : callF GT (k + 4) 7 [.d x] S = .ok (.d (.bool (isCellX x))) S := by
  unfold Z.callF
  simp [g_is_cell, d_is_cell, Z.exB, Z.exS, Z.evE, Z.evT, Z.evL, Z.evP, Z.evO, Z.Ok_bind, Z.Ok_ok, Z.Ok_no, Z.Ok_ex, Z.Ok_if, Z.Ok_okD, Z.Ok_lift, Z.some_if, Z.negV, Z.binV, Z.binD, Z.cmpV, Z.cmpD, Z.ixV, Z.ixD, Z.slV, Z.slD, Z.biV, Z.biD, Z.isiV, Z.isiD, Z.truV, Z.truD, Z.tupV, Z.lstV, Z.ret1, Z.dat1, Z.bV, Z.itV, Z.itD, Z.itSeq, Z.itRng, Z.itEnm, Z.itZip, Z.toD, Z.plain, Z.allD, Z.asBool, Z.onTg, Z.bindTg, Z.setMany, Z.setVals, Z.nxO, Z.unpV, Z.setV, Z.appV, Z.needL, Z.augV, Z.wipeE, Z.scalD, Z.eqD, Z.isNone, Z.R.bind, Z.okD, Z.lift, Z.start, Z.fin, a_cell_ok _ x S hb]
def selX (lo hi : Int) : PyData → Bool
  | .tuple cs => decide (lo ≤ cs.length) && decide ((cs.length : Int) ≤ hi) && cs.all isCellX
  | _ => false
def bigS (x : PyData) : Prop := ∀ cs, x = .tuple cs → cs.length ≤ 1000 ∧ ∀ c ∈ cs, bigC c
theorem are_cells_ok (k : Nat) (x : PyData) (lo hi : Int) (S : Sto) (hb : bigS x) : callF GT (k + 4) 5 [.d x, .d (.int lo), .d (.int hi)] S = .ok (.d (.bool (selX lo hi x))) S := by
  cases x with
  | tuple cs =>
    obtain ⟨h1, h2⟩ := hb cs rfl
    unfold Z.callF
    simp [g_are_cells, d_are_cells, selX, Z.exB, Z.exS, Z.evE, Z.evT, Z.evL, Z.evP, Z.evO, Z.Ok_bind, Z.Ok_ok, Z.Ok_no, Z.Ok_ex, Z.Ok_if, Z.Ok_okD, Z.Ok_lift, Z.some_if, Z.negV, Z.binV, Z.binD, Z.cmpV, Z.cmpD, Z.ixV, Z.ixD, Z.slV, Z.slD, Z.biV, Z.biD, Z.isiV, Z.isiD, Z.truV, Z.truD, Z.tupV, Z.lstV, Z.ret1, Z.dat1, Z.bV, Z.itV, Z.itD, Z.itSeq, Z.itRng, Z.itEnm, Z.itZip, Z.toD, Z.plain, Z.allD, Z.asBool, Z.onTg, Z.bindTg, Z.setMany, Z.setVals, Z.nxO, Z.unpV, Z.setV, Z.appV, Z.needL, Z.augV, Z.wipeE, Z.scalD, Z.eqD, Z.isNone, Z.R.bind, Z.okD, Z.lift, Z.start, Z.fin]
    by_cases a1 : lo ≤ cs.length
    · by_cases a2 : (cs.length : Int) ≤ hi
      · simp [a1, a2, Z.exB, Z.exS, Z.evE, Z.evT, Z.evL, Z.evP, Z.evO, Z.Ok_bind, Z.Ok_ok, Z.Ok_no, Z.Ok_ex, Z.Ok_if, Z.Ok_okD, Z.Ok_lift, Z.some_if, Z.negV, Z.binV, Z.binD, Z.cmpV, Z.cmpD, Z.ixV, Z.ixD, Z.slV, Z.slD, Z.biV, Z.biD, Z.isiV, Z.isiD, Z.truV, Z.truD, Z.tupV, Z.lstV, Z.ret1, Z.dat1, Z.bV, Z.itV, Z.itD, Z.itSeq, Z.itRng, Z.itEnm, Z.itZip, Z.toD, Z.plain, Z.allD, Z.asBool, Z.onTg, Z.bindTg, Z.setMany, Z.setVals, Z.nxO, Z.unpV, Z.setV, Z.appV, Z.needL, Z.augV, Z.wipeE, Z.scalD, Z.eqD, Z.isNone, Z.R.bind, Z.okD, Z.lift, Z.start, Z.fin]
        have e : cs = cs.map id := by simp
        rw [e, loopC_map (e := fun c => .bool (isCellX c)) (fun c hc => ?_) (by simp [lim]; omega)]
        · simp [boolsOf_map, Z.exB, Z.exS, Z.evE, Z.evT, Z.evL, Z.evP, Z.evO, Z.Ok_bind, Z.Ok_ok, Z.Ok_no, Z.Ok_ex, Z.Ok_if, Z.Ok_okD, Z.Ok_lift, Z.some_if, Z.negV, Z.binV, Z.binD, Z.cmpV, Z.cmpD, Z.ixV, Z.ixD, Z.slV, Z.slD, Z.biV, Z.biD, Z.isiV, Z.isiD, Z.truV, Z.truD, Z.tupV, Z.lstV, Z.ret1, Z.dat1, Z.bV, Z.itV, Z.itD, Z.itSeq, Z.itRng, Z.itEnm, Z.itZip, Z.toD, Z.plain, Z.allD, Z.asBool, Z.onTg, Z.bindTg, Z.setMany, Z.setVals, Z.nxO, Z.unpV, Z.setV, Z.appV, Z.needL, Z.augV, Z.wipeE, Z.scalD, Z.eqD, Z.isNone, Z.R.bind, Z.okD, Z.lift, Z.start, Z.fin]
        · simp [Z.exB, Z.exS, Z.evE, Z.evT, Z.evL, Z.evP, Z.evO, Z.Ok_bind, Z.Ok_ok, Z.Ok_no, Z.Ok_ex, Z.Ok_if, Z.Ok_okD, Z.Ok_lift, Z.some_if, Z.negV, Z.binV, Z.binD, Z.cmpV, Z.cmpD, Z.ixV, Z.ixD, Z.slV, Z.slD, Z.biV, Z.biD, Z.isiV, Z.isiD, Z.truV, Z.truD, Z.tupV, Z.lstV, Z.ret1, Z.dat1, Z.bV, Z.itV, Z.itD, Z.itSeq, Z.itRng, Z.itEnm, Z.itZip, Z.toD, Z.plain, Z.allD, Z.asBool, Z.onTg, Z.bindTg, Z.setMany, Z.setVals, Z.nxO, Z.unpV, Z.setV, Z.appV, Z.needL, Z.augV, Z.wipeE, Z.scalD, Z.eqD, Z.isNone, Z.R.bind, Z.okD, Z.lift, Z.start, Z.fin, a_cell_ok _ c S (h2 c hc)]
      · simp [a1, a2]
    · simp [a1]
  | _ => simp [Z.callF, g_are_cells, d_are_cells, selX, Z.exB, Z.exS, Z.evE, Z.evT, Z.evL, Z.evP, Z.evO, Z.Ok_bind, Z.Ok_ok, Z.Ok_no, Z.Ok_ex, Z.Ok_if, Z.Ok_okD, Z.Ok_lift, Z.some_if, Z.negV, Z.binV, Z.binD, Z.cmpV, Z.cmpD, Z.ixV, Z.ixD, Z.slV, Z.slD, Z.biV, Z.biD, Z.isiV, Z.isiD, Z.truV, Z.truD, Z.tupV, Z.lstV, Z.ret1, Z.dat1, Z.bV, Z.itV, Z.itD, Z.itSeq, Z.itRng, Z.itEnm, Z.itZip, Z.toD, Z.plain, Z.allD, Z.asBool, Z.onTg, Z.bindTg, Z.setMany, Z.setVals, Z.nxO, Z.unpV, Z.setV, Z.appV, Z.needL, Z.augV, Z.wipeE, Z.scalD, Z.eqD, Z.isNone, Z.R.bind, Z.okD, Z.lift, Z.start, Z.fin]
theorem a_selection_ok (k : Nat) (x : PyData) (S : Sto) (hb : bigS x) : callF GT (k + 5) 6 [.d x] S = .ok (.d (.bool (selX 1 6 x))) S := by
  unfold Z.callF
  simp [g_a_selection, d_a_selection, Z.exB, Z.exS, Z.evE, Z.evT, Z.evL, Z.evP, Z.evO, Z.Ok_bind, Z.Ok_ok, Z.Ok_no, Z.Ok_ex, Z.Ok_if, Z.Ok_okD, Z.Ok_lift, Z.some_if, Z.negV, Z.binV, Z.binD, Z.cmpV, Z.cmpD, Z.ixV, Z.ixD, Z.slV, Z.slD, Z.biV, Z.biD, Z.isiV, Z.isiD, Z.truV, Z.truD, Z.tupV, Z.lstV, Z.ret1, Z.dat1, Z.bV, Z.itV, Z.itD, Z.itSeq, Z.itRng, Z.itEnm, Z.itZip, Z.toD, Z.plain, Z.allD, Z.asBool, Z.onTg, Z.bindTg, Z.setMany, Z.setVals, Z.nxO, Z.unpV, Z.setV, Z.appV, Z.needL, Z.augV, Z.wipeE, Z.scalD, Z.eqD, Z.isNone, Z.R.bind, Z.okD, Z.lift, Z.start, Z.fin, are_cells_ok _ x _ _ S hb]
theorem is_selection_ok (k : Nat) (x : PyData) (S : Sto) (hb : bigS x) : callF GT (k + 6) 8 [.d x] S = .ok (.d (.bool (selX 1 6 x))) S := by
  unfold Z.callF
  simp [g_is_selection, d_is_selection, Z.exB, Z.exS, Z.evE, Z.evT, Z.evL, Z.evP, Z.evO, Z.Ok_bind, Z.Ok_ok, Z.Ok_no, Z.Ok_ex, Z.Ok_if, Z.Ok_okD, Z.Ok_lift, Z.some_if, Z.negV, Z.binV, Z.binD, Z.cmpV, Z.cmpD, Z.ixV, Z.ixD, Z.slV, Z.slD, Z.biV, Z.biD, Z.isiV, Z.isiD, Z.truV, Z.truD, Z.tupV, Z.lstV, Z.ret1, Z.dat1, Z.bV, Z.itV, Z.itD, Z.itSeq, Z.itRng, Z.itEnm, Z.itZip, Z.toD, Z.plain, Z.allD, Z.asBool, Z.onTg, Z.bindTg, Z.setMany, Z.setVals, Z.nxO, Z.unpV, Z.setV, Z.appV, Z.needL, Z.augV, Z.wipeE, Z.scalD, Z.eqD, Z.isNone, Z.R.bind, Z.okD, Z.lift, Z.start, Z.fin, a_selection_ok _ x S hb]
theorem law_is_cell_ok (k : Nat) (x : PyData) (S : Sto) (hb : bigC x) : callF GT (k + 2) 18 [.d x] S = .ok (.d (.bool (isCellX x))) S := by
  unfold Z.callF
  simp [g__law_is_cell, d__law_is_cell, Z.exB, Z.exS, Z.evE, Z.evT, Z.evL, Z.evP, Z.evO, Z.Ok_bind, Z.Ok_ok, Z.Ok_no, Z.Ok_ex, Z.Ok_if, Z.Ok_okD, Z.Ok_lift, Z.some_if, Z.negV, Z.binV, Z.binD, Z.cmpV, Z.cmpD, Z.ixV, Z.ixD, Z.slV, Z.slD, Z.biV, Z.biD, Z.isiV, Z.isiD, Z.truV, Z.truD, Z.tupV, Z.lstV, Z.ret1, Z.dat1, Z.bV, Z.itV, Z.itD, Z.itSeq, Z.itRng, Z.itEnm, Z.itZip, Z.toD, Z.plain, Z.allD, Z.asBool, Z.onTg, Z.bindTg, Z.setMany, Z.setVals, Z.nxO, Z.unpV, Z.setV, Z.appV, Z.needL, Z.augV, Z.wipeE, Z.scalD, Z.eqD, Z.isNone, Z.R.bind, Z.okD, Z.lift, Z.start, Z.fin, law_is_integer_ok, law_is_word_ok _ x S hb.1, isCellX]
  cases h1 : isIntX x <;> cases h2 : isWordX x <;> simp
  cases x with
  | tuple xs =>
    match xs, hb with
    | [], _ => simp [isNumX, Z.exB, Z.exS, Z.evE, Z.evT, Z.evL, Z.evP, Z.evO, Z.Ok_bind, Z.Ok_ok, Z.Ok_no, Z.Ok_ex, Z.Ok_if, Z.Ok_okD, Z.Ok_lift, Z.some_if, Z.negV, Z.binV, Z.binD, Z.cmpV, Z.cmpD, Z.ixV, Z.ixD, Z.slV, Z.slD, Z.biV, Z.biD, Z.isiV, Z.isiD, Z.truV, Z.truD, Z.tupV, Z.lstV, Z.ret1, Z.dat1, Z.bV, Z.itV, Z.itD, Z.itSeq, Z.itRng, Z.itEnm, Z.itZip, Z.toD, Z.plain, Z.allD, Z.asBool, Z.onTg, Z.bindTg, Z.setMany, Z.setVals, Z.nxO, Z.unpV, Z.setV, Z.appV, Z.needL, Z.augV, Z.wipeE, Z.scalD, Z.eqD, Z.isNone, Z.R.bind, Z.okD, Z.lift, Z.start, Z.fin, PyData.eqv]
    | [a], _ => simp [isNumX, Z.exB, Z.exS, Z.evE, Z.evT, Z.evL, Z.evP, Z.evO, Z.Ok_bind, Z.Ok_ok, Z.Ok_no, Z.Ok_ex, Z.Ok_if, Z.Ok_okD, Z.Ok_lift, Z.some_if, Z.negV, Z.binV, Z.binD, Z.cmpV, Z.cmpD, Z.ixV, Z.ixD, Z.slV, Z.slD, Z.biV, Z.biD, Z.isiV, Z.isiD, Z.truV, Z.truD, Z.tupV, Z.lstV, Z.ret1, Z.dat1, Z.bV, Z.itV, Z.itD, Z.itSeq, Z.itRng, Z.itEnm, Z.itZip, Z.toD, Z.plain, Z.allD, Z.asBool, Z.onTg, Z.bindTg, Z.setMany, Z.setVals, Z.nxO, Z.unpV, Z.setV, Z.appV, Z.needL, Z.augV, Z.wipeE, Z.scalD, Z.eqD, Z.isNone, Z.R.bind, Z.okD, Z.lift, Z.start, Z.fin, PyData.eqv]
    | [a, b], hb =>
      have h := hb.2 a b rfl
      simp [isNumX, Z.exB, Z.exS, Z.evE, Z.evT, Z.evL, Z.evP, Z.evO, Z.Ok_bind, Z.Ok_ok, Z.Ok_no, Z.Ok_ex, Z.Ok_if, Z.Ok_okD, Z.Ok_lift, Z.some_if, Z.negV, Z.binV, Z.binD, Z.cmpV, Z.cmpD, Z.ixV, Z.ixD, Z.slV, Z.slD, Z.biV, Z.biD, Z.isiV, Z.isiD, Z.truV, Z.truD, Z.tupV, Z.lstV, Z.ret1, Z.dat1, Z.bV, Z.itV, Z.itD, Z.itSeq, Z.itRng, Z.itEnm, Z.itZip, Z.toD, Z.plain, Z.allD, Z.asBool, Z.onTg, Z.bindTg, Z.setMany, Z.setVals, Z.nxO, Z.unpV, Z.setV, Z.appV, Z.needL, Z.augV, Z.wipeE, Z.scalD, Z.eqD, Z.isNone, Z.R.bind, Z.okD, Z.lift, Z.start, Z.fin, PyData.eqv, L2.atI, L2.ixN, law_is_word_ok _ a S h, law_is_integer_ok]
      cases isWordX a <;> simp
    | a :: b :: c :: r, _ =>
      have e : ¬ ((r.length : Int) + 1 + 1 + 1 = 2) := by omega
      simp [isNumX, Z.exB, Z.exS, Z.evE, Z.evT, Z.evL, Z.evP, Z.evO, Z.Ok_bind, Z.Ok_ok, Z.Ok_no, Z.Ok_ex, Z.Ok_if, Z.Ok_okD, Z.Ok_lift, Z.some_if, Z.negV, Z.binV, Z.binD, Z.cmpV, Z.cmpD, Z.ixV, Z.ixD, Z.slV, Z.slD, Z.biV, Z.biD, Z.isiV, Z.isiD, Z.truV, Z.truD, Z.tupV, Z.lstV, Z.ret1, Z.dat1, Z.bV, Z.itV, Z.itD, Z.itSeq, Z.itRng, Z.itEnm, Z.itZip, Z.toD, Z.plain, Z.allD, Z.asBool, Z.onTg, Z.bindTg, Z.setMany, Z.setVals, Z.nxO, Z.unpV, Z.setV, Z.appV, Z.needL, Z.augV, Z.wipeE, Z.scalD, Z.eqD, Z.isNone, Z.R.bind, Z.okD, Z.lift, Z.start, Z.fin, PyData.eqv, e]
  | _ => simp [isNumX, Z.exB, Z.exS, Z.evE, Z.evT, Z.evL, Z.evP, Z.evO, Z.Ok_bind, Z.Ok_ok, Z.Ok_no, Z.Ok_ex, Z.Ok_if, Z.Ok_okD, Z.Ok_lift, Z.some_if, Z.negV, Z.binV, Z.binD, Z.cmpV, Z.cmpD, Z.ixV, Z.ixD, Z.slV, Z.slD, Z.biV, Z.biD, Z.isiV, Z.isiD, Z.truV, Z.truD, Z.tupV, Z.lstV, Z.ret1, Z.dat1, Z.bV, Z.itV, Z.itD, Z.itSeq, Z.itRng, Z.itEnm, Z.itZip, Z.toD, Z.plain, Z.allD, Z.asBool, Z.onTg, Z.bindTg, Z.setMany, Z.setVals, Z.nxO, Z.unpV, Z.setV, Z.appV, Z.needL, Z.augV, Z.wipeE, Z.scalD, Z.eqD, Z.isNone, Z.R.bind, Z.okD, Z.lift, Z.start, Z.fin]
/-! ### the numbers that are drawn -/
def Src (S : Sto) (n : Nat) : Prop := ∃ a b p : Int, S[n]? = some (.lst [.int a, .int b, .int p]) ∧ 0 ≤ a ∧ 0 ≤ b ∧ b < p ∧ p ≤ 2147483647
def Sm (n : Nat) (S S' : Sto) : Prop := S'.length = S.length ∧ ∀ m, m ≠ n → S'[m]? = S[m]?
theorem Sm.refl (n : Nat) (S : Sto) : Sm n S S := ⟨rfl, fun _ _ => rfl⟩
theorem Sm.trans {n : Nat} {S S' S'' : Sto} (a : Sm n S S') (b : Sm n S' S'') : Sm n S S'' := ⟨b.1.trans a.1, fun m h => (b.2 m h).trans (a.2 m h)⟩
theorem Sm.set {n : Nat} {S : Sto} {x : SE} : Sm n S (S.set n x) := ⟨by simp, fun m h => List.getElem?_set_ne (Ne.symm h)⟩
theorem fmod_lo {a m : Int} (h : 0 < m) : 0 ≤ a.fmod m := Int.fmod_nonneg_of_pos a h
theorem fmod_hi {a m : Int} (h : 0 < m) : a.fmod m < m := Int.fmod_lt_of_pos a h
end W

/-! Runs, step by step: what simp may use. -/
namespace Z
open PySem
theorem nr {α : Sort u} {a b : α} (h : a = b) : a = b := h
section
variable {α β : Type} {C : Nat → List Val → Sto → R Val} {ρ : Env} {S : Sto} {Q : Val → Sto → Prop}
@[simp] theorem k_ok {a : α} {S : Sto} {Q : α → Sto → Prop} : Ok (.ok a S) Q = Q a S := propext Ok_ok
@[simp] theorem k_no {Q : α → Sto → Prop} : Ok (.no : R α) Q = False := propext Ok_no
@[simp] theorem k_ex {c : Str} {S : Sto} {Q : α → Sto → Prop} : Ok (.ex c S : R α) Q = False := propext Ok_ex
@[simp ↓] theorem k_bind {x : R α} {f : α → Sto → R β} {Q : β → Sto → Prop} : Ok (x.bind f) Q = Ok x fun a S => Ok (f a S) Q := propext Ok_bind
@[simp] theorem k_if {p : Prop} [Decidable p] {x y : R α} {Q : α → Sto → Prop} : Ok (if p then x else y) Q = if p then Ok x Q else Ok y Q := propext Ok_if
@[simp ↓] theorem k_cons {s : LS} {r : List LS} {Q : Fl → Sto → Prop} : Ok (exB C (s :: r) ρ S) Q = Ok (exS C s ρ S) fun fl S' => match fl with
    | .nx ρ' => Ok (exB C r ρ' S') Q
    | fl => Q fl S' := propext Ok_cons
@[simp ↓] theorem k_nil {Q : Fl → Sto → Prop} : Ok (exB C [] ρ S) Q = Q (.nx ρ) S := propext Ok_nil
@[simp] theorem k_okS {x : PyData} : okD (some x) S = .ok (.d x) S := nr rfl
@[simp] theorem k_okN : okD none S = .no := nr rfl
@[simp] theorem k_liS {x : α} : lift (some x) S = .ok x S := nr rfl
@[simp] theorem k_liN : lift (none : Option α) S = .no := nr rfl
theorem k_okD {o : Option PyData} : Ok (okD o S) Q = ∃ y, o = some y ∧ Q (.d y) S := propext Ok_okD
/-! expressions -/
@[simp] theorem k_var {i : Nat} : evE C (.var i) ρ S = match ρ[i]? with
    | some (some v) => .ok v S
    | _ => .no := nr rfl
@[simp] theorem k_lit {d : PyData} : evE C (.lit d) ρ S = .ok (.d d) S := nr rfl
@[simp] theorem k_glo {x : Str} {d : PyData} : evE C (.glo x d) ρ S = .ok (.d d) S := nr rfl
@[simp ↓] theorem k_neg {a : LE} : evE C (.neg a) ρ S = (evE C a ρ S).bind negV := nr rfl
@[simp ↓] theorem k_bin {o : Op2} {a b : LE} : evE C (.bin o a b) ρ S = (evE C a ρ S).bind fun v S => (evE C b ρ S).bind fun w S => binV o v w S := nr rfl
@[simp ↓] theorem k_cmp {o : CO} {a b : LE} : evE C (.cmp o a b) ρ S = (evE C a ρ S).bind fun v S => (evE C b ρ S).bind fun w S => (cmpV o v w S).bind bV := nr rfl
@[simp ↓] theorem k_chain {o p : CO} {a b c : LE} : evE C (.chain o p a b c) ρ S = (evE C a ρ S).bind fun v S => (evE C b ρ S).bind fun w S => (cmpV o v w S).bind fun z S =>
      if z then (evE C c ρ S).bind fun u S => (cmpV p w u S).bind bV else bV false S := nr rfl
@[simp ↓] theorem k_and {a b : LE} : evE C (.and a b) ρ S = (evE C a ρ S).bind fun v S => (asBool v S).bind fun x S => if x then evE C b ρ S else bV false S := nr rfl
@[simp ↓] theorem k_or {a b : LE} : evE C (.or a b) ρ S = (evE C a ρ S).bind fun v S => (asBool v S).bind fun x S => if x then bV true S else evE C b ρ S := nr rfl
@[simp ↓] theorem k_not {a : LE} : evE C (.not a) ρ S = (evE C a ρ S).bind fun v S => (asBool v S).bind fun x S => bV (!x) S := nr rfl
@[simp ↓] theorem k_ite {c a b : LE} : evE C (.ite c a b) ρ S = (evT C c ρ S).bind fun x S => if x then evE C a ρ S else evE C b ρ S := nr rfl
@[simp ↓] theorem k_tup {es : List LE} : evE C (.tup es) ρ S = (evL C es ρ S).bind tupV := nr rfl
@[simp ↓] theorem k_lst {m : Bool} {es : List LE} : evE C (.lst m es) ρ S = (evL C es ρ S).bind (lstV m) := nr rfl
@[simp ↓] theorem k_ix {a i : LE} : evE C (.ix a i) ρ S = (evE C a ρ S).bind fun v S => (evE C i ρ S).bind fun w S => ixV v w S := nr rfl
@[simp ↓] theorem k_sl {a : LE} {lo hi : Option LE} : evE C (.sl a lo hi) ρ S = (evE C a ρ S).bind fun v S => (evP C lo ρ S).bind fun l S => (evP C hi ρ S).bind fun h S => slV v l h S := nr rfl
@[simp ↓] theorem k_call {f : Nat} {es : List LE} : evE C (.call f es) ρ S = (evL C es ρ S).bind fun vs S => C f vs S := nr rfl
@[simp ↓] theorem k_bi {b : BI} {es : List LE} : evE C (.bi b es) ρ S = (evL C es ρ S).bind fun vs S => biV b vs S := nr rfl
@[simp ↓] theorem k_isi {a : LE} {t : TY} : evE C (.isi a t) ρ S = (evE C a ρ S).bind fun v S => (isiV t v S).bind bV := nr rfl
@[simp ↓] theorem k_comp {m : Bool} {k : IK} {args : List LE} {tg : Tg} {own : List Nat} {cond : Option LE} {elt : LE} : evE C (.comp m k args tg own cond elt) ρ S = (evL C args ρ S).bind fun vs S => (itV k vs S).bind fun items S => (loopC (fC C tg own cond elt ρ) items [] S).bind fun ys S => ret1 m (.list ys) S := nr rfl
@[simp ↓] theorem k_lenset {a : LE} : evE C (.lenset a) ρ S = (evE C a ρ S).bind lenSV := nr rfl
@[simp ↓] theorem k_dnin {x : Str} {t : List (Str × PyData)} {a : LE} : evE C (.dnin x t a) ρ S = (evE C a ρ S).bind fun v S => (dinV t v S).bind fun b S => bV (!b) S := nr rfl
@[simp ↓] theorem t_dnin' {x : Str} {t : List (Str × PyData)} {a : LE} : evT C (.dnin x t a) ρ S = (evE C a ρ S).bind fun v S => (dinV t v S).bind fun b S => .ok (!b) S := nr rfl
@[simp ↓] theorem k_ext {o : XO} {es : List LE} : evE C (.ext o es) ρ S = (evL C es ρ S).bind (xoV o) := nr rfl
@[simp ↓] theorem k_meth {m : MO} {a b : LE} : evE C (.meth m a b) ρ S = (evE C a ρ S).bind fun v S => (preV m v S).bind fun _ S => (evE C b ρ S).bind fun w S => moV m v w S := nr rfl
@[simp ↓] theorem k_slst {a st : LE} {lo hi : Option LE} : evE C (.slst a lo hi st) ρ S = (evE C a ρ S).bind fun v S => (evP C lo ρ S).bind fun l S => (evP C hi ρ S).bind fun h S => (evE C st ρ S).bind fun c S => match c with
    | .d (.int c) => stpV v l h (some c) S
    | _ => .no := nr rfl
@[simp ↓] theorem k_comp2 {m : Bool} {k k1 : IK} {args args1 : List LE} {tg tg1 : Tg} {own own1 : List Nat} {cond cond1 : Option LE} {elt : LE} : evE C (.comp2 m k args tg cond k1 args1 tg1 own1 cond1 own elt) ρ S = (evL C args ρ S).bind fun vs S => (itV k vs S).bind fun items S => (loopA (fA C tg own cond k1 args1 tg1 own1 cond1 elt ρ) items [] S).bind fun ys S => ret1 m (.list ys) S := nr rfl
@[simp] theorem v_mlistT {xs : List PyData} : xoV .mlist [.d (.tuple xs)] S = .ok (.r S.length) (S ++ [.lst xs]) := nr rfl
@[simp] theorem v_mlistL {xs : List PyData} : xoV .mlist [.d (.list xs)] S = .ok (.r S.length) (S ++ [.lst xs]) := nr rfl
theorem v_lrange {n : Int} (h0 : 0 ≤ n) (h1 : n ≤ 1000000) : xoV .lrange [.d (.int n)] S = .ok (.d (.list (rng 0 n.toNat))) S := by
  simp [xoV, allD, toD, xoD, h0, h1, okD]
theorem v_madd {xs ys : List PyData} (h : xs.length + ys.length ≤ lim) : xoV .madd [.d (.list xs), .d (.list ys)] S = .ok (.r S.length) (S ++ [.lst (xs ++ ys)]) := by
  simp [xoV, allD, toD, h, ret1]
theorem v_mmul {xs : List PyData} {k : Int} (h1 : xs.length ≤ 1000) (h2 : 0 ≤ k) (h3 : k ≤ 1000) : xoV .mmul [.d (.list xs), .d (.int k)] S = .ok (.r S.length) (S ++ [.lst (List.replicate k.toNat xs).flatten]) := by
  simp [xoV, allD, toD, h1, h2, h3, ret1]
@[simp] theorem v_ddix {t : List (Str × PyData)} {z : Str} : xoV (.ddix t) [.d (.str z)] S = okD (t.lookup z) S := nr rfl
@[simp] theorem v_preI {xs : List PyData} : preV .index (.d (.list xs)) S = .ok () S := nr rfl
@[simp] theorem v_preJ {z : Str} : preV .join (.d (.str z)) S = .ok () S := nr rfl
@[simp] theorem v_preS {z : Str} : preV .split (.d (.str z)) S = .ok () S := nr rfl
@[simp] theorem v_mo {m : MO} {x y : PyData} : moV m (.d x) (.d y) S = okD (moD m x y) S := nr rfl
@[simp] theorem v_stp {x : PyData} {l h c : Option Int} : stpV (.d x) l h c S = okD (stpD x l h c) S := nr rfl
@[simp] theorem v_stpT1 {xs : List PyData} : stpD (.tuple xs) none none (some (-1)) = some (.tuple xs.reverse) := by
  simp [stpD, stepG_none]
@[simp] theorem v_stpL1 {xs : List PyData} : stpD (.list xs) none none (some (-1)) = some (.list xs.reverse) := by
  simp [stpD]
@[simp ↓] theorem x_whil {c : LE} {b : List LS} : exS C (.whil c b) ρ S = loopW (fun ρ S => evT C c ρ S) (fun ρ S => exB C b ρ S) fuelW ρ S := nr rfl
@[simp] theorem v_sumT {ys : List PyData} : biD .sum [.tuple ys] = (intsOf ys).map fun ns => .int ns.sum := nr rfl
@[simp] theorem v_lenset {x : PyData} : lenSV (.d x) S = okD (lenS x) S := nr rfl
@[simp ↓] theorem k_dix {x : Str} {t : List (Str × PyData)} {i : LE} : evE C (.dix x t i) ρ S = (evE C i ρ S).bind (dixV t) := nr rfl
@[simp ↓] theorem k_din {x : Str} {t : List (Str × PyData)} {a : LE} : evE C (.din x t a) ρ S = (evE C a ρ S).bind fun v S => (dinV t v S).bind bV := nr rfl
@[simp ↓] theorem t_din' {x : Str} {t : List (Str × PyData)} {a : LE} : evT C (.din x t a) ρ S = (evE C a ρ S).bind fun v S => dinV t v S := nr rfl
@[simp] theorem v_dix {t : List (Str × PyData)} {z : Str} : dixV t (.d (.str z)) S = okD (t.lookup z) S := nr rfl
@[simp] theorem v_din {t : List (Str × PyData)} {z : Str} : dinV t (.d (.str z)) S = .ok (t.lookup z).isSome S := nr rfl
@[simp] theorem k_frz {i : Nat} : evE C (.frz i) ρ S = match ρ[i]? with
    | some (some (.r n)) => match S[n]? with
      | some (.lst xs) => .ok (.d (.list xs)) (S.set n .gone)
      | _ => .no
    | _ => .no := nr rfl
@[simp ↓] theorem t_and' {a b : LE} : evT C (.and a b) ρ S = (evT C a ρ S).bind fun x S => if x then evT C b ρ S else .ok false S := nr rfl
@[simp ↓] theorem t_or' {a b : LE} : evT C (.or a b) ρ S = (evT C a ρ S).bind fun x S => if x then .ok true S else evT C b ρ S := nr rfl
@[simp ↓] theorem t_not' {a : LE} : evT C (.not a) ρ S = (evT C a ρ S).bind fun x S => .ok (!x) S := nr rfl
@[simp ↓] theorem t_cmp' {o : CO} {a b : LE} : evT C (.cmp o a b) ρ S = (evE C a ρ S).bind fun v S => (evE C b ρ S).bind fun w S => cmpV o v w S := nr rfl
@[simp ↓] theorem t_chain' {o p : CO} {a b c : LE} : evT C (.chain o p a b c) ρ S = (evE C a ρ S).bind fun v S => (evE C b ρ S).bind fun w S => (cmpV o v w S).bind fun z S =>
      if z then (evE C c ρ S).bind fun u S => cmpV p w u S else .ok false S := nr rfl
@[simp] theorem t_var {i : Nat} : evT C (.var i) ρ S = match ρ[i]? with
    | some (some v) => truV v S
    | _ => .no := nr rfl
@[simp ↓] theorem t_call {f : Nat} {es : List LE} : evT C (.call f es) ρ S = (evL C es ρ S).bind fun vs S => (C f vs S).bind truV := nr rfl
@[simp ↓] theorem t_bi {b : BI} {es : List LE} : evT C (.bi b es) ρ S = (evL C es ρ S).bind fun vs S => (biV b vs S).bind truV := nr rfl
@[simp ↓] theorem t_isi {a : LE} {t : TY} : evT C (.isi a t) ρ S = (evE C a ρ S).bind fun v S => isiV t v S := nr rfl
@[simp ↓] theorem t_ix {a i : LE} : evT C (.ix a i) ρ S = (evE C a ρ S).bind fun v S => (evE C i ρ S).bind fun w S => (ixV v w S).bind truV := nr rfl
@[simp ↓] theorem l_nil : evL C [] ρ S = .ok [] S := nr rfl
@[simp ↓] theorem l_cons {e : LE} {es : List LE} : evL C (e :: es) ρ S = (evE C e ρ S).bind fun v S => (evL C es ρ S).bind fun vs S => .ok (v :: vs) S := nr rfl
@[simp ↓] theorem p_none : evP C none ρ S = .ok none S := nr rfl
@[simp ↓] theorem p_some {e : LE} : evP C (some e) ρ S = (evE C e ρ S).bind fun v S => match v with
    | .d (.int i) => .ok (some i) S
    | _ => .no := nr rfl
@[simp ↓] theorem o_none : evO C none ρ S = .ok true S := nr rfl
@[simp ↓] theorem o_some {e : LE} : evO C (some e) ρ S = evT C e ρ S := nr rfl
/-! statements -/
@[simp ↓] theorem x_asg {i : Nat} {e : LE} : exS C (.asg i e) ρ S = (evE C e ρ S).bind fun v S => .ok (.nx (ρ.set i (some v))) S := nr rfl
@[simp ↓] theorem x_asgT {is : List Nat} {es : List LE} : exS C (.asgT is es) ρ S = (evL C es ρ S).bind fun vs S => nxO (setVals ρ is vs) S := nr rfl
@[simp ↓] theorem x_unp {is : List Nat} {e : LE} : exS C (.unp is e) ρ S = (evE C e ρ S).bind fun v S => unpV is v ρ S := nr rfl
@[simp ↓] theorem x_setix {o i e : LE} : exS C (.setix o i e) ρ S = (evE C e ρ S).bind fun w S => (evE C o ρ S).bind fun v S => (evE C i ρ S).bind fun k S => (setV v k w S).bind fun _ S => .ok (.nx ρ) S := nr rfl
@[simp ↓] theorem x_app {o e : LE} : exS C (.app o e) ρ S = (evE C o ρ S).bind fun v S => (needL v S).bind fun _ S => (evE C e ρ S).bind fun w S => (appV v w S).bind fun _ S => .ok (.nx ρ) S := nr rfl
@[simp] theorem x_aug {i : Nat} {o : Op2} {e : LE} : exS C (.aug i o e) ρ S = match ρ[i]? with
    | some (some x) => (evE C e ρ S).bind fun w S => (augV o x w S).bind fun z S => .ok (.nx (ρ.set i (some z))) S
    | _ => .no := nr rfl
@[simp ↓] theorem x_exp {e : LE} : exS C (.exp e) ρ S = (evE C e ρ S).bind fun _ S => .ok (.nx ρ) S := nr rfl
@[simp ↓] theorem x_ret {e : LE} : exS C (.ret e) ρ S = (evE C e ρ S).bind fun v S => .ok (.ret v) S := nr rfl
@[simp ↓] theorem x_ite {c : LE} {a b : List LS} : exS C (.ite c a b) ρ S = (evT C c ρ S).bind fun x S => if x then exB C a ρ S else exB C b ρ S := nr rfl
@[simp ↓] theorem x_for {k : IK} {args : List LE} {tg : Tg} {body : List LS} : exS C (.for k args tg body) ρ S = (evL C args ρ S).bind fun vs S => (itV k vs S).bind fun items S => loopF (fF C tg body) items ρ S := nr rfl
@[simp] theorem x_brk : exS C .brk ρ S = .ok (.bk ρ) S := nr rfl
@[simp] theorem x_cont : exS C .cont ρ S = .ok (.ct ρ) S := nr rfl
@[simp] theorem x_pass : exS C .pass ρ S = .ok (.nx ρ) S := nr rfl
/-! by values -/
variable {i j : Int} {x y : PyData} {xs ys : List PyData} {n : Nat}
@[simp] theorem v_neg : negV (.d (.int i)) S = .ok (.d (.int (-i))) S := nr rfl
@[simp] theorem v_addI : binV .add (.d (.int i)) (.d (.int j)) S = .ok (.d (.int (i + j))) S := nr rfl
@[simp] theorem v_subI : binV .sub (.d (.int i)) (.d (.int j)) S = .ok (.d (.int (i - j))) S := nr rfl
@[simp] theorem v_mulI : Ok (binV .mul (.d (.int i)) (.d (.int j)) S) Q = ((fitM i = true ∧ fitM j = true) ∧ Q (.d (.int (i * j))) S) := by
  simp only [binV, toD, binD, k_okD, Bool.and_eq_true]
  apply propext
  constructor
  · rintro ⟨y, h, q⟩
    split at h
    · cases h; exact ⟨by assumption, q⟩
    · cases h
  · rintro ⟨h, q⟩
    exact ⟨_, if_pos h, q⟩
@[simp] theorem v_fdivI : Ok (binV .fdiv (.d (.int i)) (.d (.int j)) S) Q = ((j ≠ 0 ∧ fitD j = true) ∧ Q (.d (.int (i.fdiv j))) S) := by
  simp only [binV, toD, binD, k_okD]
  apply propext
  constructor
  · rintro ⟨y, h, q⟩
    split at h
    · cases h; exact ⟨by assumption, q⟩
    · cases h
  · rintro ⟨h, q⟩
    exact ⟨_, if_pos h, q⟩
@[simp] theorem v_modI : Ok (binV .mod (.d (.int i)) (.d (.int j)) S) Q = (j ≠ 0 ∧ Q (.d (.int (i.fmod j))) S) := by
  simp only [binV, toD, binD, k_okD]
  apply propext
  constructor
  · rintro ⟨y, h, q⟩
    split at h
    · cases h; exact ⟨by assumption, q⟩
    · cases h
  · rintro ⟨h, q⟩
    exact ⟨_, if_pos h, q⟩
@[simp] theorem v_powI : Ok (binV .pow (.d (.int i)) (.d (.int j)) S) Q = ((0 ≤ j ∧ j ≤ 1000 ∧ i.natAbs < 2 ^ 64) ∧ Q (.d (.int (i ^ j.toNat))) S) := by
  simp only [binV, toD, binD, k_okD]
  apply propext
  constructor
  · rintro ⟨y, h, q⟩
    split at h
    · cases h; exact ⟨by assumption, q⟩
    · cases h
  · rintro ⟨h, q⟩
    exact ⟨_, if_pos h, q⟩
@[simp] theorem v_addT : Ok (binV .add (.d (.tuple xs)) (.d (.tuple ys)) S) Q = (xs.length + ys.length ≤ lim ∧ Q (.d (.tuple (xs ++ ys))) S) := by
  simp only [binV, toD, binD, k_okD]
  apply propext
  constructor
  · rintro ⟨y, h, q⟩
    split at h
    · cases h; exact ⟨by assumption, q⟩
    · cases h
  · rintro ⟨h, q⟩
    exact ⟨_, if_pos h, q⟩
@[simp] theorem v_addL : Ok (binV .add (.d (.list xs)) (.d (.list ys)) S) Q = (xs.length + ys.length ≤ lim ∧ Q (.d (.list (xs ++ ys))) S) := by
  simp only [binV, toD, binD, k_okD]
  apply propext
  constructor
  · rintro ⟨y, h, q⟩
    split at h
    · cases h; exact ⟨by assumption, q⟩
    · cases h
  · rintro ⟨h, q⟩
    exact ⟨_, if_pos h, q⟩
@[simp] theorem v_mulT : Ok (binV .mul (.d (.tuple xs)) (.d (.int i)) S) Q = ((xs.length ≤ 1000 ∧ 2 ≤ i ∧ i ≤ 1000 ∧ xs.isEmpty = false) ∧ Q (.d (.tuple (List.replicate i.toNat xs).flatten)) S) := by
  simp only [binV, toD, binD, k_okD]
  apply propext
  constructor
  · rintro ⟨y, h, q⟩
    split at h
    · cases h; exact ⟨by assumption, q⟩
    · cases h
  · rintro ⟨h, q⟩
    exact ⟨_, if_pos h, q⟩
@[simp] theorem v_cmp {o : CO} : cmpV o (.d x) (.d y) S = lift (cmpD o x y) S := nr rfl
@[simp] theorem v_lt : cmpD .lt (.int i) (.int j) = some (decide (i < j)) := nr rfl
@[simp] theorem v_le : cmpD .le (.int i) (.int j) = some (decide (i ≤ j)) := nr rfl
@[simp] theorem v_gt : cmpD .gt (.int i) (.int j) = some (decide (j < i)) := nr rfl
@[simp] theorem v_ge : cmpD .ge (.int i) (.int j) = some (decide (j ≤ i)) := nr rfl
@[simp] theorem v_eq : cmpD .eq x y = eqD x y := nr rfl
@[simp] theorem v_ne : cmpD .ne x y = (eqD x y).map (!·) := nr rfl
@[simp] theorem v_eqI : eqD (.int i) (.int j) = some (decide (i = j)) := by
  simp only [eqD, scalD, PyData.eqv, if_true]
  by_cases h : i = j
  · simp [h]
  · simp [h]
@[simp] theorem v_eqB {a b : Bool} : eqD (.bool a) (.bool b) = some (a == b) := by
  simp only [eqD, scalD, PyData.eqv]
  rfl
@[simp] theorem v_isN : cmpD .is x .none = some (isNone x) := by cases x <;> rfl
@[simp] theorem v_isB {a b : Bool} : cmpD .is (.bool a) (.bool b) = some (decide (a = b)) := nr rfl
@[simp] theorem v_isnN : cmpD .isn x .none = some (!isNone x) := by cases x <;> rfl
@[simp] theorem v_isnB {a b : Bool} : cmpD .isn (.bool a) (.bool b) = some (!decide (a = b)) := nr rfl
@[simp] theorem v_in : cmpD .in_ x y = inD x y := nr rfl
@[simp] theorem v_nin : cmpD .nin x y = (inD x y).map (!·) := nr rfl
@[simp] theorem v_ix : ixV (.d x) (.d y) S = okD (ixD x y) S := nr rfl
@[simp] theorem v_ixs : ixV (.s xs) (.d (.int i)) S = okD (L2.atI xs i) S := nr rfl
theorem v_ixr (h : S[n]? = some (.lst xs)) : ixV (.r n) (.d y) S = okD (ixD (.list xs) y) S := by simp [ixV, toD, h]
@[simp] theorem v_ixL : ixD (.list xs) (.int i) = L2.atI xs i := nr rfl
@[simp] theorem v_ixT : ixD (.tuple xs) (.int i) = L2.atI xs i := nr rfl
theorem atI_n {α : Type} (xs : List α) (n : Nat) : L2.atI xs (n : Int) = xs[n]? := by
  unfold L2.atI L2.ixN
  rw [if_pos (by omega)]
  by_cases h : n < xs.length
  · rw [if_pos (by omega)]; rfl
  · rw [if_neg (by omega), List.getElem?_eq_none (by omega)]; rfl
@[simp] theorem atI_0 {α : Type} (xs : List α) : L2.atI xs 0 = xs[0]? := atI_n xs 0
@[simp] theorem atI_1 {α : Type} (xs : List α) : L2.atI xs 1 = xs[1]? := atI_n xs 1
@[simp] theorem atI_lit {α : Type} (xs : List α) (n : Nat) : L2.atI xs (no_index (OfNat.ofNat n : Int)) = xs[n]? := atI_n xs n
@[simp] theorem atI_m1 {α : Type} (xs : List α) : L2.atI xs (-1) = xs.getLast? := by
  unfold L2.atI L2.ixN
  rw [if_neg (by decide)]
  cases xs with
  | nil => rfl
  | cons x r =>
    rw [if_pos (by simp; omega)]
    have e : ((-1 : Int) + ((x :: r).length : Int)).toNat = (x :: r).length - 1 := by simp; omega
    rw [e, List.getLast?_eq_getElem?]
    rfl
@[simp] theorem v_sl {l h : Option Int} : slV (.d x) l h S = okD (slD x l h) S := nr rfl
@[simp] theorem v_slT {l h : Option Int} : slD (.tuple xs) l h = some (.tuple (cut xs l h)) := nr rfl
@[simp] theorem v_slL {l h : Option Int} : slD (.list xs) l h = some (.list (cut xs l h)) := nr rfl
@[simp] theorem v_len : biV .len [.d x] S = okD (biD .len [x]) S := nr rfl
@[simp] theorem v_lenS : biV .len [.s xs] S = .ok (.d (.int xs.length)) S := nr rfl
theorem v_lenR (h : S[n]? = some (.lst xs)) : biV .len [.r n] S = .ok (.d (.int xs.length)) S := by simp [biV, allD, toD, h, biD, okD]
@[simp] theorem v_b1 {b : BI} : biV b [.d x] S = okD (biD b [x]) S := by cases b <;> rfl
@[simp] theorem v_b2 {b : BI} : biV b [.d x, .d y] S = okD (biD b [x, y]) S := by cases b <;> rfl
@[simp] theorem v_lenL : biD .len [.list ys] = some (.int ys.length) := nr rfl
@[simp] theorem v_lenT : biD .len [.tuple ys] = some (.int ys.length) := nr rfl
@[simp] theorem v_abs : biD .abs [.int i] = some (.int (if i < 0 then -i else i)) := nr rfl
@[simp] theorem v_int : biD .int [.int i] = some (.int i) := nr rfl
@[simp] theorem v_tupL : biD .tuple [.list ys] = some (.tuple ys) := nr rfl
@[simp] theorem v_tupT : biD .tuple [.tuple ys] = some (.tuple ys) := nr rfl
@[simp] theorem v_lisL : biD .list [.list ys] = some (.list ys) := nr rfl
@[simp] theorem v_lisT : biD .list [.tuple ys] = some (.list ys) := nr rfl
@[simp] theorem v_max : biD .max [.int i, .int j] = some (.int (if j > i then j else i)) := nr rfl
@[simp] theorem v_min : biD .min [.int i, .int j] = some (.int (if j < i then j else i)) := nr rfl
@[simp] theorem v_allL : biD .all [.list ys] = (boolsOf ys).map fun bs => .bool (bs.all id) := nr rfl
@[simp] theorem v_sumL : biD .sum [.list ys] = (intsOf ys).map fun ns => .int ns.sum := nr rfl
@[simp] theorem v_isi {t : TY} : isiV t (.d x) S = .ok (isiD t x) S := nr rfl
@[simp] theorem v_tru : truV (.d x) S = lift (truD x) S := nr rfl
@[simp] theorem v_truB {b : Bool} : truD (.bool b) = some b := nr rfl
@[simp] theorem v_truI : truD (.int i) = some (i != 0) := nr rfl
@[simp] theorem v_bV {b : Bool} : bV b S = .ok (.d (.bool b)) S := nr rfl
@[simp] theorem v_asB {b : Bool} : asBool (.d (.bool b)) S = .ok b S := nr rfl
@[simp] theorem v_dat : dat1 (.d x) S = .ok (some x) S := nr rfl
@[simp] theorem v_pn : plain [] = some [] := nr rfl
@[simp] theorem v_pc {vs : List Val} : plain (.d x :: vs) = (plain vs).map (x :: ·) := nr rfl
@[simp] theorem v_tup {vs : List Val} : tupV (.d x :: vs) S = okD ((plain vs).map fun r => .tuple (x :: r)) S := by
  unfold tupV
  rw [v_pc]
  cases plain vs <;> rfl
@[simp] theorem v_tup0 : tupV [] S = .ok (.d (.tuple [])) S := nr rfl
@[simp] theorem v_lstF {vs : List Val} : lstV false (.d x :: vs) S = okD ((plain vs).map fun r => .list (x :: r)) S := by
  unfold lstV
  rw [v_pc]
  cases plain vs <;> rfl
@[simp] theorem v_lstF0 : lstV false [] S = .ok (.d (.list [])) S := nr rfl
@[simp] theorem v_lstT0 : lstV true [] S = .ok (.r S.length) (S ++ [.lst []]) := nr rfl
theorem v_lstT {vs : List Val} (h : plain vs = some xs) : lstV true vs S = .ok (.r S.length) (S ++ [.lst xs]) := by
  unfold lstV
  rw [h]
  rfl
@[simp] theorem v_ret1F : ret1 false x S = .ok (.d x) S := nr rfl
@[simp] theorem v_ret1T : ret1 true (.list xs) S = .ok (.r S.length) (S ++ [.lst xs]) := nr rfl
@[simp] theorem v_seqL : itV .seq [.d (.list xs)] S = .ok xs S := nr rfl
@[simp] theorem v_enmL : itV .enum [.d (.list xs)] S = .ok (enumL 0 xs) S := nr rfl
@[simp] theorem v_enmT : itV .enum [.d (.tuple xs)] S = .ok (enumL 0 xs) S := nr rfl
@[simp] theorem v_zipL : itV .zip [.d (.list xs), .d (.list ys)] S = .ok (zipL xs ys) S := nr rfl
@[simp] theorem v_zipT : itV .zip [.d (.tuple xs), .d (.tuple ys)] S = .ok (zipL xs ys) S := nr rfl
@[simp] theorem v_seqT : itV .seq [.d (.tuple xs)] S = .ok xs S := nr rfl
theorem v_rng (h1 : -1000000000000000000 ≤ i) (h2 : i < 1000000000000000000) : itV .range [.d (.int i)] S = .ok (rng 0 i.toNat) S := by
  simp [itV, plain, itD, itRng, smallI, h1, h2]
theorem v_rng2 (h1 : -1000000000000000000 ≤ i) (h2 : i < 1000000000000000000) (h3 : -1000000000000000000 ≤ j) (h4 : j < 1000000000000000000) : itV .range [.d (.int i), .d (.int j)] S = .ok (rng i (j - i).toNat) S := by
  simp [itV, plain, itD, itRng, smallI, h1, h2, h3, h4]
@[simp] theorem v_nx {ρ : Env} : nxO (some ρ) S = .ok (.nx ρ) S := nr rfl
@[simp] theorem v_nxN : nxO none S = .no := nr rfl
@[simp] theorem v_set0 {ρ : Env} : setVals ρ [] [] = some ρ := nr rfl
@[simp] theorem v_set1 {ρ : Env} {k : Nat} {is : List Nat} {v : Val} {vs : List Val} : setVals ρ (k :: is) (v :: vs) = setVals (ρ.set k (some v)) is vs := nr rfl
@[simp] theorem v_sm0 {ρ : Env} : setMany ρ [] [] = some ρ := nr rfl
@[simp] theorem v_sm1 {ρ : Env} {k : Nat} {is : List Nat} : setMany ρ (k :: is) (x :: xs) = setMany (ρ.set k (some (.d x))) is xs := nr rfl
@[simp] theorem v_unpT {ρ : Env} {is : List Nat} : unpV is (.d (.tuple xs)) ρ S = nxO (setMany ρ is xs) S := nr rfl
@[simp] theorem v_unpL {ρ : Env} {is : List Nat} : unpV is (.d (.list xs)) ρ S = nxO (setMany ρ is xs) S := nr rfl
@[simp] theorem v_augA : augV .add (.d (.int i)) (.d (.int j)) S = .ok (.d (.int (i + j))) S := nr rfl
@[simp] theorem v_augS : augV .sub (.d (.int i)) (.d (.int j)) S = .ok (.d (.int (i - j))) S := nr rfl
theorem v_need (h : S[n]? = some (.lst xs)) : needL (.r n) S = .ok () S := by simp [needL, h]
theorem v_app {Q : Unit → Sto → Prop} (h : S[n]? = some (.lst xs)) : Ok (appV (.r n) (.d x) S) Q = (xs.length < lim ∧ Q () (S.set n (.lst (xs ++ [x])))) := by
  simp only [appV, h, k_if]
  by_cases hx : xs.length < lim
  · rw [if_pos hx]; simp [hx]
  · rw [if_neg hx]; simp [hx]
theorem v_setL {Q : Unit → Sto → Prop} (h : S[n]? = some (.lst xs)) {k : Nat} (hk : k < xs.length) : Ok (setV (.r n) (.d (.int (k : Int))) (.d x) S) Q = Q () (S.set n (.lst (xs.set k x))) := by
  have e : L2.ixN xs.length (k : Int) = some k := by
    unfold L2.ixN
    rw [if_pos (by omega), if_pos (by omega)]
    rfl
  simp [setV, h, e]
theorem v_setL0 {Q : Unit → Sto → Prop} (h : S[n]? = some (.lst (y :: xs))) : Ok (setV (.r n) (.d (.int 0)) (.d x) S) Q = Q () (S.set n (.lst (x :: xs))) := v_setL h (k := 0) (by simp)
theorem v_setL1 {z : PyData} {Q : Unit → Sto → Prop} (h : S[n]? = some (.lst (z :: y :: xs))) : Ok (setV (.r n) (.d (.int 1)) (.d x) S) Q = Q () (S.set n (.lst (z :: x :: xs))) := v_setL h (k := 1) (by simp)
theorem take_set {n : Nat} {x : SE} {l : Nat} (h : S.length ≤ l) : (S.set n x).take l = S.set n x := List.take_of_length_le (by simpa using h)
@[simp] theorem take_set' {n : Nat} {x : SE} : (S.set n x).take S.length = S.set n x := take_set (Nat.le_refl _)
@[simp] theorem take_app {S2 : Sto} : (S ++ S2).take S.length = S := by simp
@[simp] theorem v_one {k : Nat} {ρ : Env} : bindTg (.one k) x ρ = some (ρ.set k (some (.d x))) := nr rfl
@[simp] theorem v_many {is : List Nat} {ρ : Env} : bindTg (.many is) (.tuple xs) ρ = setMany ρ is xs := nr rfl
@[simp] theorem v_wipe0 {ρ : Env} : wipeE ρ [] = ρ := nr rfl
@[simp] theorem v_wipe1 {ρ : Env} {k : Nat} {is : List Nat} : wipeE ρ (k :: is) = (wipeE ρ is).set k none := nr rfl
theorem onTg_some {α : Type} {tg : Tg} {ρ ρ' : Env} {f : Env → R α} (h : bindTg tg x ρ = some ρ') : onTg tg x ρ f = f ρ' := by simp [onTg, h]
@[simp] theorem f_ret {x : PyData} {S' : Sto} : finQ S Q (.ret (.d x)) S' = Q (.d x) (S'.take S.length) := nr rfl
@[simp] theorem f_retR {S' : Sto} : finQ S Q (.ret (.r n)) S' = Q (.r n) S' := nr rfl
@[simp] theorem f_nx {ρ : Env} {S' : Sto} : finQ S Q (.nx ρ) S' = Q (.d .none) (S'.take S.length) := nr rfl
@[simp] theorem onTg_one {α : Type} {k : Nat} {ρ : Env} {f : Env → R α} : onTg (.one k) x ρ f = f (ρ.set k (some (.d x))) := nr rfl
end
end Z

namespace W
open PySem Z
theorem pick_ok {k n : Nat} {m : Int} {S : Sto} {Q : Val → Sto → Prop} (hS : Src S n) (h0 : 0 < m) (h1 : m < 2 ^ 200) (hQ : ∀ (d : Int) S', 0 ≤ d → d < m → Src S' n → Sm n S S' → Q (.d (.int d)) S') : Ok (callF GT (k + 1) 10 [.r n, .d (.int m)] S) Q := by
  obtain ⟨a, b, p, hn, ha, hb, hp, hp2⟩ := hS
  have hl : n < S.length := (List.getElem?_eq_some_iff.mp hn).1
  refine Ok_call rfl rfl ?_
  have hm : m ≠ 0 := by omega
  simp [d__law_pick, Z.start, v_ixr hn]
  by_cases h : 0 < a
  · simp [h, v_ixr hn, hm, v_setL0 hn]
    exact ⟨fitD_of (by omega) (by omega), hQ _ _ (fmod_lo h0) (fmod_hi h0) ⟨a.fdiv m, b, p, by rw [List.getElem?_set_self hl], Int.fdiv_nonneg ha (by omega), hb, hp, hp2⟩ Sm.set⟩
  · have hp0 : p ≠ 0 := by omega
    have hn2 : (S.set n (SE.lst [.int a, .int ((b * 48271 + 11).fmod p), .int p]))[n]? = some (SE.lst [.int a, .int ((b * 48271 + 11).fmod p), .int p]) := List.getElem?_set_self hl
    have b1 : 0 ≤ (b * 48271 + 11).fmod p := fmod_lo (by omega)
    have b2 : (b * 48271 + 11).fmod p < p := fmod_hi (by omega)
    simp [h, v_ixr hn, hm, hl, v_setL1 hn, hp0, v_ixr hn2]
    refine ⟨⟨fitM_of (by omega) (by omega), fitM_of (by omega) (by omega)⟩, fitM_of (by omega) (by omega), ?_⟩
    exact ⟨fitD_of (by omega) (by omega), hQ _ _ (fmod_lo h0) (fmod_hi h0) ⟨a, _, p, hn2, ha, b1, b2, hp2⟩ Sm.set⟩
theorem fitM_lit {i : Int} (h : i.natAbs < 18446744073709551616) : fitM i = true := fitM_of (by omega) (by omega)
theorem Ok_at {xs : List PyData} {i : Int} {S : Sto} {Q : Val → Sto → Prop} (h0 : 0 ≤ i) (h : i < xs.length) (hQ : ∀ x ∈ xs, Q (.d x) S) : Ok (okD (L2.atI xs i) S) Q := by
  obtain ⟨x, e, hx⟩ := atI_mem h0 h
  rw [e]
  exact Ok_ok.mpr (hQ x hx)
theorem source_fin {k : Nat} {i : Int} {ns : List Int} {S : Sto} {Q : Val → Sto → Prop} (h0 : 0 ≤ i) (h1 : i < 1000) (hQ : ∀ S' n, Src S' n → Q (.r n) S') (cell : Int) : Ok (exB (callF GT k) (d__law_source.body.drop 2) [some (.s (ns.map .int)), some (.d (.int i)), some (.d (.int cell)), none, none, none] S) (finQ S Q) := by
    simp [d__law_source]
    refine Ok_at (fmod_lo (by decide)) (by have := fmod_hi (a := i) (m := 8) (by decide); simpa using this) fun x hx => ?_
    have key : ∃ p : Int, x = .int p ∧ 2147483400 < p ∧ p ≤ 2147483647 := by
      simp only [List.mem_cons, List.not_mem_nil, or_false] at hx
      rcases hx with rfl | rfl | rfl | rfl | rfl | rfl | rfl | rfl <;> exact ⟨_, rfl, by decide, by decide⟩
    obtain ⟨p, rfl, hp1, hp2⟩ := key
    have c1 := fmod_lo (a := cell) (m := p) (by omega)
    have c2 := fmod_hi (a := cell) (m := p) (by omega)
    have hp0 : p ≠ 0 := by omega
    have b1 := fmod_lo (a := cell.fmod p * 48271 + 104729 * (i + 1)) (m := p) (by omega)
    have b2 := fmod_hi (a := cell.fmod p * 48271 + 104729 * (i + 1)) (m := p) (by omega)
    simp [hp0]
    refine ⟨⟨fitM_of (by omega) (by omega), fitM_lit (by omega)⟩, ⟨fitM_lit (by omega), fitM_of (by omega) (by omega)⟩, ?_⟩
    by_cases hc : (1000000000000000000 : Int) ≤ cell
    · simp [hc, lstV]
      exact hQ _ _ ⟨cell, _, p, by simp, by omega, b1, b2, hp2⟩
    · simp [hc, lstV]
      exact hQ _ _ ⟨0, _, p, by simp, by omega, b1, b2, hp2⟩
theorem source_ok {k : Nat} {i : Int} {ns : List Int} {S : Sto} {Q : Val → Sto → Prop} (h0 : 0 ≤ i) (h1 : i < 1000) (hQ : ∀ S' n, Src S' n → Q (.r n) S') : Ok (callF GT (k + 1) 9 [.s (ns.map .int), .d (.int i)] S) Q := by
  refine Ok_call rfl rfl ?_
  simp [d__law_source, Z.start, List.replicate]
  refine ⟨⟨fitM_lit (by omega), fitM_of (by omega) (by omega)⟩, ?_⟩
  by_cases h : i < ns.length
  · simp [h]
    obtain ⟨n, rfl⟩ := Int.eq_ofNat_of_zero_le h0
    have hn : n < ns.length := by simpa using h
    have e : L2.atI (ns.map PyData.int) (n : Int) = some (.int ns[n]) := by rw [atI_n]; simp [hn]
    have f := source_fin (k := k) (ns := ns) (S := S) h0 h1 hQ ns[n]
    simp [d__law_source] at f
    simp [e]
    exact f
  · have f := source_fin (k := k) (ns := ns) (S := S) h0 h1 hQ (7919 * i + 101)
    simp [d__law_source] at f
    simp [h]
    exact f
theorem rng_mem {a : Int} {n : Nat} {x : PyData} (h : x ∈ rng a n) : ∃ j : Nat, j < n ∧ x = .int (a + j) := by
  unfold rng at h
  obtain ⟨j, hj, rfl⟩ := List.mem_map.mp h
  exact ⟨j, List.mem_range.mp hj, rfl⟩
theorem rng_len {a : Int} {n : Nat} : (rng a n).length = n := by simp [rng]
/-- what a draw of several things keeps -/
def Kp (n : Nat) (S0 S : Sto) : Prop := Src S n ∧ Sm n S0 S
theorem Kp.mk' {n : Nat} {S0 S S' : Sto} (a : Sm n S0 S) (b : Src S' n) (c : Sm n S S') : Kp n S0 S' := ⟨b, a.trans c⟩
theorem Sm.take {n : Nat} {S S' : Sto} (h : Sm n S S') : S'.take S.length = S' := List.take_of_length_le (Nat.le_of_eq h.1)
theorem Sm.take2 {n : Nat} {S S' : Sto} {x : Sto} (h : Sm n S S') : (S' ++ x).take S.length = S' := by rw [← h.1]; simp
/-- numbers: a list of as many as are asked for -/
def IntL (m : Nat) (x : PyData) : Prop := ∃ ns : List Int, x = .list (ns.map .int) ∧ ns.length = m
theorem intL_of {m : Nat} {ys : List PyData} (h : ∀ y ∈ ys, ∃ i : Int, y = .int i) (hl : ys.length = m) : IntL m (.list ys) := by
  induction ys generalizing m with
  | nil => exact ⟨[], rfl, hl⟩
  | cons y ys ih =>
    obtain ⟨i, rfl⟩ := h y List.mem_cons_self
    obtain ⟨ns, e, hn⟩ := ih (fun z hz => h z (List.mem_cons_of_mem _ hz)) rfl
    cases e
    exact ⟨i :: ns, rfl, by simp at hl ⊢; omega⟩
theorem line_loop {C : Nat → List Val → Sto → R Val} {m : Nat} {first step : Int} {v0 v1 v2 v4 v6 v7 v8 : Option Val} {S : Sto} {Q : List PyData → Sto → Prop} (hm : m ≤ 10) (h1 : -1000000000000000000000 ≤ step) (h2 : step ≤ 1000000000000000000000) (hQ : ∀ ys, IntL m (.list ys) → Q ys S) :
    Ok (loopC (fC C (.one 8) [8] none (.bin .add (.var 3) (.bin .mul (.var 8) (.var 5))) [v0, v1, v2, some (.d (.int first)), v4, some (.d (.int step)), v6, v7, v8]) (rng 0 m) [] S) Q := by
  refine Ok_loopC (fun S' => S' = S) (fun y => ∃ i : Int, y = .int i) (fun x hx S1 e => ?_) rfl (by simp [rng_len, lim]; omega) fun ys S' e hy hl => ?_
  · subst e
    obtain ⟨j, hj, rfl⟩ := rng_mem hx
    simp [fC]
    exact ⟨fitM_of (by omega) (by omega), fitM_of (by omega) (by omega)⟩
  · subst e
    exact hQ _ (intL_of (by simpa using hy) (by simp [hl, rng_len]))
/-- the products, one behind another -/
theorem prod_loop {C : Nat → List Val → Sto → R Val} {n q m : Nat} {fac : Int} {v0 v1 v2 v3 v4 v5 v8 : Option Val} {S0 S : Sto} {Q : Fl → Sto → Prop} (hq : q ≠ n) (hf1 : -8 ≤ fac) (hf2 : fac ≤ 8) (L : List Int) (last : Int) (hL : S[q]? = some (.lst ((L ++ [last]).map .int))) (hb : last.natAbs ≤ 16 * 8 ^ L.length) (hm : m + L.length ≤ 20) (hS : Src S n) (hs : ∀ i, i ≠ n → i ≠ q → S[i]? = S0[i]?) (hl : S.length = S0.length)
    (hQ : ∀ (v8 : Option Val) (L' : List Int) S', L'.length = m + L.length + 1 → S'[q]? = some (.lst (L'.map .int)) → Src S' n → (∀ i, i ≠ n → i ≠ q → S'[i]? = S0[i]?) → S'.length = S0.length → Q (.nx [v0, v1, v2, v3, v4, v5, some (.d (.int fac)), some (.r q), v8]) S') :
    ∀ j : Int, Ok (loopF (fF C (.one 8) [.app (.var 7) (.bin .mul (.ix (.var 7) (.neg (.lit (.int 1)))) (.var 6))]) (rng j m) [v0, v1, v2, v3, v4, v5, some (.d (.int fac)), some (.r q), v8] S) Q := by
  induction m generalizing L last v8 S with
  | zero =>
    intro j
    exact Ok_ok.mpr (hQ v8 (L ++ [last]) S (by simp) hL hS hs hl)
  | succ m ih =>
    intro j
    have e : rng j (m + 1) = .int j :: rng (j + 1) m := by
      unfold rng
      rw [List.range_succ_eq_map, List.map_cons, List.map_map]
      simp
      intro a _
      omega
    rw [e]
    have hp : (8 : Nat) ^ L.length ≤ 8 ^ 20 := Nat.pow_le_pow_right (by decide) (by omega)
    have hql : q < S.length := (List.getElem?_eq_some_iff.mp hL).1
    simp [loopF, fF, v_need hL, v_ixr hL, v_app hL]
    refine ⟨⟨fitM_of (by omega) (by omega), fitM_of (by omega) (by omega)⟩, by simp [lim]; omega, ?_⟩
    have hb' : (last * fac).natAbs ≤ 16 * 8 ^ (L ++ [last]).length := by
      rw [Int.natAbs_mul, List.length_append, List.length_singleton, Nat.pow_succ]
      have : fac.natAbs ≤ 8 := by omega
      calc last.natAbs * fac.natAbs ≤ (16 * 8 ^ L.length) * 8 := Nat.mul_le_mul hb this
        _ = 16 * (8 ^ L.length * 8) := by rw [Nat.mul_assoc]
    obtain ⟨a, b, p, hn, z⟩ := hS
    refine ih (v8 := some (.d (.int j))) (L ++ [last]) (last * fac) ?_ hb' (by simp; omega) ⟨a, b, p, by rw [List.getElem?_set_ne hq]; exact hn, z⟩ (fun i hi hi2 => by rw [List.getElem?_set_ne (Ne.symm hi2)]; exact hs i hi hi2) (by simpa using hl) ?_ (j + 1)
    · rw [List.getElem?_set_self hql]
      simp
    · intro v8 L' S' h1 h2 h3 h4 h5
      exact hQ v8 L' S' (by rw [h1]; simp; omega) h2 h3 h4 h5
def numQ (n m : Nat) (f p : Int) (q : Nat) (S : Sto) : Fl → Sto → Prop := fun fl S' => ∃ (v8 : Option Val) (L' : List Int), fl = .nx [some (.r n), some (.d (.int (m : Int))), some (.d (.int 3)), some (.d (.int (f - 4))), none, none, some (.d (.int p)), some (.r q), v8] ∧ L'.length = m ∧ S'[q]? = some (.lst (L'.map PyData.int)) ∧ Src ((S'.set q .gone).take S.length) n ∧ Sm n S ((S'.set q .gone).take S.length)
structure InI (a b p : Int) : Prop where
  mk' ::
  lo : a ≤ p
  hi : p ≤ b
theorem numbers_ok {k n m : Nat} {S : Sto} {Q : Val → Sto → Prop} (hS : Src S n) (hm0 : 0 < m) (hm : m ≤ 10) (hQ : ∀ x S', IntL m x → Src S' n → Sm n S S' → Q (.d x) S') : Ok (callF GT (k + 2) 13 [.r n, .d (.int (m : Int))] S) Q := by
  refine Ok_call rfl rfl ?_
  simp [d__law_numbers, Z.start, List.replicate]
  refine pick_ok hS (by decide) (by decide) fun w S1 a1 a2 hS1 hs1 => ?_
  simp
  refine pick_ok hS1 (by decide) (by decide) fun f S2 b1 b2 hS2 hs2 => ?_
  have hs2 := hs1.trans hs2
  simp
  by_cases hw : w = 0
  · simp [hw]
    refine ⟨⟨fitM_of (by omega) (by omega), fitM_lit (by omega)⟩, ?_⟩
    refine pick_ok hS2 (by decide) (by decide) fun d3 S3 c1 c2 hS3 hs3 => ?_
    have hs3 := hs2.trans hs3
    simp
    refine pick_ok hS3 (by decide) (by decide) fun d4 S4 e1 e2 hS4 hs4 => ?_
    have hs4 := hs3.trans hs4
    simp
    refine ⟨⟨fitM_lit (by omega), fitM_lit (by omega)⟩, ?_⟩
    rw [v_rng (by omega) (by omega)]
    simp
    refine line_loop hm (by omega) (by omega) fun ys hy => ?_
    rw [hs4.take]
    exact hQ _ _ hy hS4 hs4
  · simp [hw]
    by_cases hw2 : w < 3
    · simp [hw2]
      refine pick_ok hS2 (by decide) (by decide) fun d3 S3 c1 c2 hS3 hs3 => ?_
      have hs3 := hs2.trans hs3
      simp
      rw [v_rng (by omega) (by omega)]
      simp
      refine line_loop hm (by omega) (by omega) fun ys hy => ?_
      rw [hs3.take]
      exact hQ _ _ hy hS3 hs3
    · simp [hw2]
      by_cases hw3 : w = 3
      · simp [hw3]
        refine pick_ok hS2 (by decide) (by decide) fun d3 S3 c1 c2 hS3 hs3 => ?_
        have hs3 := hs2.trans hs3
        refine Ok_at c1 (by simpa using c2) fun x hx => ?_
        have key : ∃ p : Int, x = .int p ∧ -8 ≤ p ∧ p ≤ 8 := by
          simp only [List.mem_cons, List.not_mem_nil, or_false] at hx
          rcases hx with rfl | rfl | rfl | rfl | rfl <;> exact ⟨_, rfl, by decide, by decide⟩
        obtain ⟨p, rfl, hp1, hp2⟩ := key
        have hnl : n < S3.length := by
          obtain ⟨a, b, p, h, _⟩ := hS3
          exact (List.getElem?_eq_some_iff.mp h).1
        have em : ((m : Int) - 1).toNat = m - 1 := by omega
        have fin : ∀ v : Int, v.natAbs ≤ 16 → ∀ v8 : Option Val, Ok (loopF (fF (callF GT (k + 1)) (.one 8) [.app (.var 7) (.bin .mul (.ix (.var 7) (.neg (.lit (.int 1)))) (.var 6))]) (rng 0 (m - 1)) [some (.r n), some (.d (.int (m : Int))), some (.d (.int 3)), some (.d (.int (f - 4))), none, none, some (.d (.int p)), some (.r S3.length), v8] (S3 ++ [.lst [.int v]])) (numQ n m f p S3.length S) := fun v hv v8 => by
          refine prod_loop (Q := numQ n m f p S3.length S) (n := n) (q := S3.length) (m := m - 1) (fac := p) (S0 := S3 ++ [.lst [.int v]]) (by omega) hp1 hp2 [] v (by simp) (by simpa using hv) (by simp; omega) ?_ (fun i _ _ => rfl) rfl (fun v8 L' S' h1 h2 h3 h4 h5 => ?_) 0
          · obtain ⟨a, b, p, h, z⟩ := hS3
            exact ⟨a, b, p, by rw [List.getElem?_append_left hnl]; exact h, z⟩
          refine ⟨v8, L', rfl, by simp at h1; omega, h2, ?_, ?_⟩
          · obtain ⟨a, b, p, h, z⟩ := h3
            refine ⟨a, b, p, ?_, z⟩
            rw [List.getElem?_take_of_lt (by rw [← hs3.1]; exact hnl), List.getElem?_set_ne (by omega)]
            exact h
          · refine ⟨by rw [List.length_take, List.length_set, h5, List.length_append, hs3.1]; simp, fun i hi => ?_⟩
            by_cases hil : i < S.length
            · rw [List.getElem?_take_of_lt hil, List.getElem?_set_ne (by rw [hs3.1]; omega), h4 i hi (by rw [hs3.1]; omega), List.getElem?_append_left (by rw [hs3.1]; exact hil)]
              exact hs3.2 i hi
            · rw [List.getElem?_eq_none (by rw [List.length_take]; omega), List.getElem?_eq_none (by omega)]
        by_cases hf : f - 4 = 0
        · simp [hf, lstV]
          rw [v_rng (by omega) (by omega), em]
          simp
          have f1 := fin 1 (by decide) none
          rw [hf] at f1
          refine Ok.mono f1 fun fl S' ⟨v8, L', e1, e2, e3, e4, e5⟩ => ?_
          subst e1
          simp [e3]
          exact hQ _ _ ⟨L', rfl, e2⟩ e4 e5
        · simp [hf, lstV]
          rw [v_rng (by omega) (by omega), em]
          simp
          refine Ok.mono (fin (f - 4) (by omega) none) fun fl S' ⟨v8, L', e1, e2, e3, e4, e5⟩ => ?_
          subst e1
          simp [e3]
          exact hQ _ _ ⟨L', rfl, e2⟩ e4 e5
      · simp [hw3]
        refine pick_ok hS2 (by decide) (by decide) fun d3 S3 c1 c2 hS3 hs3 => ?_
        have hs3 := hs2.trans hs3
        refine Ok_at c1 (by simpa using c2) fun x hx => ?_
        have key : ∃ p : Int, x = .int p ∧ InI 1 1000000000 p := by
          simp only [List.mem_cons, List.not_mem_nil, or_false] at hx
          rcases hx with rfl | rfl | rfl <;> first | exact ⟨3, rfl, InI.mk' (by omega) (by omega)⟩ | exact ⟨9, rfl, InI.mk' (by omega) (by omega)⟩ | exact ⟨1000000000, rfl, InI.mk' (by omega) (by omega)⟩
        clear hx
        rw [v_rng (by omega) (by omega)]
        obtain ⟨p, rfl, hpi⟩ := key
        have hp1 := hpi.1
        have hp2 := hpi.2
        simp
        refine Ok_loopC (fun S' => Src S' n ∧ Sm n S S') (fun y => ∃ i : Int, y = .int i) (fun x hx S1 e => ?_) ⟨hS3, hs3⟩ (by simp [rng_len, lim]; omega) fun ys S' e hy hl => ?_
        · obtain ⟨j, hj, rfl⟩ := rng_mem hx
          simp [fC]
          refine ⟨⟨fitM_lit (by omega), fitM_of (by omega) (by omega)⟩, ?_⟩
          refine pick_ok e.1 (by omega) (by omega) fun d5 S5 g1 g2 hS5 hs5 => ?_
          simp
          exact ⟨hS5, e.2.trans hs5⟩
        · simp
          rw [e.2.take]
          exact hQ _ _ (intL_of (by simpa using hy) (by simp [hl, rng_len])) e.1 e.2
end W

namespace W
open PySem Z
def bigB : PyData → Bool
  | .str s => decide (s.cps.size ≤ 1000) && s.cps.toList.all fun c => decide (c < 128)
  | _ => true
theorem bigB_ok {x : PyData} (h : bigB x = true) : big x := by
  cases x with
  | str s =>
    simp only [bigB, Bool.and_eq_true, decide_eq_true_eq, List.all_eq_true] at h
    exact h
  | _ => trivial
def bigCB (x : PyData) : Bool := bigB x && match x with
  | .tuple [a, _] => bigB a
  | _ => true
theorem bigCB_ok {x : PyData} (h : bigCB x = true) : bigC x := by
  unfold bigCB at h
  simp only [Bool.and_eq_true] at h
  refine ⟨bigB_ok h.1, fun a b e => ?_⟩
  subst e
  exact bigB_ok h.2
def bigSB : PyData → Bool
  | .tuple cs => decide (cs.length ≤ 1000) && cs.all bigCB
  | _ => true
theorem bigSB_ok {x : PyData} (h : bigSB x = true) : bigS x := by
  intro cs e
  subst e
  simp only [bigSB, Bool.and_eq_true, decide_eq_true_eq, List.all_eq_true] at h
  exact ⟨h.1, fun c hc => bigCB_ok (h.2 c hc)⟩
/-- a good cell -/
def gC (x : PyData) : Prop := isCellX x = true ∧ bigC x
theorem gC_int (i : Int) : gC (.int i) := ⟨rfl, trivial, fun a b e => nomatch e⟩
def gCB (x : PyData) : Bool := isCellX x && bigCB x
theorem gCB_ok {x : PyData} (h : gCB x = true) : gC x := by
  unfold gCB at h
  simp only [Bool.and_eq_true] at h
  exact ⟨h.1, bigCB_ok h.2⟩
def CellT (m : Nat) (x : PyData) : Prop := ∃ cs, x = .tuple cs ∧ cs.length = m ∧ ∀ c ∈ cs, gC c
theorem chosen_ok {k n : Nat} {xs : List PyData} {S : Sto} {Q : Val → Sto → Prop} (hS : Src S n) (h0 : 0 < xs.length) (h1 : xs.length < 1000000) (hQ : ∀ x S', x ∈ xs → Src S' n → Sm n S S' → Q (.d x) S') : Ok (callF GT (k + 2) 11 [.r n, .d (.list xs)] S) Q := by
  refine Ok_call rfl rfl ?_
  simp [d__law_chosen, Z.start]
  refine pick_ok hS (by omega) (by omega) fun d S1 a1 a2 hS1 hs1 => ?_
  simp
  refine Ok_at a1 a2 fun x hx => ?_
  simp
  rw [hs1.take]
  exact hQ x S1 hx hS1 hs1
def listsL : List PyData := [.tuple [.str "a", .str "b"], .tuple [.str "a", .str "b", .str "c"], .tuple [.str "b", .str "a"], .tuple [.str "c", .str "a", .str "b"], .tuple [.str "a", .str "c", .str "b", .str "d"], .tuple [.str "x", .str "a"], .tuple [.str "b", .str "c"], .tuple [.str "d", .str "c", .str "b", .str "a"]]
theorem lists_ok {k : Nat} {S : Sto} {Q : Val → Sto → Prop} (h : Q (.d (.list listsL)) S) : Ok (callF GT (k + 1) 12 [] S) Q := by
  refine Ok_call rfl rfl ?_
  simp [d__law_lists, Z.start, lim]
  exact h
def wordsB : PyData → Bool
  | .tuple cs => decide (0 < cs.length) && decide (cs.length ≤ 10) && cs.all gCB
  | _ => false
theorem lists_good : listsL.all wordsB = true := by decide +kernel
theorem cells_of {m : Nat} {ys : List PyData} (h : ∀ y ∈ ys, gC y) (hl : ys.length = m) : CellT m (.tuple ys) := ⟨ys, rfl, hl, h⟩
theorem some_cells_ok {k n m : Nat} {S : Sto} {Q : Val → Sto → Prop} (hS : Src S n) (hm0 : 0 < m) (hm : m ≤ 10) (hQ : ∀ x S', CellT m x → Src S' n → Sm n S S' → Q (.d x) S') : Ok (callF GT (k + 3) 14 [.r n, .d (.int (m : Int))] S) Q := by
  refine Ok_call rfl rfl ?_
  simp [d__law_some_cells, Z.start, List.replicate]
  refine pick_ok hS (by decide) (by decide) fun w S1 a1 a2 hS1 hs1 => ?_
  simp
  by_cases h1 : w < 3
  · simp [h1]
    refine numbers_ok hS1 hm0 hm fun x S2 hx hS2 hs2 => ?_
    obtain ⟨ns, rfl, hl⟩ := hx
    have hs2 := hs1.trans hs2
    simp
    rw [hs2.take]
    refine hQ _ _ (cells_of (fun y hy => ?_) (by simpa using hl)) hS2 hs2
    obtain ⟨i, _, rfl⟩ := List.mem_map.mp hy
    exact gC_int i
  · simp [h1]
    by_cases h2 : w = 3
    · simp [h2]
      refine pick_ok hS1 (by decide) (by decide) fun d2 S2 b1 b2 hS2 hs2 => ?_
      have hs2 := hs1.trans hs2
      refine Ok_at b1 (by simpa using b2) fun x hx => ?_
      refine numbers_ok hS2 hm0 hm fun y S3 hy hS3 hs3 => ?_
      obtain ⟨ns, rfl, hl⟩ := hy
      have hs3 := hs2.trans hs3
      simp
      refine Ok_loopC (fun S' => S' = S3) gC (fun z hz S4 e => ?_) rfl (by simp [lim]; omega) fun ys S4 e hy hl2 => ?_
      · subst e
        obtain ⟨i, _, rfl⟩ := List.mem_map.mp hz
        simp [fC]
        simp only [List.mem_cons, List.not_mem_nil, or_false] at hx
        have e0 : ∀ s : Str, wordS s = true → bigB (.str s) = true → gC (.tuple [.str s, .int i]) := fun s hs hb => ⟨by simp [isCellX, isIntX, isWordX, isNumX, hs], trivial, fun a b e => by cases e; exact bigB_ok hb⟩
        rcases hx with rfl | rfl | rfl <;> exact e0 _ (by decide +kernel) (by decide +kernel)
      · subst e
        simp
        rw [hs3.take]
        exact hQ _ _ (cells_of (by simpa using hy) (by simpa [hl] using hl2)) hS3 hs3
    · simp [h2]
      by_cases h3 : w < 6
      · simp [h3]
        refine lists_ok ?_
        refine chosen_ok hS1 (by decide) (by decide) fun x S2 hx hS2 hs2 => ?_
        have hs2 := hs1.trans hs2
        have hg := List.all_eq_true.mp lists_good x hx
        clear hx
        cases x with
        | tuple cs =>
          simp only [wordsB, Bool.and_eq_true, decide_eq_true_eq, List.all_eq_true] at hg
          obtain ⟨⟨c1, c2⟩, c3⟩ := hg
          simp
          refine pick_ok hS2 (by omega) (by omega) fun d3 S3 e1 e2 hS3 hs3 => ?_
          have hs3 := hs2.trans hs3
          refine pick_ok hS3 (by omega) (by omega) fun d4 S4 f1 f2 hS4 hs4 => ?_
          have hs4 := hs3.trans hs4
          rw [v_rng (by omega) (by omega)]
          simp
          refine Ok_loopC (fun S' => S' = S4) gC (fun z hz S5 e => ?_) rfl (by simp [rng_len, lim]; omega) fun ys S5 e hy hl2 => ?_
          · subst e
            obtain ⟨j, hj, rfl⟩ := rng_mem hz
            have hc0 : cs ≠ [] := by intro q; rw [q] at c1; simp at c1
            simp [fC, hc0]
            refine ⟨⟨fitM_of (by omega) (by omega), fitM_of (by omega) (by omega)⟩, ?_⟩
            refine Ok_at (fmod_lo (by omega)) (fmod_hi (by omega)) fun x hx => ?_
            simp
            exact gCB_ok (c3 x hx)
          · subst e
            simp
            rw [hs4.take]
            exact hQ _ _ (cells_of (by simpa using hy) (by simpa [rng_len] using hl2)) hS4 hs4
        | _ => simp [wordsB] at hg
      · simp [h3]
        by_cases h4 : w = 6
        · simp [h4]
          rw [v_rng (by omega) (by omega)]
          simp
          refine Ok_loopC (fun S' => Src S' n ∧ Sm n S S') gC (fun z hz S4 e => ?_) ⟨hS1, hs1⟩ (by simp [rng_len, lim]; omega) fun ys S4 e hy hl2 => ?_
          · obtain ⟨j, hj, rfl⟩ := rng_mem hz
            simp [fC]
            refine pick_ok e.1 (by decide) (by decide) fun d5 S5 g1 g2 hS5 hs5 => ?_
            refine Ok_at g1 (by simpa using g2) fun x hx => ?_
            simp
            refine ⟨⟨hS5, e.2.trans hs5⟩, ?_⟩
            simp only [List.mem_cons, List.not_mem_nil, or_false] at hx
            rcases hx with rfl | rfl | rfl | rfl | rfl | rfl <;> exact gCB_ok (by decide +kernel)
          · simp
            rw [e.2.take]
            exact hQ _ _ (cells_of (by simpa using hy) (by simpa [rng_len] using hl2)) e.1 e.2
        · simp [h4]
          rw [v_rng (by omega) (by omega)]
          simp
          refine Ok_loopC (fun S' => Src S' n ∧ Sm n S S') gC (fun z hz S4 e => ?_) ⟨hS1, hs1⟩ (by simp [rng_len, lim]; omega) fun ys S4 e hy hl2 => ?_
          · obtain ⟨j, hj, rfl⟩ := rng_mem hz
            simp [fC]
            refine pick_ok e.1 (by decide) (by decide) fun d5 S5 g1 g2 hS5 hs5 => ?_
            refine Ok_at g1 (by simpa using g2) fun x hx => ?_
            simp
            refine ⟨⟨hS5, e.2.trans hs5⟩, ?_⟩
            simp only [List.mem_cons, List.not_mem_nil, or_false] at hx
            rcases hx with rfl | rfl | rfl | rfl | rfl | rfl <;> exact gCB_ok (by decide +kernel)
          · simp
            rw [e.2.take]
            exact hQ _ _ (cells_of (by simpa using hy) (by simpa [rng_len] using hl2)) e.1 e.2
/-- so many parts, each as long -/
def PartsOk (P L : Nat) (x : PyData) : Prop := ∃ ps, x = .list ps ∧ ps.length = P ∧ ∀ p ∈ ps, CellT L p
theorem parts_loop {k n P L : Nat} {ρ : Z.Env} {S S1 : Sto} {Q : List PyData → Sto → Prop} (h0 : ρ[0]? = some (some (.r n))) (hl : 3 < ρ.length) (hP : P ≤ 10) (hL0 : 0 < L) (hL : L ≤ 10) (hS1 : Src S1 n) (hs1 : Sm n S S1)
    (hQ : ∀ ys S', PartsOk P L (.list ys) → Src S' n → Sm n S S' → Q ys S') : Ok (loopC (fC (callF GT (k + 3)) (.one 3) [3] none (.call 14 [(.var 0), (.lit (.int (L : Int)))]) ρ) (rng 0 P) [] S1) Q := by
  refine Ok_loopC (fun S' => Src S' n ∧ Sm n S S') (CellT L) (fun z hz S4 e => ?_) ⟨hS1, hs1⟩ (by simp [rng_len, lim]; omega) fun ys S4 e hy hl2 => ?_
  · have e1 : ((ρ.set 3 none).set 3 (some (.d z)))[0]? = some (some (.r n)) := by
      rw [List.getElem?_set_ne (by decide), List.getElem?_set_ne (by decide)]
      exact h0
    simp only [fC, onTg_one, v_wipe1, v_wipe0, k_bind, o_none, k_ok, k_if, if_true, k_call, l_cons, l_nil, k_var, e1, k_lit]
    refine some_cells_ok e.1 hL0 hL fun x S5 hx hS5 hs5 => ?_
    simp
    exact ⟨⟨hS5, e.2.trans hs5⟩, hx⟩
  · exact hQ _ _ ⟨_, rfl, by simpa [rng_len] using hl2, by simpa using hy⟩ e.1 e.2
theorem fmod_nat (a b : Nat) : ((a : Int)).fmod (b : Int) = ((a % b : Nat) : Int) := by
  rw [Int.fmod_eq_emod_of_nonneg _ (by omega)]
  rfl
theorem fdiv_nat (a b : Nat) : ((a : Int)).fdiv (b : Int) = ((a / b : Nat) : Int) := by
  rw [Int.fdiv_eq_ediv_of_nonneg _ (by omega)]
  rfl
/-- the cells, one from each part in turn -/
theorem weave_loop {C : Nat → List Val → Sto → R Val} {P L m : Nat} {x : PyData} {v0 v1 : Option Val} {S : Sto} {Q : Fl → Sto → Prop} (hx : PartsOk P L x) (hP : 0 < P) (hP2 : P ≤ 10) (hPL : m = P * L) (hm : m ≤ 10)
    (hQ : ∀ v3 cs, cs.length = m → (∀ c ∈ cs, gC c) → Q (.nx [v0, v1, some (.d (.tuple cs)), v3, some (.d x)]) S) :
    ∀ (j r : Nat) (a : Int) (cs : List PyData) (v3 : Option Val), a = j → j + r = m → cs.length = j → (∀ c ∈ cs, gC c) → Ok (loopF (fF C (.one 3) [.asg 2 (.bin .add (.var 2) (.tup [(.ix (.ix (.var 4) (.bin .mod (.bi .int [(.var 3)]) (.bi .len [(.var 4)]))) (.bin .fdiv (.var 3) (.bi .len [(.var 4)])))]))]) (rng a r) [v0, v1, some (.d (.tuple cs)), v3, some (.d x)] S) Q := by
  intro j r
  induction r generalizing j with
  | zero =>
    intro a cs v3 h0 h1 h2 h3
    exact Ok_ok.mpr (hQ v3 cs (by omega) h3)
  | succ r ih =>
    intro a cs v3 h0 h1 h2 h3
    subst h0
    have e : rng (j : Int) (r + 1) = .int j :: rng ((j : Int) + 1) r := by
      unfold rng
      rw [List.range_succ_eq_map, List.map_cons, List.map_map]
      simp
      intro a _
      omega
    rw [e]
    obtain ⟨ps, rfl, hp, hc⟩ := hx
    have hjm : j % P < ps.length := by rw [hp]; exact Nat.mod_lt _ hP
    obtain ⟨cs2, e2, hl2, hg2⟩ := hc _ (List.getElem_mem hjm)
    have hdv : j / P < cs2.length := by
      rw [hl2]
      apply Nat.div_lt_of_lt_mul
      omega
    have hne : ps ≠ [] := by intro q; rw [q] at hp; simp at hp; omega
    have hfd : fitD (ps.length : Int) = true := fitD_of (by omega) (by rw [hp]; omega)
    have g1 : L2.atI ps ((j : Int).fmod (ps.length : Int)) = some (.tuple cs2) := by
      rw [fmod_nat, hp, atI_n, List.getElem?_eq_getElem (by rw [← hp] at *; exact hjm)]
      rw [e2]
    have g2 : L2.atI cs2 ((j : Int).fdiv (ps.length : Int)) = some cs2[j / P] := by
      rw [fdiv_nat, hp, atI_n, List.getElem?_eq_getElem hdv]
    simp [loopF, fF, hne, g1, g2, hfd]
    refine ⟨by simp [lim]; omega, ih (j + 1) _ _ _ (by omega) (by omega) (by simp [h2]) fun c hc' => ?_⟩
    rcases List.mem_append.mp hc' with q | q
    · exact h3 c q
    · simp at q
      rw [q]
      exact hg2 _ (List.getElem_mem hdv)
def SelT (x : PyData) : Prop := ∃ cs, x = .tuple cs ∧ 1 ≤ cs.length ∧ cs.length ≤ 6 ∧ ∀ c ∈ cs, gC c
theorem selection_ok {k n : Nat} {S : Sto} {Q : Val → Sto → Prop} (hS : Src S n) (hQ : ∀ x S', SelT x → Src S' n → Sm n S S' → Q (.d x) S') : Ok (callF GT (k + 4) 15 [.r n] S) Q := by
  refine Ok_call rfl rfl ?_
  have tail : ∀ (m P L : Nat) (x : PyData) (S1 : Sto) (v3 : Option Val), 1 ≤ m → m ≤ 6 → PartsOk P L x → 0 < P → P ≤ 10 → m = P * L → Src S1 n → Sm n S S1 → Ok (exB (callF GT (k + 3)) (d__law_selection.body.drop 2) [some (.r n), some (.d (.int (m : Int))), none, v3, some (.d x)] S1) (finQ S Q) := fun m P L x S1 v3 hm1 hm2 hx hP hP2 hPL hS1 hs1 => by
    simp [d__law_selection]
    rw [v_rng (by omega) (by omega)]
    simp
    refine weave_loop (m := m) hx hP hP2 hPL (by omega) (fun v3 cs h1 h2 => ?_) 0 m 0 [] v3 rfl (by omega) rfl (fun _ z => nomatch z)
    simp
    rw [hs1.take]
    exact hQ _ _ ⟨cs, rfl, by omega, by omega, h2⟩ hS1 hs1
  simp [d__law_selection, Z.start, List.replicate]
  refine pick_ok hS (by decide) (by decide) fun d S1 a1 a2 hS1 hs1 => ?_
  obtain ⟨m, hm⟩ : ∃ m : Nat, 1 + d = (m : Int) := ⟨(1 + d).toNat, by omega⟩
  have hm1 : 1 ≤ m := by omega
  have hm2 : m ≤ 6 := by omega
  have go := tail m
  simp [d__law_selection] at go
  rw [v_addI, k_ok, hm]
  simp
  have one : ∀ x, CellT m x → PartsOk 1 m (.list [x]) := fun x hx => ⟨[x], rfl, rfl, fun p hp => by
    simp at hp
    rw [hp]
    exact hx⟩
  by_cases h4 : (m : Int) = 4
  · have m4 : m = 4 := by omega
    subst m4
    simp
    refine pick_ok hS1 (by decide) (by decide) fun e1 S2 b1 b2 hS2 hs2 => ?_
    have hs2 := hs1.trans hs2
    simp
    by_cases h5 : e1 = 0
    · simp [h5]
      rw [v_rng (by decide) (by decide)]
      simp
      refine parts_loop (P := 2) (L := 2) rfl (by simp) (by decide) (by decide) (by decide) hS2 hs2 fun ys S3 hp hS3 hs3 => ?_
      exact go 2 2 (.list ys) S3 none hm1 hm2 hp (by decide) (by decide) (by decide) hS3 hs3
    · simp [h5]
      refine some_cells_ok (m := 4) hS2 (by decide) (by decide) fun x S3 hx hS3 hs3 => ?_
      simp
      exact go 1 4 (.list [x]) S3 none hm1 hm2 (one x hx) (by decide) (by decide) (by decide) hS3 (hs2.trans hs3)
  · simp [h4]
    by_cases h6 : (m : Int) = 6
    · have m6 : m = 6 := by omega
      subst m6
      simp
      refine pick_ok hS1 (by decide) (by decide) fun e1 S2 b1 b2 hS2 hs2 => ?_
      have hs2 := hs1.trans hs2
      simp
      by_cases h5 : e1 = 0
      · simp [h5]
        rw [v_rng (by decide) (by decide)]
        simp
        refine parts_loop (P := 2) (L := 3) rfl (by simp) (by decide) (by decide) (by decide) hS2 hs2 fun ys S3 hp hS3 hs3 => ?_
        exact go 2 3 (.list ys) S3 none hm1 hm2 hp (by decide) (by decide) (by decide) hS3 hs3
      · simp [h5]
        refine pick_ok hS2 (by decide) (by decide) fun e2 S3 c1 c2 hS3 hs3 => ?_
        have hs3 := hs2.trans hs3
        simp
        by_cases h7 : e2 = 0
        · simp [h7]
          rw [v_rng (by decide) (by decide)]
          simp
          refine parts_loop (P := 3) (L := 2) rfl (by simp) (by decide) (by decide) (by decide) hS3 hs3 fun ys S4 hp hS4 hs4 => ?_
          exact go 3 2 (.list ys) S4 none hm1 hm2 hp (by decide) (by decide) (by decide) hS4 hs4
        · simp [h7]
          refine some_cells_ok (m := 6) hS3 (by decide) (by decide) fun x S4 hx hS4 hs4 => ?_
          simp
          exact go 1 6 (.list [x]) S4 none hm1 hm2 (one x hx) (by decide) (by decide) (by decide) hS4 (hs3.trans hs4)
    · simp [h6]
      refine some_cells_ok hS1 (by omega) (by omega) fun x S3 hx hS3 hs3 => ?_
      simp
      exact go 1 m (.list [x]) S3 none hm1 hm2 (one x hx) (by decide) (by decide) (by omega) hS3 (hs1.trans hs3)
def oddsL : List PyData := [.none, .bool true, .bool false, .int 0, .int (-7), .int (10 ^ 39), .str "", .str "a", .str "word", .str "abcdefg", .str "Word", .str "a1", .tuple [], .tuple [.str "a"], .tuple [.str "a", .int 1],
  .tuple [.str "a", .bool true], .tuple [.str "a", .int 1, .int 2], .list [.str "a", .int 1], .tuple [.int 1, .str "a"], .tuple [.str "", .int 1], .tuple [.str "abcdefg", .int 1], .tuple [.str "a", .str "b"], .list [.int 1],
  .tuple [.str "a", .none], .str "a b", .tuple [.tuple [.str "a", .int 1]]]
theorem odds_good : oddsL.all (fun x => bigCB x && bigSB x) = true := by decide +kernel
theorem odd_ok {k n : Nat} {S : Sto} {Q : Val → Sto → Prop} (hS : Src S n) (hQ : ∀ x S', bigC x → bigS x → Src S' n → Sm n S S' → Q (.d x) S') : Ok (callF GT (k + 2) 19 [.r n] S) Q := by
  refine Ok_call rfl rfl ?_
  simp [d__law_odd, Z.start, lim]
  refine pick_ok hS (by decide) (by decide) fun d S1 a1 a2 hS1 hs1 => ?_
  refine Ok_at a1 (by simpa using a2) fun x hx => ?_
  have hx' : x ∈ oddsL := by
    simp only [oddsL]
    simpa using hx
  have hg := List.all_eq_true.mp odds_good x hx'
  simp only [Bool.and_eq_true] at hg
  simp
  rw [hs1.take]
  exact hQ x S1 (bigCB_ok hg.1) (bigSB_ok hg.2) hS1 hs1
end W

/-! guessers and manners, of any data -/
namespace W
open PySem Z
theorem eq_of_Ok {α : Type} {x : R α} {a : α} {S : Sto} (h : Ok x fun v S' => v = a ∧ S' = S) : x = .ok a S := by
  obtain ⟨v, S', e, h1, h2⟩ := h
  rw [e, h1, h2]
theorem call_eq {F : Tab} {k n : Nat} {d : LDef} {vs : List Val} {S S' : Sto} {v : Val} (hF : F n = some d) (hl : vs.length = d.np) (h : Ok (exB (callF F k) d.body (start d.np d.nn vs) S) (finQ S fun a T => a = v ∧ T = S')) : callF F (k + 1) n vs S = .ok v S' := eq_of_Ok (Ok_call hF hl h)
/-! ### data of which the text may be asked anything -/
mutual
def fineB (n : Nat) : PyData → Bool
  | .str s => decide (s.cps.size ≤ 1000) && s.cps.toList.all fun c => decide (c < 128)
  | .list ds => decide (ds.length ≤ n) && fineA n ds
  | .tuple ds => decide (ds.length ≤ n) && fineA n ds
  | .dict _ => false
  | _ => true
def fineA (n : Nat) : List PyData → Bool
  | [] => true
  | d :: ds => fineB n d && fineA n ds
end
theorem fineA_iff {n : Nat} {ds : List PyData} : fineA n ds = true ↔ ∀ d ∈ ds, fineB n d = true := by
  induction ds with
  | nil => simp [fineA]
  | cons d ds ih => simp [fineA, ih]
mutual
theorem fine_up {n m : Nat} (hm : n ≤ m) : ∀ {d : PyData}, fineB n d = true → fineB m d = true
  | .none, _ => rfl
  | .bool _, _ => rfl
  | .int _, _ => rfl
  | .str s, h => h
  | .list ds, h => by
    simp only [fineB, Bool.and_eq_true, decide_eq_true_eq] at h ⊢
    exact ⟨by omega, fine_upA hm h.2⟩
  | .tuple ds, h => by
    simp only [fineB, Bool.and_eq_true, decide_eq_true_eq] at h ⊢
    exact ⟨by omega, fine_upA hm h.2⟩
  | .dict _, h => by simp [fineB] at h
theorem fine_upA {n m : Nat} (hm : n ≤ m) : ∀ {ds : List PyData}, fineA n ds = true → fineA m ds = true
  | [], _ => rfl
  | d :: ds, h => by
    simp only [fineA, Bool.and_eq_true] at h ⊢
    exact ⟨fine_up hm h.1, fine_upA hm h.2⟩
end
mutual
theorem fine_lay {n : Nat} : ∀ {d : PyData}, fineB n d = true → d.canLay0 = true
  | .none, _ => rfl
  | .bool _, _ => rfl
  | .int _, _ => rfl
  | .str s, h => by
    simp only [fineB, Bool.and_eq_true, decide_eq_true_eq, List.all_eq_true] at h
    have h2 := h.2
    simp only [PyData.canLay0, PyData.strOk]
    simp only [Array.all_eq_true, decide_eq_true_eq]
    intro i hi
    have := h2 (s.cps[i]) (by simp)
    omega
  | .list ds, h => by
    simp only [fineB, Bool.and_eq_true] at h
    exact fine_layA h.2
  | .tuple ds, h => by
    simp only [fineB, Bool.and_eq_true] at h
    exact fine_layA h.2
  | .dict _, h => by simp [fineB] at h
theorem fine_layA {n : Nat} : ∀ {ds : List PyData}, fineA n ds = true → PyData.canLayAll0 ds = true
  | [], _ => rfl
  | d :: ds, h => by
    simp only [fineA, Bool.and_eq_true] at h
    simp only [PyData.canLayAll0, Bool.and_eq_true]
    exact ⟨fine_lay h.1, fine_layA h.2⟩
end
theorem fine_shaped {n : Nat} {d : PyData} (h : fineB n d = true) (hd : d.depth ≤ 60) : SeqAt.shaped d = true := by
  unfold SeqAt.shaped
  rw [fine_lay h, Bool.true_and, decide_eq_true_eq]
  omega
theorem fine_str {n : Nat} {s : Str} (h : fineB n (.str s) = true) : big (.str s) := by
  simp only [fineB, Bool.and_eq_true, decide_eq_true_eq, List.all_eq_true] at h
  exact h
theorem fine_big {n : Nat} {x : PyData} (h : fineB n x = true) : big x := by
  cases x with
  | str s => exact fine_str h
  | _ => trivial
theorem fine_mem {n : Nat} {xs : List PyData} {x : PyData} (h : fineB n (.tuple xs) = true) (hx : x ∈ xs) : fineB n x = true := by
  simp only [fineB, Bool.and_eq_true] at h
  exact fineA_iff.mp h.2 x hx
theorem fine_len {n : Nat} {xs : List PyData} (h : fineB n (.tuple xs) = true) : xs.length ≤ n := by
  simp only [fineB, Bool.and_eq_true, decide_eq_true_eq] at h
  exact h.1
theorem depthAll_mem {xs : List PyData} {x : PyData} (h : x ∈ xs) : x.depth ≤ PyData.depthAll xs := by
  induction xs with
  | nil => cases h
  | cons y ys ih =>
    simp only [PyData.depthAll]
    rcases List.mem_cons.mp h with q | q
    · rw [q]; exact Nat.le_max_left _ _
    · exact Nat.le_trans (ih q) (Nat.le_max_right _ _)
theorem depth_mem {xs : List PyData} {x : PyData} (h : x ∈ xs) : x.depth < (PyData.tuple xs).depth := by
  have := depthAll_mem h
  show x.depth < PyData.depthAll xs + 1
  omega
theorem depth_le {xs : List PyData} {n : Nat} (h : ∀ x ∈ xs, x.depth ≤ n) : (PyData.tuple xs).depth ≤ n + 1 := by
  have := depthAll_of h
  show PyData.depthAll xs + 1 ≤ n + 1
  omega
/-- fine, and not too deep -/
structure Fn (n m : Nat) (x : PyData) : Prop where
  f : fineB n x = true
  d : x.depth ≤ m
theorem Fn.sh {n m : Nat} {x : PyData} (h : Fn n m x) (hm : m ≤ 60) : SeqAt.shaped x = true := fine_shaped h.f (Nat.le_trans h.d hm)
theorem Fn.mem {n m : Nat} {xs : List PyData} (h : Fn n m (.tuple xs)) {x : PyData} (hx : x ∈ xs) : Fn n m x := ⟨fine_mem h.f hx, by have := depth_mem hx; have := h.d; omega⟩
theorem Fn.mem' {n m : Nat} {xs : List PyData} (h : Fn n (m + 1) (.tuple xs)) {x : PyData} (hx : x ∈ xs) : Fn n m x := ⟨fine_mem h.f hx, by have := depth_mem hx; have := h.d; omega⟩
theorem Fn.len {n m : Nat} {xs : List PyData} (h : Fn n m (.tuple xs)) : xs.length ≤ n := fine_len h.f
theorem Fn.tup {n m : Nat} {xs : List PyData} (hl : xs.length ≤ n) (h : ∀ x ∈ xs, Fn n m x) : Fn n (m + 1) (.tuple xs) := ⟨by
    simp only [fineB, Bool.and_eq_true, decide_eq_true_eq]
    exact ⟨hl, fineA_iff.mpr fun x hx => (h x hx).f⟩, depth_le fun x hx => (h x hx).d⟩
theorem Fn.lst {n m : Nat} {xs : List PyData} (h : Fn n m (.tuple xs)) : Fn n m (.list xs) := ⟨h.f, h.d⟩
theorem Fn.up {n m n' m' : Nat} {x : PyData} (h : Fn n m x) (hn : n ≤ n') (hm : m ≤ m') : Fn n' m' x := ⟨fine_up hn h.f, Nat.le_trans h.d hm⟩
/-! ### text is equal to text -/
theorem eqv_SS {a b : Str} : PyData.eqv (.str a) (.str b) = decide (a = b) := by
  simp only [PyData.eqv]
  by_cases h : a = b
  · simp [h]
  · simp [h]
theorem eqD_SS {a b : Str} : eqD (.str a) (.str b) = some (decide (a = b)) := by
  simp only [eqD, scalD, if_true, eqv_SS]
theorem inD_T {x : PyData} {ys : List PyData} (h1 : SeqAt.shaped x = true) (h2 : SeqAt.shaped (.tuple ys) = true) : inD x (.tuple ys) = some (ys.any fun z => PyData.eqv z x) := by
  cases x <;> simp [inD, h1, h2]
theorem inD_L {x : PyData} {ys : List PyData} (h1 : SeqAt.shaped x = true) (h2 : SeqAt.shaped (.list ys) = true) : inD x (.list ys) = some (ys.any fun z => PyData.eqv z x) := by
  cases x <;> simp [inD, h1, h2]
/-! ### without repeats -/
def ndB : List PyData → Bool
  | [] => true
  | x :: xs => !(xs.any fun z => PyData.eqv x z) && ndB xs
theorem any_iff {xs : List PyData} {x : PyData} (h : ∀ z ∈ xs, okH z = true) (hx : okH x = true) : (xs.any fun z => PyData.eqv z x) = true ↔ x ∈ xs := by
  rw [List.any_eq_true]
  constructor
  · rintro ⟨z, hz, e⟩
    rw [← (eqv_ok (h z hz) hx).mp e]
    exact hz
  · intro hm
    exact ⟨x, hm, (eqv_ok hx hx).mpr rfl⟩
theorem any_iff' {xs : List PyData} {x : PyData} (h : ∀ z ∈ xs, okH z = true) (hx : okH x = true) : (xs.any (PyData.eqv x)) = true ↔ x ∈ xs := by
  rw [List.any_eq_true]
  constructor
  · rintro ⟨z, hz, e⟩
    rw [(eqv_ok hx (h z hz)).mp e]
    exact hz
  · intro hm
    exact ⟨x, hm, (eqv_ok hx hx).mpr rfl⟩
theorem ndB_iff {xs : List PyData} (h : ∀ z ∈ xs, okH z = true) : ndB xs = true ↔ xs.Nodup := by
  induction xs with
  | nil => simp [ndB]
  | cons x xs ih =>
    have h1 := h x List.mem_cons_self
    have h2 : ∀ z ∈ xs, okH z = true := fun z hz => h z (List.mem_cons_of_mem _ hz)
    rw [List.nodup_cons, ← ih h2, ← any_iff' h2 h1]
    simp [ndB]
/-- the number without repeats -/
theorem dedup_len {α : Type} (p : α → α → Bool) (xs : List α) (hp : ∀ x ∈ xs, ∀ y ∈ xs, (p x y = true ↔ x = y)) : ∀ (ys acc : List α), (∀ y ∈ ys, y ∈ xs) → (∀ y ∈ acc, y ∈ xs) → acc.Nodup →
    (ys.foldl (fun acc x => if acc.any (p x) then acc else acc ++ [x]) acc).length ≤ acc.length + ys.length ∧ ((ys.foldl (fun acc x => if acc.any (p x) then acc else acc ++ [x]) acc).length = acc.length + ys.length ↔ (acc ++ ys).Nodup)
  | [], acc, _, _, hn => by simpa using hn
  | y :: ys, acc, hy, ha, hn => by
    have hyx := hy y List.mem_cons_self
    have hys : ∀ z ∈ ys, z ∈ xs := fun z hz => hy z (List.mem_cons_of_mem _ hz)
    have key : acc.any (p y) = true ↔ y ∈ acc := by
      rw [List.any_eq_true]
      constructor
      · rintro ⟨z, hz, e⟩
        rw [(hp y hyx z (ha z hz)).mp e]
        exact hz
      · intro hm
        exact ⟨y, hm, (hp y hyx y hyx).mpr rfl⟩
    rw [List.foldl_cons]
    by_cases h : y ∈ acc
    · rw [if_pos (key.mpr h)]
      obtain ⟨i1, i2⟩ := dedup_len p xs hp ys acc hys ha hn
      simp only [List.length_cons]
      refine ⟨by omega, ⟨fun q => by omega, fun q => ?_⟩⟩
      rw [List.nodup_append] at q
      exact absurd rfl (q.2.2 y h y List.mem_cons_self)
    · rw [if_neg (fun q => h (key.mp q))]
      obtain ⟨i1, i2⟩ := dedup_len p xs hp ys (acc ++ [y]) hys (fun z hz => (List.mem_append.mp hz).elim (ha z) fun q => by rw [List.mem_singleton.mp q]; exact hyx) (by
        rw [List.nodup_append]
        refine ⟨hn, by simp, fun a ha b hb e => ?_⟩
        rw [List.mem_singleton.mp hb] at e
        rw [e] at ha
        exact h ha)
      have e : acc ++ y :: ys = acc ++ [y] ++ ys := by simp
      rw [e, ← i2]
      simp only [List.length_append, List.length_cons, List.length_nil] at i1 i2 ⊢
      exact ⟨by omega, by constructor <;> intro q <;> omega⟩
theorem ddD_iff {xs : List PyData} (h : ∀ z ∈ xs, okH z = true) : (ddD xs).length = xs.length ↔ xs.Nodup := by
  have := (dedup_len PyData.eqv xs (fun x hx y hy => eqv_ok (h x hx) (h y hy)) xs [] (fun _ q => q) (fun _ q => nomatch q) (by simp)).2
  simpa [ddD] using this
theorem dd_iff {xs : List Str} : (dd xs).length = xs.length ↔ xs.Nodup := by
  have := (dedup_len (fun a b : Str => decide (a = b)) xs (fun x hx y hy => by simp) xs [] (fun _ q => q) (fun _ q => nomatch q) (by simp)).2
  have e : ∀ (x : Str) (acc : List Str), (acc.any fun b => decide (x = b)) = decide (x ∈ acc) := fun x acc => by
    rw [Bool.eq_iff_iff, List.any_eq_true, decide_eq_true_eq]
    exact ⟨fun ⟨z, hz, e⟩ => by rw [of_decide_eq_true e]; exact hz, fun q => ⟨x, q, by simp⟩⟩
  simp only [e, decide_eq_true_eq] at this
  simpa [dd] using this
theorem nodup_iff {xs : List PyData} : xs.Nodup ↔ ∀ j, (h : j < xs.length) → xs[j] ∉ xs.take j := by
  unfold List.Nodup
  rw [List.pairwise_iff_getElem]
  constructor
  · intro q j h hm
    obtain ⟨i, hi, e⟩ := List.getElem_of_mem hm
    rw [List.getElem_take] at e
    rw [List.length_take] at hi
    exact q i j (by omega) h (by omega) e
  · intro q i j hi hj hij e
    refine q j hj ?_
    rw [← e]
    have : (xs.take j)[i]'(by rw [List.length_take]; omega) = xs[i] := List.getElem_take
    rw [← this]
    exact List.getElem_mem _
end W

/-! texts that differ -/
namespace W
open PySem
@[simp] theorem lt1 : (Str.ofString "step" = Str.ofString "times") = False := eq_false (by decide +kernel)
@[simp] theorem lb1 : (Str.ofString "step" == Str.ofString "times") = false := by decide +kernel
@[simp] theorem lt2 : (Str.ofString "step" = Str.ofString "count") = False := eq_false (by decide +kernel)
@[simp] theorem lb2 : (Str.ofString "step" == Str.ofString "count") = false := by decide +kernel
@[simp] theorem lt3 : (Str.ofString "step" = Str.ofString "line") = False := eq_false (by decide +kernel)
@[simp] theorem lb3 : (Str.ofString "step" == Str.ofString "line") = false := by decide +kernel
@[simp] theorem lt4 : (Str.ofString "step" = Str.ofString "list") = False := eq_false (by decide +kernel)
@[simp] theorem lb4 : (Str.ofString "step" == Str.ofString "list") = false := by decide +kernel
@[simp] theorem lt5 : (Str.ofString "step" = Str.ofString "down") = False := eq_false (by decide +kernel)
@[simp] theorem lb5 : (Str.ofString "step" == Str.ofString "down") = false := by decide +kernel
@[simp] theorem lt6 : (Str.ofString "step" = Str.ofString "half") = False := eq_false (by decide +kernel)
@[simp] theorem lb6 : (Str.ofString "step" == Str.ofString "half") = false := by decide +kernel
@[simp] theorem lt7 : (Str.ofString "step" = Str.ofString "copy") = False := eq_false (by decide +kernel)
@[simp] theorem lb7 : (Str.ofString "step" == Str.ofString "copy") = false := by decide +kernel
@[simp] theorem lt8 : (Str.ofString "step" = Str.ofString "stop") = False := eq_false (by decide +kernel)
@[simp] theorem lb8 : (Str.ofString "step" == Str.ofString "stop") = false := by decide +kernel
@[simp] theorem lt9 : (Str.ofString "step" = Str.ofString "woven") = False := eq_false (by decide +kernel)
@[simp] theorem lb9 : (Str.ofString "step" == Str.ofString "woven") = false := by decide +kernel
@[simp] theorem lt10 : (Str.ofString "step" = Str.ofString "round") = False := eq_false (by decide +kernel)
@[simp] theorem lb10 : (Str.ofString "step" == Str.ofString "round") = false := by decide +kernel
@[simp] theorem lt11 : (Str.ofString "step" = Str.ofString "Step") = False := eq_false (by decide +kernel)
@[simp] theorem lb11 : (Str.ofString "step" == Str.ofString "Step") = false := by decide +kernel
@[simp] theorem lt12 : (Str.ofString "step" = Str.ofString "") = False := eq_false (by decide +kernel)
@[simp] theorem lb12 : (Str.ofString "step" == Str.ofString "") = false := by decide +kernel
@[simp] theorem lt13 : (Str.ofString "times" = Str.ofString "step") = False := eq_false (by decide +kernel)
@[simp] theorem lb13 : (Str.ofString "times" == Str.ofString "step") = false := by decide +kernel
@[simp] theorem lt14 : (Str.ofString "times" = Str.ofString "count") = False := eq_false (by decide +kernel)
@[simp] theorem lb14 : (Str.ofString "times" == Str.ofString "count") = false := by decide +kernel
@[simp] theorem lt15 : (Str.ofString "times" = Str.ofString "line") = False := eq_false (by decide +kernel)
@[simp] theorem lb15 : (Str.ofString "times" == Str.ofString "line") = false := by decide +kernel
@[simp] theorem lt16 : (Str.ofString "times" = Str.ofString "list") = False := eq_false (by decide +kernel)
@[simp] theorem lb16 : (Str.ofString "times" == Str.ofString "list") = false := by decide +kernel
@[simp] theorem lt17 : (Str.ofString "times" = Str.ofString "down") = False := eq_false (by decide +kernel)
@[simp] theorem lb17 : (Str.ofString "times" == Str.ofString "down") = false := by decide +kernel
@[simp] theorem lt18 : (Str.ofString "times" = Str.ofString "half") = False := eq_false (by decide +kernel)
@[simp] theorem lb18 : (Str.ofString "times" == Str.ofString "half") = false := by decide +kernel
@[simp] theorem lt19 : (Str.ofString "times" = Str.ofString "copy") = False := eq_false (by decide +kernel)
@[simp] theorem lb19 : (Str.ofString "times" == Str.ofString "copy") = false := by decide +kernel
@[simp] theorem lt20 : (Str.ofString "times" = Str.ofString "stop") = False := eq_false (by decide +kernel)
@[simp] theorem lb20 : (Str.ofString "times" == Str.ofString "stop") = false := by decide +kernel
@[simp] theorem lt21 : (Str.ofString "times" = Str.ofString "woven") = False := eq_false (by decide +kernel)
@[simp] theorem lb21 : (Str.ofString "times" == Str.ofString "woven") = false := by decide +kernel
@[simp] theorem lt22 : (Str.ofString "times" = Str.ofString "round") = False := eq_false (by decide +kernel)
@[simp] theorem lb22 : (Str.ofString "times" == Str.ofString "round") = false := by decide +kernel
@[simp] theorem lt23 : (Str.ofString "times" = Str.ofString "Step") = False := eq_false (by decide +kernel)
@[simp] theorem lb23 : (Str.ofString "times" == Str.ofString "Step") = false := by decide +kernel
@[simp] theorem lt24 : (Str.ofString "times" = Str.ofString "") = False := eq_false (by decide +kernel)
@[simp] theorem lb24 : (Str.ofString "times" == Str.ofString "") = false := by decide +kernel
@[simp] theorem lt25 : (Str.ofString "count" = Str.ofString "step") = False := eq_false (by decide +kernel)
@[simp] theorem lb25 : (Str.ofString "count" == Str.ofString "step") = false := by decide +kernel
@[simp] theorem lt26 : (Str.ofString "count" = Str.ofString "times") = False := eq_false (by decide +kernel)
@[simp] theorem lb26 : (Str.ofString "count" == Str.ofString "times") = false := by decide +kernel
@[simp] theorem lt27 : (Str.ofString "count" = Str.ofString "line") = False := eq_false (by decide +kernel)
@[simp] theorem lb27 : (Str.ofString "count" == Str.ofString "line") = false := by decide +kernel
@[simp] theorem lt28 : (Str.ofString "count" = Str.ofString "list") = False := eq_false (by decide +kernel)
@[simp] theorem lb28 : (Str.ofString "count" == Str.ofString "list") = false := by decide +kernel
@[simp] theorem lt29 : (Str.ofString "count" = Str.ofString "down") = False := eq_false (by decide +kernel)
@[simp] theorem lb29 : (Str.ofString "count" == Str.ofString "down") = false := by decide +kernel
@[simp] theorem lt30 : (Str.ofString "count" = Str.ofString "half") = False := eq_false (by decide +kernel)
@[simp] theorem lb30 : (Str.ofString "count" == Str.ofString "half") = false := by decide +kernel
@[simp] theorem lt31 : (Str.ofString "count" = Str.ofString "copy") = False := eq_false (by decide +kernel)
@[simp] theorem lb31 : (Str.ofString "count" == Str.ofString "copy") = false := by decide +kernel
@[simp] theorem lt32 : (Str.ofString "count" = Str.ofString "stop") = False := eq_false (by decide +kernel)
@[simp] theorem lb32 : (Str.ofString "count" == Str.ofString "stop") = false := by decide +kernel
@[simp] theorem lt33 : (Str.ofString "count" = Str.ofString "woven") = False := eq_false (by decide +kernel)
@[simp] theorem lb33 : (Str.ofString "count" == Str.ofString "woven") = false := by decide +kernel
@[simp] theorem lt34 : (Str.ofString "count" = Str.ofString "round") = False := eq_false (by decide +kernel)
@[simp] theorem lb34 : (Str.ofString "count" == Str.ofString "round") = false := by decide +kernel
@[simp] theorem lt35 : (Str.ofString "count" = Str.ofString "Step") = False := eq_false (by decide +kernel)
@[simp] theorem lb35 : (Str.ofString "count" == Str.ofString "Step") = false := by decide +kernel
@[simp] theorem lt36 : (Str.ofString "count" = Str.ofString "") = False := eq_false (by decide +kernel)
@[simp] theorem lb36 : (Str.ofString "count" == Str.ofString "") = false := by decide +kernel
@[simp] theorem lt37 : (Str.ofString "line" = Str.ofString "step") = False := eq_false (by decide +kernel)
@[simp] theorem lb37 : (Str.ofString "line" == Str.ofString "step") = false := by decide +kernel
@[simp] theorem lt38 : (Str.ofString "line" = Str.ofString "times") = False := eq_false (by decide +kernel)
@[simp] theorem lb38 : (Str.ofString "line" == Str.ofString "times") = false := by decide +kernel
@[simp] theorem lt39 : (Str.ofString "line" = Str.ofString "count") = False := eq_false (by decide +kernel)
@[simp] theorem lb39 : (Str.ofString "line" == Str.ofString "count") = false := by decide +kernel
@[simp] theorem lt40 : (Str.ofString "line" = Str.ofString "list") = False := eq_false (by decide +kernel)
@[simp] theorem lb40 : (Str.ofString "line" == Str.ofString "list") = false := by decide +kernel
@[simp] theorem lt41 : (Str.ofString "line" = Str.ofString "down") = False := eq_false (by decide +kernel)
@[simp] theorem lb41 : (Str.ofString "line" == Str.ofString "down") = false := by decide +kernel
@[simp] theorem lt42 : (Str.ofString "line" = Str.ofString "half") = False := eq_false (by decide +kernel)
@[simp] theorem lb42 : (Str.ofString "line" == Str.ofString "half") = false := by decide +kernel
@[simp] theorem lt43 : (Str.ofString "line" = Str.ofString "copy") = False := eq_false (by decide +kernel)
@[simp] theorem lb43 : (Str.ofString "line" == Str.ofString "copy") = false := by decide +kernel
@[simp] theorem lt44 : (Str.ofString "line" = Str.ofString "stop") = False := eq_false (by decide +kernel)
@[simp] theorem lb44 : (Str.ofString "line" == Str.ofString "stop") = false := by decide +kernel
@[simp] theorem lt45 : (Str.ofString "line" = Str.ofString "woven") = False := eq_false (by decide +kernel)
@[simp] theorem lb45 : (Str.ofString "line" == Str.ofString "woven") = false := by decide +kernel
@[simp] theorem lt46 : (Str.ofString "line" = Str.ofString "round") = False := eq_false (by decide +kernel)
@[simp] theorem lb46 : (Str.ofString "line" == Str.ofString "round") = false := by decide +kernel
@[simp] theorem lt47 : (Str.ofString "line" = Str.ofString "Step") = False := eq_false (by decide +kernel)
@[simp] theorem lb47 : (Str.ofString "line" == Str.ofString "Step") = false := by decide +kernel
@[simp] theorem lt48 : (Str.ofString "line" = Str.ofString "") = False := eq_false (by decide +kernel)
@[simp] theorem lb48 : (Str.ofString "line" == Str.ofString "") = false := by decide +kernel
@[simp] theorem lt49 : (Str.ofString "list" = Str.ofString "step") = False := eq_false (by decide +kernel)
@[simp] theorem lb49 : (Str.ofString "list" == Str.ofString "step") = false := by decide +kernel
@[simp] theorem lt50 : (Str.ofString "list" = Str.ofString "times") = False := eq_false (by decide +kernel)
@[simp] theorem lb50 : (Str.ofString "list" == Str.ofString "times") = false := by decide +kernel
@[simp] theorem lt51 : (Str.ofString "list" = Str.ofString "count") = False := eq_false (by decide +kernel)
@[simp] theorem lb51 : (Str.ofString "list" == Str.ofString "count") = false := by decide +kernel
@[simp] theorem lt52 : (Str.ofString "list" = Str.ofString "line") = False := eq_false (by decide +kernel)
@[simp] theorem lb52 : (Str.ofString "list" == Str.ofString "line") = false := by decide +kernel
@[simp] theorem lt53 : (Str.ofString "list" = Str.ofString "down") = False := eq_false (by decide +kernel)
@[simp] theorem lb53 : (Str.ofString "list" == Str.ofString "down") = false := by decide +kernel
@[simp] theorem lt54 : (Str.ofString "list" = Str.ofString "half") = False := eq_false (by decide +kernel)
@[simp] theorem lb54 : (Str.ofString "list" == Str.ofString "half") = false := by decide +kernel
@[simp] theorem lt55 : (Str.ofString "list" = Str.ofString "copy") = False := eq_false (by decide +kernel)
@[simp] theorem lb55 : (Str.ofString "list" == Str.ofString "copy") = false := by decide +kernel
@[simp] theorem lt56 : (Str.ofString "list" = Str.ofString "stop") = False := eq_false (by decide +kernel)
@[simp] theorem lb56 : (Str.ofString "list" == Str.ofString "stop") = false := by decide +kernel
@[simp] theorem lt57 : (Str.ofString "list" = Str.ofString "woven") = False := eq_false (by decide +kernel)
@[simp] theorem lb57 : (Str.ofString "list" == Str.ofString "woven") = false := by decide +kernel
@[simp] theorem lt58 : (Str.ofString "list" = Str.ofString "round") = False := eq_false (by decide +kernel)
@[simp] theorem lb58 : (Str.ofString "list" == Str.ofString "round") = false := by decide +kernel
@[simp] theorem lt59 : (Str.ofString "list" = Str.ofString "Step") = False := eq_false (by decide +kernel)
@[simp] theorem lb59 : (Str.ofString "list" == Str.ofString "Step") = false := by decide +kernel
@[simp] theorem lt60 : (Str.ofString "list" = Str.ofString "") = False := eq_false (by decide +kernel)
@[simp] theorem lb60 : (Str.ofString "list" == Str.ofString "") = false := by decide +kernel
@[simp] theorem lt61 : (Str.ofString "down" = Str.ofString "step") = False := eq_false (by decide +kernel)
@[simp] theorem lb61 : (Str.ofString "down" == Str.ofString "step") = false := by decide +kernel
@[simp] theorem lt62 : (Str.ofString "down" = Str.ofString "times") = False := eq_false (by decide +kernel)
@[simp] theorem lb62 : (Str.ofString "down" == Str.ofString "times") = false := by decide +kernel
@[simp] theorem lt63 : (Str.ofString "down" = Str.ofString "count") = False := eq_false (by decide +kernel)
@[simp] theorem lb63 : (Str.ofString "down" == Str.ofString "count") = false := by decide +kernel
@[simp] theorem lt64 : (Str.ofString "down" = Str.ofString "line") = False := eq_false (by decide +kernel)
@[simp] theorem lb64 : (Str.ofString "down" == Str.ofString "line") = false := by decide +kernel
@[simp] theorem lt65 : (Str.ofString "down" = Str.ofString "list") = False := eq_false (by decide +kernel)
@[simp] theorem lb65 : (Str.ofString "down" == Str.ofString "list") = false := by decide +kernel
@[simp] theorem lt66 : (Str.ofString "down" = Str.ofString "half") = False := eq_false (by decide +kernel)
@[simp] theorem lb66 : (Str.ofString "down" == Str.ofString "half") = false := by decide +kernel
@[simp] theorem lt67 : (Str.ofString "down" = Str.ofString "copy") = False := eq_false (by decide +kernel)
@[simp] theorem lb67 : (Str.ofString "down" == Str.ofString "copy") = false := by decide +kernel
@[simp] theorem lt68 : (Str.ofString "down" = Str.ofString "stop") = False := eq_false (by decide +kernel)
@[simp] theorem lb68 : (Str.ofString "down" == Str.ofString "stop") = false := by decide +kernel
@[simp] theorem lt69 : (Str.ofString "down" = Str.ofString "woven") = False := eq_false (by decide +kernel)
@[simp] theorem lb69 : (Str.ofString "down" == Str.ofString "woven") = false := by decide +kernel
@[simp] theorem lt70 : (Str.ofString "down" = Str.ofString "round") = False := eq_false (by decide +kernel)
@[simp] theorem lb70 : (Str.ofString "down" == Str.ofString "round") = false := by decide +kernel
@[simp] theorem lt71 : (Str.ofString "down" = Str.ofString "Step") = False := eq_false (by decide +kernel)
@[simp] theorem lb71 : (Str.ofString "down" == Str.ofString "Step") = false := by decide +kernel
@[simp] theorem lt72 : (Str.ofString "down" = Str.ofString "") = False := eq_false (by decide +kernel)
@[simp] theorem lb72 : (Str.ofString "down" == Str.ofString "") = false := by decide +kernel
@[simp] theorem lt73 : (Str.ofString "half" = Str.ofString "step") = False := eq_false (by decide +kernel)
@[simp] theorem lb73 : (Str.ofString "half" == Str.ofString "step") = false := by decide +kernel
@[simp] theorem lt74 : (Str.ofString "half" = Str.ofString "times") = False := eq_false (by decide +kernel)
@[simp] theorem lb74 : (Str.ofString "half" == Str.ofString "times") = false := by decide +kernel
@[simp] theorem lt75 : (Str.ofString "half" = Str.ofString "count") = False := eq_false (by decide +kernel)
@[simp] theorem lb75 : (Str.ofString "half" == Str.ofString "count") = false := by decide +kernel
@[simp] theorem lt76 : (Str.ofString "half" = Str.ofString "line") = False := eq_false (by decide +kernel)
@[simp] theorem lb76 : (Str.ofString "half" == Str.ofString "line") = false := by decide +kernel
@[simp] theorem lt77 : (Str.ofString "half" = Str.ofString "list") = False := eq_false (by decide +kernel)
@[simp] theorem lb77 : (Str.ofString "half" == Str.ofString "list") = false := by decide +kernel
@[simp] theorem lt78 : (Str.ofString "half" = Str.ofString "down") = False := eq_false (by decide +kernel)
@[simp] theorem lb78 : (Str.ofString "half" == Str.ofString "down") = false := by decide +kernel
@[simp] theorem lt79 : (Str.ofString "half" = Str.ofString "copy") = False := eq_false (by decide +kernel)
@[simp] theorem lb79 : (Str.ofString "half" == Str.ofString "copy") = false := by decide +kernel
@[simp] theorem lt80 : (Str.ofString "half" = Str.ofString "stop") = False := eq_false (by decide +kernel)
@[simp] theorem lb80 : (Str.ofString "half" == Str.ofString "stop") = false := by decide +kernel
@[simp] theorem lt81 : (Str.ofString "half" = Str.ofString "woven") = False := eq_false (by decide +kernel)
@[simp] theorem lb81 : (Str.ofString "half" == Str.ofString "woven") = false := by decide +kernel
@[simp] theorem lt82 : (Str.ofString "half" = Str.ofString "round") = False := eq_false (by decide +kernel)
@[simp] theorem lb82 : (Str.ofString "half" == Str.ofString "round") = false := by decide +kernel
@[simp] theorem lt83 : (Str.ofString "half" = Str.ofString "Step") = False := eq_false (by decide +kernel)
@[simp] theorem lb83 : (Str.ofString "half" == Str.ofString "Step") = false := by decide +kernel
@[simp] theorem lt84 : (Str.ofString "half" = Str.ofString "") = False := eq_false (by decide +kernel)
@[simp] theorem lb84 : (Str.ofString "half" == Str.ofString "") = false := by decide +kernel
@[simp] theorem lt85 : (Str.ofString "copy" = Str.ofString "step") = False := eq_false (by decide +kernel)
@[simp] theorem lb85 : (Str.ofString "copy" == Str.ofString "step") = false := by decide +kernel
@[simp] theorem lt86 : (Str.ofString "copy" = Str.ofString "times") = False := eq_false (by decide +kernel)
@[simp] theorem lb86 : (Str.ofString "copy" == Str.ofString "times") = false := by decide +kernel
@[simp] theorem lt87 : (Str.ofString "copy" = Str.ofString "count") = False := eq_false (by decide +kernel)
@[simp] theorem lb87 : (Str.ofString "copy" == Str.ofString "count") = false := by decide +kernel
@[simp] theorem lt88 : (Str.ofString "copy" = Str.ofString "line") = False := eq_false (by decide +kernel)
@[simp] theorem lb88 : (Str.ofString "copy" == Str.ofString "line") = false := by decide +kernel
@[simp] theorem lt89 : (Str.ofString "copy" = Str.ofString "list") = False := eq_false (by decide +kernel)
@[simp] theorem lb89 : (Str.ofString "copy" == Str.ofString "list") = false := by decide +kernel
@[simp] theorem lt90 : (Str.ofString "copy" = Str.ofString "down") = False := eq_false (by decide +kernel)
@[simp] theorem lb90 : (Str.ofString "copy" == Str.ofString "down") = false := by decide +kernel
@[simp] theorem lt91 : (Str.ofString "copy" = Str.ofString "half") = False := eq_false (by decide +kernel)
@[simp] theorem lb91 : (Str.ofString "copy" == Str.ofString "half") = false := by decide +kernel
@[simp] theorem lt92 : (Str.ofString "copy" = Str.ofString "stop") = False := eq_false (by decide +kernel)
@[simp] theorem lb92 : (Str.ofString "copy" == Str.ofString "stop") = false := by decide +kernel
@[simp] theorem lt93 : (Str.ofString "copy" = Str.ofString "woven") = False := eq_false (by decide +kernel)
@[simp] theorem lb93 : (Str.ofString "copy" == Str.ofString "woven") = false := by decide +kernel
@[simp] theorem lt94 : (Str.ofString "copy" = Str.ofString "round") = False := eq_false (by decide +kernel)
@[simp] theorem lb94 : (Str.ofString "copy" == Str.ofString "round") = false := by decide +kernel
@[simp] theorem lt95 : (Str.ofString "copy" = Str.ofString "Step") = False := eq_false (by decide +kernel)
@[simp] theorem lb95 : (Str.ofString "copy" == Str.ofString "Step") = false := by decide +kernel
@[simp] theorem lt96 : (Str.ofString "copy" = Str.ofString "") = False := eq_false (by decide +kernel)
@[simp] theorem lb96 : (Str.ofString "copy" == Str.ofString "") = false := by decide +kernel
@[simp] theorem lt97 : (Str.ofString "stop" = Str.ofString "step") = False := eq_false (by decide +kernel)
@[simp] theorem lb97 : (Str.ofString "stop" == Str.ofString "step") = false := by decide +kernel
@[simp] theorem lt98 : (Str.ofString "stop" = Str.ofString "times") = False := eq_false (by decide +kernel)
@[simp] theorem lb98 : (Str.ofString "stop" == Str.ofString "times") = false := by decide +kernel
@[simp] theorem lt99 : (Str.ofString "stop" = Str.ofString "count") = False := eq_false (by decide +kernel)
@[simp] theorem lb99 : (Str.ofString "stop" == Str.ofString "count") = false := by decide +kernel
@[simp] theorem lt100 : (Str.ofString "stop" = Str.ofString "line") = False := eq_false (by decide +kernel)
@[simp] theorem lb100 : (Str.ofString "stop" == Str.ofString "line") = false := by decide +kernel
@[simp] theorem lt101 : (Str.ofString "stop" = Str.ofString "list") = False := eq_false (by decide +kernel)
@[simp] theorem lb101 : (Str.ofString "stop" == Str.ofString "list") = false := by decide +kernel
@[simp] theorem lt102 : (Str.ofString "stop" = Str.ofString "down") = False := eq_false (by decide +kernel)
@[simp] theorem lb102 : (Str.ofString "stop" == Str.ofString "down") = false := by decide +kernel
@[simp] theorem lt103 : (Str.ofString "stop" = Str.ofString "half") = False := eq_false (by decide +kernel)
@[simp] theorem lb103 : (Str.ofString "stop" == Str.ofString "half") = false := by decide +kernel
@[simp] theorem lt104 : (Str.ofString "stop" = Str.ofString "copy") = False := eq_false (by decide +kernel)
@[simp] theorem lb104 : (Str.ofString "stop" == Str.ofString "copy") = false := by decide +kernel
@[simp] theorem lt105 : (Str.ofString "stop" = Str.ofString "woven") = False := eq_false (by decide +kernel)
@[simp] theorem lb105 : (Str.ofString "stop" == Str.ofString "woven") = false := by decide +kernel
@[simp] theorem lt106 : (Str.ofString "stop" = Str.ofString "round") = False := eq_false (by decide +kernel)
@[simp] theorem lb106 : (Str.ofString "stop" == Str.ofString "round") = false := by decide +kernel
@[simp] theorem lt107 : (Str.ofString "stop" = Str.ofString "Step") = False := eq_false (by decide +kernel)
@[simp] theorem lb107 : (Str.ofString "stop" == Str.ofString "Step") = false := by decide +kernel
@[simp] theorem lt108 : (Str.ofString "stop" = Str.ofString "") = False := eq_false (by decide +kernel)
@[simp] theorem lb108 : (Str.ofString "stop" == Str.ofString "") = false := by decide +kernel
@[simp] theorem lt109 : (Str.ofString "woven" = Str.ofString "step") = False := eq_false (by decide +kernel)
@[simp] theorem lb109 : (Str.ofString "woven" == Str.ofString "step") = false := by decide +kernel
@[simp] theorem lt110 : (Str.ofString "woven" = Str.ofString "times") = False := eq_false (by decide +kernel)
@[simp] theorem lb110 : (Str.ofString "woven" == Str.ofString "times") = false := by decide +kernel
@[simp] theorem lt111 : (Str.ofString "woven" = Str.ofString "count") = False := eq_false (by decide +kernel)
@[simp] theorem lb111 : (Str.ofString "woven" == Str.ofString "count") = false := by decide +kernel
@[simp] theorem lt112 : (Str.ofString "woven" = Str.ofString "line") = False := eq_false (by decide +kernel)
@[simp] theorem lb112 : (Str.ofString "woven" == Str.ofString "line") = false := by decide +kernel
@[simp] theorem lt113 : (Str.ofString "woven" = Str.ofString "list") = False := eq_false (by decide +kernel)
@[simp] theorem lb113 : (Str.ofString "woven" == Str.ofString "list") = false := by decide +kernel
@[simp] theorem lt114 : (Str.ofString "woven" = Str.ofString "down") = False := eq_false (by decide +kernel)
@[simp] theorem lb114 : (Str.ofString "woven" == Str.ofString "down") = false := by decide +kernel
@[simp] theorem lt115 : (Str.ofString "woven" = Str.ofString "half") = False := eq_false (by decide +kernel)
@[simp] theorem lb115 : (Str.ofString "woven" == Str.ofString "half") = false := by decide +kernel
@[simp] theorem lt116 : (Str.ofString "woven" = Str.ofString "copy") = False := eq_false (by decide +kernel)
@[simp] theorem lb116 : (Str.ofString "woven" == Str.ofString "copy") = false := by decide +kernel
@[simp] theorem lt117 : (Str.ofString "woven" = Str.ofString "stop") = False := eq_false (by decide +kernel)
@[simp] theorem lb117 : (Str.ofString "woven" == Str.ofString "stop") = false := by decide +kernel
@[simp] theorem lt118 : (Str.ofString "woven" = Str.ofString "round") = False := eq_false (by decide +kernel)
@[simp] theorem lb118 : (Str.ofString "woven" == Str.ofString "round") = false := by decide +kernel
@[simp] theorem lt119 : (Str.ofString "woven" = Str.ofString "Step") = False := eq_false (by decide +kernel)
@[simp] theorem lb119 : (Str.ofString "woven" == Str.ofString "Step") = false := by decide +kernel
@[simp] theorem lt120 : (Str.ofString "woven" = Str.ofString "") = False := eq_false (by decide +kernel)
@[simp] theorem lb120 : (Str.ofString "woven" == Str.ofString "") = false := by decide +kernel
@[simp] theorem lt121 : (Str.ofString "round" = Str.ofString "step") = False := eq_false (by decide +kernel)
@[simp] theorem lb121 : (Str.ofString "round" == Str.ofString "step") = false := by decide +kernel
@[simp] theorem lt122 : (Str.ofString "round" = Str.ofString "times") = False := eq_false (by decide +kernel)
@[simp] theorem lb122 : (Str.ofString "round" == Str.ofString "times") = false := by decide +kernel
@[simp] theorem lt123 : (Str.ofString "round" = Str.ofString "count") = False := eq_false (by decide +kernel)
@[simp] theorem lb123 : (Str.ofString "round" == Str.ofString "count") = false := by decide +kernel
@[simp] theorem lt124 : (Str.ofString "round" = Str.ofString "line") = False := eq_false (by decide +kernel)
@[simp] theorem lb124 : (Str.ofString "round" == Str.ofString "line") = false := by decide +kernel
@[simp] theorem lt125 : (Str.ofString "round" = Str.ofString "list") = False := eq_false (by decide +kernel)
@[simp] theorem lb125 : (Str.ofString "round" == Str.ofString "list") = false := by decide +kernel
@[simp] theorem lt126 : (Str.ofString "round" = Str.ofString "down") = False := eq_false (by decide +kernel)
@[simp] theorem lb126 : (Str.ofString "round" == Str.ofString "down") = false := by decide +kernel
@[simp] theorem lt127 : (Str.ofString "round" = Str.ofString "half") = False := eq_false (by decide +kernel)
@[simp] theorem lb127 : (Str.ofString "round" == Str.ofString "half") = false := by decide +kernel
@[simp] theorem lt128 : (Str.ofString "round" = Str.ofString "copy") = False := eq_false (by decide +kernel)
@[simp] theorem lb128 : (Str.ofString "round" == Str.ofString "copy") = false := by decide +kernel
@[simp] theorem lt129 : (Str.ofString "round" = Str.ofString "stop") = False := eq_false (by decide +kernel)
@[simp] theorem lb129 : (Str.ofString "round" == Str.ofString "stop") = false := by decide +kernel
@[simp] theorem lt130 : (Str.ofString "round" = Str.ofString "woven") = False := eq_false (by decide +kernel)
@[simp] theorem lb130 : (Str.ofString "round" == Str.ofString "woven") = false := by decide +kernel
@[simp] theorem lt131 : (Str.ofString "round" = Str.ofString "Step") = False := eq_false (by decide +kernel)
@[simp] theorem lb131 : (Str.ofString "round" == Str.ofString "Step") = false := by decide +kernel
@[simp] theorem lt132 : (Str.ofString "round" = Str.ofString "") = False := eq_false (by decide +kernel)
@[simp] theorem lb132 : (Str.ofString "round" == Str.ofString "") = false := by decide +kernel
@[simp] theorem lt133 : (Str.ofString "Step" = Str.ofString "step") = False := eq_false (by decide +kernel)
@[simp] theorem lb133 : (Str.ofString "Step" == Str.ofString "step") = false := by decide +kernel
@[simp] theorem lt134 : (Str.ofString "Step" = Str.ofString "times") = False := eq_false (by decide +kernel)
@[simp] theorem lb134 : (Str.ofString "Step" == Str.ofString "times") = false := by decide +kernel
@[simp] theorem lt135 : (Str.ofString "Step" = Str.ofString "count") = False := eq_false (by decide +kernel)
@[simp] theorem lb135 : (Str.ofString "Step" == Str.ofString "count") = false := by decide +kernel
@[simp] theorem lt136 : (Str.ofString "Step" = Str.ofString "line") = False := eq_false (by decide +kernel)
@[simp] theorem lb136 : (Str.ofString "Step" == Str.ofString "line") = false := by decide +kernel
@[simp] theorem lt137 : (Str.ofString "Step" = Str.ofString "list") = False := eq_false (by decide +kernel)
@[simp] theorem lb137 : (Str.ofString "Step" == Str.ofString "list") = false := by decide +kernel
@[simp] theorem lt138 : (Str.ofString "Step" = Str.ofString "down") = False := eq_false (by decide +kernel)
@[simp] theorem lb138 : (Str.ofString "Step" == Str.ofString "down") = false := by decide +kernel
@[simp] theorem lt139 : (Str.ofString "Step" = Str.ofString "half") = False := eq_false (by decide +kernel)
@[simp] theorem lb139 : (Str.ofString "Step" == Str.ofString "half") = false := by decide +kernel
@[simp] theorem lt140 : (Str.ofString "Step" = Str.ofString "copy") = False := eq_false (by decide +kernel)
@[simp] theorem lb140 : (Str.ofString "Step" == Str.ofString "copy") = false := by decide +kernel
@[simp] theorem lt141 : (Str.ofString "Step" = Str.ofString "stop") = False := eq_false (by decide +kernel)
@[simp] theorem lb141 : (Str.ofString "Step" == Str.ofString "stop") = false := by decide +kernel
@[simp] theorem lt142 : (Str.ofString "Step" = Str.ofString "woven") = False := eq_false (by decide +kernel)
@[simp] theorem lb142 : (Str.ofString "Step" == Str.ofString "woven") = false := by decide +kernel
@[simp] theorem lt143 : (Str.ofString "Step" = Str.ofString "round") = False := eq_false (by decide +kernel)
@[simp] theorem lb143 : (Str.ofString "Step" == Str.ofString "round") = false := by decide +kernel
@[simp] theorem lt144 : (Str.ofString "Step" = Str.ofString "") = False := eq_false (by decide +kernel)
@[simp] theorem lb144 : (Str.ofString "Step" == Str.ofString "") = false := by decide +kernel
@[simp] theorem lt145 : (Str.ofString "" = Str.ofString "step") = False := eq_false (by decide +kernel)
@[simp] theorem lb145 : (Str.ofString "" == Str.ofString "step") = false := by decide +kernel
@[simp] theorem lt146 : (Str.ofString "" = Str.ofString "times") = False := eq_false (by decide +kernel)
@[simp] theorem lb146 : (Str.ofString "" == Str.ofString "times") = false := by decide +kernel
@[simp] theorem lt147 : (Str.ofString "" = Str.ofString "count") = False := eq_false (by decide +kernel)
@[simp] theorem lb147 : (Str.ofString "" == Str.ofString "count") = false := by decide +kernel
@[simp] theorem lt148 : (Str.ofString "" = Str.ofString "line") = False := eq_false (by decide +kernel)
@[simp] theorem lb148 : (Str.ofString "" == Str.ofString "line") = false := by decide +kernel
@[simp] theorem lt149 : (Str.ofString "" = Str.ofString "list") = False := eq_false (by decide +kernel)
@[simp] theorem lb149 : (Str.ofString "" == Str.ofString "list") = false := by decide +kernel
@[simp] theorem lt150 : (Str.ofString "" = Str.ofString "down") = False := eq_false (by decide +kernel)
@[simp] theorem lb150 : (Str.ofString "" == Str.ofString "down") = false := by decide +kernel
@[simp] theorem lt151 : (Str.ofString "" = Str.ofString "half") = False := eq_false (by decide +kernel)
@[simp] theorem lb151 : (Str.ofString "" == Str.ofString "half") = false := by decide +kernel
@[simp] theorem lt152 : (Str.ofString "" = Str.ofString "copy") = False := eq_false (by decide +kernel)
@[simp] theorem lb152 : (Str.ofString "" == Str.ofString "copy") = false := by decide +kernel
@[simp] theorem lt153 : (Str.ofString "" = Str.ofString "stop") = False := eq_false (by decide +kernel)
@[simp] theorem lb153 : (Str.ofString "" == Str.ofString "stop") = false := by decide +kernel
@[simp] theorem lt154 : (Str.ofString "" = Str.ofString "woven") = False := eq_false (by decide +kernel)
@[simp] theorem lb154 : (Str.ofString "" == Str.ofString "woven") = false := by decide +kernel
@[simp] theorem lt155 : (Str.ofString "" = Str.ofString "round") = False := eq_false (by decide +kernel)
@[simp] theorem lb155 : (Str.ofString "" == Str.ofString "round") = false := by decide +kernel
@[simp] theorem lt156 : (Str.ofString "" = Str.ofString "Step") = False := eq_false (by decide +kernel)
@[simp] theorem lb156 : (Str.ofString "" == Str.ofString "Step") = false := by decide +kernel
end W

/-! guessers, of any data -/
namespace W
open PySem Z
def wordsX : PyData → Bool
  | .tuple ws => decide ((2 : Int) ≤ ws.length) && decide ((ws.length : Int) ≤ 7) && ws.all isWordX && ndB ws
  | _ => false
def betX (lo hi : Int) : PyData → Bool
  | .int i => decide (lo ≤ i) && decide (i ≤ hi)
  | _ => false
def lineX : PyData → Bool
  | .str s => decide (s = "down") || decide (s = "half")
  | _ => false
def guesserX : PyData → Bool
  | .tuple [.str k, p] => if k = "step" then betX 1 4 p else if k = "times" then betX 2 4 p else if k = "count" then betX 1 3 p else if k = "line" then lineX p else if k = "list" then wordsX p else false
  | _ => false
theorem words_strs : ∀ {ws : List PyData}, ws.all isWordX = true → ∃ ss : List Str, ws = ss.map .str ∧ ∀ s ∈ ss, wordS s = true
  | [], _ => ⟨[], rfl, fun _ q => nomatch q⟩
  | w :: ws, h => by
    simp only [List.all_cons, Bool.and_eq_true] at h
    obtain ⟨ss, rfl, hs⟩ := words_strs h.2
    cases w with
    | str s => exact ⟨s :: ss, rfl, fun t ht => (List.mem_cons.mp ht).elim (fun e => e ▸ h.1) (hs t)⟩
    | _ => simp [isWordX] at h
theorem strsOf_map : ∀ ss : List Str, strsOf (ss.map .str) = some ss
  | [] => rfl
  | s :: ss => by simp [strsOf, strsOf_map ss]
theorem nodup_strs {ss : List Str} : (ss.map PyData.str).Nodup ↔ ss.Nodup := by
  unfold List.Nodup
  rw [List.pairwise_map]
  constructor <;> intro h <;> refine List.Pairwise.imp (fun {a b} q => ?_) h
  · exact fun e => q (by rw [e])
  · exact fun e => q (by injection e)
theorem okH_strs {ss : List Str} : ∀ z ∈ ss.map PyData.str, okH z = true := fun z hz => by
  obtain ⟨s, _, rfl⟩ := List.mem_map.mp hz
  rfl
theorem ndB_strs {ss : List Str} : ndB (ss.map .str) = decide ((dd ss).length = ss.length) := by
  rw [Bool.eq_iff_iff, decide_eq_true_eq, dd_iff, ndB_iff okH_strs, nodup_strs]
theorem is_between_ok (k : Nat) (x : PyData) (lo hi : Int) (S : Sto) : callF GT (k + 2) 20 [.d x, .d (.int lo), .d (.int hi)] S = .ok (.d (.bool (betX lo hi x))) S := by
  refine call_eq rfl rfl ?_
  simp [d_is_between, Z.start, is_integer_ok]
  cases x <;> simp [isIntX, betX]
  rename_i i
  by_cases h : lo ≤ i <;> simp [h]
theorem loopC_all {f : PyData → Sto → R (Option PyData)} {e : PyData → PyData} {S : Sto} {cs : List PyData} (h : ∀ c ∈ cs, f c S = .ok (some (e c)) S) (hl : cs.length ≤ lim) : loopC f cs [] S = .ok (cs.map e) S := by
  have := loopC_map (f := f) (h := id) (e := e) (S := S) (cs := cs) (acc := []) h (by simpa using hl)
  simpa using this
theorem are_words_ok {n : Nat} (k : Nat) (x : PyData) (S : Sto) (hn : n ≤ 1000) (hx : fineB n x = true) : callF GT (k + 2) 21 [.d x] S = .ok (.d (.bool (wordsX x))) S := by
  refine call_eq rfl rfl ?_
  cases x with
  | tuple ws =>
    have hl := fine_len hx
    simp [d_are_words, Z.start, wordsX, isiD]
    by_cases a1 : (2 : Int) ≤ ws.length
    · by_cases a2 : (ws.length : Int) ≤ 7
      · simp [a1, a2]
        rw [loopC_all (e := fun c => .bool (isWordX c)) (fun c hc => ?_) (by simp [lim]; omega)]
        · simp [boolsOf_map]
          by_cases a3 : ws.all isWordX = true
          · obtain ⟨ss, rfl, hs⟩ := words_strs a3
            have a4 : ∀ x ∈ ss, isWordX (.str x) = true := fun x hx => hs x hx
            have a5 : ss.length ≤ 60 := by simp at a2; omega
            have e : ((dd ss).length : Int) = ss.length ↔ (dd ss).length = ss.length := by omega
            simp [lenS, strsOf_map, ndB_strs, a5, e]
            rw [if_pos a4]
            exact fun _ => a4
          · simp at a3
            obtain ⟨y, hy1, hy2⟩ := a3
            have : ¬ ∀ x ∈ ws, isWordX x = true := fun q => by rw [q y hy1] at hy2; cases hy2
            simp [this]
        · have := is_word_ok k c S (fine_big (fine_mem hx hc))
          simp [fC, evE, evO, evL, R.bind, this]
      · simp [a1, a2]
    · simp [a1]
  | _ => simp [d_are_words, Z.start, wordsX, isiD]
/-! ### the program's guessers -/
theorem lk_no {k : Str} (h1 : k ≠ "step") (h2 : k ≠ "times") (h3 : k ≠ "count") (a b c : PyData) : List.lookup k [(("step" : Str), a), ("times", b), ("count", c)] = none := by
  have e1 : (k == ("step" : Str)) = false := by simpa using h1
  have e2 : (k == ("times" : Str)) = false := by simpa using h2
  have e3 : (k == ("count" : Str)) = false := by simpa using h3
  simp [List.lookup, e1, e2, e3]
theorem two_of {xs : List PyData} (h : (xs.length : Int) = 2) : ∃ a b, xs = [a, b] := by
  match xs, h with
  | [a, b], _ => exact ⟨a, b, rfl⟩
  | [], h => simp at h
  | [a], h => simp at h
  | a :: b :: c :: r, h => exact absurd h (by simp; omega)
theorem gX_len {xs : List PyData} (h : (xs.length : Int) ≠ 2) : guesserX (.tuple xs) = false := by
  unfold guesserX
  split
  · rename_i e
    cases e
    exact absurd rfl h
  · rfl
theorem str_sh {s : Str} (h : s.cps.toList.all (fun c => decide (c < 128)) = true) : SeqAt.shaped (.str s) = true := by
  have h2 := List.all_eq_true.mp h
  have h0 : (PyData.str s).canLay0 = true := by
    simp only [PyData.canLay0, PyData.strOk]
    simp only [Array.all_eq_true, decide_eq_true_eq]
    intro i hi
    have := of_decide_eq_true (h2 (s.cps[i]) (by simp))
    omega
  unfold SeqAt.shaped
  rw [h0]
  rfl
theorem Fn.str {n m : Nat} {s : Str} (h : Fn n m (.str s)) : SeqAt.shaped (.str s) = true := str_sh (by
  have := h.f
  simp only [fineB, Bool.and_eq_true] at this
  exact this.2)
theorem a_guesser_ok {n m : Nat} (k : Nat) (x : PyData) (S : Sto) (hn : n ≤ 1000) (hm : m ≤ 60) (hx : Fn n m x) : callF GT (k + 3) 22 [.d x] S = .ok (.d (.bool (guesserX x))) S := by
  refine call_eq rfl rfl ?_
  cases x with
  | tuple xs =>
    simp [d_a_guesser, Z.start, isiD]
    by_cases a1 : (xs.length : Int) = 2
    · obtain ⟨a, b, rfl⟩ := two_of a1
      have fa := hx.mem (x := a) (by simp)
      have fb := hx.mem (x := b) (by simp)
      cases a with
      | str s =>
        simp [isiD, guesserX]
        by_cases k1 : s = "step"
        · subst k1
          simp [List.lookup, is_between_ok]
        by_cases k2 : s = "times"
        · subst k2
          simp [List.lookup, is_between_ok]
        by_cases k3 : s = "count"
        · subst k3
          simp [List.lookup, is_between_ok]
        simp [lk_no k1 k2 k3, k1, k2, k3, eqD_SS]
        by_cases k4 : s = "line"
        · subst k4
          cases b with
          | str t =>
            have h2 : SeqAt.shaped (.tuple [.str "down", .str "half"]) = true := by decide +kernel
            simp [isiD, lineX, inD_T fb.str h2, eqv_SS, eq_comm]
          | _ => simp [isiD, lineX]
        simp [k4]
        by_cases k5 : s = "list"
        · simp [k5, are_words_ok (k := k) b S hn fb.f]
        · simp [k5]
      | _ => simp [isiD, guesserX]
    · simp [a1, gX_len a1]
  | _ => simp [d_a_guesser, Z.start, guesserX, isiD]
theorem is_guesser_ok {n m : Nat} (k : Nat) (x : PyData) (S : Sto) (hn : n ≤ 1000) (hm : m ≤ 60) (hx : Fn n m x) : callF GT (k + 4) 23 [.d x] S = .ok (.d (.bool (guesserX x))) S := by
  refine call_eq rfl rfl ?_
  simp [d_is_guesser, Z.start, a_guesser_ok k x S hn hm hx]
end W

/-! the law's own conditions of guessers; manners -/
namespace W
open PySem Z
theorem loopC_pick {f : PyData → Sto → R (Option PyData)} {e : PyData → PyData} {p : PyData → Bool} {S : Sto} {cs : List PyData} (h : ∀ c ∈ cs, f c S = .ok (if p c then some (e c) else none) S) (hl : cs.length ≤ lim) : loopC f cs [] S = .ok ((cs.filter p).map e) S := by
  have := loopC_filt (f := f) (h := id) (e := e) (p := p) (S := S) (cs := cs) (acc := []) h (by simpa using hl)
  simpa using this
theorem ones_eq {cs : List PyData} {p : PyData → Bool} : eqD (.list ((cs.filter p).map fun _ => .int 1)) (.list []) = some ((cs.filter p).isEmpty) := by
  have h1 : SeqAt.shaped (.list ((cs.filter p).map fun _ => .int 1)) = true := shaped_list (n := 0) (fun x hx => by
    obtain ⟨c, _, rfl⟩ := List.mem_map.mp hx
    exact ⟨rfl, Nat.le_refl _⟩) (by decide)
  unfold eqD
  rw [h1, shaped_nil, eqv_nil]
  simp [scalD]
theorem list_eq0 {n m : Nat} {cs : List PyData} (h : ∀ c ∈ cs, Fn n m c) (hm : m ≤ 60) : eqD (.list cs) (.list []) = some cs.isEmpty := by
  have h1 : SeqAt.shaped (.list cs) = true := shaped_list (n := 60) (fun x hx => ⟨fine_lay (h x hx).f, Nat.le_trans (h x hx).d hm⟩) (by decide)
  unfold eqD
  rw [h1, shaped_nil, eqv_nil]
  simp [scalD]
theorem cut_to {α : Type} (xs : List α) (j : Nat) (h : j ≤ xs.length) : cut xs none (some (j : Int)) = xs.take j := by
  unfold cut
  rw [HT.sIx_none, HT.sIx_nat, Nat.min_eq_left h]
  simp
theorem ones_eqN {cs : List Nat} {p : Nat → Bool} : eqD (.list ((cs.filter p).map fun _ => .int 1)) (.list []) = some ((cs.filter p).isEmpty) := by
  have h1 : SeqAt.shaped (.list ((cs.filter p).map fun _ => .int 1)) = true := shaped_list (n := 0) (fun x hx => by
    obtain ⟨c, _, rfl⟩ := List.mem_map.mp hx
    exact ⟨rfl, Nat.le_refl _⟩) (by decide)
  unfold eqD
  rw [h1, shaped_nil, eqv_nil]
  simp [scalD]
def repP (xs : List PyData) (j : Nat) : Bool := match xs[j]? with
  | some x => (xs.take j).any fun z => PyData.eqv z x
  | none => false
theorem rep_eq {xs : List PyData} (h : ∀ z ∈ xs, okH z = true) : ((List.range xs.length).filter (repP xs)).isEmpty = ndB xs := by
  rw [Bool.eq_iff_iff, ndB_iff h, nodup_iff, List.isEmpty_iff, List.filter_eq_nil_iff]
  constructor
  · intro q j hj hm
    refine q j (List.mem_range.mpr hj) ?_
    unfold repP
    rw [List.getElem?_eq_getElem hj]
    exact (any_iff (fun z hz => h z (List.mem_of_mem_take hz)) (h _ (List.getElem_mem hj))).mpr hm
  · intro q j hj e
    have hj := List.mem_range.mp hj
    unfold repP at e
    rw [List.getElem?_eq_getElem hj] at e
    exact q j hj ((any_iff (fun z hz => h z (List.mem_of_mem_take hz)) (h _ (List.getElem_mem hj))).mp e)
theorem rng0 (n : Nat) : rng 0 n = (List.range n).map fun j : Nat => .int (j : Int) := by simp [rng]
/-- the comprehension that looks for repeats -/
theorem rep_loop {n m : Nat} {xs : List PyData} {f : PyData → Sto → R (Option PyData)} {S : Sto} (hn : n ≤ 1000) (hm : m < 60) (hx : Fn n (m + 1) (.tuple xs)) (h : ∀ j : Nat, j < xs.length → ∀ x, xs[j]? = some x → f (.int (j : Int)) S = (lift (inD x (.tuple (xs.take j))) S).bind fun b S => if b then .ok (some (.int 1)) S else .ok none S) : loopC f (rng 0 xs.length) [] S = .ok (((List.range xs.length).filter (repP xs)).map fun _ => .int 1) S := by
  have hl := hx.len
  rw [rng0, loopC_filt (e := fun _ => .int 1) (p := repP xs) (fun j hj => ?_) (by simp [lim]; omega)]
  · simp
  · have hj := List.mem_range.mp hj
    have e1 : xs[j]? = some xs[j] := List.getElem?_eq_getElem hj
    rw [h j hj _ e1]
    have f1 : Fn n m xs[j] := hx.mem' (List.getElem_mem hj)
    have f2 : Fn n (m + 1) (.tuple (xs.take j)) := Fn.tup (by rw [List.length_take]; omega) fun z hz => hx.mem' (List.mem_of_mem_take hz)
    rw [inD_T (f1.sh (by omega)) (f2.sh (by omega))]
    simp [lift, R.bind, repP, e1]
    split <;> rfl
theorem isWord_okH {x : PyData} (h : isWordX x = true) : okH x = true := by
  cases x <;> simp [isWordX] at h
  rfl
theorem law_is_guesser_ok {n m : Nat} (k : Nat) (x : PyData) (S : Sto) (hn : n ≤ 1000) (hm : m ≤ 58) (hx : Fn n m x) : callF GT (k + 2) 27 [.d x] S = .ok (.d (.bool (guesserX x))) S := by
  refine call_eq rfl rfl ?_
  cases x with
  | tuple xs =>
    simp [d__law_is_guesser, Z.start, isiD, List.replicate]
    by_cases a1 : (xs.length : Int) = 2
    · obtain ⟨a, b, rfl⟩ := two_of a1
      have fa := hx.mem (x := a) (by simp)
      have fb := hx.mem (x := b) (by simp)
      cases a with
      | str s =>
        have h3 : SeqAt.shaped (.list [.str "step", .str "times", .str "count"]) = true := by decide +kernel
        have h2 : SeqAt.shaped (.list [.str "down", .str "half"]) = true := by decide +kernel
        simp [isiD, guesserX, inD_L fa.str h3, eqv_SS]
        by_cases k1 : s = "step"
        · subst k1
          simp [List.lookup, law_is_integer_ok]
          cases b <;> simp [isIntX, betX]
          rename_i i
          by_cases h : 1 ≤ i <;> simp [h]
        by_cases k2 : s = "times"
        · subst k2
          simp [List.lookup, law_is_integer_ok]
          cases b <;> simp [isIntX, betX]
          rename_i i
          by_cases h : 2 ≤ i <;> simp [h]
        by_cases k3 : s = "count"
        · subst k3
          simp [List.lookup, law_is_integer_ok]
          cases b <;> simp [isIntX, betX]
          rename_i i
          by_cases h : 1 ≤ i <;> simp [h]
        have k1' : ¬ Str.ofString "step" = s := fun e => k1 e.symm
        have k2' : ¬ Str.ofString "times" = s := fun e => k2 e.symm
        have k3' : ¬ Str.ofString "count" = s := fun e => k3 e.symm
        simp [k1, k2, k3, k1', k2', k3', eqD_SS]
        by_cases k4 : s = "line"
        · subst k4
          cases b with
          | str t => simp [isiD, lineX, inD_L fb.str h2, eqv_SS, eq_comm]
          | _ => simp [isiD, lineX]
        simp [k4]
        by_cases k5 : s = "list"
        · subst k5
          cases b with
          | tuple ws =>
            have hl := fb.len
            simp [isiD, wordsX]
            by_cases b1 : (2 : Int) ≤ ws.length
            · by_cases b2 : (ws.length : Int) ≤ 7
              · simp [b1, b2]
                rw [loopC_pick (e := id) (p := fun c => !isWordX c) (fun c hc => ?_) (by simp [lim]; omega)]
                · simp [list_eq0 (n := n) (m := m) (fun c hc => fb.mem (List.mem_filter.mp hc).1) (by omega)]
                  by_cases b3 : ws.all isWordX = true
                  · have b4 : ¬ ∃ x, x ∈ ws ∧ isWordX x = false := fun ⟨x, q1, q2⟩ => by
                      rw [List.all_eq_true.mp b3 x q1] at q2
                      cases q2
                    rw [if_neg b4, b3]
                    rw [v_rng (by omega) (by omega)]
                    simp
                    rw [rep_loop (n := n) (m := m) hn (by omega) (fb.up (Nat.le_refl _) (by omega)) (fun j hj x e1 => ?_)]
                    · simp [ones_eqN]
                      rw [rep_eq fun z hz => isWord_okH (List.all_eq_true.mp b3 z hz)]
                    · simp [fC, evE, evO, evT, evL, evP, R.bind, ixV, toD, ixD, atI_n, e1, slV, slD, cut_to ws j (by omega), cmpV, cmpD, dat1, okD]
                  · have b4 : ∃ x, x ∈ ws ∧ isWordX x = false := by simpa using b3
                    rw [if_pos b4]
                    exact fun q => absurd (List.all_eq_true.mpr q) b3
                · have := law_is_word_ok (k := k) c S (fine_big (fb.mem hc).f)
                  simp [fC, evE, evO, evT, evL, R.bind, this, truV, truD, lift, toD, dat1]
                  cases isWordX c <;> rfl
              · simp [b1, b2]
            · simp [b1]
          | _ => simp [isiD, wordsX]
        · simp [k5]
      | _ => simp [isiD, guesserX]
    · simp [a1, gX_len a1]
  | _ => simp [d__law_is_guesser, Z.start, guesserX, isiD, List.replicate]
end W

/-! manners, of any data -/
namespace W
open PySem Z
def leastX : PyData → Bool
  | .int i => decide (i = 0) || decide (i = 2) || decide (i = 3)
  | _ => false
def endX : PyData → Bool
  | .str s => decide (s = "copy") || decide (s = "stop")
  | _ => false
def mannerX : PyData → Bool
  | .tuple [.tuple gs, a, b] => decide ((gs.length : Int) ≤ 5) && gs.all guesserX && ndB gs && leastX a && endX b
  | _ => false
theorem betX_int {lo hi : Int} {x : PyData} (h : betX lo hi x = true) : ∃ i, x = .int i := by
  cases x <;> simp [betX] at h
  exact ⟨_, rfl⟩
theorem guesser_form {x : PyData} (h : guesserX x = true) : ∃ k p, x = .tuple [.str k, p] ∧ ((∃ i, p = .int i) ∨ (∃ s, p = .str s) ∨ ∃ ss : List Str, p = .tuple (ss.map .str) ∧ ss.length ≤ 7) := by
  unfold guesserX at h
  split at h
  · rename_i k p
    refine ⟨k, p, rfl, ?_⟩
    split at h
    · exact .inl (betX_int h)
    split at h
    · exact .inl (betX_int h)
    split at h
    · exact .inl (betX_int h)
    split at h
    · cases p <;> simp [lineX] at h
      exact .inr (.inl ⟨_, rfl⟩)
    split at h
    · cases p with
      | tuple ws =>
        simp only [wordsX, Bool.and_eq_true, decide_eq_true_eq] at h
        obtain ⟨ss, rfl, _⟩ := words_strs h.1.2
        exact .inr (.inr ⟨ss, rfl, by simp at h; omega⟩)
      | _ => simp [wordsX] at h
    · cases h
  · cases h
theorem okA_iff {ds : List PyData} : okA ds = true ↔ ∀ d ∈ ds, okH d = true := by
  induction ds with
  | nil => simp [okA]
  | cons d ds ih => simp [okA, ih]
theorem guesser_okT {x : PyData} (h : guesserX x = true) : okT x = true := by
  obtain ⟨k, p, rfl, q⟩ := guesser_form h
  have key : okH p = true ∧ p.depth ≤ 1 := by
    rcases q with ⟨i, rfl⟩ | ⟨s, rfl⟩ | ⟨ss, rfl, _⟩
    · exact ⟨rfl, Nat.zero_le _⟩
    · exact ⟨rfl, Nat.zero_le _⟩
    · exact ⟨okA_iff.mpr okH_strs, depth_le fun x hx => by
        obtain ⟨s, _, rfl⟩ := List.mem_map.mp hx
        exact Nat.le_refl 0⟩
  simp only [okT, Bool.and_eq_true, decide_eq_true_eq]
  refine ⟨okA_iff.mpr fun d hd => ?_, Nat.le_trans (depth_le (n := 1) fun d hd => ?_) (by decide)⟩
  · rcases List.mem_cons.mp hd with e | e
    · rw [e]; rfl
    · rw [List.mem_singleton.mp e]; exact key.1
  · rcases List.mem_cons.mp hd with e | e
    · rw [e]; exact Nat.zero_le _
    · rw [List.mem_singleton.mp e]; exact key.2
theorem okT_okH {x : PyData} (h : okT x = true) : okH x = true := by
  cases x <;> simp [okT] at h
  exact h.1
theorem guesser_okH {x : PyData} (h : guesserX x = true) : okH x = true := okT_okH (guesser_okT h)
theorem lenS_gs {gs : List PyData} (h : gs.all guesserX = true) (hl : gs.length < 60) : ∃ c : Nat, lenS (.tuple gs) = some (.int c) ∧ ((c : Int) = gs.length ↔ ndB gs = true) := by
  cases gs with
  | nil => exact ⟨0, by simp [lenS, strsOf, dd], by simp [ndB]⟩
  | cons g gs =>
    have hg := List.all_eq_true.mp h
    have hs : strsOf (g :: gs) = none := by
      obtain ⟨k, p, rfl, _⟩ := guesser_form (hg g List.mem_cons_self)
      rfl
    have h1 : (g :: gs).all okT = true := List.all_eq_true.mpr fun x hx => guesser_okT (hg x hx)
    have h2 : ∀ z ∈ g :: gs, okH z = true := fun x hx => guesser_okH (hg x hx)
    refine ⟨(ddD (g :: gs)).length, ?_, ?_⟩
    · show (match strsOf (g :: gs) with
        | some ss => if ss.length ≤ 60 then some (PyData.int (dd ss).length) else none
        | none => if ((g :: gs).all okT && decide ((g :: gs).length < 60)) = true then some (PyData.int (ddD (g :: gs)).length) else none) = _
      rw [hs]
      dsimp only
      rw [h1, decide_eq_true hl]
      rfl
    · rw [ndB_iff h2, ← ddD_iff h2]
      omega
theorem three_of {xs : List PyData} (h : (xs.length : Int) = 3) : ∃ a b c, xs = [a, b, c] := by
  match xs, h with
  | [a, b, c], _ => exact ⟨a, b, c, rfl⟩
  | [], h => simp at h
  | [a], h => simp at h
  | [a, b], h => simp at h
  | a :: b :: c :: d :: r, h => exact absurd h (by simp; omega)
theorem mX_len {xs : List PyData} (h : (xs.length : Int) ≠ 3) : mannerX (.tuple xs) = false := by
  unfold mannerX
  split
  · rename_i e
    cases e
    exact absurd rfl h
  · rfl
theorem iT {t : TY} {xs : List PyData} : isiD t (.tuple xs) = (t == .tuple) := rfl
theorem is_manner_ok {n m : Nat} (k : Nat) (x : PyData) (S : Sto) (hn : n ≤ 1000) (hm : m ≤ 60) (hx : Fn n m x) : callF GT (k + 4) 24 [.d x] S = .ok (.d (.bool (mannerX x))) S := by
  refine call_eq rfl rfl ?_
  cases x with
  | tuple xs =>
    simp [d_is_manner, Z.start, iT, List.replicate]
    by_cases a1 : (xs.length : Int) = 3
    · obtain ⟨a, b, c, rfl⟩ := three_of a1
      have fa := hx.mem (x := a) (by simp)
      have fb := hx.mem (x := b) (by simp)
      have fc := hx.mem (x := c) (by simp)
      cases a with
      | tuple gs =>
        have hl := fa.len
        simp only [mannerX]
        simp [iT]
        by_cases b1 : (5 : Int) < gs.length
        · simp [b1]
          have : ¬ (gs.length : Int) ≤ 5 := by omega
          simp [this]
        · have b2 : (gs.length : Int) ≤ 5 := by omega
          simp [b1, b2]
          rw [loopC_all (e := fun c => .bool (guesserX c)) (fun c hc => ?_) (by simp [lim]; omega)]
          · simp [boolsOf_map]
            by_cases b3 : gs.all guesserX = true
            · have b4 : ∀ x ∈ gs, guesserX x = true := List.all_eq_true.mp b3
              obtain ⟨c0, l1, l2⟩ := lenS_gs b3 (by omega)
              rw [if_pos b4, b3]
              simp [l1, l2]
              cases ndB gs with
              | false => simp
              | true =>
                simp
                cases b with
                | int i =>
                  have h3 : SeqAt.shaped (.tuple [.int 0, .int 2, .int 3]) = true := by decide +kernel
                  have hi : SeqAt.shaped (.int i) = true := rfl
                  simp [isiD, leastX, inD_T hi h3, PyData.eqv]
                  by_cases i0 : i = 0
                  · subst i0
                    cases c with
                    | str t =>
                      have h2 : SeqAt.shaped (.tuple [.str "copy", .str "stop"]) = true := by decide +kernel
                      simp [isiD, endX, inD_T fc.str h2, eqv_SS, eq_comm]
                    | _ => simp [isiD, endX]
                  by_cases i2 : i = 2
                  · subst i2
                    cases c with
                    | str t =>
                      have h2 : SeqAt.shaped (.tuple [.str "copy", .str "stop"]) = true := by decide +kernel
                      simp [isiD, endX, inD_T fc.str h2, eqv_SS, eq_comm]
                    | _ => simp [isiD, endX]
                  by_cases i3 : i = 3
                  · subst i3
                    cases c with
                    | str t =>
                      have h2 : SeqAt.shaped (.tuple [.str "copy", .str "stop"]) = true := by decide +kernel
                      simp [isiD, endX, inD_T fc.str h2, eqv_SS, eq_comm]
                    | _ => simp [isiD, endX]
                  have j0 : ¬ 0 = i := fun e => i0 e.symm
                  have j2 : ¬ 2 = i := fun e => i2 e.symm
                  have j3 : ¬ 3 = i := fun e => i3 e.symm
                  simp [i0, i2, i3, j0, j2, j3]
                | _ => simp [isiD, leastX]
            · have b4 : ¬ ∀ x, x ∈ gs → guesserX x = true := fun q => b3 (List.all_eq_true.mpr q)
              rw [if_neg b4]
              simp [b4]
          · have := a_guesser_ok (k := k) c S hn hm (fa.mem hc)
            simp [fC, evE, evO, evL, R.bind, this, dat1]
      | _ => simp [isiD, mannerX]
    · simp [a1, mX_len a1]
  | _ => simp [d_is_manner, Z.start, mannerX, isiD, List.replicate]
end W

/-! the law's own conditions of manners -/
namespace W
open PySem Z
theorem ones_rep {xs : List PyData} (h : ∀ z ∈ xs, okH z = true) : eqD (.list (((List.range xs.length).filter (repP xs)).map fun _ => .int 1)) (.list []) = some (ndB xs) := by
  rw [ones_eqN, rep_eq h]
theorem law_is_manner_ok {n m : Nat} (k : Nat) (x : PyData) (S : Sto) (hn : n ≤ 1000) (hm : m ≤ 58) (hx : Fn n m x) : callF GT (k + 3) 28 [.d x] S = .ok (.d (.bool (mannerX x))) S := by
  refine call_eq rfl rfl ?_
  cases x with
  | tuple xs =>
    simp [d__law_is_manner, Z.start, iT, List.replicate]
    by_cases a1 : (xs.length : Int) = 3
    · obtain ⟨a, b, c, rfl⟩ := three_of a1
      have fa := hx.mem (x := a) (by simp)
      have fb := hx.mem (x := b) (by simp)
      have fc := hx.mem (x := c) (by simp)
      cases a with
      | tuple gs =>
        have hl := fa.len
        simp only [mannerX]
        simp [iT]
        by_cases b1 : (5 : Int) < gs.length
        · simp [b1]
          have : ¬ (gs.length : Int) ≤ 5 := by omega
          simp [this]
        · have b2 : (gs.length : Int) ≤ 5 := by omega
          simp [b1, b2]
          rw [loopC_pick (e := id) (p := fun c => !guesserX c) (fun c hc => ?_) (by simp [lim]; omega)]
          · simp [list_eq0 (n := n) (m := m) (fun c hc => fa.mem (List.mem_filter.mp hc).1) (by omega)]
            by_cases b3 : gs.all guesserX = true
            · have b4 : ¬ ∃ x, x ∈ gs ∧ guesserX x = false := fun ⟨x, q1, q2⟩ => by
                rw [List.all_eq_true.mp b3 x q1] at q2
                cases q2
              rw [if_neg b4, b3]
              rw [v_rng (by omega) (by omega)]
              simp
              rw [rep_loop (n := n) (m := m) hn (by omega) (fa.up (Nat.le_refl _) (by omega)) (fun j hj x e1 => ?_)]
              · have e2 := ones_rep (xs := gs) fun z hz => guesser_okH (List.all_eq_true.mp b3 z hz)
                simp [e2]
                cases ndB gs with
                | false => simp
                | true =>
                  simp [law_is_integer_ok]
                  cases b with
                  | int i =>
                    have h3 : SeqAt.shaped (.list [.int 0, .int 2, .int 3]) = true := by decide +kernel
                    have hi : SeqAt.shaped (.int i) = true := rfl
                    simp [isIntX, leastX, inD_L hi h3, PyData.eqv]
                    by_cases i0 : i = 0
                    · subst i0
                      cases c with
                      | str t =>
                        have h2 : SeqAt.shaped (.list [.str "copy", .str "stop"]) = true := by decide +kernel
                        simp [isiD, endX, inD_L fc.str h2, eqv_SS, eq_comm]
                      | _ => simp [isiD, endX]
                    by_cases i2 : i = 2
                    · subst i2
                      cases c with
                      | str t =>
                        have h2 : SeqAt.shaped (.list [.str "copy", .str "stop"]) = true := by decide +kernel
                        simp [isiD, endX, inD_L fc.str h2, eqv_SS, eq_comm]
                      | _ => simp [isiD, endX]
                    by_cases i3 : i = 3
                    · subst i3
                      cases c with
                      | str t =>
                        have h2 : SeqAt.shaped (.list [.str "copy", .str "stop"]) = true := by decide +kernel
                        simp [isiD, endX, inD_L fc.str h2, eqv_SS, eq_comm]
                      | _ => simp [isiD, endX]
                    have j0 : ¬ 0 = i := fun e => i0 e.symm
                    have j2 : ¬ 2 = i := fun e => i2 e.symm
                    have j3 : ¬ 3 = i := fun e => i3 e.symm
                    simp [i0, i2, i3, j0, j2, j3]
                  | _ => simp [isIntX, leastX]
              · simp [fC, evE, evO, evT, evL, evP, R.bind, ixV, toD, ixD, atI_n, e1, slV, slD, cut_to gs j (by omega), cmpV, cmpD, dat1, okD]
            · have b4 : ∃ x, x ∈ gs ∧ guesserX x = false := by simpa using b3
              rw [if_pos b4]
              have b5 : gs.all guesserX = false := by simpa using b3
              intro q
              obtain ⟨x, q1, q2⟩ := b4
              rw [q x q1] at q2
              cases q2
          · have := law_is_guesser_ok (k := k) c S hn hm (fa.mem hc)
            simp [fC, evE, evO, evT, evL, R.bind, this, truV, truD, lift, toD, dat1]
            cases guesserX c <;> rfl
      | _ => simp [isiD, mannerX]
    · simp [a1, mX_len a1]
  | _ => simp [d__law_is_manner, Z.start, mannerX, isiD, List.replicate]
end W

/-! guessers and manners that are drawn -/
namespace W
open PySem Z
structure GuT (x : PyData) : Prop where
  g : guesserX x = true
  f : Fn 8 2 x
structure MaT (most : Nat) (x : PyData) : Prop where
  m : mannerX x = true
  f : Fn 8 4 x
  c : ∃ gs a b, x = .tuple [.tuple gs, a, b] ∧ gs.length ≤ most
theorem fn_int {n m : Nat} (i : Int) : Fn n m (.int i) := ⟨rfl, Nat.zero_le _⟩
theorem gu_int {s : Str} {i : Int} (h : guesserX (.tuple [.str s, .int i]) = true) (hs : fineB 8 (.str s) = true) : GuT (.tuple [.str s, .int i]) :=
  ⟨h, (Fn.tup (m := 1) (by simp) fun x hx => by
    simp only [List.mem_cons, List.not_mem_nil, or_false] at hx
    rcases hx with rfl | rfl
    · exact ⟨hs, Nat.zero_le _⟩
    · exact fn_int _)⟩
theorem gu_dec {x : PyData} (h1 : guesserX x = true) (h2 : (fineB 8 x && decide (x.depth ≤ 2)) = true) : GuT x := by
  simp only [Bool.and_eq_true, decide_eq_true_eq] at h2
  exact ⟨h1, h2.1, h2.2⟩
theorem lists_gu : ∀ x ∈ listsL, GuT (.tuple [.str "list", x]) := by
  intro x hx
  simp only [listsL, List.mem_cons, List.not_mem_nil, or_false] at hx
  rcases hx with rfl | rfl | rfl | rfl | rfl | rfl | rfl | rfl <;> exact gu_dec (by decide +kernel) (by decide +kernel)
theorem guesser_ok {k n : Nat} {S : Sto} {Q : Val → Sto → Prop} (hS : Src S n) (hQ : ∀ x S', GuT x → Src S' n → Sm n S S' → Q (.d x) S') : Ok (callF GT (k + 3) 25 [.r n] S) Q := by
  refine Ok_call rfl rfl ?_
  simp [d__law_guesser, Z.start, List.replicate]
  refine pick_ok hS (by decide) (by decide) fun w S1 a1 a2 hS1 hs1 => ?_
  simp
  by_cases h1 : w < 3
  · simp [h1]
    refine pick_ok hS1 (by decide) (by decide) fun i S2 b1 b2 hS2 hs2 => ?_
    simp
    rw [(hs1.trans hs2).take]
    refine hQ _ _ (gu_int ?_ (by decide +kernel)) hS2 (hs1.trans hs2)
    simp [guesserX, betX]
    omega
  simp [h1]
  by_cases h2 : w < 5
  · simp [h2]
    refine pick_ok hS1 (by decide) (by decide) fun i S2 b1 b2 hS2 hs2 => ?_
    simp
    rw [(hs1.trans hs2).take]
    refine hQ _ _ (gu_int ?_ (by decide +kernel)) hS2 (hs1.trans hs2)
    simp [guesserX, betX]
    omega
  simp [h2]
  by_cases h3 : w = 5
  · simp [h3]
    refine pick_ok hS1 (by decide) (by decide) fun i S2 b1 b2 hS2 hs2 => ?_
    refine Ok_at b1 (by simpa using b2) fun x hx => ?_
    simp
    rw [(hs1.trans hs2).take]
    refine hQ _ _ ?_ hS2 (hs1.trans hs2)
    simp only [List.mem_cons, List.not_mem_nil, or_false] at hx
    rcases hx with rfl | rfl <;> exact gu_dec (by decide +kernel) (by decide +kernel)
  simp [h3]
  by_cases h4 : w = 6
  · simp [h4]
    refine pick_ok hS1 (by decide) (by decide) fun i S2 b1 b2 hS2 hs2 => ?_
    simp
    rw [(hs1.trans hs2).take]
    refine hQ _ _ (gu_int ?_ (by decide +kernel)) hS2 (hs1.trans hs2)
    simp [guesserX, betX]
    omega
  simp [h4]
  refine lists_ok ?_
  refine chosen_ok hS1 (by decide) (by decide) fun x S2 hx hS2 hs2 => ?_
  simp
  rw [(hs1.trans hs2).take]
  exact hQ _ _ (lists_gu x hx) hS2 (hs1.trans hs2)
/-- the guessers so far -/
structure GsT (gs : List PyData) : Prop where
  g : ∀ g ∈ gs, GuT g
  n : gs.Nodup
theorem GsT.add {gs : List PyData} {g : PyData} (h : GsT gs) (hg : GuT g) (hn : g ∉ gs) : GsT (gs ++ [g]) := ⟨fun x hx => by
    rcases List.mem_append.mp hx with q | q
    · exact h.g x q
    · rw [List.mem_singleton.mp q]; exact hg, by
    rw [List.nodup_append]
    refine ⟨h.n, by simp, fun a ha b hb e => ?_⟩
    rw [List.mem_singleton.mp hb] at e
    rw [e] at ha
    exact hn ha⟩
theorem manner_mk {gs : List PyData} {a b : PyData} (h : GsT gs) (hl : gs.length ≤ 5) (ha : leastX a = true) (hb : endX b = true) (fb : fineB 8 b = true) : mannerX (.tuple [.tuple gs, a, b]) = true ∧ Fn 8 4 (.tuple [.tuple gs, a, b]) := by
  refine ⟨?_, ?_⟩
  · simp only [mannerX, Bool.and_eq_true, decide_eq_true_eq]
    exact ⟨⟨⟨⟨by omega, List.all_eq_true.mpr fun g hg => (h.g g hg).g⟩, (ndB_iff fun z hz => guesser_okH (h.g z hz).g).mpr h.n⟩, ha⟩, hb⟩
  · refine Fn.tup (by simp) fun x hx => ?_
    simp only [List.mem_cons, List.not_mem_nil, or_false] at hx
    rcases hx with rfl | rfl | rfl
    · exact Fn.tup (by omega) fun z hz => (h.g z hz).f
    · cases x <;> simp [leastX] at ha
      exact fn_int _
    · cases x <;> simp [endX] at hb
      exact ⟨fb, Nat.zero_le _⟩
theorem manner_ok {k n most : Nat} {S : Sto} {Q : Val → Sto → Prop} (hS : Src S n) (hm : most ≤ 5) (hQ : ∀ x S', MaT most x → Src S' n → Sm n S S' → Q (.d x) S') : Ok (callF GT (k + 4) 26 [.r n, .d (.int (most : Int))] S) Q := by
  refine Ok_call rfl rfl ?_
  simp [d__law_manner, Z.start, List.replicate]
  refine pick_ok hS (by omega) (by omega) fun w S1 a1 a2 hS1 hs1 => ?_
  rw [v_rng (by omega) (by omega)]
  simp
  refine Ok_loopF (fun items ρ S' => Src S' n ∧ Sm n S S' ∧ ∃ gs v3 v4, ρ = [some (.r n), some (.d (.int (most : Int))), some (.d (.tuple gs)), v3, v4] ∧ GsT gs ∧ gs.length + items.length ≤ most) (fun y r ρ S' ⟨i1, i2, gs, v3, v4, e, i3, i4⟩ => ?_) (fun ρ S' ⟨i1, i2, gs, v3, v4, e, i3, i4⟩ => ?_) ⟨hS1, hs1, [], none, none, rfl, ⟨fun _ q => (nomatch q), by simp⟩, by simp [rng_len]; omega⟩
  · subst e
    simp only [List.length_cons] at i4
    simp [fF]
    refine guesser_ok i1 fun g S2 hg hS2 hs2 => ?_
    have f1 : Fn 8 2 g := hg.f
    have f2 : Fn 8 3 (.tuple gs) := Fn.tup (by omega) fun z hz => (i3.g z hz).f
    have hin := any_iff (xs := gs) (x := g) (fun z hz => guesser_okH (i3.g z hz).g) (guesser_okH hg.g)
    simp [inD_T (f1.sh (by omega)) (f2.sh (by omega))]
    by_cases h : (gs.any fun z => PyData.eqv z g) = true
    · have h' : ∃ x, x ∈ gs ∧ x.eqv g = true := by simpa using h
      rw [if_pos h']
      exact ⟨hS2, i2.trans hs2, i3, by omega⟩
    · have h' : ¬ ∃ x, x ∈ gs ∧ x.eqv g = true := by simpa using h
      rw [if_neg h']
      refine ⟨by simp [lim]; omega, hS2, i2.trans hs2, i3.add hg fun q => h (hin.mpr q), by omega⟩
  · subst e
    simp
    refine pick_ok i1 (by decide) (by decide) fun d1 S2 b1 b2 hS2 hs2 => ?_
    refine Ok_at b1 (by simpa using b2) fun a ha => ?_
    refine pick_ok hS2 (by decide) (by decide) fun d2 S3 c1 c2 hS3 hs3 => ?_
    refine Ok_at c1 (by simpa using c2) fun b hb => ?_
    have hs3 := (i2.trans hs2).trans hs3
    simp
    rw [hs3.take]
    have ha' : leastX a = true := by
      simp only [List.mem_cons, List.not_mem_nil, or_false] at ha
      rcases ha with rfl | rfl | rfl | rfl <;> decide
    have hb' : endX b = true ∧ fineB 8 b = true := by
      simp only [List.mem_cons, List.not_mem_nil, or_false] at hb
      rcases hb with rfl | rfl <;> exact ⟨by decide +kernel, by decide +kernel⟩
    simp at i4
    obtain ⟨m1, m2⟩ := manner_mk i3 (by omega) ha' hb'.1 hb'.2
    exact hQ _ _ ⟨m1, m2, gs, a, b, rfl, by omega⟩ hS3 hs3
end W

/-! odd values; values with one part exchanged -/
namespace W
open PySem Z
theorem Ok_atP {xs : List PyData} {i : Int} {S : Sto} {Q : Val → Sto → Prop} (p : PyData → Bool) (h0 : 0 ≤ i) (h : i < xs.length) (hp : xs.all p = true) (hQ : ∀ x, p x = true → Q (.d x) S) : Ok (okD (L2.atI xs i) S) Q :=
  Ok_at h0 h fun x hx => hQ x (List.all_eq_true.mp hp x hx)
def fnB (n m : Nat) (x : PyData) : Bool := fineB n x && decide (x.depth ≤ m)
theorem fnB_ok {n m : Nat} {x : PyData} (h : fnB n m x = true) : Fn n m x := by
  simp only [fnB, Bool.and_eq_true, decide_eq_true_eq] at h
  exact ⟨h.1, h.2⟩
theorem v_tupS {z : Str} (h : z.cps.size ≤ 1000) : biD .tuple [.str z] = some (.tuple (z.cps.toList.map fun c => .str ⟨#[c]⟩)) := by
  simp [biD, h]
theorem odd2_ok {k n : Nat} {S : Sto} {Q : Val → Sto → Prop} (hS : Src S n) (hQ : ∀ x S', Fn 8 3 x → Src S' n → Sm n S S' → Q (.d x) S') : Ok (callF GT (k + 2) 29 [.r n] S) Q := by
  refine Ok_call rfl rfl ?_
  have e7 := v_tupS (z := "abcdefg") (by decide +kernel)
  have e8 := v_tupS (z := "abcdefgh") (by decide +kernel)
  simp only [d__law_odd_2, Z.start, List.replicate]
  simp [e7, e8, lim]
  refine pick_ok hS (by decide) (by decide) fun d S1 a1 a2 hS1 hs1 => ?_
  refine Ok_atP (fnB 8 3) a1 (by simpa using a2) (by decide +kernel) fun x hx => ?_
  simp
  rw [hs1.take]
  exact hQ x S1 (fnB_ok hx) hS1 hs1
theorem cut_mem {xs : List PyData} {l h : Option Int} {c : PyData} (q : c ∈ cut xs l h) : c ∈ xs := List.mem_of_mem_drop (List.mem_of_mem_take q)
theorem cut_from {α : Type} (xs : List α) (j : Nat) (h : j ≤ xs.length) : cut xs (some (j : Int)) none = xs.drop j := by
  unfold cut
  rw [HT.sIx_none, HT.sIx_nat, Nat.min_eq_left h, List.take_of_length_le (by simp)]
theorem parted_ok {n : Nat} (D : Nat) : D ≤ 50 → ∀ {k : Nat} {xs : List PyData} {S : Sto} {Q : Val → Sto → Prop}, Src S n → Fn 8 D (.tuple xs) → xs ≠ [] → (∀ x S', Fn 9 (D + 4) x → Src S' n → Sm n S S' → Q (.d x) S') → Ok (callF GT (k + D + 3) 30 [.r n, .d (.tuple xs)] S) Q := by
  induction D with
  | zero =>
    intro hD k xs S Q hS hx
    have := hx.d
    have : (PyData.tuple xs).depth = PyData.depthAll xs + 1 := rfl
    omega
  | succ D ih =>
    intro hD k xs S Q hS hx hne hQ
    have hl := hx.len
    have hlp : 0 < xs.length := List.length_pos_iff.mpr hne
    refine Ok_call rfl rfl ?_
    simp [d__law_parted, Z.start, List.replicate]
    refine pick_ok hS (by omega) (by omega) fun p S1 a1 a2 hS1 hs1 => ?_
    simp
    refine pick_ok hS1 (by decide) (by decide) fun w S2 b1 b2 hS2 hs2 => ?_
    have hs2 := hs1.trans hs2
    obtain ⟨j, rfl⟩ := Int.eq_ofNat_of_zero_le a1
    have hj : j < xs.length := by omega
    have hj1 : ((j : Int) + 1) = ((j + 1 : Nat) : Int) := by omega
    have c1 := cut_to xs j (by omega)
    have c2 : cut xs (some ((j : Int) + 1)) none = xs.drop (j + 1) := by rw [hj1]; exact cut_from xs (j + 1) (by omega)
    have c3 : cut xs none (some ((j : Int) + 1)) = xs.take (j + 1) := by rw [hj1]; exact cut_to xs (j + 1) (by omega)
    have c4 := cut_from xs j (by omega)
    have tk : ∀ i, (xs.take i).length ≤ xs.length := fun i => by rw [List.length_take]; omega
    have dr : ∀ i, (xs.drop i).length ≤ xs.length := fun i => by rw [List.length_drop]; omega
    have up : ∀ x ∈ xs, Fn 9 (D + 4) x := fun x hx' => (hx.mem' hx').up (by decide) (by omega)
    have mk : ∀ ys : List PyData, ys.length ≤ 9 → (∀ y ∈ ys, Fn 9 (D + 4) y) → Fn 9 (D + 1 + 4) (.tuple ys) := fun ys h1 h2 => Fn.tup h1 h2
    have mid : ∀ y, Fn 9 (D + 4) y → Fn 9 (D + 1 + 4) (.tuple (xs.take j ++ y :: xs.drop (j + 1))) := fun y hy => mk _ (by
      rw [List.length_append, List.length_cons, List.length_take, List.length_drop]; omega) fun z hz => by
        rcases List.mem_append.mp hz with q | q
        · exact up z (List.mem_of_mem_take q)
        · rcases List.mem_cons.mp q with q | q
          · rw [q]; exact hy
          · exact up z (List.mem_of_mem_drop q)
    have fin : ∀ y S3, Src S3 n → Sm n S S3 → Fn 9 (D + 4) y → Q (.d (.tuple (xs.take j ++ y :: xs.drop (j + 1)))) S3 := fun y S3 q1 q2 q3 => hQ _ _ (mid y q3) q1 q2
    simp
    by_cases w0 : w = 0
    · simp [w0, c1, c2]
      refine ⟨by simp [lim]; omega, ?_⟩
      rw [hs2.take]
      exact hQ _ _ (mk _ (by simp; omega) fun z hz => (List.mem_append.mp hz).elim (fun q => up z (List.mem_of_mem_take q)) fun q => up z (List.mem_of_mem_drop q)) hS2 hs2
    by_cases w1 : w = 1
    · simp [w1, c3, c4]
      refine ⟨by simp [lim]; omega, ?_⟩
      rw [hs2.take]
      exact hQ _ _ (mk _ (by simp; omega) fun z hz => (List.mem_append.mp hz).elim (fun q => up z (List.mem_of_mem_take q)) fun q => up z (List.mem_of_mem_drop q)) hS2 hs2
    by_cases w2 : w = 2
    · simp [w2]
      rw [hs2.take]
      exact hQ _ _ (hx.up (by decide) (by omega)).lst hS2 hs2
    have e1 : xs[j]? = some xs[j] := List.getElem?_eq_getElem hj
    have odd : Ok (callF GT (k + D + 3) 29 [.r n] S2) fun a S3 => Ok (tupV [a] S3) fun a S4 => Ok (binV .add (.d (.tuple (xs.take j))) a S4) fun a S5 => Ok (binV .add a (.d (.tuple (xs.drop (j + 1)))) S5) fun a S6 => finQ S Q (.ret a) S6 := by
      refine odd2_ok hS2 fun y S3 hy hS3 hs3 => ?_
      have hs3 := hs2.trans hs3
      simp
      refine ⟨by simp [lim]; omega, by simp [lim]; omega, ?_⟩
      rw [hs3.take]
      exact fin y S3 hS3 hs3 (hy.up (by decide) (by omega))
    by_cases w3 : w = 3
    · simp [w3, c1, c2, atI_n, e1]
      generalize hy : xs[j] = y
      have hym : y ∈ xs := by rw [← hy]; exact List.getElem_mem hj
      have fy := hx.mem' hym
      cases y with
      | tuple ys =>
        have s1 : SeqAt.shaped (.tuple ys) = true := fy.sh (by omega)
        have s2 : SeqAt.shaped (.tuple []) = true := by decide
        simp [isiD, eqD, scalD, s1, s2]
        by_cases h0 : ys = []
        · subst h0
          rw [if_pos (by decide)]
          exact odd
        · have h1 : ¬ (PyData.tuple ys).eqv (.tuple []) = true := by
            cases ys with
            | nil => exact absurd rfl h0
            | cons z zs => simp [PyData.eqv, PyData.eqvAll]
          rw [if_neg h1]
          refine ih (by omega) hS2 fy h0 fun y S3 hy hS3 hs3 => ?_
          have hs3 := hs2.trans hs3
          simp
          refine ⟨by simp [lim]; omega, by simp [lim]; omega, ?_⟩
          rw [hs3.take]
          exact fin y S3 hS3 hs3 hy
      | _ =>
        simp [isiD]
        exact odd
    · simp [w0, w1, w2, w3, c1, c2]
      exact odd
end W

/-! the law k02 -/
namespace W
open PySem Z
def deep : Nat := 20
theorem gu_tup {x : PyData} (h : GuT x) : ∃ xs, x = .tuple xs ∧ xs ≠ [] := by
  obtain ⟨k, p, rfl, _⟩ := guesser_form h.g
  exact ⟨_, rfl, by simp⟩
theorem k02_turn {n : Nat} {x : PyData} {v0 v1 v2 v4 v5 v6 v7 v8 : Option Val} {S : Sto} (hS : Src S n) (body : List LS) (hb : body = (match d_law_k02.body with | .for _ _ _ (_ :: .for _ _ _ b :: _) :: _ => b | _ => [])) (Q : Fl → Sto → Prop)
    (hQ : ∀ v5 v6 v7 S', Src S' n → Q (.nx [v0, v1, v2, some (.r n), some (.d x), v5, v6, v7, v8]) S') :
    Ok (fF (callF GT deep) (.one 4) body x [v0, v1, v2, some (.r n), v4, v5, v6, v7, v8] S) Q := by
  subst hb
  simp [fF, d_law_k02, deep]
  refine guesser_ok hS fun g S1 hg hS1 hs1 => ?_
  refine manner_ok (most := 5) hS1 (by decide) fun m S2 hm hS2 hs2 => ?_
  have fg : Fn 9 8 g := hg.f.up (by decide) (by decide)
  have fm : Fn 9 8 m := hm.f.up (by decide) (by decide)
  have e1 := is_guesser_ok 16 g S2 (by decide) (by decide) fg
  have e2 := is_manner_ok 16 m S2 (by decide) (by decide) fm
  rw [hg.g] at e1
  rw [hm.m] at e2
  simp [e1, e2]
  obtain ⟨gs, rfl, hgn⟩ := gu_tup hg
  obtain ⟨g0, a, b, rfl, _⟩ := hm.c
  refine parted_ok 2 (by decide) (k := 15) hS2 hg.f hgn fun x1 S3 f1 hS3 hs3 => ?_
  refine odd2_ok hS3 fun x2 S4 f2 hS4 hs4 => ?_
  simp
  refine parted_ok 2 (by decide) (k := 15) hS4 hg.f hgn fun x3 S5 f3 hS5 hs5 => ?_
  simp
  refine Ok_loopF (fun items ρ S' => (∀ y ∈ items, Fn 9 8 y) ∧ Src S' n ∧ ∃ v7, ρ = [v0, v1, v2, some (.r n), some (.d x), some (.d (.tuple gs)), some (.d (.tuple [.tuple g0, a, b])), v7, v8]) (fun y r ρ S' ⟨i1, i2, v7, e⟩ => ?_) (fun ρ S' ⟨i1, i2, v7, e⟩ => ?_) ⟨fun y hy => ?_, hS5, v7, rfl⟩
  · subst e
    have e1 := is_guesser_ok 16 y S' (by decide) (by decide) (i1 y List.mem_cons_self)
    have e2 := law_is_guesser_ok 18 y S' (by decide) (by decide) (i1 y List.mem_cons_self)
    simp [fF, e1, e2, isiD]
    exact ⟨fun z hz => i1 z (List.mem_cons_of_mem _ hz), i2⟩
  · simp only [List.mem_cons, List.not_mem_nil, or_false] at hy
    rcases hy with rfl | rfl | rfl | rfl
    · exact f1.up (by decide) (by decide)
    · exact f2.up (by decide) (by decide)
    · exact f3.up (by decide) (by decide)
    · exact fm
  · subst e
    simp
    refine parted_ok 4 (by decide) (k := 13) i2 hm.f (by simp) fun x1 S3 f1 hS3 hs3 => ?_
    simp
    refine parted_ok 4 (by decide) (k := 13) hS3 hm.f (by simp) fun x2 S4 f2 hS4 hs4 => ?_
    simp
    refine odd2_ok hS4 fun x3 S5 f3 hS5 hs5 => ?_
    simp
    refine Ok_loopF (fun items ρ S' => (∀ y ∈ items, Fn 9 8 y) ∧ Src S' n ∧ ∃ v7, ρ = [v0, v1, v2, some (.r n), some (.d x), some (.d (.tuple gs)), some (.d (.tuple [.tuple g0, a, b])), v7, v8]) (fun y r ρ S' ⟨i1, i2, v7, e⟩ => ?_) (fun ρ S' ⟨i1, i2, v7, e⟩ => ?_) ⟨fun y hy => ?_, hS5, v7, rfl⟩
    · subst e
      have e1 := is_manner_ok 16 y S' (by decide) (by decide) (i1 y List.mem_cons_self)
      have e2 := law_is_manner_ok 17 y S' (by decide) (by decide) (i1 y List.mem_cons_self)
      simp [fF, e1, e2, isiD]
      exact ⟨fun z hz => i1 z (List.mem_cons_of_mem _ hz), i2⟩
    · simp only [List.mem_cons, List.not_mem_nil, or_false] at hy
      rcases hy with rfl | rfl | rfl | rfl
      · exact f1
      · exact f2
      · exact f3.up (by decide) (by decide)
      · exact fg
    · subst e
      exact hQ _ _ _ _ i2
theorem law_ok (ns : List Int) (h : ns.length ≤ 63) : ∃ S, callF GT (deep + 1) 1002 [.s (ns.map PyData.int)] [] = .ok (.d (.bool true)) S := by
  have main : Ok (callF GT (deep + 1) 1002 [.s (ns.map PyData.int)] []) fun v _ => v = .d (.bool true) := by
    refine Ok_call rfl rfl ?_
    simp [d_law_k02, Z.start, List.replicate]
    rw [v_rng (by decide) (by decide)]
    simp
    refine Ok_loopF (fun items ρ S' => (∀ y ∈ items, ∃ j : Nat, j < 10 ∧ y = .int (j : Int)) ∧ ∃ v1 v2 v3 v4 v5 v6 v7 v8, ρ = [some (.s (ns.map .int)), v1, v2, v3, v4, v5, v6, v7, v8]) (fun y r ρ S' ⟨i1, v1, v2, v3, v4, v5, v6, v7, v8, i3⟩ => ?_) (fun ρ S' ⟨_, v1, v2, v3, v4, v5, v6, v7, v8, i3⟩ => ?_) ⟨fun y hy => by obtain ⟨j, hj, rfl⟩ := rng_mem hy; exact ⟨j, hj, by simp⟩, _, _, _, _, _, _, _, _, rfl⟩
    · subst i3
      obtain ⟨j, hj, rfl⟩ := i1 y List.mem_cons_self
      simp [fF, deep]
      refine source_ok (by omega) (by omega) fun S1 n hS1 => ?_
      rw [v_rng (by decide) (by decide)]
      simp
      refine Ok_loopF (fun items ρ S' => Src S' n ∧ ∃ v4 v5 v6 v7, ρ = [some (.s (ns.map .int)), some (.d (.int (j : Int))), v2, some (.r n), v4, v5, v6, v7, v8]) (fun z r ρ S' ⟨i2, v4, v5, v6, v7, i3⟩ => ?_) (fun ρ S' ⟨_, v4, v5, v6, v7, i3⟩ => ?_) ⟨hS1, _, _, _, _, rfl⟩
      · subst i3
        refine k02_turn i2 _ rfl _ fun v5 v6 v7 S2 hS2 => ?_
        exact ⟨hS2, _, _, _, _, rfl⟩
      · subst i3
        exact ⟨fun z hz => i1 z (List.mem_cons_of_mem _ hz), _, _, _, _, _, _, _, _, rfl⟩
    · subst i3
      simp
      rw [v_rng2 (by decide) (by decide) (by decide) (by decide)]
      have e4 : rng 1 ((5 : Int) - 1).toNat = [.int 1, .int 2, .int 3, .int 4] := rfl
      rw [e4]
      simp [loopC, fC, evE, evO, evL, R.bind, tupV, Z.plain, dat1, lim]
      have m1 : ∀ x S, fnB 9 8 x = true → callF GT deep 24 [.d x] S = .ok (.d (.bool (mannerX x))) S := fun x S hx => is_manner_ok 16 x S (n := 9) (m := 8) (by decide) (by decide) (fnB_ok hx)
      have t1 : mannerX (.tuple [.tuple [.tuple [.str "step", .int 1], .tuple [.str "step", .int 2], .tuple [.str "step", .int 3], .tuple [.str "step", .int 4], .tuple [.str "line", .str "down"]], .int 3, .str "stop"]) = true := by decide +kernel
      have t2 : mannerX (.tuple [.tuple [], .int 0, .str "copy"]) = true := by decide +kernel
      have t3 : mannerX (.tuple [.tuple [.tuple [.str "step", .int 1], .tuple [.str "step", .int 2], .tuple [.str "step", .int 3], .tuple [.str "step", .int 4], .tuple [.str "times", .int 2], .tuple [.str "times", .int 3]], .int 0, .str "copy"]) = false := by decide +kernel
      rw [m1 _ _ (by decide +kernel)]
      simp [t1]
      rw [m1 _ _ (by decide +kernel)]
      simp [t2]
      rw [m1 _ _ (by decide +kernel)]
      simp [t3]
  obtain ⟨v, S, e, q⟩ := main.eq
  exact ⟨S, by rw [e, q]⟩
end W

namespace W
open PySem PySem.Spec PyProof.Rows L2 Z
def top (i : Nat) : Stmt := PySem.Challenge.pw_fillhandles_k02_guessers_and_manners.main.body.getD i (.Pass ⟨0, 0, 0, 0⟩)
def n_is_integer : List Str := ["value"]
def p_is_integer : List Str := ["value"]
def n_is_between : List Str := ["value", "low", "high"]
def p_is_between : List Str := ["value", "low", "high"]
def n_is_word : List Str := ["value", "sign"]
def p_is_word : List Str := ["value"]
def n_are_words : List Str := ["value", "word"]
def p_are_words : List Str := ["value"]
def n_a_guesser : List Str := ["value"]
def p_a_guesser : List Str := ["value"]
def n_is_guesser : List Str := ["value"]
def p_is_guesser : List Str := ["value"]
def n_is_manner : List Str := ["value", "guesser"]
def p_is_manner : List Str := ["value"]
def n__law_source : List Str := ["script", "index", "cell_so", "primes", "prime", "mixed"]
def p__law_source : List Str := ["script", "index"]
def n__law_pick : List Str := ["source_so", "many", "drawn"]
def p__law_pick : List Str := ["source_so", "many"]
def n__law_chosen : List Str := ["source_so", "some"]
def p__law_chosen : List Str := ["source_so", "some"]
def n__law_lists : List Str := ["some"]
def p__law_lists : List Str := []
def n__law_guesser : List Str := ["source_so", "way"]
def p__law_guesser : List Str := ["source_so"]
def n__law_manner : List Str := ["source_so", "most", "found", "turn_so", "new"]
def p__law_manner : List Str := ["source_so", "most"]
def n__law_is_integer : List Str := ["value"]
def p__law_is_integer : List Str := ["value"]
def n__law_is_word : List Str := ["value", "sign"]
def p__law_is_word : List Str := ["value"]
def n__law_is_guesser : List Str := ["value", "kind", "part", "low", "high", "word", "k"]
def p__law_is_guesser : List Str := ["value"]
def n__law_is_manner : List Str := ["value", "g", "k"]
def p__law_is_manner : List Str := ["value"]
def n__law_odd_2 : List Str := ["source_so", "some"]
def p__law_odd_2 : List Str := ["source_so"]
def n__law_parted : List Str := ["source_so", "value", "place", "way"]
def p__law_parted : List Str := ["source_so", "value"]
def n_law_k02 : List Str := ["script", "k", "steps_so", "source_so", "turn_so", "g", "m", "value", "least_so"]
def p_law_k02 : List Str := ["script"]
def md : Md := ⟨[("is_integer", 1), ("is_between", 20), ("is_word", 2), ("are_words", 21), ("a_guesser", 22), ("is_guesser", 23), ("is_manner", 24), ("_law_source", 9), ("_law_pick", 10), ("_law_chosen", 11), ("_law_lists", 12), ("_law_guesser", 25), ("_law_manner", 26), ("_law_is_integer", 16), ("_law_is_word", 17), ("_law_is_guesser", 27), ("_law_is_manner", 28), ("_law_odd", 29), ("_law_parted", 30), ("law", 1002)], [("LETTERS", (.str "abcdefghijklmnopqrstuvwxyz"))], [], ["all", "bool", "int", "isinstance", "len", "list", "range", "set", "str", "tuple"], [("LEASTS", [("step", (.tuple [(.int 1), (.int 4)])), ("times", (.tuple [(.int 2), (.int 4)])), ("count", (.tuple [(.int 1), (.int 3)]))])]⟩
theorem sc_is_integer : FnScope n_is_integer p_is_integer (defScope (top 2)) := ⟨rfl, rfl, rfl, by decide +kernel, rfl, by decide +kernel, by decide +kernel⟩
theorem ck_is_integer : chkB (md.sc n_is_integer (defScope (top 2))) d_is_integer.body (defBody (top 2)) = true := by decide +kernel
def h_is_integer : He.DefD := ⟨("is_integer", none), "is_integer", "is_integer", defArgs (top 2), defBody (top 2), defScope (top 2), [], []⟩
theorem sc_is_between : FnScope n_is_between p_is_between (defScope (top 3)) := ⟨rfl, rfl, rfl, by decide +kernel, rfl, by decide +kernel, by decide +kernel⟩
theorem ck_is_between : chkB (md.sc n_is_between (defScope (top 3))) d_is_between.body (defBody (top 3)) = true := by decide +kernel
def h_is_between : He.DefD := ⟨("is_between", none), "is_between", "is_between", defArgs (top 3), defBody (top 3), defScope (top 3), [], []⟩
theorem sc_is_word : FnScope n_is_word p_is_word (defScope (top 4)) := ⟨rfl, rfl, rfl, by decide +kernel, rfl, by decide +kernel, by decide +kernel⟩
theorem ck_is_word : chkB (md.sc n_is_word (defScope (top 4))) d_is_word.body (defBody (top 4)) = true := by decide +kernel
def h_is_word : He.DefD := ⟨("is_word", none), "is_word", "is_word", defArgs (top 4), defBody (top 4), defScope (top 4), [], []⟩
theorem sc_are_words : FnScope n_are_words p_are_words (defScope (top 5)) := ⟨rfl, rfl, rfl, by decide +kernel, rfl, by decide +kernel, by decide +kernel⟩
theorem ck_are_words : chkB (md.sc n_are_words (defScope (top 5))) d_are_words.body (defBody (top 5)) = true := by decide +kernel
def h_are_words : He.DefD := ⟨("are_words", none), "are_words", "are_words", defArgs (top 5), defBody (top 5), defScope (top 5), [], []⟩
theorem sc_a_guesser : FnScope n_a_guesser p_a_guesser (defScope (top 8)) := ⟨rfl, rfl, rfl, by decide +kernel, rfl, by decide +kernel, by decide +kernel⟩
theorem ck_a_guesser : chkB (md.sc n_a_guesser (defScope (top 8))) d_a_guesser.body (defBody (top 8)) = true := by decide +kernel
def h_a_guesser : He.DefD := ⟨("a_guesser", none), "a_guesser", "a_guesser", defArgs (top 8), defBody (top 8), defScope (top 8), [], []⟩
theorem sc_is_guesser : FnScope n_is_guesser p_is_guesser (defScope (top 10)) := ⟨rfl, rfl, rfl, by decide +kernel, rfl, by decide +kernel, by decide +kernel⟩
theorem ck_is_guesser : chkB (md.sc n_is_guesser (defScope (top 10))) d_is_guesser.body (defBody (top 10)) = true := by decide +kernel
def h_is_guesser : He.DefD := ⟨("is_guesser", none), "is_guesser", "is_guesser", defArgs (top 10), defBody (top 10), defScope (top 10), [], []⟩
theorem sc_is_manner : FnScope n_is_manner p_is_manner (defScope (top 11)) := ⟨rfl, rfl, rfl, by decide +kernel, rfl, by decide +kernel, by decide +kernel⟩
theorem ck_is_manner : chkB (md.sc n_is_manner (defScope (top 11))) d_is_manner.body (defBody (top 11)) = true := by decide +kernel
def h_is_manner : He.DefD := ⟨("is_manner", none), "is_manner", "is_manner", defArgs (top 11), defBody (top 11), defScope (top 11), [], []⟩
theorem sc__law_source : FnScope n__law_source p__law_source (defScope (top 13)) := ⟨rfl, rfl, rfl, by decide +kernel, rfl, by decide +kernel, by decide +kernel⟩
theorem ck__law_source : chkB (md.sc n__law_source (defScope (top 13))) d__law_source.body (defBody (top 13)) = true := by decide +kernel
def h__law_source : He.DefD := ⟨("_law_source", none), "_law_source", "_law_source", defArgs (top 13), defBody (top 13), defScope (top 13), [], []⟩
theorem sc__law_pick : FnScope n__law_pick p__law_pick (defScope (top 14)) := ⟨rfl, rfl, rfl, by decide +kernel, rfl, by decide +kernel, by decide +kernel⟩
theorem ck__law_pick : chkB (md.sc n__law_pick (defScope (top 14))) d__law_pick.body (defBody (top 14)) = true := by decide +kernel
def h__law_pick : He.DefD := ⟨("_law_pick", none), "_law_pick", "_law_pick", defArgs (top 14), defBody (top 14), defScope (top 14), [], []⟩
theorem sc__law_chosen : FnScope n__law_chosen p__law_chosen (defScope (top 15)) := ⟨rfl, rfl, rfl, by decide +kernel, rfl, by decide +kernel, by decide +kernel⟩
theorem ck__law_chosen : chkB (md.sc n__law_chosen (defScope (top 15))) d__law_chosen.body (defBody (top 15)) = true := by decide +kernel
def h__law_chosen : He.DefD := ⟨("_law_chosen", none), "_law_chosen", "_law_chosen", defArgs (top 15), defBody (top 15), defScope (top 15), [], []⟩
theorem sc__law_lists : FnScope n__law_lists p__law_lists (defScope (top 16)) := ⟨rfl, rfl, rfl, by decide +kernel, rfl, by decide +kernel, by decide +kernel⟩
theorem ck__law_lists : chkB (md.sc n__law_lists (defScope (top 16))) d__law_lists.body (defBody (top 16)) = true := by decide +kernel
def h__law_lists : He.DefD := ⟨("_law_lists", none), "_law_lists", "_law_lists", defArgs (top 16), defBody (top 16), defScope (top 16), [], []⟩
theorem sc__law_guesser : FnScope n__law_guesser p__law_guesser (defScope (top 17)) := ⟨rfl, rfl, rfl, by decide +kernel, rfl, by decide +kernel, by decide +kernel⟩
theorem ck__law_guesser : chkB (md.sc n__law_guesser (defScope (top 17))) d__law_guesser.body (defBody (top 17)) = true := by decide +kernel
def h__law_guesser : He.DefD := ⟨("_law_guesser", none), "_law_guesser", "_law_guesser", defArgs (top 17), defBody (top 17), defScope (top 17), [], []⟩
theorem sc__law_manner : FnScope n__law_manner p__law_manner (defScope (top 18)) := ⟨rfl, rfl, rfl, by decide +kernel, rfl, by decide +kernel, by decide +kernel⟩
theorem ck__law_manner : chkB (md.sc n__law_manner (defScope (top 18))) d__law_manner.body (defBody (top 18)) = true := by decide +kernel
def h__law_manner : He.DefD := ⟨("_law_manner", none), "_law_manner", "_law_manner", defArgs (top 18), defBody (top 18), defScope (top 18), [], []⟩
theorem sc__law_is_integer : FnScope n__law_is_integer p__law_is_integer (defScope (top 19)) := ⟨rfl, rfl, rfl, by decide +kernel, rfl, by decide +kernel, by decide +kernel⟩
theorem ck__law_is_integer : chkB (md.sc n__law_is_integer (defScope (top 19))) d__law_is_integer.body (defBody (top 19)) = true := by decide +kernel
def h__law_is_integer : He.DefD := ⟨("_law_is_integer", none), "_law_is_integer", "_law_is_integer", defArgs (top 19), defBody (top 19), defScope (top 19), [], []⟩
theorem sc__law_is_word : FnScope n__law_is_word p__law_is_word (defScope (top 20)) := ⟨rfl, rfl, rfl, by decide +kernel, rfl, by decide +kernel, by decide +kernel⟩
theorem ck__law_is_word : chkB (md.sc n__law_is_word (defScope (top 20))) d__law_is_word.body (defBody (top 20)) = true := by decide +kernel
def h__law_is_word : He.DefD := ⟨("_law_is_word", none), "_law_is_word", "_law_is_word", defArgs (top 20), defBody (top 20), defScope (top 20), [], []⟩
theorem sc__law_is_guesser : FnScope n__law_is_guesser p__law_is_guesser (defScope (top 21)) := ⟨rfl, rfl, rfl, by decide +kernel, rfl, by decide +kernel, by decide +kernel⟩
theorem ck__law_is_guesser : chkB (md.sc n__law_is_guesser (defScope (top 21))) d__law_is_guesser.body (defBody (top 21)) = true := by decide +kernel
def h__law_is_guesser : He.DefD := ⟨("_law_is_guesser", none), "_law_is_guesser", "_law_is_guesser", defArgs (top 21), defBody (top 21), defScope (top 21), [], []⟩
theorem sc__law_is_manner : FnScope n__law_is_manner p__law_is_manner (defScope (top 22)) := ⟨rfl, rfl, rfl, by decide +kernel, rfl, by decide +kernel, by decide +kernel⟩
theorem ck__law_is_manner : chkB (md.sc n__law_is_manner (defScope (top 22))) d__law_is_manner.body (defBody (top 22)) = true := by decide +kernel
def h__law_is_manner : He.DefD := ⟨("_law_is_manner", none), "_law_is_manner", "_law_is_manner", defArgs (top 22), defBody (top 22), defScope (top 22), [], []⟩
theorem sc__law_odd_2 : FnScope n__law_odd_2 p__law_odd_2 (defScope (top 23)) := ⟨rfl, rfl, rfl, by decide +kernel, rfl, by decide +kernel, by decide +kernel⟩
theorem ck__law_odd_2 : chkB (md.sc n__law_odd_2 (defScope (top 23))) d__law_odd_2.body (defBody (top 23)) = true := by decide +kernel
def h__law_odd_2 : He.DefD := ⟨("_law_odd", none), "_law_odd", "_law_odd", defArgs (top 23), defBody (top 23), defScope (top 23), [], []⟩
theorem sc__law_parted : FnScope n__law_parted p__law_parted (defScope (top 24)) := ⟨rfl, rfl, rfl, by decide +kernel, rfl, by decide +kernel, by decide +kernel⟩
theorem ck__law_parted : chkB (md.sc n__law_parted (defScope (top 24))) d__law_parted.body (defBody (top 24)) = true := by decide +kernel
def h__law_parted : He.DefD := ⟨("_law_parted", none), "_law_parted", "_law_parted", defArgs (top 24), defBody (top 24), defScope (top 24), [], []⟩
theorem sc_law_k02 : FnScope n_law_k02 p_law_k02 (defScope (top 25)) := ⟨rfl, rfl, rfl, by decide +kernel, rfl, by decide +kernel, by decide +kernel⟩
theorem ck_law_k02 : chkB (md.sc n_law_k02 (defScope (top 25))) d_law_k02.body (defBody (top 25)) = true := by decide +kernel
def h_law_k02 : He.DefD := ⟨("law", none), "law", "law", defArgs (top 25), defBody (top 25), defScope (top 25), [], []⟩
def fn : List He.DefD := [h_is_integer, h_is_between, h_is_word, h_are_words, h_a_guesser, h_is_guesser, h_is_manner, h__law_source, h__law_pick, h__law_chosen, h__law_lists, h__law_guesser, h__law_manner, h__law_is_integer, h__law_is_word, h__law_is_guesser, h__law_is_manner, h__law_odd_2, h__law_parted, h_law_k02]
def fa : List He.Fa := [.glo "is_integer", .glo "is_between", .glo "is_word", .glo "are_words", .glo "a_guesser", .glo "is_guesser", .glo "is_manner", .glo "_law_source", .glo "_law_pick", .glo "_law_chosen", .glo "_law_lists", .glo "_law_guesser", .glo "_law_manner", .glo "_law_is_integer", .glo "_law_is_word", .glo "_law_is_guesser", .glo "_law_is_manner", .glo "_law_odd", .glo "_law_parted", .glo "law", .free "all", .free "bool", .free "int", .free "isinstance", .free "len", .free "list", .free "range", .free "set", .free "str", .free "tuple", .glo "LEASTS"]
def ts : List He.Tab := [(fun K => He.ga K "LEASTS", ["step", "times", "count"])]
def ex (K : PySem.W.Frag) : Bool := conB K "LETTERS" (.str "abcdefghijklmnopqrstuvwxyz") && (tabB K "LEASTS" [("step", (.tuple [(.int 1), (.int 4)])), ("times", (.tuple [(.int 2), (.int 4)])), ("count", (.tuple [(.int 1), (.int 3)]))] && (true))
section
variable {K : PySem.W.Frag} {h : Heap} {mg : Str → Option Value}
theorem ex_ok {K : PySem.W.Frag} (m : ex K = true) : conB K "LETTERS" (.str "abcdefghijklmnopqrstuvwxyz") = true ∧ tabB K "LEASTS" [("step", (.tuple [(.int 1), (.int 4)])), ("times", (.tuple [(.int 2), (.int 4)])), ("count", (.tuple [(.int 1), (.int 3)]))] = true ∧ True := by
  unfold ex at m
  simp only [Bool.and_eq_true] at m
  exact m
theorem con_ (X : K.In h) (G : h.Ns mainGlobals mg) (m : ex K = true) : ∀ x d, (match md.cons.lookup x with
    | some e => pdEq d e
    | none => false) = true → ∃ u v, mg x = some u ∧ RelV v u ∧ ∀ M H, Rep K M H d v := by
  intro x d hx
  split at hx
  · rename_i e he
    have e1 := pdEq_ok hx
    subst e1
    have hm := PySem.mem_of_lookup he
    simp only [md, List.mem_cons, Prod.mk.injEq, List.not_mem_nil, or_false] at hm
    rcases hm with ⟨rfl, rfl⟩
    · exact conB_ok X G (ex_ok m).1
  · cases hx
theorem dct_ {w : World} (X : K.In h) (G : h.Ns mainGlobals mg) (c : He.SaysT fa fn ts w K) (m : ex K = true) : ∀ x t, (match md.tabs.lookup x with
    | some u => tEq t u
    | none => false) = true → DctOk K w mg x t := by
  intro x t hx
  split at hx
  · rename_i e he
    have e1 := tEq_ok hx
    subst e1
    have hm := PySem.mem_of_lookup he
    simp only [md, List.mem_cons, Prod.mk.injEq, List.not_mem_nil, or_false] at hm
    rcases hm with ⟨rfl, rfl⟩
    · exact dct_of X G (c.d.fact 30 (f := .glo "LEASTS") rfl) (tab_eq c 0 rfl) (ex_ok m).2.1
  · cases hx
theorem blt_ (X : K.In h) (G : h.Ns mainGlobals mg) (c : He.SaysD fa fn K) : ∀ x, x ∈ md.blt → mg x = none := by
  intro x hx
  simp only [md, List.mem_cons, List.not_mem_nil, or_false] at hx
  rcases hx with rfl | rfl | rfl | rfl | rfl | rfl | rfl | rfl | rfl | rfl
  · exact He.free_ok X G (c.fact 20 (f := .free "all") rfl)
  · exact He.free_ok X G (c.fact 21 (f := .free "bool") rfl)
  · exact He.free_ok X G (c.fact 22 (f := .free "int") rfl)
  · exact He.free_ok X G (c.fact 23 (f := .free "isinstance") rfl)
  · exact He.free_ok X G (c.fact 24 (f := .free "len") rfl)
  · exact He.free_ok X G (c.fact 25 (f := .free "list") rfl)
  · exact He.free_ok X G (c.fact 26 (f := .free "range") rfl)
  · exact He.free_ok X G (c.fact 27 (f := .free "set") rfl)
  · exact He.free_ok X G (c.fact 28 (f := .free "str") rfl)
  · exact He.free_ok X G (c.fact 29 (f := .free "tuple") rfl)
theorem exc_ (X : K.In h) (G : h.Ns mainGlobals mg) (c : He.SaysD fa fn K) : ∀ x, x ∈ md.excs → ∃ C : Addr, mg x = some (.ref C) ∧ PySem.W.excIn K C [.type "ValueError", .type "Exception", .type "BaseException", .type "object"] "ValueError.__new__" = true ∧ PySem.W.keepIn K (.ref C) = true ∧ PySem.W.subIn K (.ref C) (.type "BaseException") = some true ∧ PySem.W.typeIn K (.ref C) = some (.type "type") := by
  intro x hx
  simp only [md, List.mem_cons, List.not_mem_nil, or_false] at hx
theorem df_is_integer (X : K.In h) (G : h.Ns mainGlobals mg) (c : He.SaysD fa fn K) : DefOk K mg md GT "is_integer" 1 := by
  obtain ⟨fd, D⟩ := c.def_ 0 (d := h_is_integer) rfl
  exact ⟨_, _, _, _, _, _, fd, n_is_integer, p_is_integer, d_is_integer, He.glo_ok X G (c.fact 0 (f := .glo "is_integer") rfl), D.bindsN (ps := p_is_integer) (fun _ _ _ _ _ _ us hl => match us, hl with | [_], _ => rfl), D, sc_is_integer, rfl, rfl, rfl, ck_is_integer⟩
theorem df_is_between (X : K.In h) (G : h.Ns mainGlobals mg) (c : He.SaysD fa fn K) : DefOk K mg md GT "is_between" 20 := by
  obtain ⟨fd, D⟩ := c.def_ 1 (d := h_is_between) rfl
  exact ⟨_, _, _, _, _, _, fd, n_is_between, p_is_between, d_is_between, He.glo_ok X G (c.fact 1 (f := .glo "is_between") rfl), D.bindsN (ps := p_is_between) (fun _ _ _ _ _ _ us hl => match us, hl with | [_, _, _], _ => rfl), D, sc_is_between, rfl, rfl, rfl, ck_is_between⟩
theorem df_is_word (X : K.In h) (G : h.Ns mainGlobals mg) (c : He.SaysD fa fn K) : DefOk K mg md GT "is_word" 2 := by
  obtain ⟨fd, D⟩ := c.def_ 2 (d := h_is_word) rfl
  exact ⟨_, _, _, _, _, _, fd, n_is_word, p_is_word, d_is_word, He.glo_ok X G (c.fact 2 (f := .glo "is_word") rfl), D.bindsN (ps := p_is_word) (fun _ _ _ _ _ _ us hl => match us, hl with | [_], _ => rfl), D, sc_is_word, rfl, rfl, rfl, ck_is_word⟩
theorem df_are_words (X : K.In h) (G : h.Ns mainGlobals mg) (c : He.SaysD fa fn K) : DefOk K mg md GT "are_words" 21 := by
  obtain ⟨fd, D⟩ := c.def_ 3 (d := h_are_words) rfl
  exact ⟨_, _, _, _, _, _, fd, n_are_words, p_are_words, d_are_words, He.glo_ok X G (c.fact 3 (f := .glo "are_words") rfl), D.bindsN (ps := p_are_words) (fun _ _ _ _ _ _ us hl => match us, hl with | [_], _ => rfl), D, sc_are_words, rfl, rfl, rfl, ck_are_words⟩
theorem df_a_guesser (X : K.In h) (G : h.Ns mainGlobals mg) (c : He.SaysD fa fn K) : DefOk K mg md GT "a_guesser" 22 := by
  obtain ⟨fd, D⟩ := c.def_ 4 (d := h_a_guesser) rfl
  exact ⟨_, _, _, _, _, _, fd, n_a_guesser, p_a_guesser, d_a_guesser, He.glo_ok X G (c.fact 4 (f := .glo "a_guesser") rfl), D.bindsN (ps := p_a_guesser) (fun _ _ _ _ _ _ us hl => match us, hl with | [_], _ => rfl), D, sc_a_guesser, rfl, rfl, rfl, ck_a_guesser⟩
theorem df_is_guesser (X : K.In h) (G : h.Ns mainGlobals mg) (c : He.SaysD fa fn K) : DefOk K mg md GT "is_guesser" 23 := by
  obtain ⟨fd, D⟩ := c.def_ 5 (d := h_is_guesser) rfl
  exact ⟨_, _, _, _, _, _, fd, n_is_guesser, p_is_guesser, d_is_guesser, He.glo_ok X G (c.fact 5 (f := .glo "is_guesser") rfl), D.bindsN (ps := p_is_guesser) (fun _ _ _ _ _ _ us hl => match us, hl with | [_], _ => rfl), D, sc_is_guesser, rfl, rfl, rfl, ck_is_guesser⟩
theorem df_is_manner (X : K.In h) (G : h.Ns mainGlobals mg) (c : He.SaysD fa fn K) : DefOk K mg md GT "is_manner" 24 := by
  obtain ⟨fd, D⟩ := c.def_ 6 (d := h_is_manner) rfl
  exact ⟨_, _, _, _, _, _, fd, n_is_manner, p_is_manner, d_is_manner, He.glo_ok X G (c.fact 6 (f := .glo "is_manner") rfl), D.bindsN (ps := p_is_manner) (fun _ _ _ _ _ _ us hl => match us, hl with | [_], _ => rfl), D, sc_is_manner, rfl, rfl, rfl, ck_is_manner⟩
theorem df__law_source (X : K.In h) (G : h.Ns mainGlobals mg) (c : He.SaysD fa fn K) : DefOk K mg md GT "_law_source" 9 := by
  obtain ⟨fd, D⟩ := c.def_ 7 (d := h__law_source) rfl
  exact ⟨_, _, _, _, _, _, fd, n__law_source, p__law_source, d__law_source, He.glo_ok X G (c.fact 7 (f := .glo "_law_source") rfl), D.bindsN (ps := p__law_source) (fun _ _ _ _ _ _ us hl => match us, hl with | [_, _], _ => rfl), D, sc__law_source, rfl, rfl, rfl, ck__law_source⟩
theorem df__law_pick (X : K.In h) (G : h.Ns mainGlobals mg) (c : He.SaysD fa fn K) : DefOk K mg md GT "_law_pick" 10 := by
  obtain ⟨fd, D⟩ := c.def_ 8 (d := h__law_pick) rfl
  exact ⟨_, _, _, _, _, _, fd, n__law_pick, p__law_pick, d__law_pick, He.glo_ok X G (c.fact 8 (f := .glo "_law_pick") rfl), D.bindsN (ps := p__law_pick) (fun _ _ _ _ _ _ us hl => match us, hl with | [_, _], _ => rfl), D, sc__law_pick, rfl, rfl, rfl, ck__law_pick⟩
theorem df__law_chosen (X : K.In h) (G : h.Ns mainGlobals mg) (c : He.SaysD fa fn K) : DefOk K mg md GT "_law_chosen" 11 := by
  obtain ⟨fd, D⟩ := c.def_ 9 (d := h__law_chosen) rfl
  exact ⟨_, _, _, _, _, _, fd, n__law_chosen, p__law_chosen, d__law_chosen, He.glo_ok X G (c.fact 9 (f := .glo "_law_chosen") rfl), D.bindsN (ps := p__law_chosen) (fun _ _ _ _ _ _ us hl => match us, hl with | [_, _], _ => rfl), D, sc__law_chosen, rfl, rfl, rfl, ck__law_chosen⟩
theorem df__law_lists (X : K.In h) (G : h.Ns mainGlobals mg) (c : He.SaysD fa fn K) : DefOk K mg md GT "_law_lists" 12 := by
  obtain ⟨fd, D⟩ := c.def_ 10 (d := h__law_lists) rfl
  exact ⟨_, _, _, _, _, _, fd, n__law_lists, p__law_lists, d__law_lists, He.glo_ok X G (c.fact 10 (f := .glo "_law_lists") rfl), D.bindsN (ps := p__law_lists) (fun _ _ _ _ _ _ us hl => match us, hl with | [], _ => rfl), D, sc__law_lists, rfl, rfl, rfl, ck__law_lists⟩
theorem df__law_guesser (X : K.In h) (G : h.Ns mainGlobals mg) (c : He.SaysD fa fn K) : DefOk K mg md GT "_law_guesser" 25 := by
  obtain ⟨fd, D⟩ := c.def_ 11 (d := h__law_guesser) rfl
  exact ⟨_, _, _, _, _, _, fd, n__law_guesser, p__law_guesser, d__law_guesser, He.glo_ok X G (c.fact 11 (f := .glo "_law_guesser") rfl), D.bindsN (ps := p__law_guesser) (fun _ _ _ _ _ _ us hl => match us, hl with | [_], _ => rfl), D, sc__law_guesser, rfl, rfl, rfl, ck__law_guesser⟩
theorem df__law_manner (X : K.In h) (G : h.Ns mainGlobals mg) (c : He.SaysD fa fn K) : DefOk K mg md GT "_law_manner" 26 := by
  obtain ⟨fd, D⟩ := c.def_ 12 (d := h__law_manner) rfl
  exact ⟨_, _, _, _, _, _, fd, n__law_manner, p__law_manner, d__law_manner, He.glo_ok X G (c.fact 12 (f := .glo "_law_manner") rfl), D.bindsN (ps := p__law_manner) (fun _ _ _ _ _ _ us hl => match us, hl with | [_, _], _ => rfl), D, sc__law_manner, rfl, rfl, rfl, ck__law_manner⟩
theorem df__law_is_integer (X : K.In h) (G : h.Ns mainGlobals mg) (c : He.SaysD fa fn K) : DefOk K mg md GT "_law_is_integer" 16 := by
  obtain ⟨fd, D⟩ := c.def_ 13 (d := h__law_is_integer) rfl
  exact ⟨_, _, _, _, _, _, fd, n__law_is_integer, p__law_is_integer, d__law_is_integer, He.glo_ok X G (c.fact 13 (f := .glo "_law_is_integer") rfl), D.bindsN (ps := p__law_is_integer) (fun _ _ _ _ _ _ us hl => match us, hl with | [_], _ => rfl), D, sc__law_is_integer, rfl, rfl, rfl, ck__law_is_integer⟩
theorem df__law_is_word (X : K.In h) (G : h.Ns mainGlobals mg) (c : He.SaysD fa fn K) : DefOk K mg md GT "_law_is_word" 17 := by
  obtain ⟨fd, D⟩ := c.def_ 14 (d := h__law_is_word) rfl
  exact ⟨_, _, _, _, _, _, fd, n__law_is_word, p__law_is_word, d__law_is_word, He.glo_ok X G (c.fact 14 (f := .glo "_law_is_word") rfl), D.bindsN (ps := p__law_is_word) (fun _ _ _ _ _ _ us hl => match us, hl with | [_], _ => rfl), D, sc__law_is_word, rfl, rfl, rfl, ck__law_is_word⟩
theorem df__law_is_guesser (X : K.In h) (G : h.Ns mainGlobals mg) (c : He.SaysD fa fn K) : DefOk K mg md GT "_law_is_guesser" 27 := by
  obtain ⟨fd, D⟩ := c.def_ 15 (d := h__law_is_guesser) rfl
  exact ⟨_, _, _, _, _, _, fd, n__law_is_guesser, p__law_is_guesser, d__law_is_guesser, He.glo_ok X G (c.fact 15 (f := .glo "_law_is_guesser") rfl), D.bindsN (ps := p__law_is_guesser) (fun _ _ _ _ _ _ us hl => match us, hl with | [_], _ => rfl), D, sc__law_is_guesser, rfl, rfl, rfl, ck__law_is_guesser⟩
theorem df__law_is_manner (X : K.In h) (G : h.Ns mainGlobals mg) (c : He.SaysD fa fn K) : DefOk K mg md GT "_law_is_manner" 28 := by
  obtain ⟨fd, D⟩ := c.def_ 16 (d := h__law_is_manner) rfl
  exact ⟨_, _, _, _, _, _, fd, n__law_is_manner, p__law_is_manner, d__law_is_manner, He.glo_ok X G (c.fact 16 (f := .glo "_law_is_manner") rfl), D.bindsN (ps := p__law_is_manner) (fun _ _ _ _ _ _ us hl => match us, hl with | [_], _ => rfl), D, sc__law_is_manner, rfl, rfl, rfl, ck__law_is_manner⟩
theorem df__law_odd_2 (X : K.In h) (G : h.Ns mainGlobals mg) (c : He.SaysD fa fn K) : DefOk K mg md GT "_law_odd" 29 := by
  obtain ⟨fd, D⟩ := c.def_ 17 (d := h__law_odd_2) rfl
  exact ⟨_, _, _, _, _, _, fd, n__law_odd_2, p__law_odd_2, d__law_odd_2, He.glo_ok X G (c.fact 17 (f := .glo "_law_odd") rfl), D.bindsN (ps := p__law_odd_2) (fun _ _ _ _ _ _ us hl => match us, hl with | [_], _ => rfl), D, sc__law_odd_2, rfl, rfl, rfl, ck__law_odd_2⟩
theorem df__law_parted (X : K.In h) (G : h.Ns mainGlobals mg) (c : He.SaysD fa fn K) : DefOk K mg md GT "_law_parted" 30 := by
  obtain ⟨fd, D⟩ := c.def_ 18 (d := h__law_parted) rfl
  exact ⟨_, _, _, _, _, _, fd, n__law_parted, p__law_parted, d__law_parted, He.glo_ok X G (c.fact 18 (f := .glo "_law_parted") rfl), D.bindsN (ps := p__law_parted) (fun _ _ _ _ _ _ us hl => match us, hl with | [_, _], _ => rfl), D, sc__law_parted, rfl, rfl, rfl, ck__law_parted⟩
theorem df_law_k02 (X : K.In h) (G : h.Ns mainGlobals mg) (c : He.SaysD fa fn K) : DefOk K mg md GT "law" 1002 := by
  obtain ⟨fd, D⟩ := c.def_ 19 (d := h_law_k02) rfl
  exact ⟨_, _, _, _, _, _, fd, n_law_k02, p_law_k02, d_law_k02, He.glo_ok X G (c.fact 19 (f := .glo "law") rfl), D.bindsN (ps := p_law_k02) (fun _ _ _ _ _ _ us hl => match us, hl with | [_], _ => rfl), D, sc_law_k02, rfl, rfl, rfl, ck_law_k02⟩
theorem dfs_ (X : K.In h) (G : h.Ns mainGlobals mg) (c : He.SaysD fa fn K) : ∀ x n, md.fns.lookup x = some n → DefOk K mg md GT x n := by
  intro x n hx
  have hm := PySem.mem_of_lookup hx
  simp only [md, List.mem_cons, Prod.mk.injEq, List.not_mem_nil, or_false] at hm
  rcases hm with ⟨rfl, rfl⟩ | ⟨rfl, rfl⟩ | ⟨rfl, rfl⟩ | ⟨rfl, rfl⟩ | ⟨rfl, rfl⟩ | ⟨rfl, rfl⟩ | ⟨rfl, rfl⟩ | ⟨rfl, rfl⟩ | ⟨rfl, rfl⟩ | ⟨rfl, rfl⟩ | ⟨rfl, rfl⟩ | ⟨rfl, rfl⟩ | ⟨rfl, rfl⟩ | ⟨rfl, rfl⟩ | ⟨rfl, rfl⟩ | ⟨rfl, rfl⟩ | ⟨rfl, rfl⟩ | ⟨rfl, rfl⟩ | ⟨rfl, rfl⟩ | ⟨rfl, rfl⟩
  · exact df_is_integer X G c
  · exact df_is_between X G c
  · exact df_is_word X G c
  · exact df_are_words X G c
  · exact df_a_guesser X G c
  · exact df_is_guesser X G c
  · exact df_is_manner X G c
  · exact df__law_source X G c
  · exact df__law_pick X G c
  · exact df__law_chosen X G c
  · exact df__law_lists X G c
  · exact df__law_guesser X G c
  · exact df__law_manner X G c
  · exact df__law_is_integer X G c
  · exact df__law_is_word X G c
  · exact df__law_is_guesser X G c
  · exact df__law_is_manner X G c
  · exact df__law_odd_2 X G c
  · exact df__law_parted X G c
  · exact df_law_k02 X G c
end
section
variable {P : Program} {w : World} {K : PySem.W.Frag} {h : Heap} {mg : Str → Option Value} {f : Addr}
theorem facts (k : Nat) (X : K.In h) (G : h.Ns mainGlobals mg) (hfa : mg ("law" : Str) = some (.ref f)) (c : He.SaysX fa fn ts [] ex w h K) :
    ∃ fd : FuncData, (∀ (s : Shared) (v : Value), BindsTo s fd ⟨[v], []⟩ [("script", v)]) ∧ ∀ base : Heap, FnOk P w K mg base (L2.CX P w) (k + 1) f fd ["script"] (spG K mg [] (callF GT (k + 1) 1002)) := by
  obtain ⟨fd, D⟩ := c.t.d.def_ 19 (d := h_law_k02) rfl
  have e := hfa.symm.trans (He.glo_ok X G (c.t.d.fact 19 (f := .glo "law") rfl))
  cases e
  have b := D.bindsA (ps := ["script"]) (fun _ _ _ _ _ _ us hl => match us, hl with | [_], _ => rfl)
  exact ⟨fd, fun s v => b s [v] rfl, fun base => one_def (m := md) D sc_law_k02 rfl rfl rfl ck_law_k02 (defs_ok (con_ X G c.more) (blt_ X G c.t.d) (exc_ X G c.t.d) (dct_ X G c.t c.more) (dfs_ X G c.t.d) k _ _)⟩
end
end W

namespace W
open PySem PySem.Spec PyProof.Rows L2 Z
abbrev R : PySem.W.OpenRow := PySem.W.OpenLaw.row PySem.Challenge.rw_fillhandles_k02_guessers_and_manners
abbrev hk : PySem.W.Hook := He.hookX 4 fa fn ts [] ex
def ob (s : PySem.W.SharedT) : He.AlX := He.obsX 4 fa fn ts [] ex (HandSHeadRun.getT s)
theorem ob_eq (s : PySem.W.SharedT) : ob s = hk.obs s.abs := He.obsX_eq (HandSHeadRun.getT_eq s)
theorem runT (b : Bool) (hb : b = true ∨ b = false) (w : World) : HandSHeadRun.RunEq R (PySem.W.view R.prog [25]) hk ob 6000 ((["is_integer", "is_between", "is_word", "are_words", "a_guesser", "is_guesser", "is_manner", "_law_source", "_law_pick", "_law_chosen", "_law_lists", "_law_guesser", "_law_manner", "_law_is_integer", "_law_is_word", "_law_is_guesser", "_law_is_manner", "_law_odd", "_law_parted", "LETTERS", "LEASTS"] : List PySem.Str)) (Z.told b w) := by
  rcases hb with rfl | rfl
  · intro os
    kernel_rfl
  · intro os
    kernel_rfl
theorem run (w : World) : HandSHeadRun.RunEq R (PySem.W.view R.prog [25]) hk ob 6000 ((["is_integer", "is_between", "is_word", "are_words", "a_guesser", "is_guesser", "is_manner", "_law_source", "_law_pick", "_law_chosen", "_law_lists", "_law_guesser", "_law_manner", "_law_is_integer", "_law_is_word", "_law_is_guesser", "_law_is_manner", "_law_odd", "_law_parted", "LETTERS", "LEASTS"] : List PySem.Str)) w := Z.of_told (p := fun w => HandSHeadRun.RunEq R (PySem.W.view R.prog [25]) hk ob 6000 ((["is_integer", "is_between", "is_word", "are_words", "a_guesser", "is_guesser", "is_manner", "_law_source", "_law_pick", "_law_chosen", "_law_lists", "_law_guesser", "_law_manner", "_law_is_integer", "_law_is_word", "_law_is_guesser", "_law_is_manner", "_law_odd", "_law_parted", "LETTERS", "LEASTS"] : List PySem.Str)) w) (runT true (.inl rfl)) (runT false (.inr rfl)) w
end W

open PySem PySem.W PySem.Calls PyProof.Rows
theorem PySem.Challenge.cw_fillhandles_k02_guessers_and_manners_holds : PySem.Challenge.rw_fillhandles_k02_guessers_and_manners.Holds := by
  w_on; o_law
  refine HandSHeadRun.head_any (r := OpenLaw.row PySem.Challenge.rw_fillhandles_k02_guessers_and_manners) (q := view (OpenLaw.row PySem.Challenge.rw_fillhandles_k02_guessers_and_manners).prog [25]) (H := W.hk) (ob := W.ob) (M := 6000) (loose := ((["is_integer", "is_between", "is_word", "are_words", "a_guesser", "is_guesser", "is_manner", "_law_source", "_law_pick", "_law_chosen", "_law_lists", "_law_guesser", "_law_manner", "_law_is_integer", "_law_is_word", "_law_is_guesser", "_law_is_manner", "_law_odd", "_law_parted", "LETTERS", "LEASTS"] : List PySem.Str))) (d := HandSHeadRun.topDef (OpenLaw.row PySem.Challenge.rw_fillhandles_k02_guessers_and_manners).prog 25) (kwd := []) W.ob_eq
    (by kernel_rfl) (fun s => by kernel_rfl) W.run (by kernel_rfl) (by kernel_rfl) (by kernel_rfl) (by rfl) (by first | assumption | decide +kernel) (by decide +kernel) ⟨rfl, rfl, rfl, rfl, rfl, by decide +kernel⟩ ?hw ?hc
  case hw => w_witness2
  case hc =>
    refine L2.walk_ofE (l := PySem.Challenge.rw_fillhandles_k02_guessers_and_manners) (n := 63) (k := W.deep + 1) (x := "script") (CX := Z.CXw (PySem.Challenge.rw_fillhandles_k02_guessers_and_manners).prog) rfl (by decide) (by kernel_rfl) ⟨rfl, by decide, by decide⟩ ?F (fun H s e s' z => ?_)
    · intro w mg fa h Y G hmg0
      obtain ⟨K, KX, c⟩ := Y
      have hmg : mg ("law" : PySem.Str) = some (.ref fa) := by
        have e : (HandSHeadRun.topDef (OpenLaw.row PySem.Challenge.rw_fillhandles_k02_guessers_and_manners).prog 25).name = ("law" : PySem.Str) := by kernel_rfl
        rw [← e]
        exact hmg0
      obtain ⟨fd, hb, hF⟩ := W.facts (P := (PySem.Challenge.rw_fillhandles_k02_guessers_and_manners).prog) (w := w) W.deep KX G hmg c
      exact ⟨K, fd, _, KX, hb, fun H a ns hl hO hS => Z.law_sp hO hS (W.law_ok ns hl), fun base _ _ => Z.fn_w (hF base)⟩
    · exact Z.no_exc z

