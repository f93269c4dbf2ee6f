import PyProof.Rows.All
import Wide.All
import OpenK.AllK
import Wide.FinOn
import HandS.ForMost
import HandS.ForExc
import HandS.Deep
import HandS.TupAny
import HandS.TupMul
import HandS.IsInst
import HandS.Wide
import HandS.Style
import HandS.TupLe
import HandS.Zip
import HandS.Strs
import HandS.Lambda
import HandS.Head2
import HandS.HeadHook2
import HandS.HeadEnd
import HandS.Flow
import HandS.TupSets
import PySem.Challenge.RW_fillhandles_k01_cells_and_selections
set_option Elab.async false
set_option linter.all false
set_option maxRecDepth 100000
set_option maxHeartbeats 0
/-! A small language over plain data: its syntax and its run. -/
namespace Z
open PySem

/-- a value: plain data; a list that may be changed, by its place in the store; a list that is read alone -/
inductive Val where
  | d (x : PyData)
  | r (n : Nat)
  | s (xs : List PyData)
/-- what stands at a place of the store -/
inductive SE where
  | lst (xs : List PyData)
  | gone
abbrev Sto := List SE
/-- how a run ends: a value, an exception of a class, or nothing is said -/
inductive R (α : Type) where
  | ok (a : α) (S : Sto)
  | ex (c : Str) (S : Sto)
  | no
def R.bind {α β : Type} (x : R α) (f : α → Sto → R β) : R β := match x with
  | .ok a S => f a S
  | .ex c S => .ex c S
  | .no => .no
abbrev Env := List (Option Val)

inductive Op2 where
  | add | sub | mul | fdiv | mod | pow
  deriving DecidableEq
inductive CO where
  | eq | ne | lt | le | gt | ge | is | isn | in_ | nin
  deriving DecidableEq
inductive BI where
  | len | abs | sum | all | max | min | int | str | bool | tuple | list
  deriving DecidableEq
inductive TY where
  | int | bool | str | tuple | list
  deriving DecidableEq
/-- what a loop walks -/
inductive IK where
  | seq | range | enum | zip
  deriving DecidableEq
/-- a target: one name, or several out of a tuple -/
inductive Tg where
  | one (i : Nat)
  | many (is : List Nat)
  deriving DecidableEq

inductive LE where
  | var (i : Nat)
  | frz (i : Nat)
  | lit (d : PyData)
  | glo (x : Str) (d : PyData)
  | neg (a : LE)
  | bin (o : Op2) (a b : LE)
  | cmp (o : CO) (a b : LE)
  | chain (o p : CO) (a b c : LE)
  | and (a b : LE)
  | or (a b : LE)
  | not (a : LE)
  | ite (c a b : LE)
  | tup (es : List LE)
  | lst (m : Bool) (es : List LE)
  | ix (a i : LE)
  | sl (a : LE) (lo hi : Option LE)
  | call (f : Nat) (es : List LE)
  | bi (b : BI) (es : List LE)
  | isi (a : LE) (t : TY)
  | comp (m : Bool) (k : IK) (args : List LE) (tg : Tg) (own : List Nat) (cond : Option LE) (elt : LE)
  | lenset (a : LE)

inductive LS where
  | asg (i : Nat) (e : LE)
  | asgT (is : List Nat) (es : List LE)
  | unp (is : List Nat) (e : LE)
  | setix (o i e : LE)
  | app (o e : LE)
  | aug (i : Nat) (o : Op2) (e : LE)
  | exp (e : LE)
  | ret (e : LE)
  | ite (c : LE) (a b : List LS)
  | for (k : IK) (args : List LE) (tg : Tg) (body : List LS)
  | raise (c : Str)
  | brk
  | cont
  | pass

/-! ### operations on data -/
abbrev lim : Nat := 1000000
def fitM (i : Int) : Bool := decide (i.natAbs.log2 < 100000)
def fitD (i : Int) : Bool := decide (i.natAbs.log2 < 8000)
/-- the data of a value: a list that may be changed, as it stands -/
def toD (v : Val) (S : Sto) : Option PyData := match v with
  | .d x => some x
  | .r n => match S[n]? with
    | some (.lst xs) => some (.list xs)
    | _ => none
  | .s _ => none
def binD (o : Op2) (x y : PyData) : Option PyData := match o, x, y with
  | .add, .int i, .int j => some (.int (i + j))
  | .add, .str s, .str t => if s.cps.size + t.cps.size ≤ lim then some (.str ⟨s.cps ++ t.cps⟩) else none
  | .add, .tuple xs, .tuple ys => if xs.length + ys.length ≤ lim then some (.tuple (xs ++ ys)) else none
  | .add, .list xs, .list ys => if xs.length + ys.length ≤ lim then some (.list (xs ++ ys)) else none
  | .sub, .int i, .int j => some (.int (i - j))
  | .mul, .int i, .int j => if fitM i && fitM j then some (.int (i * j)) else none
  | .mul, .tuple xs, .int k => if xs.length ≤ 1000 ∧ 2 ≤ k ∧ k ≤ 1000 ∧ xs.isEmpty = false then some (.tuple (List.replicate k.toNat xs).flatten) else none
  | .mul, .list xs, .int k => if xs.length ≤ 1000 ∧ 0 ≤ k ∧ k ≤ 1000 then some (.list (List.replicate k.toNat xs).flatten) else none
  | .fdiv, .int i, .int j => if j ≠ 0 ∧ fitD j = true then some (.int (i.fdiv j)) else none
  | .mod, .int i, .int j => if j ≠ 0 then some (.int (i.fmod j)) else none
  | .pow, .int i, .int j => if 0 ≤ j ∧ j ≤ 1000 ∧ i.natAbs < 2 ^ 64 then some (.int (i ^ j.toNat)) else none
  | _, _, _ => none
/-- the pairs that == tells apart at once -/
def scalD : PyData → PyData → Bool
  | .none, .none => true | .none, .int _ => true | .int _, .none => true | .none, .bool _ => true | .bool _, .none => true | .none, .str _ => true | .str _, .none => true
  | .int _, .int _ => true | .bool _, .bool _ => true | .str _, .str _ => true
  | .int _, .str _ => true | .str _, .int _ => true | .bool _, .str _ => true | .str _, .bool _ => true
  | _, _ => false
def eqD (x y : PyData) : Option Bool := if scalD x y then some (PyData.eqv x y) else if SeqAt.shaped x && SeqAt.shaped y then some (PyData.eqv x y) else none
def isNone : PyData → Bool
  | .none => true
  | _ => false
def inD (x : PyData) (y : PyData) : Option Bool := match x, y with
  | .str s, .str t => match s.cps.toList with
    | [c] => some (decide (c ∈ t.cps.toList))
    | _ => none
  | x, .list ys => if SeqAt.shaped x && SeqAt.shaped (.list ys) then some (ys.any fun z => PyData.eqv z x) else none
  | x, .tuple ys => if SeqAt.shaped x && SeqAt.shaped (.tuple ys) then some (ys.any fun z => PyData.eqv z x) else none
  | _, _ => none
def cmpD (o : CO) (x y : PyData) : Option Bool := match o with
  | .eq => eqD x y
  | .ne => (eqD x y).map (!·)
  | .lt => match x, y with | .int i, .int j => some (decide (i < j)) | _, _ => none
  | .le => match x, y with | .int i, .int j => some (decide (i ≤ j)) | _, _ => none
  | .gt => match x, y with | .int i, .int j => some (decide (j < i)) | _, _ => none
  | .ge => match x, y with | .int i, .int j => some (decide (j ≤ i)) | _, _ => none
  | .is => match x, y with | x, .none => some (isNone x) | .bool a, .bool b => some (decide (a = b)) | _, _ => none
  | .isn => match x, y with | x, .none => some (!isNone x) | .bool a, .bool b => some (!decide (a = b)) | _, _ => none
  | .in_ => inD x y
  | .nin => (inD x y).map (!·)
def ixD (x i : PyData) : Option PyData := match x, i with
  | .list xs, .int i => L2.atI xs i
  | .tuple xs, .int i => L2.atI xs i
  | .str z, .int i => if z.cps.size ≤ lim then (L2.atI z.cps.toList i).map fun c => .str ⟨#[c]⟩ else none
  | _, _ => none
def cut {α : Type} (xs : List α) (lo hi : Option Int) : List α := (xs.drop (HT.sIx xs.length 0 lo)).take (HT.sIx xs.length xs.length hi - HT.sIx xs.length 0 lo)
def slD (x : PyData) (lo hi : Option Int) : Option PyData := match x with
  | .list xs => some (.list (cut xs lo hi))
  | .tuple xs => some (.tuple (cut xs lo hi))
  | .str z => if z.cps.size ≤ lim then some (.str ⟨(cut z.cps.toList lo hi).toArray⟩) else none
  | _ => none
def intsOf : List PyData → Option (List Int)
  | [] => some []
  | .int i :: r => (intsOf r).map (i :: ·)
  | _ => none
def boolsOf : List PyData → Option (List Bool)
  | [] => some []
  | .bool i :: r => (boolsOf r).map (i :: ·)
  | _ => none
def biD (b : BI) (xs : List PyData) : Option PyData := match b, xs with
  | .len, [.list ys] => some (.int ys.length)
  | .len, [.tuple ys] => some (.int ys.length)
  | .len, [.str z] => if z.cps.size ≤ lim then some (.int z.cps.size) else none
  | .abs, [.int i] => some (.int (if i < 0 then -i else i))
  | .sum, [.list ys] => (intsOf ys).map fun ns => .int ns.sum
  | .all, [.list ys] => (boolsOf ys).map fun bs => .bool (bs.all id)
  | .max, [.int i, .int j] => some (.int (if j > i then j else i))
  | .min, [.int i, .int j] => some (.int (if j < i then j else i))
  | .int, [.int i] => some (.int i)
  | .int, [.bool b] => some (.int (if b then 1 else 0))
  | .bool, [.bool b] => some (.bool b)
  | .str, [.int i] => if i.natAbs.log2 < 1920 then some (.str (toString i)) else none
  | .tuple, [.list ys] => some (.tuple ys)
  | .tuple, [.tuple ys] => some (.tuple ys)
  | .list, [.list ys] => some (.list ys)
  | .list, [.tuple ys] => some (.list ys)
  | _, _ => none
def isiD (t : TY) : PyData → Bool
  | .none => false
  | .bool _ => t == .bool || t == .int
  | .int _ => t == .int
  | .str _ => t == .str
  | .list _ => t == .list
  | .tuple _ => t == .tuple
  | .dict _ => false
def truD : PyData → Option Bool
  | .none => some false
  | .bool b => some b
  | .int i => some (i != 0)
  | .str y => if y.cps.size ≤ lim then some ((y.cps.size : Int) != 0) else none
  | .list xs => some (!xs.isEmpty)
  | .tuple xs => some (!xs.isEmpty)
  | .dict _ => none
/-- what a loop walks: its items -/
def rng (lo : Int) (n : Nat) : List PyData := (List.range n).map fun (k : Nat) => .int (lo + (k : Int))
def enumL : Nat → List PyData → List PyData
  | _, [] => []
  | i, x :: r => .tuple [.int i, x] :: enumL (i + 1) r
def zipL : List PyData → List PyData → List PyData
  | x :: xs, y :: ys => .tuple [x, y] :: zipL xs ys
  | _, _ => []
def smallI (i : Int) : Bool := decide (-1000000000000000000 ≤ i) && decide (i < 1000000000000000000)
def itSeq : List PyData → Option (List PyData)
  | [.list ys] => some ys
  | [.tuple ys] => some ys
  | [.str z] => if z.cps.size ≤ lim then some (z.cps.toList.map fun c => .str ⟨#[c]⟩) else none
  | _ => none
def itRng : List PyData → Option (List PyData)
  | [.int n] => if smallI n then some (rng 0 n.toNat) else none
  | [.int a, .int b] => if smallI a && smallI b then some (rng a (b - a).toNat) else none
  | _ => none
def itEnm : List PyData → Option (List PyData)
  | [.list ys] => some (enumL 0 ys)
  | _ => none
def itZip : List PyData → Option (List PyData)
  | [.list xs, .list ys] => some (zipL xs ys)
  | [.tuple xs, .tuple ys] => some (zipL xs ys)
  | _ => none
def itD (k : IK) (xs : List PyData) : Option (List PyData) := match k with
  | .seq => itSeq xs
  | .range => itRng xs
  | .enum => itEnm xs
  | .zip => itZip xs
def allD (S : Sto) : List Val → Option (List PyData)
  | [] => some []
  | v :: r => match toD v S, allD S r with
    | some x, some xs => some (x :: xs)
    | _, _ => none
/-- only what is data already -/
def plain : List Val → Option (List PyData)
  | [] => some []
  | .d x :: r => (plain r).map (x :: ·)
  | .r _ :: _ => none
  | .s _ :: _ => none
def setMany (ρ : Env) : List Nat → List PyData → Option Env
  | [], [] => some ρ
  | i :: is, x :: xs => setMany (ρ.set i (some (.d x))) is xs
  | _, _ => none
def bindTg (tg : Tg) (x : PyData) (ρ : Env) : Option Env := match tg with
  | .one i => some (ρ.set i (some (.d x)))
  | .many is => match x with
    | .tuple xs => setMany ρ is xs
    | _ => none
def wipeE (ρ : Env) : List Nat → Env
  | [] => ρ
  | v :: vs => (wipeE ρ vs).set v none
def lift {α : Type} (o : Option α) (S : Sto) : R α := match o with
  | some a => .ok a S
  | none => .no
def ret1 (m : Bool) (x : PyData) (S : Sto) : R Val := match m, x with
  | false, x => .ok (.d x) S
  | true, .list xs => .ok (.r S.length) (S ++ [.lst xs])
  | true, _ => .no
/-- the turns of a comprehension: what each gives (none: the item is left out) -/
def loopC (f : PyData → Sto → R (Option PyData)) : List PyData → List PyData → Sto → R (List PyData)
  | [], acc, S => .ok acc S
  | x :: r, acc, S => match f x S with
    | .ok none S' => loopC f r acc S'
    | .ok (some y) S' => if acc.length < lim then loopC f r (acc ++ [y]) S' else .no
    | .ex _ _ => .no
    | .no => .no
def asBool (v : Val) (S : Sto) : R Bool := match v with
  | .d (.bool b) => .ok b S
  | _ => .no

def okD (o : Option PyData) (S : Sto) : R Val := match o with
  | some x => .ok (.d x) S
  | none => .no
def negV (v : Val) (S : Sto) : R Val := match v with
  | .d (.int i) => .ok (.d (.int (-i))) S
  | _ => .no
def binV (o : Op2) (v w : Val) (S : Sto) : R Val := match toD v S, toD w S with
  | some x, some y => okD (binD o x y) S
  | _, _ => .no
def cmpV (o : CO) (v w : Val) (S : Sto) : R Bool := match toD v S, toD w S with
  | some x, some y => lift (cmpD o x y) S
  | _, _ => .no
def ixV (v w : Val) (S : Sto) : R Val := match w with
  | .d y => (match v with
    | .s xs => okD (ixD (.list xs) y) S
    | v => match toD v S with
      | some x => okD (ixD x y) S
      | none => .no)
  | _ => .no
def slV (v : Val) (l h : Option Int) (S : Sto) : R Val := match toD v S with
  | some x => okD (slD x l h) S
  | none => .no
def biV (b : BI) (vs : List Val) (S : Sto) : R Val := match b, vs with
  | .len, [.s xs] => .ok (.d (.int xs.length)) S
  | b, vs => match allD S vs with
    | some xs => okD (biD b xs) S
    | none => .no
def isiV (t : TY) (v : Val) (S : Sto) : R Bool := match v with
  | .d x => .ok (isiD t x) S
  | _ => .no
def truV (v : Val) (S : Sto) : R Bool := match toD v S with
  | some x => lift (truD x) S
  | none => .no
def tupV (vs : List Val) (S : Sto) : R Val := match plain vs with
  | some xs => .ok (.d (.tuple xs)) S
  | none => .no
def lstV (m : Bool) (vs : List Val) (S : Sto) : R Val := match plain vs with
  | some xs => ret1 m (.list xs) S
  | none => .no
def dat1 (v : Val) (S : Sto) : R (Option PyData) := match v with
  | .d y => .ok (some y) S
  | _ => .no
def bV (b : Bool) (S : Sto) : R Val := .ok (.d (.bool b)) S
def itV (k : IK) (vs : List Val) (S : Sto) : R (List PyData) := match plain vs with
  | some xs => lift (itD k xs) S
  | none => .no
def onTg {α : Type} (tg : Tg) (x : PyData) (ρ : Env) (f : Env → R α) : R α := match bindTg tg x ρ with
  | some ρ' => f ρ'
  | none => .no
section
variable (C : Nat → List Val → Sto → R Val)
mutual
def evE : LE → Env → Sto → R Val
  | .var i, ρ, S => match ρ[i]? with
    | some (some v) => .ok v S
    | _ => .no
  | .frz i, ρ, S => match ρ[i]? with
    | some (some (.r n)) => match S[n]? with
      | some (.lst xs) => .ok (.d (.list xs)) (S.set n .gone)
      | _ => .no
    | _ => .no
  | .lit d, _, S => .ok (.d d) S
  | .glo _ d, _, S => .ok (.d d) S
  | .neg a, ρ, S => (evE a ρ S).bind negV
  | .bin o a b, ρ, S => (evE a ρ S).bind fun v S => (evE b ρ S).bind fun w S => binV o v w S
  | .cmp o a b, ρ, S => (evE a ρ S).bind fun v S => (evE b ρ S).bind fun w S => (cmpV o v w S).bind bV
  | .chain o p a b c, ρ, S => (evE a ρ S).bind fun v S => (evE b ρ S).bind fun w S => (cmpV o v w S).bind fun z S =>
      if z then (evE c ρ S).bind fun u S => (cmpV p w u S).bind bV else bV false S
  | .and a b, ρ, S => (evE a ρ S).bind fun v S => (asBool v S).bind fun x S => if x then evE b ρ S else bV false S
  | .or a b, ρ, S => (evE a ρ S).bind fun v S => (asBool v S).bind fun x S => if x then bV true S else evE b ρ S
  | .not a, ρ, S => (evE a ρ S).bind fun v S => (asBool v S).bind fun x S => bV (!x) S
  | .ite c a b, ρ, S => (evT c ρ S).bind fun x S => if x then evE a ρ S else evE b ρ S
  | .tup es, ρ, S => (evL es ρ S).bind tupV
  | .lst m es, ρ, S => (evL es ρ S).bind (lstV m)
  | .ix a i, ρ, S => (evE a ρ S).bind fun v S => (evE i ρ S).bind fun w S => ixV v w S
  | .sl a lo hi, ρ, S => (evE a ρ S).bind fun v S => (evP lo ρ S).bind fun l S => (evP hi ρ S).bind fun h S => slV v l h S
  | .call f es, ρ, S => (evL es ρ S).bind fun vs S => C f vs S
  | .bi b es, ρ, S => (evL es ρ S).bind fun vs S => biV b vs S
  | .isi a t, ρ, S => (evE a ρ S).bind fun v S => (isiV t v S).bind bV
  | .comp m k args tg own cond elt, ρ, S => (evL args ρ S).bind fun vs S => (itV k vs S).bind fun items S =>
      (loopC (fun x S => onTg tg x (wipeE ρ own) fun ρ' => (evO cond ρ' S).bind fun c S => if c then (evE elt ρ' S).bind dat1 else .ok none S) items [] S).bind fun ys S => ret1 m (.list ys) S
  | .lenset _, _, _ => .no
def evT : LE → Env → Sto → R Bool
  | .and a b, ρ, S => (evT a ρ S).bind fun x S => if x then evT b ρ S else .ok false S
  | .or a b, ρ, S => (evT a ρ S).bind fun x S => if x then .ok true S else evT b ρ S
  | .not a, ρ, S => (evT a ρ S).bind fun x S => .ok (!x) S
  | .cmp o a b, ρ, S => (evE a ρ S).bind fun v S => (evE b ρ S).bind fun w S => cmpV o v w S
  | .chain o p a b c, ρ, S => (evE a ρ S).bind fun v S => (evE b ρ S).bind fun w S => (cmpV o v w S).bind fun z S =>
      if z then (evE c ρ S).bind fun u S => cmpV p w u S else .ok false S
  | .var i, ρ, S => match ρ[i]? with
    | some (some v) => truV v S
    | _ => .no
  | .call f es, ρ, S => (evL es ρ S).bind fun vs S => (C f vs S).bind truV
  | .bi b es, ρ, S => (evL es ρ S).bind fun vs S => (biV b vs S).bind truV
  | .isi a t, ρ, S => (evE a ρ S).bind fun v S => isiV t v S
  | .ix a i, ρ, S => (evE a ρ S).bind fun v S => (evE i ρ S).bind fun w S => (ixV v w S).bind truV
  | _, _, _ => .no
def evL : List LE → Env → Sto → R (List Val)
  | [], _, S => .ok [] S
  | e :: es, ρ, S => (evE e ρ S).bind fun v S => (evL es ρ S).bind fun vs S => .ok (v :: vs) S
def evP : Option LE → Env → Sto → R (Option Int)
  | none, _, S => .ok none S
  | some e, ρ, S => (evE e ρ S).bind fun v S => match v with
    | .d (.int i) => .ok (some i) S
    | _ => .no
def evO : Option LE → Env → Sto → R Bool
  | none, _, S => .ok true S
  | some e, ρ, S => evT e ρ S
end

inductive Fl where
  | nx (ρ : Env)
  | ret (v : Val)
  | bk (ρ : Env)
  | ct (ρ : Env)
/-- the turns of a loop -/
def loopF (f : PyData → Env → Sto → R Fl) : List PyData → Env → Sto → R Fl
  | [], ρ, S => .ok (.nx ρ) S
  | x :: r, ρ, S => (f x ρ S).bind fun fl S => match fl with
    | .nx ρ => loopF f r ρ S
    | .ct ρ => loopF f r ρ S
    | .bk ρ => .ok (.nx ρ) S
    | .ret v => .ok (.ret v) S
def setVals (ρ : Env) : List Nat → List Val → Option Env
  | [], [] => some ρ
  | i :: is, x :: xs => setVals (ρ.set i (some x)) is xs
  | _, _ => none
def nxO (o : Option Env) (S : Sto) : R Fl := match o with
  | some ρ => .ok (.nx ρ) S
  | none => .no
def unpV (is : List Nat) (v : Val) (ρ : Env) (S : Sto) : R Fl := match v with
  | .d (.tuple xs) => nxO (setMany ρ is xs) S
  | .d (.list xs) => nxO (setMany ρ is xs) S
  | _ => .no
def setV (v k w : Val) (S : Sto) : R Unit := match v, k, w with
  | .r n, .d (.int j), .d x => (match S[n]? with
    | some (.lst xs) => (match L2.ixN xs.length j with
      | some q => .ok () (S.set n (.lst (xs.set q x)))
      | none => .no)
    | _ => .no)
  | _, _, _ => .no
def appV (v w : Val) (S : Sto) : R Unit := match v, w with
  | .r n, .d x => (match S[n]? with
    | some (.lst xs) => if xs.length < lim then .ok () (S.set n (.lst (xs ++ [x]))) else .no
    | _ => .no)
  | _, _ => .no
def needL (v : Val) (S : Sto) : R Unit := match v with
  | .r n => (match S[n]? with
    | some (.lst _) => .ok () S
    | _ => .no)
  | _ => .no
def augV (o : Op2) (v w : Val) (S : Sto) : R Val := match o, v, w with
  | .add, .d (.int x), .d (.int y) => .ok (.d (.int (x + y))) S
  | .sub, .d (.int x), .d (.int y) => .ok (.d (.int (x - y))) S
  | _, _, _ => .no
mutual
def exS : LS → Env → Sto → R Fl
  | .asg i e, ρ, S => (evE C e ρ S).bind fun v S => .ok (.nx (ρ.set i (some v))) S
  | .asgT is es, ρ, S => (evL C es ρ S).bind fun vs S => nxO (setVals ρ is vs) S
  | .unp is e, ρ, S => (evE C e ρ S).bind fun v S => unpV is v ρ S
  | .setix o i e, ρ, S => (evE C e ρ S).bind fun w S => (evE C o ρ S).bind fun v S => (evE C i ρ S).bind fun k S => (setV v k w S).bind fun _ S => .ok (.nx ρ) S
  | .app o e, ρ, S => (evE C o ρ S).bind fun v S => (needL v S).bind fun _ S => (evE C e ρ S).bind fun w S => (appV v w S).bind fun _ S => .ok (.nx ρ) S
  | .aug i o e, ρ, S => match ρ[i]? with
    | some (some x) => (evE C e ρ S).bind fun w S => (augV o x w S).bind fun z S => .ok (.nx (ρ.set i (some z))) S
    | _ => .no
  | .exp e, ρ, S => (evE C e ρ S).bind fun _ S => .ok (.nx ρ) S
  | .ret e, ρ, S => (evE C e ρ S).bind fun v S => .ok (.ret v) S
  | .ite c a b, ρ, S => (evT C c ρ S).bind fun x S => if x then exB a ρ S else exB b ρ S
  | .for k args tg body, ρ, S => (evL C args ρ S).bind fun vs S => (itV k vs S).bind fun items S =>
      loopF (fun x ρ S => onTg tg x ρ fun ρ' => exB body ρ' S) items ρ S
  | .raise c, _, S => .ex c S
  | .brk, ρ, S => .ok (.bk ρ) S
  | .cont, ρ, S => .ok (.ct ρ) S
  | .pass, ρ, S => .ok (.nx ρ) S
def exB : List LS → Env → Sto → R Fl
  | [], ρ, S => .ok (.nx ρ) S
  | s :: r, ρ, S => (exS s ρ S).bind fun fl S => match fl with
    | .nx ρ => exB r ρ S
    | fl => .ok fl S
end
end

structure LDef where
  np : Nat
  nn : Nat
  body : List LS
abbrev Tab := Nat → Option LDef
/-- a call's end: what the callee left behind is let go, unless the value names it -/
def fin (n : Nat) (v : Val) (S : Sto) : R Val := match v with
  | .d x => .ok (.d x) (S.take n)
  | .r k => .ok (.r k) S
  | .s _ => .no
def start (np nn : Nat) (vs : List Val) : Env := vs.map some ++ List.replicate (nn - np) none
def callF (F : Tab) : Nat → Nat → List Val → Sto → R Val
  | 0, _, _, _ => .no
  | k + 1, f, vs, S => match F f with
    | none => .no
    | some d => if vs.length = d.np then match exB (callF F k) d.body (start d.np d.nn vs) S with
        | .ok (.ret v) S' => fin S.length v S'
        | .ok (.nx _) S' => .ok (.d .none) (S'.take S.length)
        | .ok _ _ => .no
        | .ex c S' => .ex c (S'.take S.length)
        | .no => .no
      else .no
end Z

/-! That a text is a given text of the small language. -/
namespace Z
open PySem

mutual
def pdEq : PyData → PyData → Bool
  | .none, .none => true
  | .bool a, .bool b => a == b
  | .int a, .int b => decide (a = b)
  | .str a, .str b => decide (a = b)
  | .list a, .list b => pdEqL a b
  | .tuple a, .tuple b => pdEqL a b
  | _, _ => false
def pdEqL : List PyData → List PyData → Bool
  | [], [] => true
  | x :: xs, y :: ys => pdEq x y && pdEqL xs ys
  | _, _ => false
end
mutual
theorem pdEq_ok : ∀ {a b : PyData}, pdEq a b = true → a = b
  | .none, b, h => by cases b <;> first | rfl | (simp [pdEq] at h)
  | .bool x, b, h => by cases b <;> first | (simp only [pdEq, beq_iff_eq] at h; rw [h]) | (simp [pdEq] at h)
  | .int x, b, h => by cases b <;> first | (simp only [pdEq, decide_eq_true_eq] at h; rw [h]) | (simp [pdEq] at h)
  | .str x, b, h => by cases b <;> first | (simp only [pdEq, decide_eq_true_eq] at h; rw [h]) | (simp [pdEq] at h)
  | .list x, b, h => by cases b <;> first | (simp only [pdEq] at h; rw [pdEqL_ok h]) | (simp [pdEq] at h)
  | .tuple x, b, h => by cases b <;> first | (simp only [pdEq] at h; rw [pdEqL_ok h]) | (simp [pdEq] at h)
  | .dict x, b, h => by cases b <;> simp [pdEq] at h
theorem pdEqL_ok : ∀ {a b : List PyData}, pdEqL a b = true → a = b
  | [], b, h => by cases b <;> first | rfl | (simp [pdEqL] at h)
  | x :: xs, b, h => by
    cases b with
    | nil => simp [pdEqL] at h
    | cons y ys =>
      simp only [pdEqL, Bool.and_eq_true] at h
      rw [pdEq_ok h.1, pdEqL_ok h.2]
end

structure SC where
  N : List Str
  sc : Scope
  fns : List (Str × Nat)
  cons : List (Str × PyData)
  excs : List Str
  blt : List Str

def gl (c : SC) (x : Str) : Bool := decide (c.sc.names.lookup x = some .globalImplicit) && !(x == ("__debug__" : Str))
def isVis (c : SC) (x : Str) : Bool := match c.sc.names.lookup x with
  | some .local => true
  | some .cell => true
  | some .free => true
  | _ => false
def isLoc (sc : Scope) (x : Str) : Bool := match sc.names.lookup x with
  | some .local => true
  | some .cell => true
  | _ => false
def okVar (c : SC) (i : Nat) (x : Str) : Bool := decide (c.N[i]? = some x) && isVis c x && !(x == ("__debug__" : Str)) && !(x == ("__classdict__" : Str))
def okSet (c : SC) (i : Nat) (x : Str) : Bool := decide (c.N[i]? = some x) && isLoc c.sc x
def inCons (c : SC) (x : Str) (d : PyData) : Bool := match c.cons.lookup x with
  | some e => pdEq d e
  | none => false
def opOf : Op2 → Operator
  | .add => .Add | .sub => .Sub | .mul => .Mult | .fdiv => .FloorDiv | .mod => .Mod | .pow => .Pow
def coOf : CO → CmpOp
  | .eq => .Eq | .ne => .NotEq | .lt => .Lt | .le => .LtE | .gt => .Gt | .ge => .GtE | .is => .Is | .isn => .IsNot | .in_ => .In | .nin => .NotIn
def isSet : Expr → Bool
  | .Set .. => true
  | _ => false
def biName : BI → Str
  | .len => "len" | .abs => "abs" | .sum => "sum" | .all => "all" | .max => "max" | .min => "min" | .int => "int" | .str => "str" | .bool => "bool" | .tuple => "tuple" | .list => "list"
def tyName : TY → Str
  | .int => "int" | .bool => "bool" | .str => "str" | .tuple => "tuple" | .list => "list"
def itName : IK → Str
  | .seq => "" | .range => "range" | .enum => "enumerate" | .zip => "zip"
/-- a free name: a built-in's -/
def isBlt (c : SC) (x : Str) : Bool := gl c x && decide (x ∈ c.blt)
def ownP (N : List Str) (own : List Nat) : List (Str × Nat) := own.map fun i => (N.getD i Str.empty, i)
def chkTg1 (N : List Str) (sc : Scope) (i : Nat) : Expr → Bool
  | .Name x _ => decide (N[i]? = some x) && isLoc sc x
  | _ => false
def chkTgs (N : List Str) (sc : Scope) : List Nat → List Expr → Bool
  | [], [] => true
  | i :: is, e :: es => chkTg1 N sc i e && chkTgs N sc is es
  | _, _ => false
/-- a target -/
def chkTg (N : List Str) (sc : Scope) : Tg → Expr → Bool
  | .one i, e => chkTg1 N sc i e
  | .many is, .Tuple es _ _ => chkTgs N sc is es
  | .many _, _ => false
def tgIx : Tg → List Nat
  | .one i => [i]
  | .many is => is
def constEq : PyData → Const → Bool
  | .none, .none => true
  | .bool a, .bool b => a == b
  | .int a, .int b => decide (a = b)
  | .str a, .str b => decide (a = b)
  | _, _ => false
def slicy : Expr → Bool
  | .Slice .. => true
  | _ => false

def arity : IK → Nat → Bool
  | .seq, _ => false
  | .range, n => n == 1 || n == 2
  | .enum, n => n == 1
  | .zip, n => n == 2
def tgFor : IK → Tg → Bool
  | .range, _ => true
  | _, .many _ => true
  | _, _ => false
mutual
def chkE (c : SC) : LE → Expr → Bool
  | .var i, .Name x _ => okVar c i x
  | .frz i, .Name x _ => okVar c i x
  | .lit d, .Constant k _ _ => constEq d k
  | .glo x d, .Name y _ => decide (y = x) && gl c x && inCons c x d
  | .neg a, .UnaryOp .USub e _ => chkE c a e
  | .bin o a b, .BinOp e p f _ => decide (p = opOf o) && (chkE c a e && chkE c b f)
  | .cmp o a b, .Compare e [p] [f] _ => decide (p = coOf o) && !isSet f && (chkE c a e && chkE c b f)
  | .chain o p a b d, .Compare e [q, r] [f, g] _ => decide (q = coOf o) && decide (r = coOf p) && !isSet g && (chkE c a e && (chkE c b f && chkE c d g))
  | .and a b, .BoolOp .And (e :: f :: r) p => chkE c a e && (match r with
    | [] => chkE c b f
    | r => chkE c b (.BoolOp .And (f :: r) p))
  | .or a b, .BoolOp .Or (e :: f :: r) p => chkE c a e && (match r with
    | [] => chkE c b f
    | r => chkE c b (.BoolOp .Or (f :: r) p))
  | .not a, .UnaryOp .Not e _ => chkE c a e
  | .ite t a b, .IfExp e f g _ => chkE c t e && (chkE c a f && chkE c b g)
  | .tup es, .Tuple fs _ _ => decide (es.length ≤ 1000) && chkL c es fs
  | .lst _ es, .List fs _ => decide (es.length ≤ 1000) && chkL c es fs
  | .ix a i, .Subscript e f _ => !slicy f && (chkE c a e && chkE c i f)
  | .sl a lo hi, .Subscript e (.Slice l h none _) _ => chkE c a e && (chkP c lo l && chkP c hi h)
  | .call n es, .Call (.Name x _) fs [] _ => gl c x && decide (c.fns.lookup x = some n) && chkL c es fs
  | .bi b es, .Call (.Name x _) fs [] _ => isBlt c x && decide (x = biName b) && !es.isEmpty && chkL c es fs
  | .isi a t, .Call (.Name x _) [e, .Name y _] [] _ => isBlt c x && decide (x = "isinstance") && isBlt c y && decide (y = tyName t) && chkE c a e
  | .comp _ k args tg own cond elt, .ListComp e [⟨t, it, ifs, ay⟩] scope _ => decide (ay = 0) &&
    L2.blkC c.N c.sc scope (ownP c.N own) && own.all (fun i => decide (i < c.N.length)) && chkTg c.N scope tg t && (tgIx tg).all (fun i => decide (i ∈ own)) && !isSet it &&
      (match k with
       | .seq => (match args with
         | [a] => chkE c a it
         | _ => false)
       | k => (match it with
         | .Call (.Name x _) fs [] _ => isBlt c x && decide (x = itName k) && arity k fs.length && chkL c args fs && tgFor k tg
         | _ => false)) && chkIfs { c with sc := L2.relS scope c.sc } cond ifs && chkE { c with sc := L2.relS scope c.sc } elt e
  | _, _ => false
def chkL (c : SC) : List LE → List Expr → Bool
  | [], [] => true
  | a :: as, e :: es => chkE c a e && chkL c as es
  | _, _ => false
def chkP (c : SC) : Option LE → Option Expr → Bool
  | none, none => true
  | some a, some e => chkE c a e
  | _, _ => false
def chkIfs (c : SC) : Option LE → List Expr → Bool
  | none, [] => true
  | some a, [e] => chkE c a e
  | _, _ => false
end

/-- what a loop walks -/
def chkIt (c : SC) (k : IK) (args : List LE) (tg : Tg) (it : Expr) : Bool := !isSet it && match k with
  | .seq => (match args with
    | [a] => chkE c a it
    | _ => false)
  | k => (match it with
    | .Call (.Name x _) fs [] _ => isBlt c x && decide (x = itName k) && arity k fs.length && chkL c args fs && tgFor k tg
    | _ => false)
def isComp : Expr → Bool
  | .ListComp .. => true
  | .SetComp .. => true
  | .DictComp .. => true
  | _ => false
def isTup : Expr → Bool
  | .Tuple .. => true
  | _ => false
def namesAll (sc : Scope) (line : Nat) : List Expr → Option (List Str)
  | [] => some []
  | .Name x p :: r => if decide (sc.names.lookup x = some .local) && p.line == line then (namesAll sc line r).map (x :: ·) else none
  | _ => none
/-- the stores are swapped: two or three local names, not all constants -/
def swapT (sc : Scope) (ts vs : List Expr) : Bool := (ts.length == 2 || ts.length == 3) && (match namesAll sc ((ts.head?.map (·.pos.line)).getD 0) ts with
  | some ns => decide ns.Nodup && !vs.all (foldedForSure 8) && !vs.all (constantsAlone 8)
  | none => false)
def nameLoc (sc : Scope) : Expr → Bool
  | .Name x _ => decide (sc.names.lookup x = some .local)
  | _ => false
/-- they are not: another number of names, a name that is a cell, constants -/
def noSwapT (sc : Scope) (ts vs : List Expr) : Bool := !(ts.length == 2 || ts.length == 3) || !ts.all (nameLoc sc) || vs.all (foldedForSure 8)
mutual
def chkS (c : SC) : LS → Stmt → Bool
  | .asg i e, .Assign [.Name x _] f _ => okSet c i x && chkE c e f
  | .asgT is es, .Assign [.Tuple ts _ _] (.Tuple fs _ _) _ => chkTgs c.N c.sc is ts && decide (ts.length = fs.length) && decide (es.length ≤ 1000) && (swapT c.sc ts fs || noSwapT c.sc ts fs) && chkL c es fs
  | .unp is e, .Assign [.Tuple ts _ _] f _ => chkTgs c.N c.sc is ts && !isTup f && chkE c e f
  | .setix o i e, .Assign [.Subscript f g _] h _ => !isComp h && !slicy g && (chkE c o f && (chkE c i g && chkE c e h))
  | .app (.var o) e, .Expr (.Call (.Attribute (.Name x _) m ap) [g] [] cp) _ => decide (m = "append") && (ap.endLine == cp.line) && (okVar c o x && chkE c e g)
  | .aug i o e, .AugAssign (.Name x _) p f _ => okSet c i x && decide (p = opOf o) && chkE c e f
  | .exp e, .Expr f _ => !isComp f && chkE c e f
  | .ret e, .Return (some f) _ => chkE c e f
  | .ite t a b, .If f g h _ => chkE c t f && (chkB c a g && chkB c b h)
  | .for k args tg body, .For t it g [] _ => chkTg c.N c.sc tg t && chkIt c k args tg it && chkB c body g
  | .raise x, .Raise (some (.Call (.Name y _) [.Constant (.str _) _ _] [] _)) none _ => decide (y = x) && gl c x && decide (x ∈ c.excs)
  | .brk, .Break _ => true
  | .cont, .Continue _ => true
  | .pass, .Pass _ => true
  | .pass, .Expr (.Constant (.str _) _ _) _ => true
  | _, _ => false
def chkB (c : SC) : List LS → List Stmt → Bool
  | [], [] => true
  | a :: as, s :: ss => chkS c a s && chkB c as ss
  | _, _ => false
end
end Z

/-! What stands for data in the abstract heap; how the heap may go on. -/
namespace Z
open PySem PySem.Spec PyProof.Rows L2

/-- m: the store's places (none: let go); z: lists that are being made, which nothing may name -/
structure MM where
  m : List (Option Addr)
  z : List Addr
def Fre (M : MM) (a : Addr) : Prop := some a ∉ M.m ∧ a ∉ M.z
mutual
/-- the value v is the data d; the places at M may be changed, so no list of d stands there -/
def Rep (K : PySem.W.Frag) (M : MM) (H : Hp) : PyData → V → Prop
  | .none, v => v = .non
  | .bool b, v => v = .bl b
  | .int i, v => v = .int i
  | .str s, v => v = .str s
  | .list ds, v => ∃ a vs, v = .ref a ∧ Fre M a ∧ H a = some (.lst vs) ∧ RepL K M H ds vs
  | .tuple ds, v => ∃ a vs, v = .ref a ∧ SqT K H a vs ∧ RepL K M H ds vs
  | .dict _, _ => False
def RepL (K : PySem.W.Frag) (M : MM) (H : Hp) : List PyData → List V → Prop
  | [], vs => vs = []
  | d :: ds, vs => ∃ v r, vs = v :: r ∧ Rep K M H d v ∧ RepL K M H ds r
end
def RepV (K : PySem.W.Frag) (M : MM) (H : Hp) : Val → V → Prop
  | .d x, v => Rep K M H x v
  | .r n, v => ∃ a, v = .ref a ∧ (M.m[n]? = some none ∨ M.m[n]? = some (some a))
  | .s xs, v => ∃ a vs, v = .ref a ∧ ((∃ o, H a = some (.frz o (.lst vs))) ∨ ∃ (o : Obj) (its : Array Value) (n : Nat), K.lookup a = some o ∧ o.cls = .type "list" ∧ o.dict = none ∧ o.data = .seq its n ∧ its.size ≤ sizeLine ∧ Vals vs its.toList) ∧ ∃ ns : List Int, vs = ns.map V.int ∧ xs = ns.map PyData.int
def RepVs (K : PySem.W.Frag) (M : MM) (H : Hp) : List Val → List V → Prop
  | [], vs => vs = []
  | d :: ds, vs => ∃ v r, vs = v :: r ∧ RepV K M H d v ∧ RepVs K M H ds r

structure Ext (M : MM) (H : Hp) (M' : MM) (H' : Hp) : Prop where
  len : M.m.length ≤ M'.m.length
  old : ∀ n, n < M.m.length → M'.m[n]? = some none ∨ M'.m[n]? = M.m[n]?
  new : ∀ a, some a ∈ M'.m → some a ∈ M.m ∨ H a = none
  zz : M'.z = M.z
  lst : ∀ a xs, H a = some (.lst xs) → some a ∉ M.m → H' a = some (.lst xs)
  tup : ∀ a xs, H a = some (.tup xs) → H' a = some (.tup xs)
  frz : ∀ a o u, H a = some (.frz o u) → H' a = some (.frz o u)
  nn : ∀ a, H a ≠ none → H' a ≠ none

theorem Ext.refl (M : MM) (H : Hp) : Ext M H M H := ⟨Nat.le_refl _, fun _ _ => .inr rfl, fun _ h => .inl h, rfl, fun _ _ h _ => h, fun _ _ h => h, fun _ _ _ h => h, fun _ h => h⟩
theorem Ext.notin {M M' : MM} {H H' : Hp} (e : Ext M H M' H') {a : Addr} {o : HO} (h : H a = some o) (n : some a ∉ M.m) : some a ∉ M'.m := fun z => by
  rcases e.new a z with q | q
  · exact n q
  · rw [h] at q; cases q
theorem Ext.fre {M M' : MM} {H H' : Hp} (e : Ext M H M' H') {a : Addr} {o : HO} (h : H a = some o) (n : Fre M a) : Fre M' a := ⟨e.notin h n.1, by rw [e.zz]; exact n.2⟩
theorem Ext.trans {M M' M'' : MM} {H H' H'' : Hp} (e : Ext M H M' H') (f : Ext M' H' M'' H'') : Ext M H M'' H'' where
  len := Nat.le_trans e.len f.len
  old := fun n hn => by
    rcases f.old n (Nat.lt_of_lt_of_le hn e.len) with q | q
    · exact .inl q
    · rw [q]; exact e.old n hn
  new := fun a h => by
    rcases f.new a h with q | q
    · exact e.new a q
    · by_cases z : H a = none
      · exact .inr z
      · exact absurd q (e.nn a z)
  zz := f.zz.trans e.zz
  lst := fun a xs h n => f.lst a xs (e.lst a xs h n) (e.notin h n)
  tup := fun a xs h => f.tup a xs (e.tup a xs h)
  frz := fun a o u h => f.frz a o u (e.frz a o u h)
  nn := fun a h => f.nn a (e.nn a h)

section
variable {K : PySem.W.Frag} {M M' : MM} {H H' : Hp}
theorem sqT_ext (e : Ext M H M' H') {a : Addr} {xs : List V} (h : SqT K H a xs) : SqT K H' a xs := by
  rcases h with (h | ⟨o, h⟩) | h
  · exact .inl (.inl (e.tup _ _ h))
  · exact .inl (.inr ⟨o, e.frz _ _ _ h⟩)
  · exact .inr h
mutual
theorem Rep.ext (e : Ext M H M' H') : ∀ {d : PyData} {v : V}, Rep K M H d v → Rep K M' H' d v
  | .none, _, h => h
  | .bool _, _, h => h
  | .int _, _, h => h
  | .str _, _, h => h
  | .list ds, v, h => by
    obtain ⟨a, vs, e1, e2, e3, e4⟩ := (show ∃ a vs, v = .ref a ∧ Fre M a ∧ H a = some (.lst vs) ∧ RepL K M H ds vs from h)
    exact ⟨a, vs, e1, e.fre e3 e2, e.lst _ _ e3 e2.1, RepL.ext e e4⟩
  | .tuple ds, v, h => by
    obtain ⟨a, vs, e1, e2, e3⟩ := (show ∃ a vs, v = .ref a ∧ SqT K H a vs ∧ RepL K M H ds vs from h)
    exact ⟨a, vs, e1, sqT_ext e e2, RepL.ext e e3⟩
  | .dict _, _, h => h
theorem RepL.ext (e : Ext M H M' H') : ∀ {ds : List PyData} {vs : List V}, RepL K M H ds vs → RepL K M' H' ds vs
  | [], _, h => h
  | d :: ds, vs, h => by
    obtain ⟨v, r, e1, e2, e3⟩ := (show ∃ v r, vs = v :: r ∧ Rep K M H d v ∧ RepL K M H ds r from h)
    exact ⟨v, r, e1, Rep.ext e e2, RepL.ext e e3⟩
end
theorem RepV.ext (e : Ext M H M' H') {d : Val} {v : V} (h : RepV K M H d v) : RepV K M' H' d v := by
  cases d with
  | d x => exact Rep.ext e h
  | r n =>
    obtain ⟨a, e1, e2⟩ := h
    refine ⟨a, e1, ?_⟩
    have hn : n < M.m.length := by
      rcases e2 with q | q <;> exact (List.getElem?_eq_some_iff.mp q).1
    rcases e.old n hn with q | q
    · exact .inl q
    · rw [q]; exact e2
  | s xs =>
    obtain ⟨a, vs, e1, e2, e3⟩ := h
    refine ⟨a, vs, e1, ?_, e3⟩
    rcases e2 with ⟨o, q⟩ | q
    · exact .inl ⟨o, e.frz _ _ _ q⟩
    · exact .inr q
theorem RepVs.ext (e : Ext M H M' H') : ∀ {ds : List Val} {vs : List V}, RepVs K M H ds vs → RepVs K M' H' ds vs
  | [], _, h => h
  | d :: ds, vs, h => by
    obtain ⟨v, r, e1, e2, e3⟩ := (show ∃ v r, vs = v :: r ∧ RepV K M H d v ∧ RepVs K M H ds r from h)
    exact ⟨v, r, e1, e2.ext e, RepVs.ext e e3⟩
theorem RepL.length : ∀ {ds : List PyData} {vs : List V}, RepL K M H ds vs → ds.length = vs.length
  | [], vs, h => by rw [show vs = [] from h]; rfl
  | d :: ds, vs, h => by
    obtain ⟨v, r, e1, _, e3⟩ := (show ∃ v r, vs = v :: r ∧ Rep K M H d v ∧ RepL K M H ds r from h)
    rw [e1, List.length_cons, List.length_cons, RepL.length e3]
theorem RepVs.length : ∀ {ds : List Val} {vs : List V}, RepVs K M H ds vs → ds.length = vs.length
  | [], vs, h => by rw [show vs = [] from h]; rfl
  | d :: ds, vs, h => by
    obtain ⟨v, r, e1, _, e3⟩ := (show ∃ v r, vs = v :: r ∧ RepV K M H d v ∧ RepVs K M H ds r from h)
    rw [e1, List.length_cons, List.length_cons, RepVs.length e3]
theorem RepL.get : ∀ {ds : List PyData} {vs : List V} {i : Nat} {d : PyData}, RepL K M H ds vs → ds[i]? = some d → ∃ v, vs[i]? = some v ∧ Rep K M H d v
  | [], _, _, _, _, e => by simp at e
  | d :: ds, vs, i, x, h, e => by
    obtain ⟨v, r, e1, e2, e3⟩ := (show ∃ v r, vs = v :: r ∧ Rep K M H d v ∧ RepL K M H ds r from h)
    subst e1
    cases i with
    | zero => simp only [List.getElem?_cons_zero, Option.some.injEq] at e; subst e; exact ⟨v, rfl, e2⟩
    | succ i => simp only [List.getElem?_cons_succ] at e ⊢; exact RepL.get e3 e
theorem RepL.append : ∀ {ds es : List PyData} {vs ws : List V}, RepL K M H ds vs → RepL K M H es ws → RepL K M H (ds ++ es) (vs ++ ws)
  | [], es, vs, ws, h, g => by rw [show vs = [] from h]; exact g
  | d :: ds, es, vs, ws, h, g => by
    obtain ⟨v, r, e1, e2, e3⟩ := (show ∃ v r, vs = v :: r ∧ Rep K M H d v ∧ RepL K M H ds r from h)
    subst e1
    exact ⟨v, r ++ ws, rfl, e2, RepL.append e3 g⟩
theorem RepL.take : ∀ (n : Nat) {ds : List PyData} {vs : List V}, RepL K M H ds vs → RepL K M H (ds.take n) (vs.take n)
  | 0, _, _, _ => rfl
  | n + 1, [], vs, h => by rw [show vs = [] from h]; rfl
  | n + 1, d :: ds, vs, h => by
    obtain ⟨v, r, e1, e2, e3⟩ := (show ∃ v r, vs = v :: r ∧ Rep K M H d v ∧ RepL K M H ds r from h)
    subst e1
    exact ⟨v, r.take n, rfl, e2, RepL.take n e3⟩
theorem RepL.drop : ∀ (n : Nat) {ds : List PyData} {vs : List V}, RepL K M H ds vs → RepL K M H (ds.drop n) (vs.drop n)
  | 0, _, _, h => h
  | n + 1, [], vs, h => by rw [show vs = [] from h]; rfl
  | n + 1, d :: ds, vs, h => by
    obtain ⟨v, r, e1, e2, e3⟩ := (show ∃ v r, vs = v :: r ∧ Rep K M H d v ∧ RepL K M H ds r from h)
    subst e1
    exact RepL.drop n e3
theorem RepL.set {d : PyData} {v : V} (h0 : Rep K M H d v) : ∀ (i : Nat) {ds : List PyData} {vs : List V}, RepL K M H ds vs → RepL K M H (ds.set i d) (vs.set i v)
  | _, [], vs, h => by rw [show vs = [] from h]; rfl
  | 0, x :: ds, vs, h => by
    obtain ⟨v', r, e1, e2, e3⟩ := (show ∃ v r, vs = v :: r ∧ Rep K M H x v ∧ RepL K M H ds r from h)
    subst e1
    exact ⟨v, r, rfl, h0, e3⟩
  | i + 1, x :: ds, vs, h => by
    obtain ⟨v', r, e1, e2, e3⟩ := (show ∃ v r, vs = v :: r ∧ Rep K M H x v ∧ RepL K M H ds r from h)
    subst e1
    exact ⟨v', r.set i v, rfl, e2, RepL.set h0 i e3⟩
theorem RepL.rep {ds : List PyData} {vs : List V} (h : RepL K M H ds vs) : ∀ n : Nat, RepL K M H (List.replicate n ds).flatten (List.replicate n vs).flatten
  | 0 => rfl
  | n + 1 => by
    rw [List.replicate_succ, List.replicate_succ, List.flatten_cons, List.flatten_cons]
    exact h.append (RepL.rep h n)
mutual
theorem Rep.dp : ∀ {d : PyData} {v : V}, Rep K M H d v → Dp K H v d
  | .none, v, h => by rw [show v = .non from h]; exact .non
  | .bool b, v, h => by rw [show v = .bl b from h]; exact .bl b
  | .int i, v, h => by rw [show v = .int i from h]; exact .int i
  | .str s, v, h => by rw [show v = .str s from h]; exact .str s
  | .list ds, v, h => by
    obtain ⟨a, vs, e1, e2, e3, e4⟩ := (show ∃ a vs, v = .ref a ∧ Fre M a ∧ H a = some (.lst vs) ∧ RepL K M H ds vs from h)
    subst e1
    exact .lst (SqL.of e3) (RepL.dp e4)
  | .tuple ds, v, h => by
    obtain ⟨a, vs, e1, e2, e3⟩ := (show ∃ a vs, v = .ref a ∧ SqT K H a vs ∧ RepL K M H ds vs from h)
    subst e1
    exact .tup e2 (RepL.dp e3)
  | .dict _, _, h => h.elim
theorem RepL.dp : ∀ {ds : List PyData} {vs : List V}, RepL K M H ds vs → DpAll K H vs ds
  | [], vs, h => by rw [show vs = [] from h]; exact .nil
  | d :: ds, vs, h => by
    obtain ⟨v, r, e1, e2, e3⟩ := (show ∃ v r, vs = v :: r ∧ Rep K M H d v ∧ RepL K M H ds r from h)
    subst e1
    exact .cons (Rep.dp e2) (RepL.dp e3)
end
theorem RepL.ints : ∀ {ds : List PyData} {ns : List Int} {vs : List V}, intsOf ds = some ns → RepL K M H ds vs → vs = ns.map V.int
  | [], ns, vs, e, h => by
    simp only [intsOf, Option.some.injEq] at e
    subst e
    exact h
  | d :: ds, ns, vs, e, h => by
    obtain ⟨v, r, e1, e2, e3⟩ := (show ∃ v r, vs = v :: r ∧ Rep K M H d v ∧ RepL K M H ds r from h)
    subst e1
    cases d with
    | int i =>
      simp only [intsOf, Option.map_eq_some_iff] at e
      obtain ⟨ms, h1, h2⟩ := e
      subst h2
      rw [RepL.ints h1 e3, show v = .int i from e2]
      rfl
    | _ => simp [intsOf] at e
theorem RepL.bools : ∀ {ds : List PyData} {ns : List Bool} {vs : List V}, boolsOf ds = some ns → RepL K M H ds vs → vs = ns.map V.bl
  | [], ns, vs, e, h => by
    simp only [boolsOf, Option.some.injEq] at e
    subst e
    exact h
  | d :: ds, ns, vs, e, h => by
    obtain ⟨v, r, e1, e2, e3⟩ := (show ∃ v r, vs = v :: r ∧ Rep K M H d v ∧ RepL K M H ds r from h)
    subst e1
    cases d with
    | bool i =>
      simp only [boolsOf, Option.map_eq_some_iff] at e
      obtain ⟨ms, h1, h2⟩ := e
      subst h2
      rw [RepL.bools h1 e3, show v = .bl i from e2]
      rfl
    | _ => simp [boolsOf] at e
end

/-- the store as it stands in the heap -/
structure StoreOk (T : List (Addr × Str)) (K : PySem.W.Frag) (M : MM) (H : Hp) (S : Sto) : Prop where
  len : M.m.length = S.length
  inj : ∀ (n m : Nat) (a : Addr), M.m[n]? = some (some a) → M.m[m]? = some (some a) → n = m
  ent : ∀ (n : Nat) xs, S[n]? = some (.lst xs) → ∃ a vs, M.m[n]? = some (some a) ∧ H a = some (.lst vs) ∧ RepL K M H xs vs
  gon : ∀ n : Nat, S[n]? = some .gone → M.m[n]? = some none
  prv : ∀ a, a ∈ M.z → some a ∉ M.m ∧ ∃ vs, H a = some (.lst vs)
  tab : LamX.Tabs T H
section
variable {T : List (Addr × Str)} {K : PySem.W.Frag} {M M' : MM} {H H' : Hp} {S : Sto}
/-- what may be changed is a list -/
theorem StoreOk.mut (s : StoreOk T K M H S) {a : Addr} (h : some a ∈ M.m) : ∃ (n : Nat) (xs : List PyData) (vs : List V), S[n]? = some (SE.lst xs) ∧ M.m[n]? = some (some a) ∧ H a = some (HO.lst vs) := by
  obtain ⟨n, hn⟩ := List.mem_iff_getElem?.mp h
  have hl : n < S.length := by rw [← s.len]; exact (List.getElem?_eq_some_iff.mp hn).1
  cases e : S[n]? with
  | none => exact absurd (List.getElem?_eq_none_iff.mp e) (by omega)
  | some x =>
    cases x with
    | lst xs =>
      obtain ⟨b, vs, h1, h2, _⟩ := s.ent n xs e
      rw [hn] at h1
      cases h1
      exact ⟨n, xs, vs, e, hn, h2⟩
    | gone =>
      have := s.gon n e
      rw [hn] at this
      cases this
theorem StoreOk.fresh (s : StoreOk T K M H S) {p : Addr} (hp : H p = none) : some p ∉ M.m := fun z => by
  obtain ⟨_, _, _, _, _, h⟩ := s.mut z
  rw [hp] at h; cases h
theorem StoreOk.fre (s : StoreOk T K M H S) {p : Addr} (hp : H p = none) : Fre M p := ⟨s.fresh hp, fun z => by
  obtain ⟨_, _, h⟩ := s.prv p z
  rw [hp] at h; cases h⟩
theorem StoreOk.notTup (s : StoreOk T K M H S) {a : Addr} {o : HO} (h : H a = some o) (ho : ∀ xs, o ≠ .lst xs) : some a ∉ M.m := fun z => by
  obtain ⟨_, _, vs, _, _, h'⟩ := s.mut z
  rw [h] at h'; cases h'; exact ho _ rfl
/-- a new object is laid -/
theorem ext_new {p : Addr} {o : HO} (hp : H p = none) : Ext M H M (upd H p o) where
  len := Nat.le_refl _
  old := fun _ _ => .inr rfl
  new := fun _ h => .inl h
  zz := rfl
  lst := fun a xs h _ => by rw [upd_ne (ne_of_none h hp)]; exact h
  tup := fun a xs h => by rw [upd_ne (ne_of_none h hp)]; exact h
  frz := fun a o u h => by rw [upd_ne (ne_of_none h hp)]; exact h
  nn := fun a h z => by
    cases q : H a with
    | none => exact h q
    | some u =>
      rw [upd_ne (ne_of_none q hp), q] at z
      cases z
theorem upd_keep {p : Addr} {o : HO} (hp : H p = none) : ∀ b u, H b = some u → upd H p o b = some u := fun b u e => by rw [upd_ne (ne_of_none e hp)]; exact e
theorem StoreOk.new (s : StoreOk T K M H S) {p : Addr} {o : HO} (hp : H p = none) : StoreOk T K M (upd H p o) S where
  len := s.len
  inj := s.inj
  ent := fun n xs e => by
    obtain ⟨a, vs, h1, h2, h3⟩ := s.ent n xs e
    exact ⟨a, vs, h1, upd_keep hp _ _ h2, h3.ext (ext_new hp)⟩
  gon := s.gon
  prv := fun a h => by
    obtain ⟨h1, vs, h2⟩ := s.prv a h
    exact ⟨h1, vs, upd_keep hp _ _ h2⟩
  tab := s.tab.ext (upd_keep hp)
theorem rep_new_tup {p : Addr} {ds : List PyData} {vs : List V} (hp : H p = none) (r : RepL K M H ds vs) : Rep K M (upd H p (.tup vs)) (.tuple ds) (.ref p) :=
  ⟨p, vs, rfl, .inl (.inl upd_same), r.ext (ext_new hp)⟩
theorem rep_new_lst (s : StoreOk T K M H S) {p : Addr} {ds : List PyData} {vs : List V} (hp : H p = none) (r : RepL K M H ds vs) : Rep K M (upd H p (.lst vs)) (.list ds) (.ref p) :=
  ⟨p, vs, rfl, s.fre hp, upd_same, r.ext (ext_new hp)⟩
/-- a new list that may be changed -/
def MM.push (M : MM) (p : Addr) : MM := ⟨M.m ++ [some p], M.z⟩
theorem ext_push {p : Addr} {o : HO} (hp : H p = none) : Ext M H (M.push p) (upd H p o) where
  len := by simp [MM.push]
  old := fun n hn => .inr (List.getElem?_append_left hn)
  new := fun a h => by
    rcases List.mem_append.mp h with q | q
    · exact .inl q
    · simp only [List.mem_singleton, Option.some.injEq] at q
      subst q
      exact .inr hp
  zz := rfl
  lst := fun a xs h _ => upd_keep hp _ _ h
  tup := fun a xs h => upd_keep hp _ _ h
  frz := fun a o u h => upd_keep hp _ _ h
  nn := (ext_new (M := M) hp).nn
theorem StoreOk.push (s : StoreOk T K M H S) {p : Addr} {ds : List PyData} {vs : List V} (hp : H p = none) (r : RepL K M H ds vs) : StoreOk T K (M.push p) (upd H p (.lst vs)) (S ++ [.lst ds]) where
  len := by simp [MM.push, s.len]
  inj := fun n m a h1 h2 => by
    have key : ∀ {n : Nat}, (M.m ++ [some p])[n]? = some (some a) → (n < M.m.length ∧ M.m[n]? = some (some a)) ∨ (n = M.m.length ∧ a = p) := fun {n} h => by
      by_cases hn : n < M.m.length
      · rw [List.getElem?_append_left hn] at h; exact .inl ⟨hn, h⟩
      · have hlt : n < (M.m ++ [some p]).length := (List.getElem?_eq_some_iff.mp h).1
        have hn' : n = M.m.length := by simp at hlt; omega
        subst hn'
        simp at h
        exact .inr ⟨rfl, h.symm⟩
    rcases key h1 with ⟨l1, q1⟩ | ⟨l1, q1⟩ <;> rcases key h2 with ⟨l2, q2⟩ | ⟨l2, q2⟩
    · exact s.inj n m a q1 q2
    · subst q2; exact absurd (List.mem_of_getElem? q1) (s.fresh hp)
    · subst q1; exact absurd (List.mem_of_getElem? q2) (s.fresh hp)
    · rw [l1, l2]
  ent := fun n xs e => by
    by_cases hn : n < S.length
    · rw [List.getElem?_append_left hn] at e
      obtain ⟨a, ws, h1, h2, h3⟩ := s.ent n xs e
      exact ⟨a, ws, by rw [show (M.push p).m = M.m ++ [some p] from rfl, List.getElem?_append_left (by rw [s.len]; exact hn)]; exact h1, upd_keep hp _ _ h2, h3.ext (ext_push hp)⟩
    · have hlt : n < (S ++ [SE.lst ds]).length := (List.getElem?_eq_some_iff.mp e).1
      have hn' : n = S.length := by simp at hlt; omega
      subst hn'
      simp at e
      subst e
      exact ⟨p, vs, by rw [← s.len]; simp [MM.push], upd_same, r.ext (ext_push hp)⟩
  gon := fun n e => by
    by_cases hn : n < S.length
    · rw [List.getElem?_append_left hn] at e
      rw [show (M.push p).m = M.m ++ [some p] from rfl, List.getElem?_append_left (by rw [s.len]; exact hn)]
      exact s.gon n e
    · have hlt : n < (S ++ [SE.lst ds]).length := (List.getElem?_eq_some_iff.mp e).1
      have hn' : n = S.length := by simp at hlt; omega
      subst hn'
      simp at e
  prv := fun a h => by
    obtain ⟨h1, vs, h2⟩ := s.prv a h
    refine ⟨fun z => ?_, vs, upd_keep hp _ _ h2⟩
    rcases List.mem_append.mp z with q | q
    · exact h1 q
    · simp only [List.mem_singleton, Option.some.injEq] at q
      subst q
      rw [hp] at h2; cases h2
  tab := s.tab.ext (upd_keep hp)
/-- a list is changed -/
theorem ext_write {n : Nat} {a : Addr} {vs ws : List V} (s : StoreOk T K M H S) (hn : M.m[n]? = some (some a)) (ha : H a = some (.lst vs)) : Ext M H M (upd H a (.lst ws)) where
  len := Nat.le_refl _
  old := fun _ _ => .inr rfl
  new := fun _ h => .inl h
  zz := rfl
  lst := fun b xs h z => by
    rw [upd_ne fun e => z (by rw [e]; exact List.mem_of_getElem? hn)]
    exact h
  tup := fun b xs h => by
    rw [upd_ne fun e => by rw [e, ha] at h; cases h]
    exact h
  frz := fun b o u h => by
    rw [upd_ne fun e => by rw [e, ha] at h; cases h]
    exact h
  nn := fun b h => by
    by_cases e : b = a
    · subst e; rw [upd_same]; intro z; cases z
    · rw [upd_ne e]; exact h
theorem StoreOk.write {n : Nat} {a : Addr} {vs ws : List V} {ds : List PyData} (s : StoreOk T K M H S) (hn : M.m[n]? = some (some a)) (ha : H a = some (.lst vs)) (r : RepL K M H ds ws) : StoreOk T K M (upd H a (.lst ws)) (S.set n (.lst ds)) where
  len := by rw [List.length_set]; exact s.len
  inj := s.inj
  ent := fun m xs e => by
    have hl : n < S.length := by rw [← s.len]; exact (List.getElem?_eq_some_iff.mp hn).1
    by_cases hm : n = m
    · subst hm
      rw [List.getElem?_set_self hl] at e
      cases e
      exact ⟨a, ws, hn, upd_same, r.ext (ext_write s hn ha)⟩
    · rw [List.getElem?_set_ne hm] at e
      obtain ⟨b, us, h1, h2, h3⟩ := s.ent m xs e
      exact ⟨b, us, h1, by rw [upd_ne fun z => hm (s.inj n m a hn (by rw [← z]; exact h1))]; exact h2, h3.ext (ext_write s hn ha)⟩
  gon := fun m e => by
    have hl : n < S.length := by rw [← s.len]; exact (List.getElem?_eq_some_iff.mp hn).1
    by_cases hm : n = m
    · subst hm
      rw [List.getElem?_set_self hl] at e
      cases e
    · rw [List.getElem?_set_ne hm] at e
      exact s.gon m e
  prv := fun b h => by
    obtain ⟨h1, us, h2⟩ := s.prv b h
    exact ⟨h1, us, by rw [upd_ne fun z => h1 (by rw [z]; exact List.mem_of_getElem? hn)]; exact h2⟩
  tab := fun p hp => by
    obtain ⟨ps, h1, h2, h3⟩ := s.tab p hp
    refine ⟨ps, by rw [upd_ne fun e => by rw [e, ha] at h1; cases h1]; exact h1, h2, fun pos cv hc => ?_⟩
    obtain ⟨c, q1, q2⟩ := h3 pos cv hc
    exact ⟨c, q1, by rw [upd_ne fun e => by rw [e, ha] at q2; unfold LamX.CodeO at q2; cases q2]; exact q2⟩
/-- a list is let go: it is plain from now on -/
def MM.gone (M : MM) (n : Nat) : MM := ⟨M.m.set n none, M.z⟩
theorem ext_gone {n : Nat} : Ext M H (M.gone n) H where
  len := by simp [MM.gone]
  old := fun m hm => by
    by_cases e : n = m
    · subst e; exact .inl (List.getElem?_set_self hm)
    · exact .inr (List.getElem?_set_ne e)
  new := fun a h => by
    obtain ⟨m, hm⟩ := List.mem_iff_getElem?.mp h
    by_cases e : n = m
    · subst e
      have hm : (M.m.set n none)[n]? = some (some a) := hm
      have hl : n < M.m.length := by
        have := (List.getElem?_eq_some_iff.mp hm).1
        simpa using this
      rw [List.getElem?_set_self hl] at hm
      cases hm
    · have hm : (M.m.set n none)[m]? = some (some a) := hm
      rw [List.getElem?_set_ne e] at hm
      exact .inl (List.mem_of_getElem? hm)
  zz := rfl
  lst := fun _ _ h _ => h
  tup := fun _ _ h => h
  frz := fun _ _ _ h => h
  nn := fun _ h => h
theorem StoreOk.gone (s : StoreOk T K M H S) {n : Nat} : StoreOk T K (M.gone n) H (S.set n .gone) where
  len := by simp [MM.gone, s.len]
  inj := fun i j a h1 h2 => by
    have key : ∀ {i : Nat}, (M.m.set n none)[i]? = some (some a) → M.m[i]? = some (some a) := fun {i} h => by
      by_cases e : n = i
      · subst e
        have hl : n < M.m.length := by
          have := (List.getElem?_eq_some_iff.mp h).1
          simpa using this
        rw [List.getElem?_set_self hl] at h
        cases h
      · rwa [List.getElem?_set_ne e] at h
    exact s.inj i j a (key h1) (key h2)
  ent := fun m xs e => by
    by_cases hm : n = m
    · subst hm
      have hl : n < S.length := by
        have := (List.getElem?_eq_some_iff.mp e).1
        simpa using this
      rw [List.getElem?_set_self hl] at e
      cases e
    · rw [List.getElem?_set_ne hm] at e
      obtain ⟨a, vs, h1, h2, h3⟩ := s.ent m xs e
      exact ⟨a, vs, by show (M.m.set n none)[m]? = _; rw [List.getElem?_set_ne hm]; exact h1, h2, h3.ext ext_gone⟩
  gon := fun m e => by
    by_cases hm : n = m
    · subst hm
      have hl : n < S.length := by
        have := (List.getElem?_eq_some_iff.mp e).1
        simpa using this
      exact List.getElem?_set_self (by rw [s.len]; exact hl)
    · rw [List.getElem?_set_ne hm] at e
      show (M.m.set n none)[m]? = _
      rw [List.getElem?_set_ne hm]
      exact s.gon m e
  prv := fun b h => by
    obtain ⟨h1, us, h2⟩ := s.prv b h
    refine ⟨fun z => h1 ?_, us, h2⟩
    obtain ⟨m, hm⟩ := List.mem_iff_getElem?.mp z
    have hm : (M.m.set n none)[m]? = some (some b) := hm
    by_cases e : n = m
    · subst e
      have hl : n < M.m.length := by
        have := (List.getElem?_eq_some_iff.mp hm).1
        simpa using this
      rw [List.getElem?_set_self hl] at hm
      cases hm
    · rw [List.getElem?_set_ne e] at hm
      exact List.mem_of_getElem? hm
  tab := s.tab
theorem rep_gone (s : StoreOk T K M H S) {n : Nat} {xs : List PyData} {a : Addr} (hn : S[n]? = some (.lst xs)) (hm : M.m[n]? = some (some a)) : Rep K (M.gone n) H (.list xs) (.ref a) := by
  obtain ⟨b, vs, h1, h2, h3⟩ := s.ent n xs hn
  rw [hm] at h1
  cases h1
  refine ⟨a, vs, rfl, ⟨fun z => ?_, fun z => (s.prv a z).1 (List.mem_of_getElem? hm)⟩, h2, h3.ext ext_gone⟩
  obtain ⟨m, hm'⟩ := List.mem_iff_getElem?.mp z
  have hm' : (M.m.set n none)[m]? = some (some a) := hm'
  by_cases e : n = m
  · subst e
    rw [List.getElem?_set_self (List.getElem?_eq_some_iff.mp hm).1] at hm'
    cases hm'
  · rw [List.getElem?_set_ne e] at hm'
    exact e (s.inj n m a hm hm')
/-- behind a call: the callee's own places are forgotten -/
def MM.take (M : MM) (n : Nat) : MM := ⟨M.m.take n, M.z⟩
theorem ext_take (e : Ext M H M' H') : Ext M H (M'.take M.m.length) H' where
  len := by show _ ≤ (M'.m.take M.m.length).length; rw [List.length_take]; have := e.len; omega
  old := fun n hn => by show (M'.m.take M.m.length)[n]? = _ ∨ (M'.m.take M.m.length)[n]? = _; rw [List.getElem?_take_of_lt hn]; exact e.old n hn
  new := fun a h => e.new a (List.mem_of_mem_take h)
  zz := e.zz
  lst := e.lst
  tup := e.tup
  frz := e.frz
  nn := e.nn
theorem fre_take (n : Nat) {a : Addr} (h : Fre M a) : Fre (M.take n) a := ⟨fun z => h.1 (List.mem_of_mem_take z), h.2⟩
mutual
theorem Rep.cut (h : ∀ a, Fre M a → Fre M' a) : ∀ {d : PyData} {v : V}, Rep K M H d v → Rep K M' H d v
  | .none, _, r => r
  | .bool _, _, r => r
  | .int _, _, r => r
  | .str _, _, r => r
  | .list ds, v, r => by
    obtain ⟨a, vs, e1, e2, e3, e4⟩ := (show ∃ a vs, v = .ref a ∧ Fre M a ∧ H a = some (.lst vs) ∧ RepL K M H ds vs from r)
    exact ⟨a, vs, e1, h a e2, e3, RepL.cut h e4⟩
  | .tuple ds, v, r => by
    obtain ⟨a, vs, e1, e2, e3⟩ := (show ∃ a vs, v = .ref a ∧ SqT K H a vs ∧ RepL K M H ds vs from r)
    exact ⟨a, vs, e1, e2, RepL.cut h e3⟩
  | .dict _, _, r => r
theorem RepL.cut (h : ∀ a, Fre M a → Fre M' a) : ∀ {ds : List PyData} {vs : List V}, RepL K M H ds vs → RepL K M' H ds vs
  | [], _, r => r
  | d :: ds, vs, r => by
    obtain ⟨v, q, e1, e2, e3⟩ := (show ∃ v r, vs = v :: r ∧ Rep K M H d v ∧ RepL K M H ds r from r)
    exact ⟨v, q, e1, Rep.cut h e2, RepL.cut h e3⟩
end
theorem StoreOk.take (s : StoreOk T K M H S) (n : Nat) : StoreOk T K (M.take n) H (S.take n) where
  len := by simp [MM.take, s.len]
  inj := fun i j a h1 h2 => by
    have key : ∀ {i : Nat}, (M.m.take n)[i]? = some (some a) → M.m[i]? = some (some a) := fun {i} h => by
      rw [List.getElem?_take] at h
      split at h
      · exact h
      · cases h
    exact s.inj i j a (key h1) (key h2)
  ent := fun m xs e => by
    rw [List.getElem?_take] at e
    split at e
    · rename_i hm
      obtain ⟨a, vs, h1, h2, h3⟩ := s.ent m xs e
      exact ⟨a, vs, by show (M.m.take n)[m]? = _; rw [List.getElem?_take_of_lt hm]; exact h1, h2, h3.cut fun _ => fre_take n⟩
    · cases e
  gon := fun m e => by
    rw [List.getElem?_take] at e
    split at e
    · rename_i hm
      show (M.m.take n)[m]? = _
      rw [List.getElem?_take_of_lt hm]
      exact s.gon m e
    · cases e
  prv := fun b h => by
    obtain ⟨h1, us, h2⟩ := s.prv b h
    exact ⟨fun z => h1 (List.mem_of_mem_take z), us, h2⟩
  tab := s.tab
theorem toD_rep (s : StoreOk T K M H S) {v : Val} {x : PyData} {y : V} (h : toD v S = some x) (r : RepV K M H v y) : Dp K H y x ∧ (∀ xs, x = .list xs → ∃ a vs, y = .ref a ∧ H a = some (.lst vs) ∧ RepL K M H xs vs) ∧ ((∀ xs, x ≠ .list xs) → Rep K M H x y) := by
  cases v with
  | d z =>
    simp only [toD, Option.some.injEq] at h
    subst h
    have r : Rep K M H z y := r
    refine ⟨r.dp, fun xs e => ?_, fun _ => r⟩
    subst e
    obtain ⟨a, vs, e1, e2, e3, e4⟩ := (show ∃ a vs, y = .ref a ∧ Fre M a ∧ H a = some (.lst vs) ∧ RepL K M H xs vs from r)
    exact ⟨a, vs, e1, e3, e4⟩
  | r n =>
    simp only [toD] at h
    cases e : S[n]? with
    | none => rw [e] at h; cases h
    | some o =>
      rw [e] at h
      cases o with
      | gone => cases h
      | lst xs =>
        simp only [Option.some.injEq] at h
        subst h
        obtain ⟨a, vs, h1, h2, h3⟩ := s.ent n xs e
        obtain ⟨b, e1, e2⟩ := r
        rw [h1] at e2
        have eb : a = b := by
          rcases e2 with q | q
          · cases q
          · cases q; rfl
        subst eb
        subst e1
        refine ⟨.lst (SqL.of h2) h3.dp, fun ys e' => ?_, fun q => absurd rfl (q xs)⟩
        cases e'
        exact ⟨a, vs, rfl, h2, h3⟩
  | s xs => simp [toD] at h
end
end Z

/-! Operations by values. -/
namespace Z
open PySem PySem.Spec PyProof.Rows L2

/-- the run ends so that what is wanted holds -/
def Post {α β : Type} (X : Cx) (T : List (Addr × Str)) (W : WX) (σ : L2.St) (M : MM) (H : Hp) (rep : MM → Hp → α → β → Prop) (res : R α) (Q : β → Hp → Prop) : Prop := match res with
  | .ok a S' => ∀ b M' H', Ext M H M' H' → StoreOk T X.K M' H' S' → rep M' H' a b → Q b H'
  | .ex c S' => ∀ M' H' C, Ext M H M' H' → StoreOk T X.K M' H' S' → X.mg c = some (.ref C) → W (.ref C) none σ H'
  | .no => False
section
variable {α β γ δ : Type} {X : Cx} {T : List (Addr × Str)} {W : WX} {σ : L2.St} {M M1 : MM} {H H1 : Hp} {rep : MM → Hp → α → β → Prop} {rep2 : MM → Hp → γ → δ → Prop} {Q : β → Hp → Prop} {Q2 : δ → Hp → Prop}
theorem Post.ext (e : Ext M H M1 H1) {res : R α} (h : Post X T W σ M H rep res Q) : Post X T W σ M1 H1 rep res Q := by
  cases res with
  | ok a S' => exact fun b M' H' e' s r => h b M' H' (e.trans e') s r
  | ex c S' => exact fun M' H' C e' s r => h M' H' C (e.trans e') s r
  | no => exact h
theorem Post.bind {x : R α} {f : α → Sto → R γ} (h : Post X T W σ M H rep2 (x.bind f) Q2) : Post X T W σ M H rep x (fun b H1 => ∃ a S1 M1, Ext M H M1 H1 ∧ StoreOk T X.K M1 H1 S1 ∧ rep M1 H1 a b ∧ x = .ok a S1 ∧ Post X T W σ M1 H1 rep2 (f a S1) Q2) := by
  cases x with
  | ok a S' => exact fun b M' H' e s r => ⟨a, S', M', e, s, r, rfl, Post.ext e h⟩
  | ex c S' => exact h
  | no => exact h
end

section
variable (X : Cx) (T : List (Addr × Str)) (W : WX) (σ : L2.St)
def rBin (o : Op2) : R2 := fun x y H Q => ∃ v w S M, StoreOk T X.K M H S ∧ RepV X.K M H v x ∧ RepV X.K M H w y ∧ Post X T W σ M H (RepV X.K) (binV o v w S) Q
def rCmp (o : CO) : R2 := fun x y H Q => ∃ v w S M, StoreOk T X.K M H S ∧ RepV X.K M H v x ∧ RepV X.K M H w y ∧ Post X T W σ M H (fun _ _ a (b : V) => b = .bl a) (cmpV o v w S) Q
def rIxG : R2 := fun x y H Q => ∃ v w S M, StoreOk T X.K M H S ∧ RepV X.K M H v x ∧ RepV X.K M H w y ∧ Post X T W σ M H (RepV X.K) (ixV v w S) Q
def rSlG : V → Option Int → Option Int → Hp → VK → Prop := fun x lo hi H Q => ∃ v S M, StoreOk T X.K M H S ∧ RepV X.K M H v x ∧ Post X T W σ M H (RepV X.K) (slV v lo hi S) Q
def rBi (b : BI) : List V → Hp → VK → Prop := fun xs H Q => ∃ vs S M, StoreOk T X.K M H S ∧ RepVs X.K M H vs xs ∧ Post X T W σ M H (RepV X.K) (biV b vs S) Q
end

section
variable {X : Cx} {T : List (Addr × Str)} {W : WX} {σ : L2.St} {M : MM} {H : Hp} {S : Sto}
theorem lim_line : lim ≤ sizeLine := by rw [sizeLine_eq]; decide
theorem op_fdivNW : OpR X (binaryOp .FloorDiv) (rI (fun _ j => j ≠ 0 ∧ j.natAbs.log2 < 9000) fun i j => .int (i.fdiv j)) := opI fun i j _ _ _ _ _ hc q => floordiv_int hc.1 q (.inl (PyProof.noPylong_of_log2 hc.2))
/-- the data behind two values -/
theorem two_D {v w : Val} {f : PyData → PyData → R Val} {Q : VK} (h : Post X T W σ M H (RepV X.K) (match toD v S, toD w S with
  | some x, some y => f x y
  | _, _ => .no) Q) : ∃ x y, toD v S = some x ∧ toD w S = some y ∧ Post X T W σ M H (RepV X.K) (f x y) Q := by
  cases e1 : toD v S with
  | none => rw [e1] at h; exact (show False from h).elim
  | some x =>
    cases e2 : toD w S with
    | none => rw [e1, e2] at h; exact (show False from h).elim
    | some y => rw [e1, e2] at h; exact ⟨x, y, rfl, rfl, h⟩
theorem post_okD {o : Option PyData} {Q : VK} (h : Post X T W σ M H (RepV X.K) (okD o S) Q) : ∃ z, o = some z ∧ ∀ b M' H', Ext M H M' H' → StoreOk T X.K M' H' S → Rep X.K M' H' z b → Q b H' := by
  cases o with
  | none => exact (show False from h).elim
  | some z => exact ⟨z, rfl, h⟩
theorem SqT.len_ok {a : Addr} {xs : List V} {pins : List (Addr × Obj)} {σ' : L2.St} {s : Shared} (I : Inv X pins σ' H s) (h : SqT X.K H a xs) : xs.length ≤ sizeLine := by
  obtain ⟨_, _, _, z⟩ := I.tuple h
  exact z
theorem op_binG (o : Op2) : OpR X (binaryOp (opOf o)) (rBin X T W σ o) := by
  intro pins s σ' H x y v u Q I rx ry h
  obtain ⟨p, q, S, M, so, rp, rq, hP⟩ := h
  obtain ⟨dx, dy, e1, e2, hP⟩ := two_D hP
  obtain ⟨z, ez, hQ⟩ := post_okD hP
  obtain ⟨px, lx, nx⟩ := toD_rep so e1 rp
  obtain ⟨py, ly, ny⟩ := toD_rep so e2 rq
  have fin0 : ∀ b, Rep X.K M H z b → Q b H := fun b r => hQ b M H (Ext.refl _ _) so r
  have finN : ∀ (p : Addr) (ob : HO), H p = none → (∀ r : Rep X.K M (upd H p ob) z (.ref p), Q (.ref p) (upd H p ob)) := fun p ob hp r => hQ _ M _ (ext_new hp) (so.new hp) r
  cases o with
  | add =>
    cases dx with
    | int i =>
      cases dy with
      | int j =>
        simp only [binD, Option.some.injEq] at ez; subst ez
        rw [show x = .int i from nx (by intro _ z; cases z)] at rx
        rw [show y = .int j from ny (by intro _ z; cases z)] at ry
        exact op_add pins s σ' H _ _ v u Q I rx ry ⟨i, j, rfl, rfl, fin0 _ rfl⟩
      | _ => simp [binD] at ez
    | str i =>
      cases dy with
      | str j =>
        simp only [binD] at ez
        split at ez
        · rename_i hl
          simp only [Option.some.injEq] at ez; subst ez
          rw [show x = .str i from nx (by intro _ z; cases z)] at rx
          rw [show y = .str j from ny (by intro _ z; cases z)] at ry
          refine op_add_str pins s σ' H _ _ v u Q I rx ry ⟨i, j, rfl, rfl, Nat.le_trans hl lim_line, fin0 _ rfl⟩
        · cases ez
      | _ => simp [binD] at ez
    | tuple xs =>
      cases dy with
      | tuple ys =>
        simp only [binD] at ez
        split at ez
        · rename_i hl
          simp only [Option.some.injEq] at ez; subst ez
          obtain ⟨a, vs, r1, r2, r3⟩ := (show ∃ a vs, x = .ref a ∧ SqT X.K H a vs ∧ RepL X.K M H xs vs from nx (by intro _ z; cases z))
          obtain ⟨b, ws, q1, q2, q3⟩ := (show ∃ a vs, y = .ref a ∧ SqT X.K H a vs ∧ RepL X.K M H ys vs from ny (by intro _ z; cases z))
          refine op_catA pins s σ' H _ _ v u Q I rx ry ⟨a, b, vs, ws, r1, q1, r2, q2, ?_, fun e => ?_, fun _ e => ?_, fun _ _ p hp => ?_⟩
          · rw [← r3.length, ← q3.length]; exact Nat.le_trans hl lim_line
          · subst e
            have : xs = [] := List.length_eq_zero_iff.mp (by rw [r3.length]; rfl)
            subst this
            exact fin0 _ ⟨b, ws, rfl, q2, by simpa using q3⟩
          · subst e
            have : ys = [] := List.length_eq_zero_iff.mp (by rw [q3.length]; rfl)
            subst this
            exact fin0 _ ⟨a, vs, rfl, r2, by simpa using r3⟩
          · exact finN p _ hp (rep_new_tup hp (r3.append q3))
        · cases ez
      | _ => simp [binD] at ez
    | list xs =>
      cases dy with
      | list ys =>
        simp only [binD] at ez
        split at ez
        · rename_i hl
          simp only [Option.some.injEq] at ez; subst ez
          obtain ⟨a, vs, r1, r2, r3⟩ := lx xs rfl
          obtain ⟨b, ws, q1, q2, q3⟩ := ly ys rfl
          refine op_cat pins s σ' H _ _ v u Q I rx ry ⟨a, b, vs, ws, r1, q1, r2, q2, ?_, fun p hp => ?_⟩
          · rw [← r3.length, ← q3.length]; exact Nat.le_trans hl lim_line
          · exact finN p _ hp (rep_new_lst so hp (r3.append q3))
        · cases ez
      | _ => simp [binD] at ez
    | _ => cases dy <;> simp [binD] at ez
  | sub =>
    cases dx with
    | int i =>
      cases dy with
      | int j =>
        simp only [binD, Option.some.injEq] at ez; subst ez
        rw [show x = .int i from nx (by intro _ z; cases z)] at rx
        rw [show y = .int j from ny (by intro _ z; cases z)] at ry
        exact op_sub pins s σ' H _ _ v u Q I rx ry ⟨i, j, rfl, rfl, fin0 _ rfl⟩
      | _ => simp [binD] at ez
    | _ => cases dy <;> simp [binD] at ez
  | mul =>
    cases dx with
    | int i =>
      cases dy with
      | int j =>
        simp only [binD] at ez
        split at ez
        · rename_i hl
          simp only [Option.some.injEq] at ez; subst ez
          simp only [fitM, Bool.and_eq_true, decide_eq_true_eq] at hl
          rw [show x = .int i from nx (by intro _ z; cases z)] at rx
          rw [show y = .int j from ny (by intro _ z; cases z)] at ry
          refine op_mulW pins s σ' H _ _ v u Q I rx ry ⟨i, j, rfl, rfl, ?_, fin0 _ rfl⟩
          show i.natAbs.log2 + j.natAbs.log2 < 1000000
          omega
        · cases ez
      | _ => simp [binD] at ez
    | tuple xs =>
      cases dy with
      | int k =>
        simp only [binD] at ez
        split at ez
        · rename_i hl
          simp only [Option.some.injEq] at ez; subst ez
          obtain ⟨a, vs, r1, r2, r3⟩ := (show ∃ a vs, x = .ref a ∧ SqT X.K H a vs ∧ RepL X.K M H xs vs from nx (by intro _ z; cases z))
          rw [show y = .int k from ny (by intro _ z; cases z)] at ry
          refine op_repT pins s σ' H _ _ v u Q I rx ry ⟨a, k, vs, r1, rfl, r2, fun e => ?_, hl.2.1, hl.2.2.1, by rw [← r3.length]; exact hl.1, fun p hp => finN p _ hp (rep_new_tup hp (r3.rep _))⟩
          subst e
          have : xs = [] := List.length_eq_zero_iff.mp (by rw [r3.length]; rfl)
          subst this
          exact absurd hl.2.2.2 (by simp)
        · cases ez
      | _ => simp [binD] at ez
    | list xs =>
      cases dy with
      | int k =>
        simp only [binD] at ez
        split at ez
        · rename_i hl
          simp only [Option.some.injEq] at ez; subst ez
          obtain ⟨a, vs, r1, r2, r3⟩ := lx xs rfl
          rw [show y = .int k from ny (by intro _ z; cases z)] at ry
          refine op_rep pins s σ' H _ _ v u Q I rx ry ⟨a, k, vs, r1, rfl, r2, by omega, by omega, ?_, fun p hp => finN p _ hp (rep_new_lst so hp (r3.rep _))⟩
          rw [← r3.length]
          have h1 : xs.length * k.toNat ≤ 1000 * 1000 := Nat.mul_le_mul hl.1 (by omega)
          exact Nat.le_trans h1 lim_line
        · cases ez
      | _ => simp [binD] at ez
    | _ => cases dy <;> simp [binD] at ez
  | fdiv =>
    cases dx with
    | int i =>
      cases dy with
      | int j =>
        simp only [binD] at ez
        split at ez
        · rename_i hl
          simp only [Option.some.injEq] at ez; subst ez
          simp only [fitD, decide_eq_true_eq] at hl
          rw [show x = .int i from nx (by intro _ z; cases z)] at rx
          rw [show y = .int j from ny (by intro _ z; cases z)] at ry
          exact op_fdivNW pins s σ' H _ _ v u Q I rx ry ⟨i, j, rfl, rfl, ⟨hl.1, by omega⟩, fin0 _ rfl⟩
        · cases ez
      | _ => simp [binD] at ez
    | _ => cases dy <;> simp [binD] at ez
  | mod =>
    cases dx with
    | int i =>
      cases dy with
      | int j =>
        simp only [binD] at ez
        split at ez
        · rename_i hl
          simp only [Option.some.injEq] at ez; subst ez
          rw [show x = .int i from nx (by intro _ z; cases z)] at rx
          rw [show y = .int j from ny (by intro _ z; cases z)] at ry
          exact op_modN pins s σ' H _ _ v u Q I rx ry ⟨i, j, rfl, rfl, hl, fin0 _ rfl⟩
        · cases ez
      | _ => simp [binD] at ez
    | _ => cases dy <;> simp [binD] at ez
  | pow =>
    cases dx with
    | int i =>
      cases dy with
      | int j =>
        simp only [binD] at ez
        split at ez
        · rename_i hl
          simp only [Option.some.injEq] at ez; subst ez
          rw [show x = .int i from nx (by intro _ z; cases z)] at rx
          rw [show y = .int j from ny (by intro _ z; cases z)] at ry
          exact op_pow pins s σ' H _ _ v u Q I rx ry ⟨i, j, rfl, rfl, ⟨hl.1, by omega, hl.2.2⟩, fin0 _ rfl⟩
        · cases ez
      | _ => simp [binD] at ez
    | _ => cases dy <;> simp [binD] at ez
end
end Z

/-! Comparisons, subscripts, slices, built-ins by values. -/
namespace Z
open PySem PySem.Spec PyProof.Rows L2
section
variable {X : Cx} {T : List (Addr × Str)} {W : WX} {σ : L2.St} {M : MM} {H : Hp} {S : Sto}
theorem op_inT (hu : X.A.units + 65 < cLine) : OpR X (compareOp .In) (fun x y H Q => ∃ d ds, Dp X.K H x d ∧ Dp X.K H y (.tuple ds) ∧ SeqAt.shaped d = true ∧ SeqAt.shaped (.tuple ds) = true ∧ Q (.bl (ds.any fun z => PyData.eqv z d)) H) := by
  intro pins s σ H x y v u Q I rx ry h
  obtain ⟨d, ds, hd, he, sd, se, q⟩ := h
  obtain ⟨as, r1⟩ := Dp.reads I d x v hd rx
  obtain ⟨bs, r2⟩ := Dp.reads I (.tuple ds) y u he ry
  exact SeqAt.in_tuple_reads r2 r1 (SeqAt.canLay_of_shaped se) (SeqAt.canLay_of_shaped sd) (room_in_shaped sd hu) ⟨.bl _, H, I, rfl, q⟩
theorem op_notInT (hu : X.A.units + 65 < cLine) : OpR X (compareOp .NotIn) (fun x y H Q => ∃ d ds, Dp X.K H x d ∧ Dp X.K H y (.tuple ds) ∧ SeqAt.shaped d = true ∧ SeqAt.shaped (.tuple ds) = true ∧ Q (.bl (!ds.any fun z => PyData.eqv z d)) H) := by
  intro pins s σ H x y v u Q I rx ry h
  obtain ⟨d, ds, hd, he, sd, se, q⟩ := h
  obtain ⟨as, r1⟩ := Dp.reads I d x v hd rx
  obtain ⟨bs, r2⟩ := Dp.reads I (.tuple ds) y u he ry
  exact SeqAt.notIn_tuple_reads r2 r1 (SeqAt.canLay_of_shaped se) (SeqAt.canLay_of_shaped sd) (room_in_shaped sd hu) ⟨.bl _, H, I, rfl, q⟩
theorem post_cmp {o : CO} {v w : Val} {Q : VK} (h : Post X T W σ M H (fun _ _ a (b : V) => b = .bl a) (cmpV o v w S) Q) (so : StoreOk T X.K M H S) : ∃ x y c, toD v S = some x ∧ toD w S = some y ∧ cmpD o x y = some c ∧ Q (.bl c) H := by
  unfold cmpV at h
  cases e1 : toD v S with
  | none => rw [e1] at h; exact (show False from h).elim
  | some x =>
    cases e2 : toD w S with
    | none => rw [e1, e2] at h; exact (show False from h).elim
    | some y =>
      rw [e1, e2] at h
      dsimp only at h
      cases e3 : cmpD o x y with
      | none => rw [e3] at h; exact (show False from h).elim
      | some c => rw [e3] at h; exact ⟨x, y, c, rfl, rfl, e3, h _ M H (Ext.refl _ _) so rfl⟩
theorem scal_of {x y : PyData} {v w : V} (h : scalD x y = true) (r1 : Rep X.K M H x v) (r2 : Rep X.K M H y w) : scal v w = true ∧ decide (v = w) = PyData.eqv x y := by
  cases x <;> cases y <;> first | (exact absurd (show false = true from h) Bool.false_ne_true) | skip
  all_goals
    simp only [Rep] at r1 r2
    subst r1 r2
    refine ⟨rfl, ?_⟩
    first
      | (simp [PyData.eqv]; done)
      | (simp only [PyData.eqv]; first | exact dec_int | exact dec_bl | exact dec_str)
theorem scal_nl {x y : PyData} (h : scalD x y = true) : (∀ xs, x ≠ .list xs) ∧ (∀ xs, y ≠ .list xs) := by
  cases x <;> cases y <;> first | (exact absurd (show false = true from h) Bool.false_ne_true) | exact ⟨fun _ z => (nomatch z), fun _ z => (nomatch z)⟩
theorem shaped_eq (x : PyData) : SeqAt.shaped x = SeqAt.shaped x := rfl
theorem op_cmpG (hu : X.A.units + 65 < cLine) (o : CO) : OpR X (compareOp (coOf o)) (rCmp X T W σ o) := by
  intro pins s σ' H x y v u Q I rx ry h
  obtain ⟨p, q, S, M, so, rp, rq, hP⟩ := h
  obtain ⟨dx, dy, c, e1, e2, ec, hQ⟩ := post_cmp hP so
  obtain ⟨px, lx, nx⟩ := toD_rep so e1 rp
  obtain ⟨py, ly, ny⟩ := toD_rep so e2 rq
  have isInt : ∀ {d : PyData} {i : Int} {z : V}, ((∀ xs, d ≠ .list xs) → Rep X.K M H d z) → d = .int i → z = .int i := fun {d i z} n e => by
    subst e; exact n (by intro _ z; cases z)
  have twoI : ∀ {f : Int → Int → Bool} {g : PyData → PyData → Option Bool}, (∀ i j, g (.int i) (.int j) = some (f i j)) → (∀ a b c, g a b = some c → ∃ i j, a = .int i ∧ b = .int j) → g dx dy = some c → ∃ i j, x = .int i ∧ y = .int j ∧ Q (.bl (f i j)) H := fun {f g} h1 h2 e => by
    obtain ⟨i, j, rfl, rfl⟩ := h2 _ _ _ e
    rw [h1] at e
    cases e
    exact ⟨i, j, isInt nx rfl, isInt ny rfl, hQ⟩
  have eqc : ∀ b, eqD dx dy = some b → (scal x y = true ∧ decide (x = y) = b) ∨ (SeqAt.shaped dx = true ∧ SeqAt.shaped dy = true ∧ PyData.eqv dx dy = b) := fun b e => by
    unfold eqD at e
    split at e
    · rename_i hs
      cases e
      obtain ⟨n1, n2⟩ := scal_nl hs
      exact .inl (scal_of hs (nx n1) (ny n2))
    · split at e
      · rename_i hs
        cases e
        simp only [Bool.and_eq_true] at hs
        exact .inr ⟨hs.1, hs.2, rfl⟩
      · cases e
  have hu64 : X.A.units + 64 < cLine := by omega
  have inc : ∀ b, inD dx dy = some b → (∃ (c : Nat) (z : Str), x = .str ⟨#[c]⟩ ∧ y = .str z ∧ decide (c ∈ z.cps.toList) = b) ∨ (∃ ds, dy = .list ds ∧ SeqAt.shaped dx = true ∧ SeqAt.shaped (.list ds) = true ∧ (ds.any fun z => PyData.eqv z dx) = b) ∨ (∃ ds, dy = .tuple ds ∧ SeqAt.shaped dx = true ∧ SeqAt.shaped (.tuple ds) = true ∧ (ds.any fun z => PyData.eqv z dx) = b) := fun b e => by
    have lst : ∀ ds, dy = .list ds → inD dx dy = (if SeqAt.shaped dx && SeqAt.shaped (.list ds) then some (ds.any fun z => PyData.eqv z dx) else none) := fun ds e => by
      subst e
      cases dx <;> rfl
    have tpl : ∀ ds, dy = .tuple ds → inD dx dy = (if SeqAt.shaped dx && SeqAt.shaped (.tuple ds) then some (ds.any fun z => PyData.eqv z dx) else none) := fun ds e => by
      subst e
      cases dx <;> rfl
    cases hdy : dy with
    | list ds =>
      rw [lst ds hdy] at e
      split at e
      · rename_i hs
        simp only [Bool.and_eq_true] at hs
        cases e
        exact .inr (.inl ⟨ds, rfl, hs.1, hs.2, rfl⟩)
      · cases e
    | tuple ds =>
      rw [tpl ds hdy] at e
      split at e
      · rename_i hs
        simp only [Bool.and_eq_true] at hs
        cases e
        exact .inr (.inr ⟨ds, rfl, hs.1, hs.2, rfl⟩)
      · cases e
    | str t =>
      rw [hdy] at e ny
      cases hdx : dx with
      | str z =>
        rw [hdx] at e nx
        simp only [inD] at e
        split at e
        · rename_i c' hl
          cases e
          have es : z = ⟨#[c']⟩ := by
            obtain ⟨⟨l⟩⟩ := z
            simp only at hl
            subst hl
            rfl
          rw [es] at nx
          exact .inl ⟨c', t, nx (by intro _ z; cases z), ny (by intro _ z; cases z), rfl⟩
        · cases e
      | _ => rw [hdx] at e; simp [inD] at e
    | _ => rw [hdy] at e; cases dx <;> simp [inD] at e
  cases o with
  | eq =>
    rcases eqc c ec with ⟨h1, h2⟩ | ⟨h1, h2, h3⟩
    · exact op_eq pins s σ' H x y v u Q I rx ry ⟨h1, by rw [h2]; exact hQ⟩
    · exact op_eqD hu64 pins s σ' H x y v u Q I rx ry ⟨dx, dy, px, py, h1, h2, by rw [h3]; exact hQ⟩
  | ne =>
    simp only [cmpD, Option.map_eq_some_iff] at ec
    obtain ⟨b, eb, hb⟩ := ec
    rcases eqc b eb with ⟨h1, h2⟩ | ⟨h1, h2, h3⟩
    · exact op_ne pins s σ' H x y v u Q I rx ry ⟨h1, by rw [h2, hb]; exact hQ⟩
    · exact op_neD hu64 pins s σ' H x y v u Q I rx ry ⟨dx, dy, px, py, h1, h2, by rw [h3, hb]; exact hQ⟩
  | lt =>
    refine op_lt pins s σ' H x y v u Q I rx ry (twoI (g := cmpD .lt) (fun _ _ => rfl) (fun a b c e => ?_) ec)
    cases a <;> cases b <;> first | exact ⟨_, _, rfl, rfl⟩ | (simp [cmpD] at e)
  | le =>
    refine op_le pins s σ' H x y v u Q I rx ry (twoI (g := cmpD .le) (fun _ _ => rfl) (fun a b c e => ?_) ec)
    cases a <;> cases b <;> first | exact ⟨_, _, rfl, rfl⟩ | (simp [cmpD] at e)
  | gt =>
    refine op_gt pins s σ' H x y v u Q I rx ry (twoI (g := cmpD .gt) (fun _ _ => rfl) (fun a b c e => ?_) ec)
    cases a <;> cases b <;> first | exact ⟨_, _, rfl, rfl⟩ | (simp [cmpD] at e)
  | ge =>
    refine op_ge pins s σ' H x y v u Q I rx ry (twoI (g := cmpD .ge) (fun _ _ => rfl) (fun a b c e => ?_) ec)
    cases a <;> cases b <;> first | exact ⟨_, _, rfl, rfl⟩ | (simp [cmpD] at e)
  | is =>
    by_cases hy : dy = .none
    · subst hy
      have ey : y = .non := ny (by intro _ z; cases z)
      have ex : decide (x = .non) = isNone dx := by
        cases px <;> simp [isNone]
      have : cmpD .is dx .none = some (isNone dx) := by cases dx <;> rfl
      rw [this] at ec
      cases ec
      exact op_isN pins s σ' H x y v u Q I rx ry ⟨ey, by rw [ex]; exact hQ⟩
    · cases dx <;> cases dy <;> first | (exact absurd rfl hy) | (simp [cmpD] at ec; done) | skip
      rename_i a b
      simp only [cmpD, Option.some.injEq] at ec
      subst ec
      exact op_isBl pins s σ' H x y v u Q I rx ry ⟨a, b, nx (by intro _ z; cases z), ny (by intro _ z; cases z), hQ⟩
  | isn =>
    by_cases hy : dy = .none
    · subst hy
      have ey : y = .non := ny (by intro _ z; cases z)
      have ex : decide (x = .non) = isNone dx := by
        cases px <;> simp [isNone]
      have : cmpD .isn dx .none = some (!isNone dx) := by cases dx <;> rfl
      rw [this] at ec
      cases ec
      exact op_notN pins s σ' H x y v u Q I rx ry ⟨ey, by rw [ex]; exact hQ⟩
    · cases dx <;> cases dy <;> first | (exact absurd rfl hy) | (simp [cmpD] at ec; done) | skip
      rename_i a b
      simp only [cmpD, Option.some.injEq] at ec
      subst ec
      exact op_notBl pins s σ' H x y v u Q I rx ry ⟨a, b, nx (by intro _ z; cases z), ny (by intro _ z; cases z), hQ⟩
  | in_ =>
    rcases inc c ec with ⟨k, z, h1, h2, h3⟩ | ⟨ds, h1, h2, h3, h4⟩ | ⟨ds, h1, h2, h3, h4⟩
    · exact op_in_sign pins s σ' H x y v u Q I rx ry ⟨k, z, h1, h2, by rw [h3]; exact hQ⟩
    · subst h1
      exact op_inD hu pins s σ' H x y v u Q I rx ry ⟨dx, ds, px, py, h2, h3, by rw [h4]; exact hQ⟩
    · subst h1
      exact op_inT hu pins s σ' H x y v u Q I rx ry ⟨dx, ds, px, py, h2, h3, by rw [h4]; exact hQ⟩
  | nin =>
    simp only [cmpD, Option.map_eq_some_iff] at ec
    obtain ⟨b, eb, hb⟩ := ec
    rcases inc b eb with ⟨k, z, h1, h2, h3⟩ | ⟨ds, h1, h2, h3, h4⟩ | ⟨ds, h1, h2, h3, h4⟩
    · exact op_notIn_sign pins s σ' H x y v u Q I rx ry ⟨k, z, h1, h2, by rw [h3, hb]; exact hQ⟩
    · subst h1
      exact op_notInD hu pins s σ' H x y v u Q I rx ry ⟨dx, ds, px, py, h2, h3, by rw [h4, hb]; exact hQ⟩
    · subst h1
      exact op_notInT hu pins s σ' H x y v u Q I rx ry ⟨dx, ds, px, py, h2, h3, by rw [h4, hb]; exact hQ⟩

/-! ### subscripts -/
theorem RepL.atI {ds : List PyData} {vs : List V} {i : Int} {d : PyData} (r : RepL X.K M H ds vs) (h : atI ds i = some d) : ∃ v, L2.atI vs i = some v ∧ Rep X.K M H d v := by
  unfold L2.atI at h ⊢
  rw [← r.length]
  cases e : ixN ds.length i with
  | none => rw [e] at h; cases h
  | some j =>
    rw [e] at h
    obtain ⟨v, h1, h2⟩ := r.get h
    exact ⟨v, h1, h2⟩
theorem atI_map {α β : Type} (f : α → β) (xs : List α) (i : Int) : L2.atI (xs.map f) i = (L2.atI xs i).map f := by
  unfold L2.atI
  rw [List.length_map]
  cases ixN xs.length i with
  | none => rfl
  | some j => simp
theorem ix_G : IxR X (rIxG X T W σ) := by
  intro value slice pins s σ' H x y v u Q I rx ry h hs
  obtain ⟨p, q, S, M, so, rp, rq, hP⟩ := h
  unfold ixV at hP
  cases q with
  | r n => exact (show False from hP).elim
  | s n => exact (show False from hP).elim
  | d k =>
    dsimp only at hP
    cases p with
    | s xs =>
      dsimp only at hP
      obtain ⟨z, ez, hQ⟩ := post_okD hP
      cases k with
      | int i =>
        simp only [ixD] at ez
        obtain ⟨a, vs, r1, r2, ns, r3, r4⟩ := rp
        subst r4 r3
        rw [atI_map] at ez
        obtain ⟨j, e1, e2⟩ := Option.map_eq_some_iff.mp ez
        subst e2
        have ey : y = .int i := rq
        refine ix_list value slice pins s σ' H x y v u Q I rx ry ⟨a, ns.map V.int, i, .int j, r1, ey, ?_, by rw [atI_map, e1] <;> rfl, hQ _ M H (Ext.refl _ _) so rfl⟩ hs
        rcases r2 with ⟨o, q⟩ | q
        · exact .inl (.inr ⟨o, q⟩)
        · exact .inr q
      | _ => simp [ixD] at ez
    | d w =>
      dsimp only at hP
      simp only [toD] at hP
      obtain ⟨z, ez, hQ⟩ := post_okD hP
      cases k with
      | int i =>
        have ey : y = .int i := rq
        cases w with
        | list xs =>
          obtain ⟨a, vs, r1, r2, r3, r4⟩ := (show ∃ a vs, x = .ref a ∧ Fre M a ∧ H a = some (.lst vs) ∧ RepL X.K M H xs vs from rp)
          obtain ⟨b, h1, h2⟩ := r4.atI ez
          exact ix_list value slice pins s σ' H x y v u Q I rx ry ⟨a, vs, i, b, r1, ey, SqL.of r3, h1, hQ _ M H (Ext.refl _ _) so h2⟩ hs
        | tuple xs =>
          obtain ⟨a, vs, r1, r2, r3⟩ := (show ∃ a vs, x = .ref a ∧ SqT X.K H a vs ∧ RepL X.K M H xs vs from rp)
          obtain ⟨b, h1, h2⟩ := r3.atI ez
          exact ix_tup value slice pins s σ' H x y v u Q I rx ry ⟨a, vs, i, b, r1, ey, r2, h1, hQ _ M H (Ext.refl _ _) so h2⟩ hs
        | str t =>
          simp only [ixD] at ez
          split at ez
          · rename_i hl
            obtain ⟨c, e1, e2⟩ := Option.map_eq_some_iff.mp ez
            subst e2
            exact ix_str value slice pins s σ' H x y v u Q I rx ry ⟨t, i, c, rp, ey, Nat.le_trans hl lim_line, e1, hQ _ M H (Ext.refl _ _) so rfl⟩ hs
          · cases ez
        | _ => simp [ixD] at ez
      | _ => cases w <;> simp [ixD] at ez
    | r n =>
      dsimp only at hP
      cases e1 : toD (.r n) S with
      | none => rw [e1] at hP; exact (show False from hP).elim
      | some w =>
        rw [e1] at hP
        obtain ⟨z, ez, hQ⟩ := post_okD hP
        obtain ⟨_, lx, _⟩ := toD_rep so e1 rp
        simp only [toD] at e1
        split at e1
        · rename_i xs _
          cases e1
          obtain ⟨a, vs, r1, r2, r3⟩ := lx xs rfl
          cases k with
          | int i =>
            have ey : y = .int i := rq
            obtain ⟨b, h1, h2⟩ := r3.atI ez
            exact ix_list value slice pins s σ' H x y v u Q I rx ry ⟨a, vs, i, b, r1, ey, SqL.of r2, h1, hQ _ M H (Ext.refl _ _) so h2⟩ hs
          | _ => simp [ixD] at ez
        · cases e1
/-! ### slices -/
theorem RepL.cutR {ds : List PyData} {vs : List V} (r : RepL X.K M H ds vs) (lo hi : Option Int) : RepL X.K M H (Z.cut ds lo hi) (cutV vs lo hi) := by
  unfold Z.cut cutV
  rw [r.length]
  exact (r.drop _).take _
theorem cut_whole {α : Type} {xs : List α} {lo hi : Option Int} (h : HT.sIx xs.length 0 lo = 0 ∧ HT.sIx xs.length xs.length hi = xs.length) : Z.cut xs lo hi = xs := by
  unfold Z.cut
  rw [h.1, h.2]
  simp
theorem sl_G : SlR X (rSlG X T W σ) := by
  intro pins s σ' H x v vl vu lo hi sl Q I rx hs pl pu h
  obtain ⟨p, S, M, so, rp, hP⟩ := h
  unfold slV at hP
  cases e1 : toD p S with
  | none => rw [e1] at hP; exact (show False from hP).elim
  | some w =>
    rw [e1] at hP
    dsimp only at hP
    obtain ⟨z, ez, hQ⟩ := post_okD hP
    obtain ⟨_, lx, nx⟩ := toD_rep so e1 rp
    cases w with
    | list xs =>
      simp only [slD, Option.some.injEq] at ez; subst ez
      obtain ⟨a, vs, r1, r2, r3⟩ := lx xs rfl
      exact sl_list pins s σ' H x v vl vu lo hi sl Q I rx hs pl pu ⟨a, vs, r1, SqL.of r2, fun p hp => hQ _ M _ (ext_new hp) (so.new hp) (rep_new_lst so hp (r3.cutR lo hi))⟩
    | tuple xs =>
      simp only [slD, Option.some.injEq] at ez; subst ez
      obtain ⟨a, vs, r1, r2, r3⟩ := (show ∃ a vs, x = .ref a ∧ SqT X.K H a vs ∧ RepL X.K M H xs vs from nx (by intro _ z; cases z))
      refine sl_tupA pins s σ' H x v vl vu lo hi sl Q I rx hs pl pu ⟨a, vs, r1, r2, fun hw => ?_, fun _ p hp => hQ _ M _ (ext_new hp) (so.new hp) (rep_new_tup hp (r3.cutR lo hi))⟩
      refine hQ _ M H (Ext.refl _ _) so ?_
      rw [← r3.length] at hw
      rw [cut_whole hw]
      exact ⟨a, vs, rfl, r2, r3⟩
    | str t =>
      simp only [slD] at ez
      split at ez
      · rename_i hl
        simp only [Option.some.injEq] at ez; subst ez
        refine sl_str pins s σ' H x v vl vu lo hi sl Q I rx hs pl pu ⟨t, nx (by intro _ z; cases z), Nat.le_trans hl lim_line, hQ _ M H (Ext.refl _ _) so ?_⟩
        show V.str (cutS t lo hi) = V.str ⟨(Z.cut t.cps.toList lo hi).toArray⟩
        unfold cutS Z.cut Str.length
        simp
      · cases ez
    | _ => simp [slD] at ez
end
end Z

/-! Built-ins by values. -/
namespace Z
open PySem PySem.Spec PyProof.Rows L2
def biVal : BI → Value
  | .len => .builtin "len" | .abs => .builtin "abs" | .sum => .builtin "sum" | .all => .builtin "all" | .max => .builtin "max" | .min => .builtin "min" | .int => .type "int" | .str => .type "str" | .bool => .type "bool" | .tuple => .type "tuple" | .list => .type "list"
section
variable {X : Cx} {T : List (Addr × Str)} {W : WX} {σ : L2.St} {M : MM} {H : Hp} {S : Sto}
theorem allD_nil {vs : List Val} (h : allD S vs = some []) : vs = [] := by
  cases vs with
  | nil => rfl
  | cons v r =>
    simp only [allD] at h
    split at h <;> cases h
theorem allD_cons {vs : List Val} {x : PyData} {xs : List PyData} (h : allD S vs = some (x :: xs)) : ∃ v r, vs = v :: r ∧ toD v S = some x ∧ allD S r = some xs := by
  cases vs with
  | nil => simp [allD] at h
  | cons v r =>
    simp only [allD] at h
    split at h
    · rename_i e1 e2
      cases h
      exact ⟨v, r, rfl, e1, e2⟩
    · cases h
theorem arg1 {vs : List Val} {ys : List V} {x : PyData} (h : allD S vs = some [x]) (r : RepVs X.K M H vs ys) : ∃ v y, vs = [v] ∧ ys = [y] ∧ toD v S = some x ∧ RepV X.K M H v y := by
  obtain ⟨v, q, e1, e2, e3⟩ := allD_cons h
  have := allD_nil e3
  subst this
  subst e1
  obtain ⟨y, z, r1, r2, r3⟩ := r
  have r3 : z = [] := r3
  subst r3
  exact ⟨v, y, rfl, r1, e2, r2⟩
theorem arg2 {vs : List Val} {ys : List V} {x x' : PyData} (h : allD S vs = some [x, x']) (r : RepVs X.K M H vs ys) : ∃ v v' y y', vs = [v, v'] ∧ ys = [y, y'] ∧ toD v S = some x ∧ toD v' S = some x' ∧ RepV X.K M H v y ∧ RepV X.K M H v' y' := by
  obtain ⟨v, q, e1, e2, e3⟩ := allD_cons h
  subst e1
  obtain ⟨y, z, r1, r2, r3⟩ := r
  obtain ⟨v', y', e4, e5, e6, e7⟩ := arg1 e3 r3
  subst e4 e5 r1
  exact ⟨v, v', y, y', rfl, rfl, e2, e6, r2, e7⟩
theorem post_bi {b : BI} {vs : List Val} {Q : VK} (h : Post X T W σ M H (RepV X.K) (biV b vs S) Q) : (b = .len ∧ ∃ xs, vs = [.s xs] ∧ Post X T W σ M H (RepV X.K) (.ok (.d (.int xs.length)) S) Q) ∨ ∃ xs z, allD S vs = some xs ∧ biD b xs = some z ∧ ∀ b M' H', Ext M H M' H' → StoreOk T X.K M' H' S → Rep X.K M' H' z b → Q b H' := by
  have gen : Post X T W σ M H (RepV X.K) (match allD S vs with
    | some xs => okD (biD b xs) S
    | none => .no) Q → ∃ xs z, allD S vs = some xs ∧ biD b xs = some z ∧ ∀ b M' H', Ext M H M' H' → StoreOk T X.K M' H' S → Rep X.K M' H' z b → Q b H' := fun h => by
    cases e : allD S vs with
    | none => rw [e] at h; exact (show False from h).elim
    | some xs =>
      rw [e] at h
      obtain ⟨z, ez, hQ⟩ := post_okD h
      exact ⟨xs, z, rfl, ez, hQ⟩
  unfold biV at h
  split at h
  · exact .inl ⟨rfl, _, rfl, h⟩
  · exact .inr (gen h)
theorem call_G (hc : X.calm = true) (b : BI) : CallR X (biVal b) (rBi X T W σ b) := by
  intro pins s σ' H xs us Q I r h
  obtain ⟨vs, S, M, so, rv, hP⟩ := h
  rcases post_bi hP with ⟨rfl, zs, rfl, hQ⟩ | ⟨ds, z, ea, ez, hQ⟩
  · obtain ⟨y, q, r1, ⟨a, ws, r2, r3, ns, r4, r5⟩, r6⟩ := rv
    have r6 : q = [] := r6
    subst r6 r1 r2 r5 r4
    refine call_len pins s σ' H _ us Q I r ⟨_, ns.length, rfl, .inl ⟨ns.map V.int, ?_, by simp⟩, hQ _ M H (Ext.refl _ _) so ?_⟩
    · rcases r3 with ⟨o, q⟩ | q
      · exact .inl (.inr ⟨o, q⟩)
      · exact .inr q
    · show V.int _ = V.int _
      simp
  · have fin0 : ∀ b, Rep X.K M H z b → Q b H := fun b r => hQ b M H (Ext.refl _ _) so r
    have finN : ∀ (p : Addr) (ob : HO), H p = none → (∀ r : Rep X.K M (upd H p ob) z (.ref p), Q (.ref p) (upd H p ob)) := fun p ob hp r => hQ _ M _ (ext_new hp) (so.new hp) r
    have one : ∀ {d : PyData}, ds = [d] → ∃ y, xs = [y] ∧ (∀ ys, d = .list ys → ∃ a vs, y = .ref a ∧ H a = some (.lst vs) ∧ RepL X.K M H ys vs) ∧ ((∀ ys, d ≠ .list ys) → Rep X.K M H d y) := fun {d} e => by
      subst e
      obtain ⟨v, y, e1, e2, e3, e4⟩ := arg1 ea rv
      obtain ⟨_, h2, h3⟩ := toD_rep so e3 e4
      exact ⟨y, e2, h2, h3⟩
    have two : ∀ {d d' : PyData}, ds = [d, d'] → ∃ y y', xs = [y, y'] ∧ ((∀ ys, d ≠ .list ys) → Rep X.K M H d y) ∧ ((∀ ys, d' ≠ .list ys) → Rep X.K M H d' y') := fun {d d'} e => by
      subst e
      obtain ⟨v, v', y, y', e1, e2, e3, e4, e5, e6⟩ := arg2 ea rv
      exact ⟨y, y', e2, (toD_rep so e3 e5).2.2, (toD_rep so e4 e6).2.2⟩
    unfold biD at ez
    split at ez
    · rename_i ys
      cases ez
      obtain ⟨y, rfl, h1, _⟩ := one rfl
      obtain ⟨a, vs, rfl, h2, h3⟩ := h1 ys rfl
      exact call_len pins s σ' H _ us Q I r ⟨_, vs.length, rfl, .inl ⟨vs, SqL.of h2, rfl⟩, fin0 _ (by rw [h3.length] <;> rfl)⟩
    · rename_i ys
      cases ez
      obtain ⟨y, rfl, _, h1⟩ := one rfl
      obtain ⟨a, vs, rfl, h2, h3⟩ := (show ∃ a vs, y = .ref a ∧ SqT X.K H a vs ∧ RepL X.K M H ys vs from h1 (by intro _ z; cases z))
      exact call_len pins s σ' H _ us Q I r ⟨_, vs.length, rfl, .inr ⟨vs, h2, rfl⟩, fin0 _ (by rw [h3.length] <;> rfl)⟩
    · rename_i t
      split at ez
      · rename_i hl
        cases ez
        obtain ⟨y, rfl, _, h1⟩ := one rfl
        obtain rfl : y = .str t := h1 (by intro _ z; cases z)
        exact call_len pins s σ' H _ us Q I r ⟨_, t.cps.size, rfl, ⟨Nat.le_trans hl lim_line, rfl⟩, fin0 _ rfl⟩
      · cases ez
    · rename_i i
      cases ez
      obtain ⟨y, rfl, _, h1⟩ := one rfl
      obtain rfl : y = .int i := h1 (by intro _ z; cases z)
      exact call_abs pins s σ' H _ us Q I r ⟨i, rfl, fin0 _ rfl⟩
    · rename_i ys
      obtain ⟨ns, e1, e2⟩ := Option.map_eq_some_iff.mp ez
      cases e2
      obtain ⟨y, rfl, h1, _⟩ := one rfl
      obtain ⟨a, vs, rfl, h2, h3⟩ := h1 ys rfl
      rw [h3.ints e1] at h2
      exact cr_sum hc pins s σ' H _ us Q I r ⟨a, ns, rfl, SqL.of h2, fin0 _ rfl⟩
    · rename_i ys
      obtain ⟨ns, e1, e2⟩ := Option.map_eq_some_iff.mp ez
      cases e2
      obtain ⟨y, rfl, h1, _⟩ := one rfl
      obtain ⟨a, vs, rfl, h2, h3⟩ := h1 ys rfl
      rw [h3.bools e1] at h2
      exact cr_all hc pins s σ' H _ us Q I r ⟨a, ns, rfl, SqL.of h2, fin0 _ rfl⟩
    · rename_i i j
      cases ez
      obtain ⟨y, y', rfl, h1, h2⟩ := two rfl
      obtain rfl : y = .int i := h1 (by intro _ z; cases z)
      obtain rfl : y' = .int j := h2 (by intro _ z; cases z)
      exact call_max2 hc pins s σ' H _ us Q I r ⟨i, j, rfl, fin0 _ rfl⟩
    · rename_i i j
      cases ez
      obtain ⟨y, y', rfl, h1, h2⟩ := two rfl
      obtain rfl : y = .int i := h1 (by intro _ z; cases z)
      obtain rfl : y' = .int j := h2 (by intro _ z; cases z)
      exact call_min2 hc pins s σ' H _ us Q I r ⟨i, j, rfl, fin0 _ rfl⟩
    · rename_i i
      cases ez
      obtain ⟨y, rfl, _, h1⟩ := one rfl
      obtain rfl : y = .int i := h1 (by intro _ z; cases z)
      exact call_int1 pins s σ' H _ us Q I r (.inl ⟨i, rfl, fin0 _ rfl⟩)
    · rename_i k
      cases ez
      obtain ⟨y, rfl, _, h1⟩ := one rfl
      obtain rfl : y = .bl k := h1 (by intro _ z; cases z)
      exact call_int1 pins s σ' H _ us Q I r (.inr ⟨k, rfl, fin0 _ rfl⟩)
    · rename_i k
      cases ez
      obtain ⟨y, rfl, _, h1⟩ := one rfl
      obtain rfl : y = .bl k := h1 (by intro _ z; cases z)
      exact call_bool1 pins s σ' H _ us Q I r (.inr ⟨k, rfl, fin0 _ rfl⟩)
    · rename_i i
      split at ez
      · rename_i hl
        cases ez
        obtain ⟨y, rfl, _, h1⟩ := one rfl
        obtain rfl : y = .int i := h1 (by intro _ z; cases z)
        exact call_str_int pins s σ' H _ us Q I r ⟨i, rfl, hl, fin0 _ rfl⟩
      · cases ez
    · rename_i ys
      cases ez
      obtain ⟨y, rfl, h1, _⟩ := one rfl
      obtain ⟨a, vs, rfl, h2, h3⟩ := h1 ys rfl
      exact call_tuple_of pins s σ' H _ us Q I r ⟨a, vs, rfl, .inl ⟨SqL.of h2, fun p hp => finN p _ hp (rep_new_tup hp h3)⟩⟩
    · rename_i ys
      cases ez
      obtain ⟨y, rfl, _, h1⟩ := one rfl
      obtain ⟨a, vs, rfl, h2, h3⟩ := (show ∃ a vs, y = .ref a ∧ SqT X.K H a vs ∧ RepL X.K M H ys vs from h1 (by intro _ z; cases z))
      exact call_tuple_of pins s σ' H _ us Q I r ⟨a, vs, rfl, .inr ⟨h2, fin0 _ ⟨a, vs, rfl, h2, h3⟩⟩⟩
    · rename_i ys
      cases ez
      obtain ⟨y, rfl, h1, _⟩ := one rfl
      obtain ⟨a, vs, rfl, h2, h3⟩ := h1 ys rfl
      exact call_list_of pins s σ' H _ us Q I r ⟨a, vs, rfl, .inl (SqL.of h2), fun p hp => finN p _ hp (rep_new_lst so hp h3)⟩
    · rename_i ys
      cases ez
      obtain ⟨y, rfl, _, h1⟩ := one rfl
      obtain ⟨a, vs, rfl, h2, h3⟩ := (show ∃ a vs, y = .ref a ∧ SqT X.K H a vs ∧ RepL X.K M H ys vs from h1 (by intro _ z; cases z))
      exact call_list_of pins s σ' H _ us Q I r ⟨a, vs, rfl, .inr h2, fun p hp => finN p _ hp (rep_new_lst so hp h3)⟩
    · cases ez

/-! ### isinstance, truth -/
theorem tyX_of {d : PyData} {v : V} (r : Rep X.K M H d v) : ∃ n : String, TyX X.K H v (.type n) ∧ (∀ t : TY, kitB n (match t with | .int => "int" | .bool => "bool" | .str => "str" | .tuple => "tuple" | .list => "list") = some (isiD t d)) := by
  cases d with
  | none => obtain rfl : v = .non := r; exact ⟨"NoneType", .base .non, fun t => by cases t <;> decide +kernel⟩
  | bool b => obtain rfl : v = .bl b := r; exact ⟨"bool", .base (.bl b), fun t => by cases t <;> simp only [isiD] <;> decide +kernel⟩
  | int i => obtain rfl : v = .int i := r; exact ⟨"int", .base (.int i), fun t => by cases t <;> simp only [isiD] <;> decide +kernel⟩
  | str s => obtain rfl : v = .str s := r; exact ⟨"str", .base (.str s), fun t => by cases t <;> simp only [isiD] <;> decide +kernel⟩
  | list ds =>
    obtain ⟨a, vs, rfl, e2, e3, e4⟩ := (show ∃ a vs, v = .ref a ∧ Fre M a ∧ H a = some (.lst vs) ∧ RepL X.K M H ds vs from r)
    exact ⟨"list", .base (.lst e3), fun t => by cases t <;> simp only [isiD] <;> decide +kernel⟩
  | tuple ds =>
    obtain ⟨a, vs, rfl, e2, e3⟩ := (show ∃ a vs, v = .ref a ∧ SqT X.K H a vs ∧ RepL X.K M H ds vs from r)
    refine ⟨"tuple", ?_, fun t => by cases t <;> simp only [isiD] <;> decide +kernel⟩
    rcases e2 with (e2 | ⟨o, e2⟩) | ⟨o, its, n, e2, e4, _⟩
    · exact .base (.tup e2)
    · exact .fTuple e2
    · exact .kTuple e2 e4
  | dict ds => exact (show False from r).elim
theorem isi_G {t : TY} {v : Val} {x : V} {Q : VK} {n : String} (hn : n = (match t with | .int => "int" | .bool => "bool" | .str => "str" | .tuple => "tuple" | .list => "list")) (r : RepV X.K M H v x) (so : StoreOk T X.K M H S) (h : Post X T W σ M H (fun _ _ a (b : V) => b = .bl a) (isiV t v S) Q) : rIsi X.K [x, .ty n] H Q := by
  subst hn
  cases v with
  | r n => exact (show False from h).elim
  | s n => exact (show False from h).elim
  | d d =>
    obtain ⟨n, h1, h2⟩ := tyX_of (d := d) r
    exact ⟨x, _, _, _, isiD t d, rfl, .ty _, h1, kit_ty (h2 t), h _ M H (Ext.refl _ _) so rfl⟩
theorem tru_G {v : Val} {x : V} {Q : Bool → Hp → Prop} (r : RepV X.K M H v x) (so : StoreOk T X.K M H S) (h : Post X T W σ M H (fun _ _ a b => a = b) (truV v S) Q) : ∃ k, TruV X.K x H k ∧ Q k H := by
  unfold truV at h
  cases e : toD v S with
  | none => rw [e] at h; exact (show False from h).elim
  | some d =>
    rw [e] at h
    dsimp only at h
    obtain ⟨_, hl, hn⟩ := toD_rep so e r
    cases e2 : truD d with
    | none => rw [e2] at h; exact (show False from h).elim
    | some k =>
      rw [e2] at h
      refine ⟨k, ?_, h _ M H (Ext.refl _ _) so rfl⟩
      cases d with
      | none => cases e2; rw [show x = .non from hn (by intro _ z; cases z)]; rfl
      | bool b => cases e2; rw [show x = .bl _ from hn (by intro _ z; cases z)]; rfl
      | int i => cases e2; rw [show x = .int _ from hn (by intro _ z; cases z)]; rfl
      | str s =>
        simp only [truD] at e2
        split at e2
        · rename_i hz
          cases e2
          rw [show x = .str _ from hn (by intro _ z; cases z)]
          exact ⟨Nat.le_trans hz lim_line, rfl⟩
        · cases e2
      | list xs =>
        cases e2
        obtain ⟨a, vs, rfl, h2, h3⟩ := hl xs rfl
        refine .inl ⟨vs, SqL.of h2, ?_⟩
        have := h3.length
        cases xs <;> cases vs <;> first | rfl | (simp at this)
      | tuple xs =>
        cases e2
        obtain ⟨a, vs, rfl, h2, h3⟩ := (show ∃ a vs, x = .ref a ∧ SqT X.K H a vs ∧ RepL X.K M H xs vs from hn (by intro _ z; cases z))
        refine .inr (.inl ⟨vs, h2, ?_⟩)
        have := h3.length
        cases xs <;> cases vs <;> first | rfl | (simp at this)
      | dict _ => cases e2
end
end Z

/-! Readings; names, operators, displays, calls. -/
namespace Z
open PySem PySem.Spec PyProof.Rows L2

structure EnvOk (K : PySem.W.Frag) (M : MM) (H : Hp) (ρ : Z.Env) (σ : L2.St) : Prop where
  len : ρ.length = σ.length
  at_ : ∀ (i : Nat) v, ρ[i]? = some (some v) → ∃ x, σ[i]? = some (some x) ∧ RepV K M H v x
theorem EnvOk.ext {K : PySem.W.Frag} {M M' : MM} {H H' : Hp} {ρ : Z.Env} {σ : L2.St} (e : EnvOk K M H ρ σ) (x : Ext M H M' H') : EnvOk K M' H' ρ σ := ⟨e.len, fun i v h => by
  obtain ⟨y, h1, h2⟩ := e.at_ i v h
  exact ⟨y, h1, h2.ext x⟩⟩
theorem EnvOk.set {K : PySem.W.Frag} {M : MM} {H : Hp} {ρ : Z.Env} {σ : L2.St} (e : EnvOk K M H ρ σ) {v : Val} {x : V} (r : RepV K M H v x) (i : Nat) : EnvOk K M H (ρ.set i (some v)) (σ.set i (some x)) := ⟨by simp [e.len], fun j w h => by
  by_cases hj : i = j
  · subst hj
    have hl : i < ρ.length := by
      have := (List.getElem?_eq_some_iff.mp h).1
      simpa using this
    rw [List.getElem?_set_self hl] at h
    cases h
    exact ⟨x, List.getElem?_set_self (by rw [← e.len]; exact hl), r⟩
  · rw [List.getElem?_set_ne hj] at h ⊢
    exact e.at_ j w h⟩
theorem EnvOk.unset {K : PySem.W.Frag} {M : MM} {H : Hp} {ρ : Z.Env} {σ : L2.St} (e : EnvOk K M H ρ σ) (i : Nat) : EnvOk K M H (ρ.set i none) (σ.set i none) := ⟨by simp [e.len], fun j w h => by
  by_cases hj : i = j
  · subst hj
    have hl : i < ρ.length := by
      have := (List.getElem?_eq_some_iff.mp h).1
      simpa using this
    rw [List.getElem?_set_self hl] at h
    cases h
  · rw [List.getElem?_set_ne hj] at h ⊢
    exact e.at_ j w h⟩
theorem EnvOk.wipe {K : PySem.W.Frag} {M : MM} {H : Hp} {ρ : Z.Env} {σ : L2.St} (e : EnvOk K M H ρ σ) : ∀ vs : List Nat, EnvOk K M H (wipeE ρ vs) (L2.wipe σ vs)
  | [] => e
  | v :: vs => (EnvOk.wipe e vs).unset v

section
variable (X : Cx) (T : List (Addr × Str)) (W : WX)
/-- the reading of a run m -/
def rd {α β : Type} (rep : MM → Hp → α → β → Prop) (m : Z.Env → Sto → R α) : L2.St → Hp → (β → Hp → Prop) → Prop := fun σ H Q => ∃ ρ S M, EnvOk X.K M H ρ σ ∧ StoreOk T X.K M H S ∧ Post X T W σ M H rep (m ρ S) Q
abbrev rE (m : Z.Env → Sto → R Val) : TE := rd X T W (RepV X.K) m
abbrev rT (m : Z.Env → Sto → R Bool) : TT := rd X T W (fun _ _ a b => a = b) m
abbrev rA (m : Z.Env → Sto → R (List Val)) : TA := rd X T W (RepVs X.K) m
abbrev rO (m : Z.Env → Sto → R (Option Int)) : TO := rd X T W (fun _ _ a b => a = b) m
end
theorem PE.imp {X : Cx} {e : Expr} {t t' : TE} (h : PE X e t) (i : ∀ σ H Q, t' σ H Q → t σ H Q) : PE X e t' := ⟨fun pins s σ H Q I q => h.run pins s σ H Q I (i _ _ _ q)⟩
theorem PT.imp {X : Cx} {e : Expr} {t t' : TT} (h : PT X e t) (i : ∀ σ H Q, t' σ H Q → t σ H Q) : PT X e t' := ⟨fun pins s σ H Q I q => h.run pins s σ H Q I (i _ _ _ q)⟩
theorem PW.imp {X : Cx} {e : Expr} {t t' : TT} (h : PW X e t) (i : ∀ σ H Q, t' σ H Q → t σ H Q) : PW X e t' := ⟨fun wh pins s σ H Q I q => h.run wh pins s σ H Q I (i _ _ _ q)⟩
theorem PA.imp {X : Cx} {e : List Expr} {t t' : TA} (h : PA X e t) (i : ∀ σ H Q, t' σ H Q → t σ H Q) : PA X e t' := ⟨fun pos pins s σ H Q I q => h.run pos pins s σ H Q I (i _ _ _ q)⟩
theorem PO.imp {X : Cx} {e : Option Expr} {t t' : TO} (h : PO X e t) (i : ∀ σ H Q, t' σ H Q → t σ H Q) : PO X e t' := ⟨fun pins s σ H Q I q => h.run pins s σ H Q I (i _ _ _ q)⟩
theorem PTs.imp {X : Cx} {e : List Expr} {t t' : TT} (h : PTs X e t) (i : ∀ σ H Q, t' σ H Q → t σ H Q) : PTs X e t' := ⟨fun pins s σ H Q I q => h.run pins s σ H Q I (i _ _ _ q)⟩

/-- what the module gives -/
def spG (K : PySem.W.Frag) (mg : Str → Option Value) (T : List (Addr × Str)) (C : List Val → Sto → R Val) : Sp := fun vs H Q E => ∃ ds S M, StoreOk T K M H S ∧ RepVs K M H ds vs ∧ match C ds S with
  | .ok d S' => ∀ v M' H', Ext M H M' H' → StoreOk T K M' H' S' → RepV K M' H' d v → Q v H'
  | .ex c S' => ∀ M' H' C, Ext M H M' H' → StoreOk T K M' H' S' → mg c = some (.ref C) → E (.ref C) none H'
  | .no => False
structure GG (P : Program) (w : World) (K : PySem.W.Frag) (mg : Str → Option Value) (base : Heap) (T : List (Addr × Str)) (c : SC) (F : Tab) (k : Nat) : Prop where
  con : ∀ x d, inCons c x d = true → ∃ u v, mg x = some u ∧ RelV v u ∧ ∀ M H, Rep K M H d v
  fns : ∀ x n, c.fns.lookup x = some n → ∃ a fd ps, mg x = some (.ref a) ∧ PySem.W.keepIn K (.ref a) = true ∧ Binds K fd ps [] ∧ FnOk P w K mg base (L2.CX P w) k a fd ps (spG K mg T (callF F k n))
  blt : ∀ x, x ∈ c.blt → mg x = none
  exc : ∀ x, x ∈ c.excs → ∃ C : Addr, mg x = some (.ref C) ∧ PySem.W.excIn K C [.type "ValueError", .type "Exception", .type "BaseException", .type "object"] "ValueError.__new__" = true ∧ PySem.W.keepIn K (.ref C) = true ∧ PySem.W.subIn K (.ref C) (.type "BaseException") = some true ∧ PySem.W.typeIn K (.ref C) = some (.type "type")
structure Good (X : Cx) (T : List (Addr × Str)) (W : WX) (c : SC) (F : Tab) (k : Nat) : Prop where
  N : X.N = c.N
  nd : c.N.Nodup
  sc : X.env.scope = c.sc
  calm : X.calm = true
  room : Room k X.A
  tk : Takes X W
  gg : GG X.prog X.w X.K X.mg X.base T c F k
section
variable {X : Cx} {T : List (Addr × Str)} {W : WX} {c : SC} {F : Tab} {k : Nat}
theorem Good.units (g : Good X T W c F k) : X.A.units + 65 < cLine := by have := g.room.un; omega
theorem Good.gl (g : Good X T W c F k) {x : Str} (h : Z.gl c x = true) : Gl X x ∧ (x == ("__debug__" : Str)) = false := by
  unfold Z.gl at h
  simp only [Bool.and_eq_true, decide_eq_true_eq, Bool.not_eq_true'] at h
  exact ⟨by show X.env.scope.names.lookup x = _; rw [g.sc]; exact h.1, h.2⟩
theorem Good.var (g : Good X T W c F k) {i : Nat} {x : Str} (h : okVar c i x = true) : X.N[i]? = some x ∧ Vis X.env.scope x ∧ (x == ("__debug__" : Str)) = false ∧ (x == ("__classdict__" : Str)) = false := by
  unfold okVar at h
  simp only [Bool.and_eq_true, decide_eq_true_eq, Bool.not_eq_true'] at h
  obtain ⟨⟨⟨h1, h2⟩, h3⟩, h4⟩ := h
  refine ⟨by rw [g.N]; exact h1, ?_, h3, h4⟩
  rw [g.sc]
  unfold isVis at h2
  split at h2
  · exact .inl (by assumption)
  · exact .inr (.inl (by assumption))
  · exact .inr (.inr (by assumption))
  · cases h2
theorem loc_of {sc : Scope} {x : Str} (h : isLoc sc x = true) : Loc sc x := by
  unfold isLoc at h
  split at h
  · exact .inl (by assumption)
  · exact .inr (by assumption)
  · cases h
theorem Good.set (g : Good X T W c F k) {i : Nat} {x : Str} (h : okSet c i x = true) : X.N[i]? = some x ∧ Loc X.env.scope x := by
  unfold okSet at h
  simp only [Bool.and_eq_true, decide_eq_true_eq] at h
  exact ⟨by rw [g.N]; exact h.1, by rw [g.sc]; exact loc_of h.2⟩
theorem Good.ndX (g : Good X T W c F k) : X.N.Nodup := by rw [g.N]; exact g.nd
theorem Good.blt (g : Good X T W c F k) {x : Str} (h : isBlt c x = true) : Gl X x ∧ (x == ("__debug__" : Str)) = false ∧ X.mg x = none := by
  unfold isBlt at h
  simp only [Bool.and_eq_true, decide_eq_true_eq] at h
  exact ⟨(g.gl h.1).1, (g.gl h.1).2, g.gg.blt x h.2⟩
/-- a step of a reading: the first part's run -/
theorem rd_bind {α β γ δ : Type} {rep : MM → Hp → α → β → Prop} {rep2 : MM → Hp → γ → δ → Prop} {m : Z.Env → Sto → R α} {f : Z.Env → α → Sto → R γ} {σ : L2.St} {H : Hp} {Q : δ → Hp → Prop}
    (h : rd X T W rep2 (fun ρ S => (m ρ S).bind (f ρ)) σ H Q) :
    rd X T W rep m σ H fun b H1 => ∃ ρ a S M, EnvOk X.K M H1 ρ σ ∧ StoreOk T X.K M H1 S ∧ rep M H1 a b ∧ Post X T W σ M H1 rep2 (f ρ a S) Q := by
  obtain ⟨ρ, S, M, e, s, p⟩ := h
  refine ⟨ρ, S, M, e, s, ?_⟩
  have q := Post.bind (rep := rep) p
  cases hm : m ρ S with
  | ok a S1 =>
    rw [hm] at q
    intro b M1 H1 x1 s1 r1
    obtain ⟨a', S1', M1', y1, y2, y3, y4, y5⟩ := q b M1 H1 x1 s1 r1
    cases y4
    exact ⟨ρ, _, _, _, e.ext y1, y2, y3, y5⟩
  | ex c S1 => rw [hm] at q; exact q
  | no => rw [hm] at q; exact q
/-- the same, told of a value's run -/
theorem post_step {α β γ δ : Type} {rep : MM → Hp → α → β → Prop} {rep2 : MM → Hp → γ → δ → Prop} {m : Sto → R α} {f : α → Sto → R γ} {σ : L2.St} {M : MM} {H : Hp} {S : Sto} {ρ : Z.Env} {Q : δ → Hp → Prop} (e : EnvOk X.K M H ρ σ) (s : StoreOk T X.K M H S)
    (h : Post X T W σ M H rep2 ((m S).bind f) Q) : Post X T W σ M H rep (m S) fun b H1 => ∃ a S' M', EnvOk X.K M' H1 ρ σ ∧ Ext M H M' H1 ∧ StoreOk T X.K M' H1 S' ∧ rep M' H1 a b ∧ Post X T W σ M' H1 rep2 (f a S') Q := by
  have q := Post.bind (rep := rep) h
  cases hm : m S with
  | ok a S1 =>
    rw [hm] at q
    intro b M1 H1 x1 s1 r1
    obtain ⟨a', S1', M1', y1, y2, y3, y4, y5⟩ := q b M1 H1 x1 s1 r1
    cases y4
    exact ⟨_, _, _, e.ext y1, y1, y2, y3, y5⟩
  | ex c S1 => rw [hm] at q; exact q
  | no => rw [hm] at q; exact q
/-- from by-values: the post of a value said of a truth -/
theorem post_bV {σ : L2.St} {M : MM} {H : Hp} {m : R Bool} {Q : VK} (h : Post X T W σ M H (RepV X.K) (m.bind bV) Q) : Post X T W σ M H (fun _ _ a (b : V) => b = .bl a) m Q := by
  cases m with
  | ok a S => exact fun b M' H' e s r => h b M' H' e s r
  | ex c S => exact h
  | no => exact h
theorem post_bT {σ : L2.St} {M : MM} {H : Hp} {m : R Bool} {Q : Bool → Hp → Prop} (h : Post X T W σ M H (fun _ _ a b => a = b) m Q) : Post X T W σ M H (fun _ _ a (b : V) => b = .bl a) m (fun x H' => ∃ k, x = .bl k ∧ Q k H') := by
  cases m with
  | ok a S => exact fun b M' H' e s r => ⟨a, r, h a M' H' e s rfl⟩
  | ex c S => exact h
  | no => exact h

/-! ### names, constants -/
theorem s_var (g : Good X T W c F k) {C : Nat → List Val → Sto → R Val} {i : Nat} {x : Str} {p : Pos} (h : okVar c i x = true) : PE X (.Name x p) (rE X T W (evE C (.var i))) := by
  obtain ⟨h1, h2, h3, h4⟩ := g.var h
  refine PE.imp (pe_var h1 h2 h3 h4) fun σ H Q q => ?_
  obtain ⟨ρ, S, M, e, s, q⟩ := q
  simp only [evE] at q
  split at q
  · rename_i v hv
    obtain ⟨y, e1, e2⟩ := e.at_ i v hv
    exact ⟨y, e1, q y M H (Ext.refl _ _) s e2⟩
  · exact q.elim
theorem s_frz (g : Good X T W c F k) {C : Nat → List Val → Sto → R Val} {i : Nat} {x : Str} {p : Pos} (h : okVar c i x = true) : PE X (.Name x p) (rE X T W (evE C (.frz i))) := by
  obtain ⟨h1, h2, h3, h4⟩ := g.var h
  refine PE.imp (pe_var h1 h2 h3 h4) fun σ H Q q => ?_
  obtain ⟨ρ, S, M, e, s, q⟩ := q
  simp only [evE] at q
  split at q
  · rename_i n hv
    split at q
    · rename_i xs hn
      obtain ⟨y, e1, a, e2, e3⟩ := e.at_ i _ hv
      subst e2
      have hm : M.m[n]? = some (some a) := by
        obtain ⟨b, _, z, _⟩ := s.ent n xs hn
        rcases e3 with e3 | e3
        · rw [z] at e3; cases e3
        · exact e3
      exact ⟨_, e1, q _ (M.gone n) H ext_gone s.gone (rep_gone s hn hm)⟩
    · exact q.elim
  · exact q.elim
theorem s_lit {C : Nat → List Val → Sto → R Val} {d : PyData} {kc : Const} {j : Nat} {p : Pos} (h : constEq d kc = true) : PE X (.Constant kc j p) (rE X T W (evE C (.lit d))) := by
  cases d <;> cases kc <;> first | (exact absurd (show false = true from h) Bool.false_ne_true) | skip
  · exact PE.imp pe_non fun σ H Q ⟨ρ, S, M, e, s, q⟩ => q _ M H (Ext.refl _ _) s rfl
  · rename_i a b
    have hb : a = b := by simpa [constEq] using h
    subst hb
    exact PE.imp pe_bl fun σ H Q ⟨ρ, S, M, e, s, q⟩ => q _ M H (Ext.refl _ _) s rfl
  · rename_i a b
    have hb : a = b := by simpa [constEq] using h
    subst hb
    exact PE.imp pe_int fun σ H Q ⟨ρ, S, M, e, s, q⟩ => q _ M H (Ext.refl _ _) s rfl
  · rename_i a b
    have hb : a = b := by simpa [constEq] using h
    subst hb
    exact PE.imp pe_str fun σ H Q ⟨ρ, S, M, e, s, q⟩ => q _ M H (Ext.refl _ _) s rfl
theorem s_glo (g : Good X T W c F k) {C : Nat → List Val → Sto → R Val} {x : Str} {d : PyData} {p : Pos} (h1 : gl c x = true) (h2 : inCons c x d = true) : PE X (.Name x p) (rE X T W (evE C (.glo x d))) := by
  obtain ⟨u, v, m1, m2, m3⟩ := g.gg.con x d h2
  obtain ⟨g1, g2⟩ := g.gl h1
  exact PE.imp (pe_glob g1 m1 m2 g2) fun σ H Q ⟨ρ, S, M, e, s, q⟩ => q v M H (Ext.refl _ _) s (m3 M H)

/-! ### operators -/
variable {C : Nat → List Val → Sto → R Val} {a b d : LE} {e f e' : Expr} {p : Pos}
theorem Post.mono {α β : Type} {rep : MM → Hp → α → β → Prop} {σ : L2.St} {M : MM} {H : Hp} {m : R α} {Q Q' : β → Hp → Prop} (h : Post X T W σ M H rep m Q) (i : ∀ b H', Q b H' → Q' b H') : Post X T W σ M H rep m Q' := by
  cases m with
  | ok a S => exact fun b M' H' e s r => i _ _ (h b M' H' e s r)
  | ex c S => exact h
  | no => exact h
theorem rd_mono {α β : Type} {rep : MM → Hp → α → β → Prop} {m : Z.Env → Sto → R α} {σ : L2.St} {H : Hp} {Q Q' : β → Hp → Prop} (h : rd X T W rep m σ H Q) (i : ∀ b H', Q b H' → Q' b H') : rd X T W rep m σ H Q' := by
  obtain ⟨ρ, S, M, e, s, p⟩ := h
  exact ⟨ρ, S, M, e, s, p.mono i⟩
theorem s_neg (h : PE X e (rE X T W (evE C a))) : PE X (.UnaryOp .USub e p) (rE X T W (evE C (.neg a))) := by
  refine PE.imp (pe_un un_neg h) fun σ H Q q => ?_
  refine rd_mono (rd_bind (rep := RepV X.K) (f := fun _ => negV) q) fun y H' ⟨ρ, v, S, M, e, s, r, p⟩ => ?_
  cases v with
  | d dd => cases dd with
    | int i => exact ⟨i, r, p _ M H' (Ext.refl _ _) s rfl⟩
    | _ => exact (show False from p).elim
  | _ => exact (show False from p).elim
theorem s_bin {o : Op2} (ha : PE X e (rE X T W (evE C a))) (hb : PE X f (rE X T W (evE C b))) : PE X (.BinOp e (opOf o) f p) (rE X T W (evE C (.bin o a b))) := by
  refine ⟨fun pins s σ H Q I q => ?_⟩
  refine (pe_op (op_binG (T := T) (W := W) (σ := σ) o) ha hb).run pins s σ H Q I ?_
  refine rd_mono (rd_bind (rep := RepV X.K) (f := fun ρ v S => (evE C b ρ S).bind fun w S => binV o v w S) q) fun x H1 ⟨ρ, v, S, M, e, s, r, p⟩ => ?_
  exact ⟨ρ, S, M, e, s, Post.mono (post_step (rep := RepV X.K) e s p) fun y H2 ⟨w, S', M', e', x', s', r', p'⟩ => ⟨v, w, S', M', s', r.ext x', r', p'⟩⟩
theorem s_cmp (g : Good X T W c F k) {o : CO} (ha : PE X e (rE X T W (evE C a))) (hb : PE X f (rE X T W (evE C b))) (hm : behindInMarks (coOf o) f = false) : PE X (.Compare e [coOf o] [f] p) (rE X T W (evE C (.cmp o a b))) := by
  refine ⟨fun pins s σ H Q I q => ?_⟩
  refine (pe_cmpR (op_cmpG (T := T) (W := W) (σ := σ) g.units o) ha hb hm).run pins s σ H Q I ?_
  refine rd_mono (rd_bind (rep := RepV X.K) (f := fun ρ v S => (evE C b ρ S).bind fun w S => (cmpV o v w S).bind bV) q) fun x H1 ⟨ρ, v, S, M, e, s, r, p⟩ => ?_
  exact ⟨ρ, S, M, e, s, Post.mono (post_step (rep := RepV X.K) e s p) fun y H2 ⟨w, S', M', e', x', s', r', p'⟩ => ⟨v, w, S', M', s', r.ext x', r', post_bV p'⟩⟩
theorem t_cmp (g : Good X T W c F k) {o : CO} (ha : PE X e (rE X T W (evE C a))) (hb : PE X f (rE X T W (evE C b))) (hm : behindInMarks (coOf o) f = false) : PT X (.Compare e [coOf o] [f] p) (rT X T W (evT C (.cmp o a b))) := by
  refine ⟨fun pins s σ H Q I q => ?_⟩
  refine (pt_cmpR (op_cmpG (T := T) (W := W) (σ := σ) g.units o) ha hb hm).run pins s σ H Q I ?_
  refine rd_mono (rd_bind (rep := RepV X.K) (f := fun ρ v S => (evE C b ρ S).bind fun w S => cmpV o v w S) q) fun x H1 ⟨ρ, v, S, M, e, s, r, p⟩ => ?_
  exact ⟨ρ, S, M, e, s, Post.mono (post_step (rep := RepV X.K) e s p) fun y H2 ⟨w, S', M', e', x', s', r', p'⟩ => ⟨v, w, S', M', s', r.ext x', r', post_bT p'⟩⟩
/-- the first answer of a chain, then the second -/
theorem chain_post {o q : CO} {σ : L2.St} {H2 : Hp} {M : MM} {S : Sto} {ρ : Z.Env} {v w : Val} {x y : V} {Q : VK} (e : EnvOk X.K M H2 ρ σ) (s : StoreOk T X.K M H2 S) (rv : RepV X.K M H2 v x) (rw' : RepV X.K M H2 w y)
    (h : Post X T W σ M H2 (RepV X.K) ((cmpV o v w S).bind fun z S => if z then (evE C d ρ S).bind fun u S => (cmpV q w u S).bind bV else bV false S) Q) :
    rCmp X T W σ o x y H2 fun z H3 => ∃ kk, z = .bl kk ∧ (if kk = true then rE X T W (evE C d) σ H3 fun w' H4 => rCmp X T W σ q y w' H4 Q else Q (.bl false) H3) := by
  refine ⟨v, w, S, M, s, rv, rw', ?_⟩
  cases hm : cmpV o v w S with
  | ex c S' => rw [hm] at h; exact h
  | no => rw [hm] at h; exact h
  | ok kk S' =>
    rw [hm] at h
    intro b M' H' e1 s1 r1
    refine ⟨kk, r1, ?_⟩
    cases kk with
    | false =>
      rw [if_neg Bool.false_ne_true]
      exact h _ M' H' e1 s1 rfl
    | true =>
      rw [if_pos rfl]
      have h1 : Post X T W σ M H2 (RepV X.K) ((evE C d ρ S').bind fun u S => (cmpV q w u S).bind bV) Q := h
      refine ⟨ρ, S', M', e.ext e1, s1, Post.mono (post_step (rep := RepV X.K) (e.ext e1) s1 (h1.ext e1)) fun u H4 ⟨w4, S4, M4, e4, x4, s4, r4, p4⟩ => ⟨w, w4, S4, M4, s4, (rw'.ext e1).ext x4, r4, post_bV p4⟩⟩
theorem chain_postT {o q : CO} {σ : L2.St} {H2 : Hp} {M : MM} {S : Sto} {ρ : Z.Env} {v w : Val} {x y : V} {Q : Bool → Hp → Prop} (e : EnvOk X.K M H2 ρ σ) (s : StoreOk T X.K M H2 S) (rv : RepV X.K M H2 v x) (rw' : RepV X.K M H2 w y)
    (h : Post X T W σ M H2 (fun _ _ a b => a = b) ((cmpV o v w S).bind fun z S => if z then (evE C d ρ S).bind fun u S => cmpV q w u S else .ok false S) Q) :
    rCmp X T W σ o x y H2 fun z H3 => ∃ kk, z = .bl kk ∧ (if kk = true then rE X T W (evE C d) σ H3 fun w' H4 => rCmp X T W σ q y w' H4 (fun x H' => ∃ k, x = V.bl k ∧ Q k H') else ∃ k, V.bl false = V.bl k ∧ Q k H3) := by
  refine ⟨v, w, S, M, s, rv, rw', ?_⟩
  cases hm : cmpV o v w S with
  | ex c S' => rw [hm] at h; exact h
  | no => rw [hm] at h; exact h
  | ok kk S' =>
    rw [hm] at h
    intro b M' H' e1 s1 r1
    refine ⟨kk, r1, ?_⟩
    cases kk with
    | false =>
      rw [if_neg Bool.false_ne_true]
      exact ⟨false, rfl, h _ M' H' e1 s1 rfl⟩
    | true =>
      rw [if_pos rfl]
      have h1 : Post X T W σ M H2 (fun _ _ a b => a = b) ((evE C d ρ S').bind fun u S => cmpV q w u S) Q := h
      refine ⟨ρ, S', M', e.ext e1, s1, Post.mono (post_step (rep := RepV X.K) (e.ext e1) s1 (h1.ext e1)) fun u H4 ⟨w4, S4, M4, e4, x4, s4, r4, p4⟩ => ⟨w, w4, S4, M4, s4, (rw'.ext e1).ext x4, r4, post_bT p4⟩⟩
theorem s_chain (g : Good X T W c F k) {o q : CO} (ha : PE X e (rE X T W (evE C a))) (hb : PE X f (rE X T W (evE C b))) (hd : PE X e' (rE X T W (evE C d))) (hm : lastMarks [coOf o, coOf q] [f, e'] = false) : PE X (.Compare e [coOf o, coOf q] [f, e'] p) (rE X T W (evE C (.chain o q a b d))) := by
  refine ⟨fun pins s σ H Q I q' => ?_⟩
  refine (pe_chain (op_cmpG (T := T) (W := W) (σ := σ) g.units o) (op_cmpG (T := T) (W := W) (σ := σ) g.units q) ha hb hd hm).run pins s σ H Q I ?_
  refine rd_mono (rd_bind (rep := RepV X.K) (f := fun ρ v S => (evE C b ρ S).bind fun w S => (cmpV o v w S).bind fun z S => if z then (evE C d ρ S).bind fun u S => (cmpV q w u S).bind bV else bV false S) q') fun x H1 ⟨ρ, v, S, M, e, s, r, p⟩ => ?_
  exact ⟨ρ, S, M, e, s, Post.mono (post_step (rep := RepV X.K) e s p) fun y H2 ⟨w, S', M', e', x', s', r', p'⟩ => chain_post e' s' (r.ext x') r' p'⟩
theorem t_chain (g : Good X T W c F k) {o q : CO} (ha : PE X e (rE X T W (evE C a))) (hb : PE X f (rE X T W (evE C b))) (hd : PE X e' (rE X T W (evE C d))) (hm : lastMarks [coOf o, coOf q] [f, e'] = false) : PT X (.Compare e [coOf o, coOf q] [f, e'] p) (rT X T W (evT C (.chain o q a b d))) := by
  refine ⟨fun pins s σ H Q I q' => ?_⟩
  refine (pt_chain (op_cmpG (T := T) (W := W) (σ := σ) g.units o) (op_cmpG (T := T) (W := W) (σ := σ) g.units q) ha hb hd hm).run pins s σ H Q I ?_
  refine rd_mono (rd_bind (rep := RepV X.K) (f := fun ρ v S => (evE C b ρ S).bind fun w S => (cmpV o v w S).bind fun z S => if z then (evE C d ρ S).bind fun u S => cmpV q w u S else .ok false S) q') fun x H1 ⟨ρ, v, S, M, e, s, r, p⟩ => ?_
  exact ⟨ρ, S, M, e, s, Post.mono (post_step (rep := RepV X.K) e s p) fun y H2 ⟨w, S', M', e', x', s', r', p'⟩ => chain_postT e' s' (r.ext x') r' p'⟩

/-! ### and, or, not, if -/
theorem asBool_d {v : Val} {S : Sto} {σ : L2.St} {M : MM} {H : Hp} {x : V} {α β : Type} {rep : MM → Hp → α → β → Prop} {f : Bool → Sto → R α} {Q : β → Hp → Prop} (r : RepV X.K M H v x) (h : Post X T W σ M H rep ((asBool v S).bind f) Q) : ∃ b, x = .bl b ∧ Post X T W σ M H rep (f b S) Q := by
  cases v with
  | d dd => cases dd with
    | bool b => exact ⟨b, r, h⟩
    | _ => exact (show False from h).elim
  | _ => exact (show False from h).elim
theorem s_and {rest : List Expr} (ha : PE X e (rE X T W (evE C a))) (hb : PE X (.BoolOp .And (f :: rest) p) (rE X T W (evE C b))) : PE X (.BoolOp .And (e :: f :: rest) p) (rE X T W (evE C (.and a b))) := by
  refine PE.imp (pe_and ha hb) fun σ H Q q => ?_
  refine rd_mono (rd_bind (rep := RepV X.K) (f := fun ρ v S => (asBool v S).bind fun x S => if x then evE C b ρ S else bV false S) q) fun x H1 ⟨ρ, v, S, M, e, s, r, p⟩ => ?_
  obtain ⟨bb, hx, p⟩ := asBool_d r p
  refine ⟨bb, hx, ?_⟩
  cases bb with
  | true => rw [if_pos rfl] at p ⊢; exact ⟨ρ, S, M, e, s, p⟩
  | false => rw [if_neg Bool.false_ne_true] at p ⊢; exact p _ M H1 (Ext.refl _ _) s rfl
theorem s_or {rest : List Expr} (ha : PE X e (rE X T W (evE C a))) (hb : PE X (.BoolOp .Or (f :: rest) p) (rE X T W (evE C b))) : PE X (.BoolOp .Or (e :: f :: rest) p) (rE X T W (evE C (.or a b))) := by
  refine PE.imp (pe_or ha hb) fun σ H Q q => ?_
  refine rd_mono (rd_bind (rep := RepV X.K) (f := fun ρ v S => (asBool v S).bind fun x S => if x then bV true S else evE C b ρ S) q) fun x H1 ⟨ρ, v, S, M, e, s, r, p⟩ => ?_
  obtain ⟨bb, hx, p⟩ := asBool_d r p
  refine ⟨bb, hx, ?_⟩
  cases bb with
  | true => rw [if_pos rfl] at p ⊢; exact p _ M H1 (Ext.refl _ _) s rfl
  | false => rw [if_neg Bool.false_ne_true] at p ⊢; exact ⟨ρ, S, M, e, s, p⟩
theorem s_not (ha : PE X e (rE X T W (evE C a))) : PE X (.UnaryOp .Not e p) (rE X T W (evE C (.not a))) := by
  refine PE.imp (pe_not ha) fun σ H Q q => ?_
  refine rd_mono (rd_bind (rep := RepV X.K) (f := fun ρ v S => (asBool v S).bind fun x S => bV (!x) S) q) fun x H1 ⟨ρ, v, S, M, e, s, r, p⟩ => ?_
  obtain ⟨bb, hx, p⟩ := asBool_d r p
  exact ⟨bb, hx, p _ M H1 (Ext.refl _ _) s rfl⟩
theorem t_and {rest : List Expr} (ha : PT X e (rT X T W (evT C a))) (hb : PW X (.BoolOp .And (f :: rest) p) (rT X T W (evT C b))) : PW X (.BoolOp .And (e :: f :: rest) p) (rT X T W (evT C (.and a b))) := by
  refine PW.imp (pw_and ha hb) fun σ H Q q => ?_
  refine rd_mono (rd_bind (rep := fun _ _ a b => a = b) (f := fun ρ x S => if x then evT C b ρ S else .ok false S) q) fun x H1 ⟨ρ, v, S, M, e, s, r, p⟩ => ?_
  subst r
  cases v with
  | true => rw [if_pos rfl] at p ⊢; exact ⟨ρ, S, M, e, s, p⟩
  | false => rw [if_neg Bool.false_ne_true] at p ⊢; exact p _ M H1 (Ext.refl _ _) s rfl
theorem t_or {rest : List Expr} (ha : PT X e (rT X T W (evT C a))) (hb : PW X (.BoolOp .Or (f :: rest) p) (rT X T W (evT C b))) : PW X (.BoolOp .Or (e :: f :: rest) p) (rT X T W (evT C (.or a b))) := by
  refine PW.imp (pw_or ha hb) fun σ H Q q => ?_
  refine rd_mono (rd_bind (rep := fun _ _ a b => a = b) (f := fun ρ x S => if x then .ok true S else evT C b ρ S) q) fun x H1 ⟨ρ, v, S, M, e, s, r, p⟩ => ?_
  subst r
  cases v with
  | true => rw [if_pos rfl] at p ⊢; exact p _ M H1 (Ext.refl _ _) s rfl
  | false => rw [if_neg Bool.false_ne_true] at p ⊢; exact ⟨ρ, S, M, e, s, p⟩
theorem t_not (ha : PT X e (rT X T W (evT C a))) : PT X (.UnaryOp .Not e p) (rT X T W (evT C (.not a))) := by
  refine PT.imp (pt_not ha) fun σ H Q q => ?_
  refine rd_mono (rd_bind (rep := fun _ _ a b => a = b) (f := fun ρ x S => .ok (!x) S) q) fun x H1 ⟨ρ, v, S, M, e, s, r, p⟩ => ?_
  subst r
  exact p _ M H1 (Ext.refl _ _) s rfl
theorem s_ite {t : LE} (hc : PT X e' (rT X T W (evT C t))) (ha : PE X e (rE X T W (evE C a))) (hb : PE X f (rE X T W (evE C b))) : PE X (.IfExp e' e f p) (rE X T W (evE C (.ite t a b))) := by
  refine PE.imp (pe_ifExp hc ha hb) fun σ H Q q => ?_
  refine rd_mono (rd_bind (rep := fun _ _ a b => a = b) (f := fun ρ x S => if x then evE C a ρ S else evE C b ρ S) q) fun x H1 ⟨ρ, v, S, M, e, s, r, p⟩ => ?_
  subst r
  cases v with
  | true => rw [if_pos rfl] at p ⊢; exact ⟨ρ, S, M, e, s, p⟩
  | false => rw [if_neg Bool.false_ne_true] at p ⊢; exact ⟨ρ, S, M, e, s, p⟩

/-! ### displays -/
theorem plain_rep {M : MM} {H : Hp} : ∀ {vs : List Val} {xs : List PyData} {ys : List V}, plain vs = some xs → RepVs X.K M H vs ys → RepL X.K M H xs ys
  | [], xs, ys, h, r => by
    simp only [plain, Option.some.injEq] at h
    subst h
    exact r
  | .d x :: vs, xs, ys, h, r => by
    simp only [plain, Option.map_eq_some_iff] at h
    obtain ⟨zs, h1, h2⟩ := h
    subst h2
    obtain ⟨v, q, r1, r2, r3⟩ := r
    exact ⟨v, q, r1, r2, plain_rep h1 r3⟩
  | .r n :: vs, xs, ys, h, r => by simp [plain] at h
  | .s n :: vs, xs, ys, h, r => by simp [plain] at h
theorem plain_len : ∀ {vs : List Val} {xs : List PyData}, plain vs = some xs → vs.length = xs.length
  | [], xs, h => by simp only [plain, Option.some.injEq] at h; subst h; rfl
  | .d x :: vs, xs, h => by
    simp only [plain, Option.map_eq_some_iff] at h
    obtain ⟨zs, h1, h2⟩ := h
    subst h2
    simp [plain_len h1]
  | .r n :: vs, xs, h => by simp [plain] at h
  | .s n :: vs, xs, h => by simp [plain] at h
theorem evL_len : ∀ {es : List LE} {ρ : Z.Env} {S S' : Sto} {vs : List Val}, evL C es ρ S = .ok vs S' → vs.length = es.length
  | [], ρ, S, S', vs, h => by simp only [evL] at h; cases h; rfl
  | e :: es, ρ, S, S', vs, h => by
    simp only [evL] at h
    cases h1 : evE C e ρ S with
    | ok v S1 =>
      rw [h1] at h
      cases h2 : evL C es ρ S1 with
      | ok ws S2 =>
        simp only [R.bind, h2] at h
        cases h
        simp [evL_len h2]
      | _ => simp [R.bind, h2] at h
    | _ => rw [h1] at h; simp [R.bind] at h
/-- a list's end: plain, or at a place of its own -/
theorem ret1_G {m : Bool} {σ : L2.St} {M : MM} {H : Hp} {S : Sto} {xs : List PyData} {ys : List V} {q : Addr} {Q : VK} (s : StoreOk T X.K M H S) (r : RepL X.K M H xs ys) (h : Post X T W σ M H (RepV X.K) (ret1 m (.list xs) S) Q) (hq : H q = none) : Q (.ref q) (upd H q (.lst ys)) := by
  cases m with
  | false => exact h _ M _ (ext_new hq) (s.new hq) (rep_new_lst s hq r)
  | true =>
    refine h _ (M.push q) _ (ext_push hq) (s.push hq r) ⟨q, rfl, .inr ?_⟩
    show (M.m ++ [some q])[S.length]? = _
    rw [← s.len]
    simp
theorem s_tup {es : List LE} {fs : List Expr} {k' : Nat} (hl : es.length ≤ 1000) (h : PA X fs (rA X T W (evL C es))) : PE X (.Tuple fs k' p) (rE X T W (evE C (.tup es))) := by
  refine PE.imp (pe_tup h) fun σ H Q q => ?_
  obtain ⟨ρ, S, M, e, s, q⟩ := q
  refine ⟨ρ, S, M, e, s, ?_⟩
  have q : Post X T W σ M H (RepV X.K) ((evL C es ρ S).bind tupV) Q := q
  cases hm : evL C es ρ S with
  | ex c S' => rw [hm] at q; exact q
  | no => rw [hm] at q; exact q
  | ok vs S1 =>
    have hlen := evL_len hm
    rw [hm] at q
    intro ys M' H' x1 s1 r1
    have q : Post X T W σ M' H' (RepV X.K) (tupV vs S1) Q := Post.ext x1 q
    unfold tupV at q
    cases hp : plain vs with
    | none => rw [hp] at q; exact q.elim
    | some xs =>
      rw [hp] at q
      have rl := plain_rep (X := X) hp r1
      refine ⟨?_, fun z hz => q _ M' _ (ext_new hz) (s1.new hz) (rep_new_tup hz rl)⟩
      rw [← rl.length, ← plain_len hp, hlen]
      exact Nat.le_trans hl (Nat.le_trans (by decide) lim_line)
theorem s_lst {m : Bool} {es : List LE} {fs : List Expr} (hl : es.length ≤ 1000) (h : PA X fs (rA X T W (evL C es))) : PE X (.List fs p) (rE X T W (evE C (.lst m es))) := by
  refine PE.imp (pe_lst h) fun σ H Q q => ?_
  obtain ⟨ρ, S, M, e, s, q⟩ := q
  refine ⟨ρ, S, M, e, s, ?_⟩
  have q : Post X T W σ M H (RepV X.K) ((evL C es ρ S).bind (lstV m)) Q := q
  cases hm : evL C es ρ S with
  | ex c S' => rw [hm] at q; exact q
  | no => rw [hm] at q; exact q
  | ok vs S1 =>
    have hlen := evL_len hm
    rw [hm] at q
    intro ys M' H' x1 s1 r1
    have q : Post X T W σ M' H' (RepV X.K) (lstV m vs S1) Q := Post.ext x1 q
    unfold lstV at q
    cases hp : plain vs with
    | none => rw [hp] at q; exact q.elim
    | some xs =>
      rw [hp] at q
      have rl := plain_rep (X := X) hp r1
      refine ⟨?_, fun z hz => ret1_G s1 rl q hz⟩
      rw [← rl.length, ← plain_len hp, hlen]
      exact Nat.le_trans hl (Nat.le_trans (by decide) lim_line)

/-! ### subscripts, slices -/
theorem s_ix (ha : PE X e (rE X T W (evE C a))) (hb : PE X f (rE X T W (evE C b))) (hs : PlainIx f) : PE X (.Subscript e f p) (rE X T W (evE C (.ix a b))) := by
  refine ⟨fun pins s σ H Q I q => ?_⟩
  refine (pe_ix (ix_G (T := T) (W := W) (σ := σ)) ha hb hs).run pins s σ H Q I ?_
  refine rd_mono (rd_bind (rep := RepV X.K) (f := fun ρ v S => (evE C b ρ S).bind fun w S => ixV v w S) q) fun x H1 ⟨ρ, v, S, M, e, s, r, p⟩ => ?_
  exact ⟨ρ, S, M, e, s, Post.mono (post_step (rep := RepV X.K) e s p) fun y H2 ⟨w, S', M', e', x', s', r', p'⟩ => ⟨v, w, S', M', s', r.ext x', r', p'⟩⟩
theorem s_sl {lo hi : Option LE} {l h : Option Expr} {p2 : Pos} (ha : PE X e (rE X T W (evE C a))) (hl : PO X l (rO X T W (evP C lo))) (hh : PO X h (rO X T W (evP C hi))) : PE X (.Subscript e (.Slice l h none p2) p) (rE X T W (evE C (.sl a lo hi))) := by
  refine ⟨fun pins s σ H Q I q => ?_⟩
  refine (pe_slice (sl_G (T := T) (W := W) (σ := σ)) ha hl hh).run pins s σ H Q I ?_
  refine rd_mono (rd_bind (rep := RepV X.K) (f := fun ρ v S => (evP C lo ρ S).bind fun l S => (evP C hi ρ S).bind fun h S => slV v l h S) q) fun x H1 ⟨ρ, v, S, M, e, s, r, p⟩ => ?_
  refine ⟨ρ, S, M, e, s, Post.mono (post_step (rep := fun _ _ a b => a = b) e s p) fun y H2 ⟨w, S', M', e', x', s', r', p'⟩ => ?_⟩
  subst r'
  refine ⟨ρ, S', M', e', s', Post.mono (post_step (rep := fun _ _ a b => a = b) e' s' p') fun y H2 ⟨w2, S2, M2, e2, x2, s2, r2, p2⟩ => ?_⟩
  subst r2
  exact ⟨v, S2, M2, s2, (r.ext x').ext x2, p2⟩
theorem s_none : PO X none (rO X T W (evP C none)) := PO.imp po_none fun σ H Q ⟨ρ, S, M, e, s, q⟩ => q _ M H (Ext.refl _ _) s rfl
theorem s_some (h : PE X e (rE X T W (evE C a))) : PO X (some e) (rO X T W (evP C (some a))) := by
  refine PO.imp (po_some h) fun σ H Q q => ?_
  refine rd_mono (rd_bind (rep := RepV X.K) (f := fun ρ v S => match v with
    | .d (.int i) => .ok (some i) S
    | _ => .no) q) fun x H1 ⟨ρ, v, S, M, e, s, r, p⟩ => ?_
  cases v with
  | d dd => cases dd with
    | int i => exact ⟨i, r, p _ M H1 (Ext.refl _ _) s rfl⟩
    | _ => exact (show False from p).elim
  | _ => exact (show False from p).elim

/-! ### arguments -/
theorem star_of (h : ∀ v p, e ≠ .Starred v p) (es : List Expr) (env : PySem.Env) : starEach (e :: es) env = (false, eval e env) :: starEach es env := by
  cases e <;> first | rfl | exact absurd rfl (h _ _)
theorem s_nil : PA X [] (rA X T W (evL C [])) := PA.imp pa_nil fun σ H Q ⟨ρ, S, M, e, s, q⟩ => q _ M H (Ext.refl _ _) s rfl
theorem s_cons {es : List LE} {fs : List Expr} (hs : ∀ v p, e ≠ .Starred v p) (ha : PE X e (rE X T W (evE C a))) (hr : PA X fs (rA X T W (evL C es))) : PA X (e :: fs) (rA X T W (evL C (a :: es))) := by
  refine PA.imp (pa_cons ha hr (star_of hs fs X.env)) fun σ H Q q => ?_
  refine rd_mono (rd_bind (rep := RepV X.K) (f := fun ρ v S => (evL C es ρ S).bind fun vs S => .ok (v :: vs) S) q) fun x H1 ⟨ρ, v, S, M, e, s, r, p⟩ => ?_
  refine ⟨ρ, S, M, e, s, Post.mono (post_step (rep := RepVs X.K) e s p) fun y H2 ⟨w, S', M', e', x', s', r', p'⟩ => ?_⟩
  exact p' _ M' H2 (Ext.refl _ _) s' ⟨x, y, rfl, r.ext x', r'⟩
theorem star_any {pos : Pos} {env : PySem.Env} : ∀ {fs : List Expr}, (∀ e ∈ fs, ∀ v p, e ≠ .Starred v p) → (backTo pos (starEach fs env)).any (·.1) = false
  | [], _ => rfl
  | e :: fs, h => by
    rw [star_of (h e List.mem_cons_self) fs env]
    show (false || (backTo pos (starEach fs env)).any (·.1)) = false
    rw [star_any fun e' he' => h e' (List.mem_cons_of_mem _ he')]
    rfl

/-! ### calls -/
theorem s_bi (g : Good X T W c F k) {bi : BI} {es : List LE} {fs : List Expr} {q : Pos} (hb : isBlt c (biName bi) = true) (hs : ∀ e' ∈ e :: fs, ∀ v p, e' ≠ .Starred v p) (h : PA X (e :: fs) (rA X T W (evL C es))) : PE X (.Call (.Name (biName bi) q) (e :: fs) [] p) (rE X T W (evE C (.bi bi es))) := by
  obtain ⟨g1, g2, g3⟩ := g.blt hb
  have fin : ∀ σ H Q, rE X T W (evE C (.bi bi es)) σ H Q → rA X T W (evL C es) σ H fun vs H1 => rBi X T W σ bi vs H1 Q := fun σ H Q q => by
    refine rd_mono (rd_bind (rep := RepVs X.K) (f := fun ρ vs S => biV bi vs S) q) fun x H1 ⟨ρ, v, S, M, e, s, r, p⟩ => ?_
    exact ⟨v, S, M, s, r, p⟩
  have hst := star_of (hs e List.mem_cons_self) fs X.env
  have hpl := star_any (pos := p) (env := X.env) (fs := fs) fun e' he' => hs e' (List.mem_cons_of_mem _ he')
  refine ⟨fun pins s σ H Q I q' => ?_⟩
  have hc := call_G (T := T) (W := W) (σ := σ) g.calm bi
  cases bi with
  | len => exact (pe_callB hc g1 g3 (by decide +kernel) h (by decide) g2 hst hpl).run pins s σ H Q I (fin σ H Q q')
  | abs => exact (pe_callB hc g1 g3 (by decide +kernel) h (by decide) g2 hst hpl).run pins s σ H Q I (fin σ H Q q')
  | sum => exact (pe_callB hc g1 g3 (by decide +kernel) h (by decide) g2 hst hpl).run pins s σ H Q I (fin σ H Q q')
  | all => exact (pe_callB hc g1 g3 (by decide +kernel) h (by decide) g2 hst hpl).run pins s σ H Q I (fin σ H Q q')
  | max => exact (pe_callB hc g1 g3 (by decide +kernel) h (by decide) g2 hst hpl).run pins s σ H Q I (fin σ H Q q')
  | min => exact (pe_callB hc g1 g3 (by decide +kernel) h (by decide) g2 hst hpl).run pins s σ H Q I (fin σ H Q q')
  | int => exact (pe_callTy hc g1 g3 (by decide +kernel) h (by decide) g2 hst hpl).run pins s σ H Q I (fin σ H Q q')
  | str => exact (pe_callTy hc g1 g3 (by decide +kernel) h (by decide) g2 hst hpl).run pins s σ H Q I (fin σ H Q q')
  | bool => exact (pe_callTy hc g1 g3 (by decide +kernel) h (by decide) g2 hst hpl).run pins s σ H Q I (fin σ H Q q')
  | tuple => exact (pe_callTy hc g1 g3 (by decide +kernel) h (by decide) g2 hst hpl).run pins s σ H Q I (fin σ H Q q')
  | list => exact (pe_callTy hc g1 g3 (by decide +kernel) h (by decide) g2 hst hpl).run pins s σ H Q I (fin σ H Q q')
def tyStr : TY → String
  | .int => "int" | .bool => "bool" | .str => "str" | .tuple => "tuple" | .list => "list"
theorem pe_isi (g : Good X T W c F k) {t : TY} {q q2 : Pos} (h1 : isBlt c "isinstance" = true) (h2 : isBlt c (tyName t) = true) (hs : ∀ v p, e ≠ .Starred v p) (ha : PE X e (rE X T W (evE C a))) : PE X (.Call (.Name "isinstance" q) [e, .Name (tyName t) q2] [] p) (tCB (rIsi X.K) (tCons (rE X T W (evE C a)) (tCons (tC (.ty (tyStr t))) tNil))) := by
  obtain ⟨g1, g2, g3⟩ := g.blt h1
  obtain ⟨k1, k2, k3⟩ := g.blt h2
  have hn : PE X (.Name (tyName t) q2) (tC (.ty (tyStr t))) := by
    cases t with
    | int => exact pe_bltn (u := .type "int") k1 k3 (by decide +kernel) rfl (by decide) k2
    | bool => exact pe_bltn (u := .type "bool") k1 k3 (by decide +kernel) rfl (by decide) k2
    | str => exact pe_bltn (u := .type "str") k1 k3 (by decide +kernel) rfl (by decide) k2
    | tuple => exact pe_bltn (u := .type "tuple") k1 k3 (by decide +kernel) rfl (by decide) k2
    | list => exact pe_bltn (u := .type "list") k1 k3 (by decide +kernel) rfl (by decide) k2
  exact pe_callB call_isi g1 g3 (by decide +kernel) (pa_cons ha (pa_cons hn pa_nil rfl) (star_of hs _ X.env)) (by decide) g2 (star_of hs _ X.env) rfl
theorem s_isi (g : Good X T W c F k) {t : TY} {q q2 : Pos} (h1 : isBlt c "isinstance" = true) (h2 : isBlt c (tyName t) = true) (hs : ∀ v p, e ≠ .Starred v p) (ha : PE X e (rE X T W (evE C a))) : PE X (.Call (.Name "isinstance" q) [e, .Name (tyName t) q2] [] p) (rE X T W (evE C (.isi a t))) := by
  refine PE.imp (pe_isi g h1 h2 hs ha) fun σ H Q q => ?_
  refine rd_mono (rd_bind (rep := RepV X.K) (f := fun ρ v S => (isiV t v S).bind bV) q) fun x H1 ⟨ρ, v, S, M, e, s, r, p⟩ => ?_
  exact isi_G (n := tyStr t) (by cases t <;> rfl) r s (post_bV p)
theorem s_call (g : Good X T W c F k) {n : Nat} {x : Str} {es : List LE} {fs : List Expr} {q : Pos} (hx : Z.gl c x = true) (hn : c.fns.lookup x = some n) (hl : es.length = fs.length) (hs : ∀ e' ∈ fs, ∀ v p, e' ≠ .Starred v p) (h : PA X fs (rA X T W (evL (callF F k) es))) : PE X (.Call (.Name x q) fs [] p) (rE X T W (evE (callF F k) (.call n es))) := by
  obtain ⟨g1, g2⟩ := g.gl hx
  have fin : ∀ σ H Q, rE X T W (evE (callF F k) (.call n es)) σ H Q → rA X T W (evL (callF F k) es) σ H fun vs H1 => spG X.K X.mg T (callF F k n) vs H1 Q (WE W σ) := fun σ H Q q => by
    refine rd_mono (rd_bind (rep := RepVs X.K) (f := fun ρ vs S => callF F k n vs S) q) fun x H1 ⟨ρ, v, S, M, e, s, r, p⟩ => ⟨v, S, M, s, r, ?_⟩
    revert p
    cases callF F k n v S with
    | ok d S' => exact fun p => p
    | ex c S' => exact fun p => p
    | no => exact fun p => p
  obtain ⟨f', fd, ps, m1, m2, m3, m4⟩ := g.gg.fns x n hn
  cases fs with
  | nil =>
    refine ⟨fun pins s σ H Q I q' => ?_⟩
    obtain ⟨ρ, S, M, e, so, p1⟩ := fin σ H Q q'
    cases es with
    | cons e1 es' =>
      -- no argument is written
      exact absurd (show False from by
        have := hl
        simp at this) id
    | nil =>
      have q1 := p1 [] M H (Ext.refl _ _) so rfl
      refine wpAny_Call_Name_kw (ld_glob I g1 m1 ?_ g2)
      exact PySem.W.callWith_K0 I.kIn m2 (run_fnS (us := []) m4 g.room m3 (passAt g.tk σ) I .nil q1)
  | cons e1 fs =>
    have hst := star_of (hs e1 List.mem_cons_self) fs X.env
    have hpl := star_any (pos := p) (env := X.env) (fs := fs) fun e' he' => hs e' (List.mem_cons_of_mem _ he')
    exact PE.imp (pe_callS m4 g.room g1 m1 m2 m3 (fun σ => passAt g.tk σ) h g2 hst hpl) fin
end
end Z

/-! What a loop walks; comprehensions. -/
namespace Z
open PySem PySem.Spec PyProof.Rows L2 RZ

inductive ItRep (K : PySem.W.Frag) (M : MM) (H : Hp) : It → List PyData → Prop where
  | lst {a : Addr} {vs : List V} {ds : List PyData} : Fre M a → H a = some (.lst vs) → RepL K M H ds vs → ItRep K M H (Itl K a) ds
  | tup {a : Addr} {vs : List V} {ds : List PyData} : SqT K H a vs → RepL K M H ds vs → ItRep K M H (Itt K a) ds
  | str (z : Str) : ItRep K M H (Its z) (z.cps.toList.map fun c => .str ⟨#[c]⟩)
  | rng (lo : Int) (n : Nat) : ItRep K M H (Itr lo n) (rng lo n)
  | enm {a : Addr} {vs : List V} {ds : List PyData} : Fre M a → H a = some (.lst vs) → RepL K M H ds vs → ItRep K M H (Ite K a) (enumL 0 ds)
  | zip {a b : Addr} {vs ws : List V} {ds es : List PyData} : Fre M a → H a = some (.lst vs) → RepL K M H ds vs → Fre M b → H b = some (.lst ws) → RepL K M H es ws → ItRep K M H (Itz K a b) (zipL ds es)
  | zipT {a b : Addr} {vs ws : List V} {ds es : List PyData} : SqT K H a vs → RepL K M H ds vs → SqT K H b ws → RepL K M H es ws → ItRep K M H (ItzT K a b) (zipL ds es)
section
variable {T : List (Addr × Str)} {K : PySem.W.Frag} {M M' : MM} {H H' : Hp} {S : Sto} {J : It} {items : List PyData}
theorem ItRep.ext (r : ItRep K M H J items) (e : Ext M H M' H') : ItRep K M' H' J items := by
  cases r with
  | lst h1 h2 h3 => exact .lst (e.fre h2 h1) (e.lst _ _ h2 h1.1) (h3.ext e)
  | tup h1 h2 => exact .tup (sqT_ext e h1) (h2.ext e)
  | str z => exact .str z
  | rng lo n => exact .rng lo n
  | enm h1 h2 h3 => exact .enm (e.fre h2 h1) (e.lst _ _ h2 h1.1) (h3.ext e)
  | zip h1 h2 h3 g1 g2 g3 => exact .zip (e.fre h2 h1) (e.lst _ _ h2 h1.1) (h3.ext e) (e.fre g2 g1) (e.lst _ _ g2 g1.1) (g3.ext e)
  | zipT h1 h2 g1 g2 => exact .zipT (sqT_ext e h1) (h2.ext e) (sqT_ext e g1) (g2.ext e)

/-! ### a list that is being made -/
def MM.hide (M : MM) (D : Addr) : MM := ⟨M.m, D :: M.z⟩
theorem sqT_upd {D a : Addr} {o : HO} {xs : List V} (hD : ∀ ys, H D ≠ some (.tup ys)) (hF : ∀ o u, H D ≠ some (.frz o u)) (h : SqT K H a xs) : SqT K (upd H D o) a xs := by
  rcases h with (h | ⟨ob, h⟩) | h
  · exact .inl (.inl (by rw [upd_ne fun e => hD xs (by rw [← e]; exact h)]; exact h))
  · exact .inl (.inr ⟨ob, by rw [upd_ne fun e => hF ob _ (by rw [← e]; exact h)]; exact h⟩)
  · exact .inr h
mutual
theorem Rep.upd {D : Addr} {o : HO} (hz : D ∈ M.z) (hD : ∀ ys, H D ≠ some (.tup ys)) (hF : ∀ o u, H D ≠ some (.frz o u)) : ∀ {d : PyData} {v : V}, Rep K M H d v → Rep K M (L2.upd H D o) d v
  | .none, _, h => h
  | .bool _, _, h => h
  | .int _, _, h => h
  | .str _, _, h => h
  | .list ds, v, h => by
    obtain ⟨a, vs, e1, e2, e3, e4⟩ := (show ∃ a vs, v = .ref a ∧ Fre M a ∧ H a = some (.lst vs) ∧ RepL K M H ds vs from h)
    exact ⟨a, vs, e1, e2, by rw [upd_ne fun e => e2.2 (by rw [e]; exact hz)]; exact e3, RepL.upd hz hD hF e4⟩
  | .tuple ds, v, h => by
    obtain ⟨a, vs, e1, e2, e3⟩ := (show ∃ a vs, v = .ref a ∧ SqT K H a vs ∧ RepL K M H ds vs from h)
    exact ⟨a, vs, e1, sqT_upd hD hF e2, RepL.upd hz hD hF e3⟩
  | .dict _, _, h => h
theorem RepL.upd {D : Addr} {o : HO} (hz : D ∈ M.z) (hD : ∀ ys, H D ≠ some (.tup ys)) (hF : ∀ o u, H D ≠ some (.frz o u)) : ∀ {ds : List PyData} {vs : List V}, RepL K M H ds vs → RepL K M (L2.upd H D o) ds vs
  | [], _, h => h
  | d :: ds, vs, h => by
    obtain ⟨v, r, e1, e2, e3⟩ := (show ∃ v r, vs = v :: r ∧ Rep K M H d v ∧ RepL K M H ds r from h)
    exact ⟨v, r, e1, Rep.upd hz hD hF e2, RepL.upd hz hD hF e3⟩
theorem Rep.hide {D : Addr} {o : HO} (hn : H D = none) : ∀ {d : PyData} {v : V}, Rep K M H d v → Rep K (M.hide D) (L2.upd H D o) d v
  | .none, _, h => h
  | .bool _, _, h => h
  | .int _, _, h => h
  | .str _, _, h => h
  | .list ds, v, h => by
    obtain ⟨a, vs, e1, e2, e3, e4⟩ := (show ∃ a vs, v = .ref a ∧ Fre M a ∧ H a = some (.lst vs) ∧ RepL K M H ds vs from h)
    refine ⟨a, vs, e1, ⟨e2.1, fun z => ?_⟩, by rw [upd_ne (ne_of_none e3 hn)]; exact e3, RepL.hide hn e4⟩
    rcases List.mem_cons.mp z with q | q
    · exact ne_of_none e3 hn q
    · exact e2.2 q
  | .tuple ds, v, h => by
    obtain ⟨a, vs, e1, e2, e3⟩ := (show ∃ a vs, v = .ref a ∧ SqT K H a vs ∧ RepL K M H ds vs from h)
    exact ⟨a, vs, e1, sqT_upd (by intro ys q; rw [hn] at q; cases q) (by intro _ _ q; rw [hn] at q; cases q) e2, RepL.hide hn e3⟩
  | .dict _, _, h => h
theorem RepL.hide {D : Addr} {o : HO} (hn : H D = none) : ∀ {ds : List PyData} {vs : List V}, RepL K M H ds vs → RepL K (M.hide D) (L2.upd H D o) ds vs
  | [], _, h => h
  | d :: ds, vs, h => by
    obtain ⟨v, r, e1, e2, e3⟩ := (show ∃ v r, vs = v :: r ∧ Rep K M H d v ∧ RepL K M H ds r from h)
    exact ⟨v, r, e1, Rep.hide hn e2, RepL.hide hn e3⟩
end
theorem RepV.upd {D : Addr} {vs ws : List V} (hz : D ∈ M.z) (hD : H D = some (.lst vs)) {v : Val} {x : V} (r : RepV K M H v x) : RepV K M (L2.upd H D (.lst ws)) v x := by
  have h1 : ∀ ys, H D ≠ some (.tup ys) := by intro ys q; rw [hD] at q; cases q
  have h2 : ∀ o u, H D ≠ some (.frz o u) := by intro _ _ q; rw [hD] at q; cases q
  cases v with
  | d d => exact Rep.upd hz h1 h2 r
  | r n => exact r
  | s xs =>
    obtain ⟨a, us, e1, e2, e3⟩ := r
    refine ⟨a, us, e1, ?_, e3⟩
    rcases e2 with ⟨o, q⟩ | q
    · exact .inl ⟨o, by rw [upd_ne fun e => h2 o _ (by rw [← e]; exact q)]; exact q⟩
    · exact .inr q
theorem RepV.hide {D : Addr} {o : HO} (hn : H D = none) {v : Val} {x : V} (r : RepV K M H v x) : RepV K (M.hide D) (L2.upd H D o) v x := by
  cases v with
  | d d => exact Rep.hide hn r
  | r n => exact r
  | s xs =>
    obtain ⟨a, us, e1, e2, e3⟩ := r
    refine ⟨a, us, e1, ?_, e3⟩
    rcases e2 with ⟨ob, q⟩ | q
    · exact .inl ⟨ob, by rw [upd_ne (ne_of_none q hn)]; exact q⟩
    · exact .inr q
theorem EnvOk.upd {D : Addr} {vs ws : List V} {ρ : Z.Env} {σ : L2.St} (hz : D ∈ M.z) (hD : H D = some (.lst vs)) (e : EnvOk K M H ρ σ) : EnvOk K M (L2.upd H D (.lst ws)) ρ σ := ⟨e.len, fun i v h => by
  obtain ⟨y, h1, h2⟩ := e.at_ i v h
  exact ⟨y, h1, h2.upd hz hD⟩⟩
theorem EnvOk.hide {D : Addr} {o : HO} {ρ : Z.Env} {σ : L2.St} (hn : H D = none) (e : EnvOk K M H ρ σ) : EnvOk K (M.hide D) (L2.upd H D o) ρ σ := ⟨e.len, fun i v h => by
  obtain ⟨y, h1, h2⟩ := e.at_ i v h
  exact ⟨y, h1, h2.hide hn⟩⟩
theorem tabs_upd {D : Addr} {vs ws : List V} (t : LamX.Tabs T H) (hD : H D = some (.lst vs)) : LamX.Tabs T (L2.upd H D (.lst ws)) := fun p hp => by
  obtain ⟨ps, h1, h2, h3⟩ := t p hp
  refine ⟨ps, by rw [upd_ne fun e => by rw [e, hD] at h1; cases h1]; exact h1, h2, fun pos cv hc => ?_⟩
  obtain ⟨c, q1, q2⟩ := h3 pos cv hc
  exact ⟨c, q1, by rw [upd_ne fun e => by rw [e, hD] at q2; unfold LamX.CodeO at q2; cases q2]; exact q2⟩
theorem StoreOk.upd {D : Addr} {vs ws : List V} (s : StoreOk T K M H S) (hz : D ∈ M.z) (hD : H D = some (.lst vs)) : StoreOk T K M (L2.upd H D (.lst ws)) S where
  len := s.len
  inj := s.inj
  ent := fun n xs e => by
    obtain ⟨a, us, h1, h2, h3⟩ := s.ent n xs e
    exact ⟨a, us, h1, by rw [upd_ne fun z => (s.prv D hz).1 (by rw [← z]; exact List.mem_of_getElem? h1)]; exact h2, h3.upd hz (by intro ys q; rw [hD] at q; cases q) (by intro _ _ q; rw [hD] at q; cases q)⟩
  gon := s.gon
  prv := fun a h => by
    obtain ⟨h1, us, h2⟩ := s.prv a h
    refine ⟨h1, ?_⟩
    by_cases e : a = D
    · subst e; exact ⟨ws, upd_same⟩
    · exact ⟨us, by rw [upd_ne e]; exact h2⟩
  tab := tabs_upd s.tab hD
theorem StoreOk.hide {D : Addr} {ws : List V} (s : StoreOk T K M H S) (hn : H D = none) : StoreOk T K (M.hide D) (L2.upd H D (.lst ws)) S where
  len := s.len
  inj := s.inj
  ent := fun n xs e => by
    obtain ⟨a, us, h1, h2, h3⟩ := s.ent n xs e
    exact ⟨a, us, h1, by rw [upd_ne (ne_of_none h2 hn)]; exact h2, h3.hide hn⟩
  gon := s.gon
  prv := fun a h => by
    rcases List.mem_cons.mp h with q | q
    · subst q; exact ⟨s.fresh hn, ws, upd_same⟩
    · obtain ⟨h1, us, h2⟩ := s.prv a q
      exact ⟨h1, us, by rw [upd_ne (ne_of_none h2 hn)]; exact h2⟩
  tab := s.tab.ext (upd_keep hn)
theorem fre_show {D a : Addr} (h : Fre (M.hide D) a) : Fre M a := ⟨h.1, fun z => h.2 (List.mem_cons_of_mem _ z)⟩
theorem StoreOk.show_ {D : Addr} (s : StoreOk T K (M.hide D) H S) : StoreOk T K M H S where
  len := s.len
  inj := s.inj
  ent := fun n xs e => by
    obtain ⟨a, us, h1, h2, h3⟩ := s.ent n xs e
    exact ⟨a, us, h1, h2, h3.cut fun _ => fre_show⟩
  gon := s.gon
  prv := fun a h => s.prv a (List.mem_cons_of_mem _ h)
  tab := s.tab
theorem ItRep.hide {D : Addr} {o : HO} (hn : H D = none) (r : ItRep K M H J items) : ItRep K (M.hide D) (L2.upd H D o) J items := by
  have t : ∀ {a : Addr} {xs : List V}, SqT K H a xs → SqT K (L2.upd H D o) a xs := fun h => sqT_upd (by intro ys q; rw [hn] at q; cases q) (by intro _ _ q; rw [hn] at q; cases q) h
  have f : ∀ {a : Addr} {xs : List V}, Fre M a → H a = some (.lst xs) → Fre (M.hide D) a := fun h e => ⟨h.1, fun z => by
    rcases List.mem_cons.mp z with q | q
    · exact ne_of_none e hn q
    · exact h.2 q⟩
  have u : ∀ {a : Addr} {xs : List V}, H a = some (.lst xs) → L2.upd H D o a = some (.lst xs) := fun e => by rw [upd_ne (ne_of_none e hn)]; exact e
  cases r with
  | lst h1 h2 h3 => exact .lst (f h1 h2) (u h2) (h3.hide hn)
  | tup h1 h2 => exact .tup (t h1) (h2.hide hn)
  | str z => exact .str z
  | rng lo n => exact .rng lo n
  | enm h1 h2 h3 => exact .enm (f h1 h2) (u h2) (h3.hide hn)
  | zip h1 h2 h3 g1 g2 g3 => exact .zip (f h1 h2) (u h2) (h3.hide hn) (f g1 g2) (u g2) (g3.hide hn)
  | zipT h1 h2 g1 g2 => exact .zipT (t h1) (h2.hide hn) (t g1) (g2.hide hn)
theorem ItRep.upd {D : Addr} {vs ws : List V} (hz : D ∈ M.z) (hD : H D = some (.lst vs)) (r : ItRep K M H J items) : ItRep K M (L2.upd H D (.lst ws)) J items := by
  have p1 : ∀ ys, H D ≠ some (.tup ys) := by intro ys q; rw [hD] at q; cases q
  have p2 : ∀ o u, H D ≠ some (.frz o u) := by intro _ _ q; rw [hD] at q; cases q
  have t : ∀ {a : Addr} {xs : List V}, SqT K H a xs → SqT K (L2.upd H D (.lst ws)) a xs := fun h => sqT_upd p1 p2 h
  have u : ∀ {a : Addr} {xs : List V}, Fre M a → H a = some (.lst xs) → L2.upd H D (.lst ws) a = some (.lst xs) := fun h e => by rw [upd_ne fun z => h.2 (by rw [z]; exact hz)]; exact e
  cases r with
  | lst h1 h2 h3 => exact .lst h1 (u h1 h2) (h3.upd hz p1 p2)
  | tup h1 h2 => exact .tup (t h1) (h2.upd hz p1 p2)
  | str z => exact .str z
  | rng lo n => exact .rng lo n
  | enm h1 h2 h3 => exact .enm h1 (u h1 h2) (h3.upd hz p1 p2)
  | zip h1 h2 h3 g1 g2 g3 => exact .zip h1 (u h1 h2) (h3.upd hz p1 p2) g1 (u g1 g2) (g3.upd hz p1 p2)
  | zipT h1 h2 g1 g2 => exact .zipT (t h1) (h2.upd hz p1 p2) (t g1) (g2.upd hz p1 p2)
/-- out of sight: the lists made within may not be named from without -/
theorem Ext.show_ {D : Addr} {M0 : MM} {H0 : Hp} (e : Ext (M.hide D) H (M'.hide D) H') : Ext M H M' H' where
  len := e.len
  old := e.old
  new := e.new
  zz := List.tail_eq_of_cons_eq e.zz
  lst := e.lst
  tup := e.tup
  frz := e.frz
  nn := e.nn
theorem ext_updD {M0 : MM} {H0 : Hp} {D : Addr} {vs ws : List V} (e : Ext M0 H0 M H) (h0 : H0 D = none) (hD : H D = some (.lst vs)) : Ext M0 H0 M (L2.upd H D (.lst ws)) where
  len := e.len
  old := e.old
  new := e.new
  zz := e.zz
  lst := fun a xs h n => by rw [upd_ne (ne_of_none h h0)]; exact e.lst a xs h n
  tup := fun a xs h => by rw [upd_ne (ne_of_none h h0)]; exact e.tup a xs h
  frz := fun a o u h => by rw [upd_ne (ne_of_none h h0)]; exact e.frz a o u h
  nn := fun a h => by
    by_cases z : a = D
    · subst z; exact absurd h0 h
    · rw [upd_ne z]; exact e.nn a h

theorem enumL_get : ∀ (ds : List PyData) (k i : Nat), (enumL k ds)[i]? = (ds[i]?).map fun d => .tuple [.int ((k + i : Nat) : Int), d]
  | [], k, i => by simp [enumL]
  | d :: ds, k, 0 => by simp [enumL]
  | d :: ds, k, i + 1 => by
    simp only [enumL, List.getElem?_cons_succ]
    rw [enumL_get ds (k + 1) i]
    have : k + 1 + i = k + (i + 1) := by omega
    rw [this]
theorem zipL_get : ∀ (ds es : List PyData) (i : Nat) (d : PyData), (zipL ds es)[i]? = some d → ∃ x y, ds[i]? = some x ∧ es[i]? = some y ∧ d = .tuple [x, y]
  | [], es, i, d, h => by simp [zipL] at h
  | x :: ds, [], i, d, h => by simp [zipL] at h
  | x :: ds, y :: es, 0, d, h => by simp [zipL] at h; exact ⟨x, y, rfl, rfl, h.symm⟩
  | x :: ds, y :: es, i + 1, d, h => by
    simp only [zipL, List.getElem?_cons_succ] at h ⊢
    exact zipL_get ds es i d h
theorem zipL_len : ∀ (ds es : List PyData) (i : Nat), (zipL ds es).length ≤ i → ds.length ≤ i ∨ es.length ≤ i
  | [], es, i, h => .inl (by simp)
  | x :: ds, [], i, h => .inr (by simp)
  | x :: ds, y :: es, 0, h => by simp [zipL] at h
  | x :: ds, y :: es, i + 1, h => by
    simp only [zipL, List.length_cons, Nat.add_le_add_iff_right] at h ⊢
    exact zipL_len ds es i h
theorem enumL_len : ∀ (ds : List PyData) (k : Nat), (enumL k ds).length = ds.length
  | [], _ => rfl
  | d :: ds, k => by simp [enumL, enumL_len ds (k + 1)]
/-- a turn: the next item, or the end -/
theorem ItRep.turn (r : ItRep K M H J items) (s : StoreOk T K M H S) : (∀ i, items.length ≤ i → J.stop i H) ∧ ∀ i d, items[i]? = some d → J.go i H ∧ ∀ x H', J.yld i H x H' → Ext M H M H' ∧ StoreOk T K M H' S ∧ Rep K M H' d x := by
  have pair : ∀ {p : Addr} {d e : PyData} {x y : V}, H p = none → Rep K M H d x → Rep K M H e y → Ext M H M (L2.upd H p (.tup [x, y])) ∧ StoreOk T K M (L2.upd H p (.tup [x, y])) S ∧ Rep K M (L2.upd H p (.tup [x, y])) (.tuple [d, e]) (.ref p) := fun {p d e x y} hp r1 r2 =>
    ⟨ext_new hp, s.new hp, rep_new_tup hp ⟨x, [y], rfl, r1, y, [], rfl, r2, rfl⟩⟩
  cases r with
  | @lst a vs ds h1 h2 h3 =>
    refine ⟨fun i hi => ⟨vs, SqL.of h2, by rw [← h3.length]; exact hi⟩, fun i d hd => ?_⟩
    obtain ⟨x, e1, e2⟩ := h3.get hd
    refine ⟨⟨vs, x, SqL.of h2, e1⟩, fun y H' hy => ?_⟩
    obtain ⟨rfl, hy⟩ := hy
    have := hy vs (SqL.of h2)
    rw [e1] at this
    cases this
    exact ⟨Ext.refl _ _, s, e2⟩
  | @tup a vs ds h1 h2 =>
    refine ⟨fun i hi => ⟨vs, h1, by rw [← h2.length]; exact hi⟩, fun i d hd => ?_⟩
    obtain ⟨x, e1, e2⟩ := h2.get hd
    refine ⟨⟨vs, x, h1, e1⟩, fun y H' hy => ?_⟩
    obtain ⟨rfl, hy⟩ := hy
    have := hy vs h1
    rw [e1] at this
    cases this
    exact ⟨Ext.refl _ _, s, e2⟩
  | str z =>
    refine ⟨fun i hi => ?_, fun i d hd => ?_⟩
    · show z.cps.size ≤ i
      simpa using hi
    · rw [List.getElem?_map, Option.map_eq_some_iff] at hd
      obtain ⟨ch, e1, e2⟩ := hd
      refine ⟨?_, fun y H' hy => ?_⟩
      · show i < z.cps.size
        have := (List.getElem?_eq_some_iff.mp e1).1
        simpa using this
      · obtain ⟨rfl, c', h1, h2⟩ := hy
        rw [Array.getElem?_toList] at e1
        rw [e1] at h1
        cases h1
        subst e2
        exact ⟨Ext.refl _ _, s, h2⟩
  | rng lo n =>
    refine ⟨fun i hi => ?_, fun i d hd => ?_⟩
    · show n ≤ i
      simpa [Z.rng] using hi
    · have hi : i < n := by
        have := (List.getElem?_eq_some_iff.mp hd).1
        simpa [Z.rng] using this
      refine ⟨hi, fun y H' hy => ?_⟩
      obtain ⟨rfl, hy⟩ := hy
      have : d = .int (lo + (i : Nat)) := by
        unfold Z.rng at hd
        rw [List.getElem?_map, List.getElem?_range hi] at hd
        simpa using hd.symm
      subst this
      exact ⟨Ext.refl _ _, s, hy⟩
  | @enm a vs ds h1 h2 h3 =>
    refine ⟨fun i hi => ⟨vs, SqL.of h2, by rw [← h3.length, ← enumL_len ds 0]; exact hi⟩, fun i d hd => ?_⟩
    rw [enumL_get, Option.map_eq_some_iff] at hd
    obtain ⟨e, q1, q2⟩ := hd
    obtain ⟨x, e1, e2⟩ := h3.get q1
    refine ⟨⟨vs, x, SqL.of h2, e1⟩, fun y H' hy => ?_⟩
    obtain ⟨T', x', rfl, hT, rfl, hx⟩ := hy
    have := hx vs (SqL.of h2)
    rw [e1] at this
    cases this
    subst q2
    rw [Nat.zero_add]
    exact pair hT rfl e2
  | @zip a b vs ws ds es h1 h2 h3 g1 g2 g3 =>
    refine ⟨fun i hi => ⟨vs, ws, SqL.of h2, SqL.of g2, by rw [← h3.length, ← g3.length]; exact zipL_len ds es i hi⟩, fun i d hd => ?_⟩
    obtain ⟨x, y, q1, q2, q3⟩ := zipL_get ds es i d hd
    obtain ⟨x', e1, e2⟩ := h3.get q1
    obtain ⟨y', f1, f2⟩ := g3.get q2
    refine ⟨⟨vs, ws, x', y', SqL.of h2, SqL.of g2, e1, f1⟩, fun z H' hy => ?_⟩
    obtain ⟨T', x2, y2, rfl, hT, rfl, hx, hy⟩ := hy
    have t1 := hx vs (SqL.of h2)
    have t2 := hy ws (SqL.of g2)
    rw [e1] at t1
    rw [f1] at t2
    cases t1
    cases t2
    subst q3
    exact pair hT e2 f2
  | @zipT a b vs ws ds es h1 h2 g1 g2 =>
    refine ⟨fun i hi => ⟨vs, ws, h1, g1, by rw [← h2.length, ← g2.length]; exact zipL_len ds es i hi⟩, fun i d hd => ?_⟩
    obtain ⟨x, y, q1, q2, q3⟩ := zipL_get ds es i d hd
    obtain ⟨x', e1, e2⟩ := h2.get q1
    obtain ⟨y', f1, f2⟩ := g2.get q2
    refine ⟨⟨vs, ws, x', y', h1, g1, e1, f1⟩, fun z H' hy => ?_⟩
    obtain ⟨T', x2, y2, rfl, hT, rfl, hx, hy⟩ := hy
    have t1 := hx vs h1
    have t2 := hy ws g1
    rw [e1] at t1
    rw [f1] at t2
    cases t1
    cases t2
    subst q3
    exact pair hT e2 f2
end
end Z

/-! Walks, targets, comprehensions: soundness. -/
namespace Z
open PySem PySem.Spec PyProof.Rows L2 RZ
section
variable (X : Cx) (T : List (Addr × Str)) (W : WX)
abbrev rI (m : Z.Env → Sto → R (List PyData)) : TI := rd X T W (fun M H items J => ItRep X.K M H J items) m
end
theorem PI.imp {X : Cx} {tg it : Expr} {t t' : TI} (h : PI X tg it t) (i : ∀ σ H Q, t' σ H Q → t σ H Q) : PI X tg it t' := ⟨fun pins s σ H Q I q => h.run pins s σ H Q I (i _ _ _ q)⟩
section
variable {X : Cx} {T : List (Addr × Str)} {W : WX} {c : SC} {F : Tab} {k : Nat} {C : Nat → List Val → Sto → R Val} {a b d : LE} {e f e' tg : Expr} {p : Pos}
/-- the value of e walked, whatever it is -/
theorem pi_any (he : PE X e (rE X T W (evE C a))) : PI X tg e (fun σ H Q => rE X T W (evE C a) σ H fun x H1 => (∃ q xs, x = .ref q ∧ SqL X.K H1 q xs ∧ Q (Itl X.K q) H1) ∨ (∃ q xs, x = .ref q ∧ SqT X.K H1 q xs ∧ Q (Itt X.K q) H1) ∨ ∃ z, x = .str z ∧ Q (Its z) H1) := by
  refine ⟨fun pins s σ H Q I h => ?_⟩
  refine thn (he.run pins s σ H _ I h) fun v s1 ⟨x, H1, I1, r1, q1⟩ => ?_
  rcases q1 with ⟨q, xs, rfl, hq, w⟩ | ⟨q, xs, rfl, hq, w⟩ | ⟨z, rfl, w⟩
  · obtain rfl : v = Value.ref q := r1
    obtain ⟨its, _, pl, _⟩ := I1.list hq
    exact wpAny_pyIter_list pl.isList (pi_one (tk := s1.toks) I1 _ (turn_list q _) ⟨_, Heap.get?_push_size _ rfl, rfl, rfl⟩ w)
  · obtain rfl : v = Value.ref q := r1
    obtain ⟨its, _, pl, _⟩ := I1.tuple hq
    exact wpAny_pyIter_tuple (items := its.toArray) pl (pi_one (tk := s1.toks) I1 _ (turn_tuple q _) ⟨_, Heap.get?_push_size _ rfl, rfl, rfl⟩ w)
  · obtain ⟨t, rfl⟩ := r1
    cases hz : z.cps.all (· < 128) with
    | false => exact wpAny_pyIter_wide hz (pi_one (tk := s1.toks) I1 _ (turn_str _ z t _ (.inr rfl)) ⟨_, Heap.get?_push_size _ rfl, rfl, rfl⟩ w)
    | true => exact wpAny_pyIter_ascii hz (pi_one (tk := s1.toks) I1 _ (turn_str _ z t _ (.inl rfl)) ⟨_, Heap.get?_push_size _ rfl, rfl, rfl⟩ w)
theorem itV_post {σ : L2.St} {M : MM} {H : Hp} {S : Sto} {kk : IK} {vs : List Val} {Q : It → Hp → Prop} (h : Post X T W σ M H (fun M H items J => ItRep X.K M H J items) (itV kk vs S) Q) : ∃ xs items, plain vs = some xs ∧ itD kk xs = some items ∧ ∀ J M' H', Ext M H M' H' → StoreOk T X.K M' H' S → ItRep X.K M' H' J items → Q J H' := by
  unfold itV at h
  cases e1 : plain vs with
  | none => rw [e1] at h; exact h.elim
  | some xs =>
    rw [e1] at h
    dsimp only at h
    cases e2 : itD kk xs with
    | none => rw [e2] at h; exact h.elim
    | some items => rw [e2] at h; exact ⟨xs, items, rfl, e2, h⟩
theorem i_seq (hs : ∀ v p, e ≠ .Starred v p) (he : PE X e (rE X T W (evE C a))) : PI X tg e (rI X T W fun ρ S => (evL C [a] ρ S).bind (itV .seq)) := by
  refine PI.imp (pi_any he) fun σ H Q q => ?_
  have q2 : rd X T W (fun M H items J => ItRep X.K M H J items) (fun ρ S => (evE C a ρ S).bind fun v S => itV .seq [v] S) σ H Q := by
    obtain ⟨ρ, S, M, e, s, p⟩ := q
    refine ⟨ρ, S, M, e, s, ?_⟩
    have : (evL C [a] ρ S).bind (itV .seq) = (evE C a ρ S).bind fun v S => itV .seq [v] S := by
      simp only [evL]
      cases evE C a ρ S <;> rfl
    show Post X T W σ M H _ ((evE C a ρ S).bind fun v S => itV .seq [v] S) Q
    rw [← this]
    exact p
  refine rd_mono (rd_bind (rep := RepV X.K) (f := fun ρ v S => itV .seq [v] S) q2) fun x H1 ⟨ρ, v, S, M, e, s, r, p⟩ => ?_
  obtain ⟨xs, items, e1, e2, hQ⟩ := itV_post p
  cases v with
  | d dd =>
    simp only [plain, Option.map_some, Option.some.injEq] at e1
    subst e1
    cases dd with
    | list ds =>
      simp only [itD, itSeq, Option.some.injEq] at e2
      subst e2
      obtain ⟨q, vs, h1, h2, h3, h4⟩ := r
      exact .inl ⟨q, vs, h1, SqL.of h3, hQ _ M H1 (Ext.refl _ _) s (.lst h2 h3 h4)⟩
    | tuple ds =>
      simp only [itD, itSeq, Option.some.injEq] at e2
      subst e2
      obtain ⟨q, vs, h1, h2, h3⟩ := r
      exact .inr (.inl ⟨q, vs, h1, h2, hQ _ M H1 (Ext.refl _ _) s (.tup h2 h3)⟩)
    | str z =>
      simp only [itD, itSeq] at e2
      split at e2
      · cases e2
        exact .inr (.inr ⟨z, r, hQ _ M H1 (Ext.refl _ _) s (.str z)⟩)
      · cases e2
    | _ => simp [itD, itSeq] at e2
  | r n => simp [plain] at e1
  | s n => simp [plain] at e1
theorem rd_it {es : List LE} {kk : IK} {σ : L2.St} {H : Hp} {Q : It → Hp → Prop} (q : rI X T W (fun ρ S => (evL C es ρ S).bind (itV kk)) σ H Q) : rA X T W (evL C es) σ H fun vs H1 => ∃ xs items S M, xs.length = es.length ∧ RepL X.K M H1 xs vs ∧ itD kk xs = some items ∧ StoreOk T X.K M H1 S ∧ ∀ J M' H', Ext M H1 M' H' → StoreOk T X.K M' H' S → ItRep X.K M' H' J items → Q J H' := by
  obtain ⟨ρ, S, M, e, s, q⟩ := q
  refine ⟨ρ, S, M, e, s, ?_⟩
  have q : Post X T W σ M H _ ((evL C es ρ S).bind (itV kk)) Q := q
  cases hm : evL C es ρ S with
  | ex c S' => rw [hm] at q; exact q
  | no => rw [hm] at q; exact q
  | ok vs S1 =>
    have hlen := evL_len hm
    rw [hm] at q
    intro ys M' H' x1 s1 r1
    have q : Post X T W σ M' H' _ (itV kk vs S1) Q := Post.ext x1 q
    obtain ⟨xs, items, e1, e2, hQ⟩ := itV_post q
    exact ⟨xs, items, S1, M', by rw [← plain_len e1, hlen], plain_rep (X := X) e1 r1, e2, s1, hQ⟩
theorem small_of {i : Int} (h : smallI i = true) : -(2 ^ 62) ≤ i ∧ i < 2 ^ 62 := by
  unfold smallI at h
  simp only [Bool.and_eq_true, decide_eq_true_eq] at h
  omega
theorem one_len {M : MM} {H : Hp} {vs : List V} {x : PyData} (r : RepL X.K M H [x] vs) : ∃ v, vs = [v] ∧ Rep X.K M H x v := by
  obtain ⟨v, q, e1, e2, e3⟩ := r
  have e3 : q = [] := e3
  subst e3
  exact ⟨v, e1, e2⟩
theorem two_len {M : MM} {H : Hp} {vs : List V} {x y : PyData} (r : RepL X.K M H [x, y] vs) : ∃ v w, vs = [v, w] ∧ Rep X.K M H x v ∧ Rep X.K M H y w := by
  obtain ⟨v, q, e1, e2, w, q', e3, e4, e5⟩ := r
  have e5 : q' = [] := e5
  subst e5
  subst e3
  exact ⟨v, w, e1, e2, e4⟩
theorem i_range1 (g : Good X T W c F k) {es : List LE} {q : Pos} (hb : isBlt c "range" = true) (hs : ∀ v p, e ≠ .Starred v p) (hl : es.length = 1) (h : PA X [e] (rA X T W (evL C es))) : PI X tg (.Call (.Name "range" q) [e] [] p) (rI X T W fun ρ S => (evL C es ρ S).bind (itV .range)) := by
  obtain ⟨g1, _, g3⟩ := g.blt hb
  refine PI.imp (pi_range1 g1 g3 h (by rw [star_of hs]; rfl)) fun σ H Q q => ?_
  refine rd_mono (rd_it q) fun vs H1 ⟨xs, items, S, M, hxl, r, e2, s, hQ⟩ => ?_
  rw [hl] at hxl
  match xs, hxl, r, e2 with
  | [x], _, r, e2 =>
    cases x with
    | int n =>
      simp only [itD, itRng] at e2
      split at e2
      · rename_i hn
        cases e2
        obtain ⟨v, rfl, hv⟩ := one_len r
        obtain ⟨b1, b2⟩ := small_of hn
        exact ⟨n, by rw [show v = .int n from hv], b1, b2, hQ _ M H1 (Ext.refl _ _) s (.rng 0 _)⟩
      · cases e2
    | _ => simp [itD, itRng] at e2
theorem i_range2 (g : Good X T W c F k) {es : List LE} {q : Pos} (hb : isBlt c "range" = true) (hs : ∀ v p, e ≠ .Starred v p) (hs2 : ∀ v p, f ≠ .Starred v p) (hl : es.length = 2) (h : PA X [e, f] (rA X T W (evL C es))) : PI X tg (.Call (.Name "range" q) [e, f] [] p) (rI X T W fun ρ S => (evL C es ρ S).bind (itV .range)) := by
  obtain ⟨g1, _, g3⟩ := g.blt hb
  refine PI.imp (pi_range2 g1 g3 h (by rw [star_of hs, star_of hs2]; rfl) (by rw [star_of hs2]; rfl)) fun σ H Q q => ?_
  refine rd_mono (rd_it q) fun vs H1 ⟨xs, items, S, M, hxl, r, e2, s, hQ⟩ => ?_
  rw [hl] at hxl
  match xs, hxl, r, e2 with
  | [x, y], _, r, e2 =>
    cases x with
    | int n =>
      cases y with
      | int m =>
        simp only [itD, itRng] at e2
        split at e2
        · rename_i hn
          cases e2
          simp only [Bool.and_eq_true] at hn
          obtain ⟨v, w, rfl, hv, hw⟩ := two_len r
          obtain ⟨b1, b2⟩ := small_of hn.1
          obtain ⟨b3, b4⟩ := small_of hn.2
          exact ⟨n, m, by rw [show v = .int n from hv, show w = .int m from hw], ⟨b1, b2, b3, b4⟩, hQ _ M H1 (Ext.refl _ _) s (.rng n _)⟩
        · cases e2
      | _ => simp [itD, itRng] at e2
    | _ => cases y <;> simp [itD, itRng] at e2
theorem i_enum (g : Good X T W c F k) {es : List LE} {q tp : Pos} {elts : List Expr} {kk : Nat} (hb : isBlt c "enumerate" = true) (hs : ∀ v p, e ≠ .Starred v p) (hl : es.length = 1) (h : PA X [e] (rA X T W (evL C es))) : PI X (.Tuple elts kk tp) (.Call (.Name "enumerate" q) [e] [] p) (rI X T W fun ρ S => (evL C es ρ S).bind (itV .enum)) := by
  obtain ⟨g1, _, g3⟩ := g.blt hb
  refine PI.imp (pi_enum g1 g3 h (by rw [star_of hs]; rfl)) fun σ H Q q => ?_
  refine rd_mono (rd_it q) fun vs H1 ⟨xs, items, S, M, hxl, r, e2, s, hQ⟩ => ?_
  rw [hl] at hxl
  match xs, hxl, r, e2 with
  | [x], _, r, e2 =>
    cases x with
    | list ds =>
      simp only [itD, itEnm, Option.some.injEq] at e2
      subst e2
      obtain ⟨v, rfl, a, us, hv, h1, h2, h3⟩ := one_len r
      subst hv
      exact ⟨a, us, rfl, SqL.of h2, hQ _ M H1 (Ext.refl _ _) s (.enm h1 h2 h3)⟩
    | _ => simp [itD, itEnm] at e2
theorem i_zip (g : Good X T W c F k) {es : List LE} {q tp : Pos} {elts : List Expr} {kk : Nat} (hb : isBlt c "zip" = true) (hs : ∀ v p, e ≠ .Starred v p) (hs2 : ∀ v p, f ≠ .Starred v p) (hl : es.length = 2) (h : PA X [e, f] (rA X T W (evL C es))) : PI X (.Tuple elts kk tp) (.Call (.Name "zip" q) [e, f] [] p) (rI X T W fun ρ S => (evL C es ρ S).bind (itV .zip)) := by
  obtain ⟨g1, _, g3⟩ := g.blt hb
  refine PI.imp (pi_zipA g1 g3 h (star_of hs _ _) (by rw [star_of hs2]; rfl)) fun σ H Q q => ?_
  refine rd_mono (rd_it q) fun vs H1 ⟨xs, items, S, M, hxl, r, e2, s, hQ⟩ => ?_
  rw [hl] at hxl
  match xs, hxl, r, e2 with
  | [x, y], _, r, e2 =>
    cases x with
    | list ds =>
      cases y with
      | list es' =>
        simp only [itD, itZip, Option.some.injEq] at e2
        subst e2
        obtain ⟨v, w, rfl, ⟨a, us, hv, h1, h2, h3⟩, ⟨b, ws, hw, g1, g2, g3⟩⟩ := two_len r
        subst hv hw
        exact ⟨a, b, us, ws, rfl, .inl ⟨SqL.of h2, SqL.of g2, hQ _ M H1 (Ext.refl _ _) s (.zip h1 h2 h3 g1 g2 g3)⟩⟩
      | _ => simp [itD, itZip] at e2
    | tuple ds =>
      cases y with
      | tuple es' =>
        simp only [itD, itZip, Option.some.injEq] at e2
        subst e2
        obtain ⟨v, w, rfl, ⟨a, us, hv, h1, h2⟩, ⟨b, ws, hw, g1, g2⟩⟩ := two_len r
        subst hv hw
        exact ⟨a, b, us, ws, rfl, .inr ⟨h1, g1, hQ _ M H1 (Ext.refl _ _) s (.zipT h1 h2 g1 g2)⟩⟩
      | _ => simp [itD, itZip] at e2
    | _ => cases y <;> simp [itD, itZip] at e2

/-! ### targets -/
/-- what a target does to the slots -/
def gG (X : Cx) (tgt : Tg) : TG := fun v σ H Q => ∃ d ρ M ρ', Rep X.K M H d v ∧ EnvOk X.K M H ρ σ ∧ bindTg tgt d ρ = some ρ' ∧ ∀ σ', EnvOk X.K M H ρ' σ' → σ'.length = σ.length → (∀ j, j ∉ tgIx tgt → σ'[j]? = σ[j]?) → Q σ' H
theorem PG.imp {X : Cx} {tg : Expr} {t t' : TG} (h : PG X tg t) (i : ∀ v σ H Q, t' v σ H Q → t v σ H Q) : PG X tg t' := ⟨fun pins s σ H v u Q I r q => h.run pins s σ H v u Q I r (i _ _ _ _ q)⟩
theorem tg_one (hn : X.N.Nodup) {i : Nat} {x : Str} {q : Pos} (hi : X.N[i]? = some x) (hl : Loc X.env.scope x) (hf : X.fn x = true ∨ X.env.scope.names.lookup x = some .local) : PG X (.Name x q) (gG X (.one i)) := by
  refine PG.imp (pg_name hn hi hl hf) fun v σ H Q ⟨d, ρ, M, ρ', r, e, hb, hQ⟩ => ?_
  simp only [bindTg, Option.some.injEq] at hb
  subst hb
  refine hQ _ (e.set (v := .d d) r i) (by simp) fun j hj => ?_
  have : i ≠ j := by
    intro z
    exact hj (by simp [tgIx, z])
  rw [List.getElem?_set_ne this]
/-- the names of a tuple, one by one -/
def gGs (X : Cx) (is : List Nat) : TGs := fun vs σ H Q => ∃ ds ρ M ρ', RepL X.K M H ds vs ∧ EnvOk X.K M H ρ σ ∧ setMany ρ is ds = some ρ' ∧ ∀ σ', EnvOk X.K M H ρ' σ' → σ'.length = σ.length → (∀ j, j ∉ is → σ'[j]? = σ[j]?) → Q σ' H
theorem PGs.imp {X : Cx} {ts : List Expr} {t t' : TGs} (h : PGs X ts t) (i : ∀ v σ H Q, t' v σ H Q → t v σ H Q) : PGs X ts t' := ⟨fun pins s σ H vs us Q I r q => h.run pins s σ H vs us Q I r (i _ _ _ _ q)⟩
theorem assignEach_name {x : Str} {q : Pos} {es : List Expr} {env : PySem.Env} : assignEach (.Name x q :: es) env = (false, assign (.Name x q) env) :: assignEach es env := rfl
theorem chkTg1_name {N : List Str} {sc : Scope} {i : Nat} {e : Expr} (h : chkTg1 N sc i e = true) : ∃ x q, e = .Name x q ∧ N[i]? = some x ∧ Loc sc x := by
  cases e with
  | Name x q =>
    simp only [chkTg1, Bool.and_eq_true, decide_eq_true_eq] at h
    exact ⟨x, q, rfl, h.1, loc_of h.2⟩
  | _ => simp [chkTg1] at h
theorem tg_many (hn : X.N.Nodup) {N : List Str} {sc : Scope} (hN : X.N = N) (hL : ∀ x, Loc sc x → Loc X.env.scope x ∧ (X.fn x = true ∨ X.env.scope.names.lookup x = some .local)) : ∀ {is : List Nat} {ts : List Expr}, chkTgs N sc is ts = true → PGs X ts (gGs X is) ∧ (assignEach ts X.env).length = ts.length ∧ (assignEach ts X.env).findIdx? (·.1) = none ∧ ts.length = is.length
  | [], [], _ => ⟨PGs.imp pgs_nil fun vs σ H Q ⟨ds, ρ, M, ρ', r, e, hb, hQ⟩ => by
      cases ds with
      | cons d ds => simp [setMany] at hb
      | nil =>
        simp only [setMany, Option.some.injEq] at hb
        subst hb
        exact ⟨r, hQ σ e rfl fun _ _ => rfl⟩, rfl, rfl, rfl⟩
  | [], _ :: _, h => by simp [chkTgs] at h
  | _ :: _, [], h => by simp [chkTgs] at h
  | i :: is, e :: ts, h => by
    simp only [chkTgs, Bool.and_eq_true] at h
    obtain ⟨x, q, rfl, hi, hl⟩ := chkTg1_name h.1
    obtain ⟨hl, hf⟩ := hL x hl
    obtain ⟨h1, h2, h3, h4⟩ := tg_many hn hN hL h.2
    refine ⟨PGs.imp (pgs_cons (tg_one hn (by rw [hN]; exact hi) hl hf) h1) fun vs σ H Q ⟨ds, ρ, M, ρ', r, e, hb, hQ⟩ => ?_, ?_, ?_, ?_⟩
    · cases ds with
      | nil => simp [setMany] at hb
      | cons d ds =>
        simp only [setMany] at hb
        obtain ⟨v, w, e1, e2, e3⟩ := r
        refine ⟨v, w, e1, d, ρ, M, _, e2, e, rfl, fun σ' e' hl' hj' => ?_⟩
        refine ⟨ds, _, M, ρ', e3, e', hb, fun σ2 e2 hl2 hj2 => hQ σ2 e2 (hl2.trans hl') fun j hj => ?_⟩
        simp only [List.mem_cons, not_or] at hj
        rw [hj2 j hj.2, hj' j (by simp [tgIx, hj.1])]
    · rw [assignEach_name]; simp [h2]
    · rw [assignEach_name, List.findIdx?_cons]; simp [h3]
    · simp [h4]
theorem setMany_len : ∀ {is : List Nat} {ds : List PyData} {ρ ρ' : Z.Env}, setMany ρ is ds = some ρ' → ds.length = is.length
  | [], [], _, _, _ => rfl
  | [], _ :: _, _, _, h => by simp [setMany] at h
  | _ :: _, [], _, _, h => by simp [setMany] at h
  | i :: is, d :: ds, ρ, ρ', h => by
    simp only [setMany] at h
    simp [setMany_len h]
theorem tg_ok (hc : X.calm = true) (hn : X.N.Nodup) {N : List Str} {sc : Scope} (hN : X.N = N) (hL : ∀ x, Loc sc x → Loc X.env.scope x ∧ (X.fn x = true ∨ X.env.scope.names.lookup x = some .local)) {tgt : Tg} {t : Expr} (h : chkTg N sc tgt t = true) : PG X t (gG X tgt) := by
  cases tgt with
  | one i =>
    obtain ⟨x, q, rfl, hi, hl⟩ := chkTg1_name (show chkTg1 N sc i t = true from by
      cases t <;> exact h)
    obtain ⟨hl, hf⟩ := hL x hl
    exact tg_one hn (by rw [hN]; exact hi) hl hf
  | many is =>
    cases t with
    | Tuple es kk q =>
      obtain ⟨h1, h2, h3, h4⟩ := tg_many hn hN hL (show chkTgs N sc is es = true from h)
      refine PG.imp (pg_tup (n := is.length) hc h1 (h2.trans h4) h3) fun v σ H Q ⟨d, ρ, M, ρ', r, e, hb, hQ⟩ => ?_
      cases d with
      | tuple ds =>
        simp only [bindTg] at hb
        obtain ⟨a, vs, e1, e2, e3⟩ := r
        refine ⟨a, vs, e1, e2, ?_, ds, ρ, M, ρ', e3, e, hb, hQ⟩
        rw [← e3.length]
        exact setMany_len hb
      | _ => simp [bindTg] at hb
    | _ => simp [chkTg] at h
end
end Z

/-! Comprehensions, expressions: soundness. -/
namespace Z
open PySem PySem.Spec PyProof.Rows L2 RZ

theorem R.bind_assoc {α β γ : Type} (x : R α) (f : α → Sto → R β) (g : β → Sto → R γ) : (x.bind f).bind g = x.bind fun a S => (f a S).bind g := by
  cases x <;> rfl
/-- no exception is wished -/
abbrev W0 : WX := fun _ _ _ _ => False
theorem wipe_in {σ : L2.St} {j : Nat} : ∀ {vs : List Nat}, j ∈ vs → (L2.wipe σ vs)[j]? = if j < σ.length then some none else none
  | v :: vs, h => by
    unfold L2.wipe
    by_cases e : v = j
    · subst e
      split
      · rename_i hl
        exact List.getElem?_set_self (by rw [wipe_length]; exact hl)
      · rename_i hl
        exact List.getElem?_eq_none (by rw [List.length_set, wipe_length]; omega)
    · rw [List.getElem?_set_ne e]
      exact wipe_in ((List.mem_cons.mp h).resolve_left fun z => e z.symm)
theorem wipe_eq {σ σ' : L2.St} {vs : List Nat} (hl : σ'.length = σ.length) (h : ∀ j, j ∉ vs → σ'[j]? = σ[j]?) : L2.wipe σ' vs = L2.wipe σ vs := by
  apply List.ext_getElem?
  intro j
  by_cases hj : j ∈ vs
  · rw [wipe_in hj, wipe_in hj, hl]
  · rw [wipe_out hj, wipe_out hj, h j hj]
section
variable {T : List (Addr × Str)} {K : PySem.W.Frag} {M : MM} {H : Hp} {S : Sto}
theorem fre_push {D a : Addr} (h : Fre (M.hide D) a) : Fre (M.push D) a := ⟨fun z => by
  rcases List.mem_append.mp z with q | q
  · exact h.1 q
  · simp only [List.mem_singleton, Option.some.injEq] at q
    exact h.2 (by rw [q]; exact List.mem_cons_self), fun z => h.2 (List.mem_cons_of_mem _ z)⟩
theorem StoreOk.pushAt {D : Addr} {ds : List PyData} {vs : List V} (s : StoreOk T K (M.hide D) H S) (hz : D ∉ M.z) (hD : H D = some (.lst vs)) (r : RepL K (M.hide D) H ds vs) : StoreOk T K (M.push D) H (S ++ [.lst ds]) where
  len := by simp [MM.push, ← s.len, MM.hide]
  inj := fun n m a h1 h2 => by
    have nD : some D ∉ M.m := (s.prv D List.mem_cons_self).1
    have key : ∀ {n : Nat}, (M.m ++ [some D])[n]? = some (some a) → (n < M.m.length ∧ M.m[n]? = some (some a)) ∨ (n = M.m.length ∧ a = D) := fun {n} h => by
      by_cases hn : n < M.m.length
      · rw [List.getElem?_append_left hn] at h; exact .inl ⟨hn, h⟩
      · have hlt : n < (M.m ++ [some D]).length := (List.getElem?_eq_some_iff.mp h).1
        have hn' : n = M.m.length := by simp at hlt; omega
        subst hn'
        simp at h
        exact .inr ⟨rfl, h.symm⟩
    rcases key h1 with ⟨l1, q1⟩ | ⟨l1, q1⟩ <;> rcases key h2 with ⟨l2, q2⟩ | ⟨l2, q2⟩
    · exact s.inj n m a q1 q2
    · subst q2; exact absurd (List.mem_of_getElem? q1) nD
    · subst q1; exact absurd (List.mem_of_getElem? q2) nD
    · rw [l1, l2]
  ent := fun n xs e => by
    have hl : M.m.length = S.length := s.len
    by_cases hn : n < S.length
    · rw [List.getElem?_append_left hn] at e
      obtain ⟨a, ws, h1, h2, h3⟩ := s.ent n xs e
      exact ⟨a, ws, by show (M.m ++ [some D])[n]? = _; rw [List.getElem?_append_left (by rw [hl]; exact hn)]; exact h1, h2, h3.cut fun _ => fre_push⟩
    · have hlt : n < (S ++ [SE.lst ds]).length := (List.getElem?_eq_some_iff.mp e).1
      have hn' : n = S.length := by simp at hlt; omega
      subst hn'
      simp at e
      subst e
      exact ⟨D, vs, by show (M.m ++ [some D])[S.length]? = _; rw [← hl]; simp, hD, r.cut fun _ => fre_push⟩
  gon := fun n e => by
    have hl : M.m.length = S.length := s.len
    by_cases hn : n < S.length
    · rw [List.getElem?_append_left hn] at e
      show (M.m ++ [some D])[n]? = _
      rw [List.getElem?_append_left (by rw [hl]; exact hn)]
      exact s.gon n e
    · have hlt : n < (S ++ [SE.lst ds]).length := (List.getElem?_eq_some_iff.mp e).1
      have hn' : n = S.length := by simp at hlt; omega
      subst hn'
      simp at e
  prv := fun a h => by
    obtain ⟨h1, us, h2⟩ := s.prv a (List.mem_cons_of_mem _ h)
    refine ⟨fun z => ?_, us, h2⟩
    rcases List.mem_append.mp z with q | q
    · exact h1 q
    · simp only [List.mem_singleton, Option.some.injEq] at q
      exact hz (by rw [← q]; exact h)
  tab := s.tab
end
section
variable {X : Cx} {T : List (Addr × Str)} {W : WX} {C : Nat → List Val → Sto → R Val}
/-- one turn of a comprehension -/
def fC (C : Nat → List Val → Sto → R Val) (tgt : Tg) (own : List Nat) (cond : Option LE) (elt : LE) (ρ : Z.Env) : PyData → Sto → R (Option PyData) := fun x S => onTg tgt x (wipeE ρ own) fun ρ' => (evO C cond ρ' S).bind fun c S => if c then (evE C elt ρ' S).bind dat1 else .ok none S
theorem lc_G {m : Bool} {kk : IK} {args : List LE} {tgt : Tg} {own : List Nat} {cond : Option LE} {elt : LE} (ho : ∀ j, j ∈ tgIx tgt → j ∈ own) {σ : L2.St} {H : Hp} {Q : VK} (q : rE X T W (evE C (.comp m kk args tgt own cond elt)) σ H Q) :
    tLc (rI X T W fun ρ S => (evL C args ρ S).bind (itV kk)) (gG X tgt) (rT X T W0 (evO C cond)) (rE X T W0 (evE C elt)) own σ H Q := by
  have q1 : rd X T W (RepV X.K) (fun ρ S => ((evL C args ρ S).bind (itV kk)).bind fun items S => (loopC (fC C tgt own cond elt ρ) items [] S).bind fun ys S => ret1 m (.list ys) S) σ H Q := by
    obtain ⟨ρ, S, M, e, s, p⟩ := q
    refine ⟨ρ, S, M, e, s, ?_⟩
    show Post X T W σ M H (RepV X.K) (((evL C args ρ S).bind (itV kk)).bind fun items S => (loopC (fC C tgt own cond elt ρ) items [] S).bind fun ys S => ret1 m (.list ys) S) Q
    rw [R.bind_assoc]
    exact p
  refine rd_mono (rd_bind (rep := fun M H items J => ItRep X.K M H J items) (f := fun ρ items S => (loopC (fC C tgt own cond elt ρ) items [] S).bind fun ys S => ret1 m (.list ys) S) q1) fun J H1 ⟨ρ, items, S, M, e, s, r, p⟩ D hD => ?_
  have hDz : D ∉ M.z := fun z => by
    obtain ⟨_, _, h⟩ := s.prv D z
    rw [hD] at h; cases h
  refine ⟨fun i n H => ∃ acc S' Mi vs, n = items.length - i ∧ i ≤ items.length ∧ Ext M H1 Mi H ∧ StoreOk T X.K (Mi.hide D) H S' ∧ EnvOk X.K (Mi.hide D) H ρ σ ∧ ItRep X.K (Mi.hide D) H J items ∧ H D = some (.lst vs) ∧ RepL X.K (Mi.hide D) H acc vs ∧
    Post X T W σ M H1 (RepV X.K) ((loopC (fC C tgt own cond elt ρ) (items.drop i) acc S').bind fun ys S => ret1 m (.list ys) S) Q,
    ⟨items.length, [], S, M, [], by simp, Nat.zero_le _, ext_new hD, s.hide hD, e.hide hD, r.hide hD, upd_same, rfl, p⟩, ?_⟩
  rintro i n H2 ⟨acc, S', Mi, vs, rfl, hi, eM, sM, eE, rJ, hDv, rA, p⟩
  obtain ⟨tStop, tGo⟩ := rJ.turn sM
  by_cases hlt : i < items.length
  · -- a turn
    have hd : items[i]? = some items[i] := List.getElem?_eq_getElem hlt
    obtain ⟨go, yld⟩ := tGo i _ hd
    refine .inr ⟨go, fun H' => ∃ acc S' Mi vs, items.length - (i + 1) = items.length - (i + 1) ∧ i + 1 ≤ items.length ∧ Ext M H1 Mi H' ∧ StoreOk T X.K (Mi.hide D) H' S' ∧ EnvOk X.K (Mi.hide D) H' ρ σ ∧ ItRep X.K (Mi.hide D) H' J items ∧ H' D = some (.lst vs) ∧ RepL X.K (Mi.hide D) H' acc vs ∧
      Post X T W σ M H1 (RepV X.K) ((loopC (fC C tgt own cond elt ρ) (items.drop (i + 1)) acc S').bind fun ys S => ret1 m (.list ys) S) Q, fun H' h => ⟨items.length - (i + 1), by omega, h⟩, fun x H3 hy => ?_⟩
    obtain ⟨x3, s3, r3⟩ := yld x H3 hy
    rw [List.drop_eq_getElem_cons hlt] at p
    simp only [loopC] at p
    unfold fC onTg at p
    cases hb : bindTg tgt items[i] (wipeE ρ own) with
    | none => rw [hb] at p; exact p.elim
    | some ρ' =>
      rw [hb] at p
      dsimp only at p
      have nDm : some D ∉ (Mi.hide D).m := (sM.prv D List.mem_cons_self).1
      refine ⟨items[i], wipeE ρ own, Mi.hide D, ρ', r3, (eE.ext x3).wipe own, hb, fun σ' e4 hl4 hj4 => ⟨wipe_eq (hl4.trans (wipe_length _ _)) fun j hj => ?_, ?_⟩⟩
      · rw [hj4 j fun z => hj (ho j z), wipe_out hj]
      · refine ⟨ρ', S', Mi.hide D, e4, s3, ?_⟩
        cases hc : evO C cond ρ' S' with
        | ex c S2 => rw [hc] at p; exact p.elim
        | no => rw [hc] at p; exact p.elim
        | ok b S2 =>
          rw [hc] at p
          intro b' M5 H5 x5 s5 hbb
          subst hbb
          have hz5 : M5.z = D :: Mi.z := x5.zz
          obtain ⟨m5, z5⟩ := M5
          subst hz5
          have hM5 : (⟨m5, D :: Mi.z⟩ : MM) = MM.hide ⟨m5, Mi.z⟩ D := rfl
          have x35 := x3.trans x5
          have hD5 : H5 D = some (.lst vs) := x35.lst D vs hDv nDm
          cases b with
          | false =>
            rw [if_neg Bool.false_ne_true]
            refine ⟨acc, S2, ⟨m5, Mi.z⟩, vs, rfl, hlt, eM.trans (Ext.show_ (M0 := M) (H0 := H1) x35), s5, eE.ext x35, rJ.ext x35, hD5, rA.ext x35, ?_⟩
            exact p
          | true =>
            rw [if_pos rfl]
            refine ⟨ρ', S2, ⟨m5, D :: Mi.z⟩, e4.ext x5, s5, ?_⟩
            have p2 : Post X T W σ M H1 (RepV X.K) ((match (evE C elt ρ' S2).bind dat1 with
              | .ok none S' => loopC (fC C tgt own cond elt ρ) (items.drop (i + 1)) acc S'
              | .ok (some y) S' => if acc.length < lim then loopC (fC C tgt own cond elt ρ) (items.drop (i + 1)) (acc ++ [y]) S' else .no
              | .ex _ _ => .no
              | .no => .no).bind fun ys S => ret1 m (.list ys) S) Q := p
            cases hv : evE C elt ρ' S2 with
            | ex c S3 => rw [hv] at p2; exact p2.elim
            | no => rw [hv] at p2; exact p2.elim
            | ok v S3 =>
              rw [hv] at p2
              intro y M6 H6 x6 s6 r6
              cases v with
              | r n => exact p2.elim
              | s n => exact p2.elim
              | d yd =>
                have p3 : Post X T W σ M H1 (RepV X.K) ((if acc.length < lim then loopC (fC C tgt own cond elt ρ) (items.drop (i + 1)) (acc ++ [yd]) S3 else .no).bind fun ys S => ret1 m (.list ys) S) Q := p2
                have hz6 : M6.z = D :: Mi.z := x6.zz
                obtain ⟨m6, z6⟩ := M6
                subst hz6
                have x36 := x35.trans x6
                have hD6 : H6 D = some (.lst vs) := x36.lst D vs hDv nDm
                by_cases hn : acc.length < lim
                · rw [if_pos hn] at p3
                  have n1 : ∀ ys, H6 D ≠ some (.tup ys) := by intro ys q; rw [hD6] at q; cases q
                  have n2 : ∀ o u, H6 D ≠ some (.frz o u) := by intro _ _ q; rw [hD6] at q; cases q
                  have hmem : D ∈ (⟨m6, D :: Mi.z⟩ : MM).z := List.mem_cons_self
                  refine ⟨vs, hD6, by rw [← rA.length]; exact Nat.lt_of_lt_of_le hn lim_line, acc ++ [yd], S3, ⟨m6, Mi.z⟩, vs ++ [y], rfl, hlt, ext_updD (eM.trans (Ext.show_ (M0 := M) (H0 := H1) x36)) hD hD6, s6.upd hmem hD6, (eE.ext x36).upd hmem hD6, (rJ.ext x36).upd hmem hD6, upd_same, ?_, p3⟩
                  exact ((rA.ext x36).upd hmem n1 n2).append ⟨y, [], rfl, Rep.upd hmem n1 n2 r6, rfl⟩
                · rw [if_neg hn] at p3; exact p3.elim
  · -- the end
    have hi' : i = items.length := by omega
    subst hi'
    refine .inl ⟨tStop _ (Nat.le_refl _), ?_⟩
    rw [List.drop_length] at p
    have p : Post X T W σ M H1 (RepV X.K) (ret1 m (.list acc) S') Q := p
    have hDz' : D ∉ Mi.z := by rw [eM.zz]; exact hDz
    have nDm : some D ∉ Mi.m := (sM.prv D List.mem_cons_self).1
    cases m with
    | false => exact p _ Mi H2 eM sM.show_ ⟨D, vs, rfl, ⟨nDm, hDz'⟩, hDv, rA.cut fun _ => fre_show⟩
    | true =>
      refine p _ (Mi.push D) H2 ⟨?_, fun n hn => ?_, fun a h => ?_, eM.zz, eM.lst, eM.tup, eM.frz, eM.nn⟩ (sM.pushAt hDz' hDv rA) ⟨D, rfl, .inr ?_⟩
      · show _ ≤ (Mi.m ++ [some D]).length
        have := eM.len
        simp
        omega
      · show (Mi.m ++ [some D])[n]? = _ ∨ (Mi.m ++ [some D])[n]? = _
        rw [List.getElem?_append_left (Nat.lt_of_lt_of_le hn eM.len)]
        exact eM.old n hn
      · rcases List.mem_append.mp h with z | z
        · exact eM.new a z
        · simp only [List.mem_singleton, Option.some.injEq] at z
          subst z
          exact .inr hD
      · show (Mi.m ++ [some D])[S'.length]? = _
        have : Mi.m.length = S'.length := sM.len
        rw [← this]
        simp
end
end Z

/-! Every expression of the small language is sound. -/
namespace Z
open PySem PySem.Spec PyProof.Rows L2 RZ

theorem notStar {c : SC} {l : LE} {e : Expr} (h : chkE c l e = true) : ∀ v p, e ≠ .Starred v p := by
  rintro v p rfl
  cases l <;> simp [chkE] at h
theorem folded_none {it : Expr} {env : PySem.Env} (h : isSet it = false) : ∀ x, foldedSetIterable it env x = pure x := by
  intro x
  cases it <;> first | rfl | (simp [isSet] at h)
theorem behind_none {op : CmpOp} {b : Expr} (h : isSet b = false) : behindInMarks op b = false := by
  cases b <;> first | rfl | (simp [isSet] at h)
theorem plainIx_of {b : Expr} (h : slicy b = false) : PlainIx b := by
  intro o i
  cases b <;> first | rfl | (simp [slicy] at h)
theorem ownP_ix {N : List Str} {own : List Nat} : (ownP N own).map (·.2) = own := by
  unfold ownP
  rw [List.map_map]
  exact List.map_id' own
def LcP (X : Cx) (e : Expr) (t : TE) : Prop := ∃ (elt tg iter : Expr) (ifs : List Expr) (scope : Scope) (own : List (Str × Nat)) (pos : Pos) (wi : TI) (g : TG) (tt : TT) (te : TE), e = .ListComp elt [⟨tg, iter, ifs, 0⟩] scope pos ∧ PI X tg iter wi ∧ BlkOk X.N X.env.scope scope own ∧
  (∀ (s : Shared) (H : Hp) (C : Addr) (cl : List (Str × Addr)) (fp : List Addr), PG (X.blk s H scope (compEnvC scope cl C X.env) fp) tg g) ∧ (∀ (s : Shared) (H : Hp) (C : Addr) (cl : List (Str × Addr)) (fp : List Addr), PTs (X.blk s H scope (compEnvC scope cl C X.env) fp) ifs tt) ∧
  (∀ (s : Shared) (H : Hp) (C : Addr) (cl : List (Str × Addr)) (fp : List Addr), PE (X.blk s H scope (compEnvC scope cl C X.env) fp) elt te) ∧ (∀ x, foldedSetIterable iter X.env x = pure x) ∧ ∀ σ H Q, t σ H Q → tLc wi g tt te (own.map (·.2)) σ H Q
theorem LcP.pe {X : Cx} {e : Expr} {t : TE} (hc : X.calm = true) (hN : X.N.Nodup) (h : LcP X e t) : PE X e t := by
  obtain ⟨elt, tg, iter, ifs, scope, own, pos, wi, g, tt, te, rfl, h1, h2, h3, h4, h5, h6, h7⟩ := h
  exact PE.imp (pe_lc hc hN h1 h2 h3 h4 h5 h6) h7
section
variable {T : List (Addr × Str)} {F : Tab} {k : Nat}
theorem Good.blk {X : Cx} {W : WX} {c : SC} (g : Good X T W c F k) (s : Shared) (H : Hp) (scope : Scope) (C : Addr) (cl : List (Str × Addr)) (fp : List Addr) : Good (X.blk s H scope (compEnvC scope cl C X.env) fp) T W0 { c with sc := relS scope c.sc } F k where
  N := g.N
  nd := g.nd
  sc := by rw [← g.sc]; rfl
  calm := g.calm
  room := g.room
  tk := LamX.takes0
  gg := ⟨g.gg.con, g.gg.fns, g.gg.blt, g.gg.exc⟩
theorem loc_rel {scope sc : Scope} {x : Str} (h : Loc scope x) : Loc (relS scope sc) x ∧ ((scope.names.lookup x == some .cell) = true ∨ (relS scope sc).names.lookup x = some .local) := by
  rcases h with h | h
  · have e : (relS scope sc).names.lookup x = some .local := lookup_relS_keep (by decide) h
    exact ⟨.inl e, .inr e⟩
  · have e : (relS scope sc).names.lookup x = some .cell := lookup_relS_keep (by decide) h
    exact ⟨.inr e, .inl (by rw [h]; rfl)⟩
theorem pt_no {X : Cx} {W : WX} {e : Expr} {m : Z.Env → Sto → R Bool} (h : ∀ ρ S, m ρ S = .no) : PT X e (rT X T W m) := ⟨fun pins s σ H Q I ⟨ρ, S, M, e, so, p⟩ => by rw [h] at p; exact p.elim⟩
def PA1 (T : List (Addr × Str)) (F : Tab) (k : Nat) (X : Cx) (W : WX) (c : SC) (args : List LE) : Prop := ∀ a, args = [a] → ∀ e, chkE c a e = true → PE X e (rE X T W (evE (callF F k) a))
def PAs (T : List (Addr × Str)) (F : Tab) (k : Nat) (X : Cx) (W : WX) (c : SC) (args : List LE) : Prop := ∀ es, chkL c args es = true → PA X es (rA X T W (evL (callF F k) args)) ∧ (∀ e ∈ es, ∀ v p, e ≠ .Starred v p) ∧ args.length = es.length
theorem soundI (kk : IK) (args : List LE) (tgt : Tg) (X : Cx) (W : WX) (c : SC) (t it : Expr) (g : Good X T W c F k) (hL : PAs T F k X W c args) (hk : kk ≠ .seq) {sc : Scope} (h3 : chkTg c.N sc tgt t = true) (h : (match it with
         | .Call (.Name x _) fs [] _ => isBlt c x && decide (x = itName kk) && arity kk fs.length && chkL c args fs && tgFor kk tgt
         | _ => false) = true) : PI X t it (rI X T W fun ρ S => (evL (callF F k) args ρ S).bind (itV kk)) := by
  cases it with
  | Call f fs ks p => cases f with
    | Name x q => cases ks with
      | nil =>
        simp only [Bool.and_eq_true, decide_eq_true_eq] at h
        obtain ⟨⟨⟨⟨h0, rfl⟩, ha⟩, h1⟩, h2⟩ := h
        obtain ⟨l1, l2, l3⟩ := hL fs h1
        cases kk with
        | seq => exact absurd rfl hk
        | range =>
          match fs, l1, l2, l3, ha with
          | [e1], l1, l2, l3, _ => exact i_range1 g h0 (l2 e1 (by simp)) l3 l1
          | [e1, e2], l1, l2, l3, _ => exact i_range2 g h0 (l2 e1 (by simp)) (l2 e2 (by simp)) l3 l1
          | [], _, _, _, ha => simp [arity] at ha
          | _ :: _ :: _ :: _, _, _, _, ha => simp [arity] at ha
        | enum =>
          cases tgt with
          | one i => simp [tgFor] at h2
          | many is =>
            cases t with
            | Tuple es kx tp =>
              match fs, l1, l2, l3, ha with
              | [e1], l1, l2, l3, _ => exact i_enum g h0 (l2 e1 (by simp)) l3 l1
              | [], _, _, _, ha => simp [arity] at ha
              | _ :: _ :: _, _, _, _, ha => simp [arity] at ha
            | _ => simp [chkTg] at h3
        | zip =>
          cases tgt with
          | one i => simp [tgFor] at h2
          | many is =>
            cases t with
            | Tuple es kx tp =>
              match fs, l1, l2, l3, ha with
              | [e1, e2], l1, l2, l3, _ => exact i_zip g h0 (l2 e1 (by simp)) (l2 e2 (by simp)) l3 l1
              | [], _, _, _, ha => simp [arity] at ha
              | [_], _, _, _, ha => simp [arity] at ha
              | _ :: _ :: _ :: _, _, _, _, ha => simp [arity] at ha
            | _ => simp [chkTg] at h3
      | cons _ _ => simp at h
    | _ => simp at h
  | _ => simp at h
theorem soundC (m : Bool) (kk : IK) (args : List LE) (tgt : Tg) (own : List Nat) (cond : Option LE) (elt : LE) (X : Cx) (W : WX) (c : SC) (e : Expr) (g : Good X T W c F k) (hA : PA1 T F k X W c args) (hL : PAs T F k X W c args) (hO : ∀ (X : Cx) (W : WX) (c : SC) (es : List Expr), Good X T W c F k → chkIfs c cond es = true → PTs X es (rT X T W (evO (callF F k) cond))) (hE : ∀ (X : Cx) (W : WX) (c : SC) (e : Expr), Good X T W c F k → chkE c elt e = true → PE X e (rE X T W (evE (callF F k) elt))) (h : chkE c (.comp m kk args tgt own cond elt) e = true) : LcP X e (rE X T W (evE (callF F k) (.comp m kk args tgt own cond elt))) := by
  cases e with
  | ListComp e1 gs scope p =>
    match gs, h with
    | [⟨t, it, ifs, ay⟩], h =>
      unfold chkE at h
      simp only [Bool.and_eq_true, Bool.not_eq_true', List.all_eq_true, decide_eq_true_eq] at h
      obtain ⟨⟨⟨⟨⟨⟨⟨⟨h0, h1⟩, h2⟩, h3⟩, h4⟩, h5⟩, h6⟩, h7⟩, h8⟩ := h
      subst h0
      have hLoc : ∀ (s : Shared) (H : Hp) (C : Addr) (cl : List (Str × Addr)) (fp : List Addr) (x : Str), Loc scope x → Loc (X.blk s H scope (compEnvC scope cl C X.env) fp).env.scope x ∧ ((X.blk s H scope (compEnvC scope cl C X.env) fp).fn x = true ∨ (X.blk s H scope (compEnvC scope cl C X.env) fp).env.scope.names.lookup x = some .local) := fun s H C cl fp x hx => by
        obtain ⟨q1, q2⟩ := loc_rel (sc := X.env.scope) hx
        exact ⟨q1, q2⟩
      have hI : PI X t it (rI X T W fun ρ S => (evL (callF F k) args ρ S).bind (itV kk)) := by
        cases kk with
        | seq =>
          match args, h6 with
          | [a], h6 => exact i_seq (notStar h6) (hA a rfl it h6)
          | [], h6 => simp at h6
          | _ :: _ :: _, h6 => simp at h6
        | range => exact soundI .range args tgt X W c t it g hL (fun z => nomatch z) h3 h6
        | enum => exact soundI .enum args tgt X W c t it g hL (fun z => nomatch z) h3 h6
        | zip => exact soundI .zip args tgt X W c t it g hL (fun z => nomatch z) h3 h6
      refine ⟨e1, t, it, ifs, scope, ownP c.N own, p, _, gG X tgt, rT X T W0 (evO (callF F k) cond), rE X T W0 (evE (callF F k) elt), rfl, hI, ?_, fun s H C cl fp => ?_, fun s H C cl fp => ?_, fun s H C cl fp => ?_, folded_none h5, fun σ H Q q => ?_⟩
      · rw [g.N, g.sc]; exact blkOk_by h1
      · exact tg_ok (X := X.blk s H scope (compEnvC scope cl C X.env) fp) g.calm g.ndX g.N (hLoc s H C cl fp) h3
      · exact hO (X.blk s H scope (compEnvC scope cl C X.env) fp) W0 { c with sc := relS scope c.sc } ifs (g.blk s H scope C cl fp) h7
      · exact hE (X.blk s H scope (compEnvC scope cl C X.env) fp) W0 { c with sc := relS scope c.sc } e1 (g.blk s H scope C cl fp) h8
      · rw [ownP_ix]
        exact lc_G (fun j hj => h4 j hj) q
    | [], h => simp [chkE] at h
    | _ :: _ :: _, h => simp [chkE] at h
  | _ => simp [chkE] at h
theorem pe_call_of {n : Nat} {es : List LE} {X : Cx} {W : WX} {c : SC} {e : Expr} (g : Good X T W c F k) (hL : PAs T F k X W c es) (h : chkE c (.call n es) e = true) : PE X e (rE X T W (evE (callF F k) (.call n es))) := by
  cases e with
    | Call f fs ks p => cases f with
      | Name x q => cases ks with
        | nil =>
          simp only [chkE, Bool.and_eq_true, decide_eq_true_eq] at h
          obtain ⟨h1, h2, h3⟩ := hL fs h.2
          exact s_call g h.1.1 h.1.2 h3 h2 h1
        | cons _ _ => simp [chkE] at h
      | _ => simp [chkE] at h
    | _ => simp [chkE] at h
theorem pe_bi_of {b : BI} {es : List LE} {X : Cx} {W : WX} {c : SC} {e : Expr} (g : Good X T W c F k) (hL : PAs T F k X W c es) (h : chkE c (.bi b es) e = true) : PE X e (rE X T W (evE (callF F k) (.bi b es))) := by
  cases e with
    | Call f fs ks p => cases f with
      | Name x q => cases ks with
        | nil =>
          simp only [chkE, Bool.and_eq_true, decide_eq_true_eq, Bool.not_eq_true'] at h
          obtain ⟨⟨⟨h0, rfl⟩, hne⟩, h4⟩ := h
          obtain ⟨h1, h2, h3⟩ := hL fs h4
          cases fs with
          | nil => cases es with
            | nil => simp at hne
            | cons _ _ => simp at h3
          | cons e1 fs => exact s_bi g h0 h2 h1
        | cons _ _ => simp [chkE] at h
      | _ => simp [chkE] at h
    | _ => simp [chkE] at h
theorem pe_isi_of {a : LE} {t : TY} {X : Cx} {W : WX} {c : SC} {e : Expr} (g : Good X T W c F k) (hE : ∀ e, chkE c a e = true → PE X e (rE X T W (evE (callF F k) a))) (h : chkE c (.isi a t) e = true) : PE X e (rE X T W (evE (callF F k) (.isi a t))) := by
  cases e with
    | Call f fs ks p => cases f with
      | Name x q =>
        match fs, ks, h with
        | [e1, .Name y q2], [], h =>
          simp only [chkE, Bool.and_eq_true, decide_eq_true_eq] at h
          obtain ⟨⟨⟨⟨h0, rfl⟩, h1⟩, rfl⟩, h2⟩ := h
          exact s_isi g h0 h1 (notStar h2) (hE e1 h2)
        | [], _, h => simp [chkE] at h
        | [_], _, h => simp [chkE] at h
        | _ :: _ :: _ :: _, _, h => simp [chkE] at h
        | [_, f], _ :: _, h => cases f <;> simp [chkE] at h
        | [_, .BoolOp ..], [], h | [_, .NamedExpr ..], [], h | [_, .BinOp ..], [], h | [_, .UnaryOp ..], [], h | [_, .Lambda ..], [], h | [_, .IfExp ..], [], h | [_, .Dict ..], [], h | [_, .Set ..], [], h | [_, .ListComp ..], [], h | [_, .SetComp ..], [], h | [_, .DictComp ..], [], h | [_, .GeneratorExp ..], [], h | [_, .Await ..], [], h | [_, .Yield ..], [], h | [_, .YieldFrom ..], [], h | [_, .Compare ..], [], h | [_, .Call ..], [], h | [_, .FormattedValue ..], [], h | [_, .JoinedStr ..], [], h | [_, .Constant ..], [], h | [_, .Attribute ..], [], h | [_, .Subscript ..], [], h | [_, .Starred ..], [], h | [_, .List ..], [], h | [_, .Tuple ..], [], h | [_, .Slice ..], [], h => simp [chkE] at h
      | _ => simp [chkE] at h
    | _ => simp [chkE] at h
theorem pe_ix_of {a i : LE} {X : Cx} {W : WX} {c : SC} {e : Expr} (g : Good X T W c F k) (hE : ∀ e, chkE c a e = true → PE X e (rE X T W (evE (callF F k) a))) (hI : ∀ e, chkE c i e = true → PE X e (rE X T W (evE (callF F k) i))) (h : chkE c (.ix a i) e = true) : PE X e (rE X T W (evE (callF F k) (.ix a i))) := by
  cases e with
    | Subscript e1 f p =>
      simp only [chkE, Bool.and_eq_true, Bool.not_eq_true'] at h
      exact s_ix (hE e1 h.2.1) (hI f h.2.2) (plainIx_of h.1)
    | _ => simp [chkE] at h
mutual
theorem soundE (l : LE) (X : Cx) (W : WX) (c : SC) (e : Expr) (g : Good X T W c F k) (h : chkE c l e = true) : PE X e (rE X T W (evE (callF F k) l)) := by
  cases l with
  | var i => cases e with
    | Name x p => exact s_var g h
    | _ => simp [chkE] at h
  | frz i => cases e with
    | Name x p => exact s_frz g h
    | _ => simp [chkE] at h
  | lit d => cases e with
    | Constant kc j p => exact s_lit h
    | _ => simp [chkE] at h
  | glo x d => cases e with
    | Name y p =>
      simp only [chkE, Bool.and_eq_true, decide_eq_true_eq] at h
      obtain ⟨⟨rfl, h1⟩, h2⟩ := h
      exact s_glo g h1 h2
    | _ => simp [chkE] at h
  | neg a => cases e with
    | UnaryOp o f p => cases o with
      | USub => exact s_neg (soundE a X W c f g h)
      | _ => simp [chkE] at h
    | _ => simp [chkE] at h
  | bin o a b => cases e with
    | BinOp e1 q f p =>
      simp only [chkE, Bool.and_eq_true, decide_eq_true_eq] at h
      obtain ⟨rfl, h1, h2⟩ := h
      exact s_bin (soundE a X W c e1 g h1) (soundE b X W c f g h2)
    | _ => simp [chkE] at h
  | cmp o a b => cases e with
    | Compare e1 ops fs p =>
      match ops, fs, h with
      | [q], [f], h =>
        simp only [chkE, Bool.and_eq_true, decide_eq_true_eq, Bool.not_eq_true'] at h
        obtain ⟨⟨rfl, h0⟩, h1, h2⟩ := h
        exact s_cmp g (soundE a X W c e1 g h1) (soundE b X W c f g h2) (behind_none h0)
      | [], _, h => simp [chkE] at h
      | _ :: _ :: _, _, h => simp [chkE] at h
      | [_], [], h => simp [chkE] at h
      | [_], _ :: _ :: _, h => simp [chkE] at h
    | _ => simp [chkE] at h
  | chain o q a b d => cases e with
    | Compare e1 ops fs p =>
      match ops, fs, h with
      | [q1, q2], [f, f2], h =>
        simp only [chkE, Bool.and_eq_true, decide_eq_true_eq, Bool.not_eq_true'] at h
        obtain ⟨⟨⟨rfl, rfl⟩, h0⟩, h1, h2, h3⟩ := h
        exact s_chain g (soundE a X W c e1 g h1) (soundE b X W c f g h2) (soundE d X W c f2 g h3) (behind_none h0)
      | [], _, h => simp [chkE] at h
      | [_], _, h => simp [chkE] at h
      | _ :: _ :: _ :: _, _, h => simp [chkE] at h
      | [_, _], [], h => simp [chkE] at h
      | [_, _], [_], h => simp [chkE] at h
      | [_, _], _ :: _ :: _ :: _, h => simp [chkE] at h
    | _ => simp [chkE] at h
  | and a b => cases e with
    | BoolOp op es p =>
      match op, es, h with
      | .And, e1 :: f :: r, h =>
        simp only [chkE, Bool.and_eq_true] at h
        refine s_and (soundE a X W c e1 g h.1) ?_
        cases r with
        | nil => exact pe_one (soundE b X W c f g h.2)
        | cons f2 r => exact soundE b X W c _ g h.2
      | .Or, _, h => simp [chkE] at h
      | .And, [], h => simp [chkE] at h
      | .And, [_], h => simp [chkE] at h
    | _ => simp [chkE] at h
  | or a b => cases e with
    | BoolOp op es p =>
      match op, es, h with
      | .Or, e1 :: f :: r, h =>
        simp only [chkE, Bool.and_eq_true] at h
        refine s_or (soundE a X W c e1 g h.1) ?_
        cases r with
        | nil => exact pe_one (soundE b X W c f g h.2)
        | cons f2 r => exact soundE b X W c _ g h.2
      | .And, _, h => simp [chkE] at h
      | .Or, [], h => simp [chkE] at h
      | .Or, [_], h => simp [chkE] at h
    | _ => simp [chkE] at h
  | not a => cases e with
    | UnaryOp o f p => cases o with
      | Not => exact s_not (soundE a X W c f g h)
      | _ => simp [chkE] at h
    | _ => simp [chkE] at h
  | ite t a b => cases e with
    | IfExp e1 e2 e3 p =>
      simp only [chkE, Bool.and_eq_true] at h
      exact s_ite (soundT t X W c e1 g h.1) (soundE a X W c e2 g h.2.1) (soundE b X W c e3 g h.2.2)
    | _ => simp [chkE] at h
  | tup es => cases e with
    | Tuple fs j p =>
      simp only [chkE, Bool.and_eq_true, decide_eq_true_eq] at h
      exact s_tup h.1 (soundL es X W c fs g h.2).1
    | _ => simp [chkE] at h
  | lst m es => cases e with
    | List fs p =>
      simp only [chkE, Bool.and_eq_true, decide_eq_true_eq] at h
      exact s_lst h.1 (soundL es X W c fs g h.2).1
    | _ => simp [chkE] at h
  | ix a i => exact pe_ix_of g (fun e h => soundE a X W c e g h) (fun e h => soundE i X W c e g h) h
  | sl a lo hi => cases e with
    | Subscript e1 f p => cases f with
      | Slice l1 h1 st q => cases st with
        | none =>
          simp only [chkE, Bool.and_eq_true] at h
          exact s_sl (soundE a X W c e1 g h.1) (soundP lo X W c l1 g h.2.1) (soundP hi X W c h1 g h.2.2)
        | some st => simp [chkE] at h
      | _ => simp [chkE] at h
    | _ => simp [chkE] at h
  | call n es => exact pe_call_of g (fun es' h => soundL es X W c es' g h) h
  | bi b es => exact pe_bi_of g (fun es' h => soundL es X W c es' g h) h
  | isi a t => exact pe_isi_of g (fun e h => soundE a X W c e g h) h
  | comp m kk args tg own cond elt =>
    refine (soundC m kk args tg own cond elt X W c e g ?_ (fun es h => soundL args X W c es g h) (fun X W c es g h => soundO cond X W c es g h) (fun X W c e g h => soundE elt X W c e g h) h).pe g.calm g.ndX
    cases args with
    | nil => exact fun a z => (nomatch z)
    | cons a as =>
      exact fun a' z e h => (List.cons.inj z).1 ▸ soundE a X W c e g ((List.cons.inj z).1.symm ▸ h)
  | lenset a => cases e <;> simp [chkE] at h
termination_by structural l
theorem soundT (l : LE) (X : Cx) (W : WX) (c : SC) (e : Expr) (g : Good X T W c F k) (h : chkE c l e = true) : PT X e (rT X T W (evT (callF F k) l)) := by
  cases l with
  | var i => cases e with
    | Name x p =>
      refine PT.imp (pt_truth (s_var (C := callF F k) g h) (fun _ => rfl)) fun σ H Q q => ?_
      refine rd_mono (rd_bind (rep := RepV X.K) (m := evE (callF F k) (.var i)) (f := fun ρ v S => truV v S) ?_) fun x H1 ⟨ρ, v, S, M, e, s, r, p⟩ => tru_G r s p
      obtain ⟨ρ, S, M, e, s, p⟩ := q
      refine ⟨ρ, S, M, e, s, ?_⟩
      have e0 : (evE (callF F k) (.var i) ρ S).bind (fun v S => truV v S) = evT (callF F k) (.var i) ρ S := by
        simp only [evT, evE]
        split <;> rfl
      show Post X T W σ M H _ ((evE (callF F k) (.var i) ρ S).bind (fun v S => truV v S)) Q
      rw [e0]
      exact p
    | _ => simp [chkE] at h
  | cmp o a b => cases e with
    | Compare e1 ops fs p =>
      match ops, fs, h with
      | [q], [f], h =>
        simp only [chkE, Bool.and_eq_true, decide_eq_true_eq, Bool.not_eq_true'] at h
        obtain ⟨⟨rfl, h0⟩, h1, h2⟩ := h
        exact t_cmp g (soundE a X W c e1 g h1) (soundE b X W c f g h2) (behind_none h0)
      | [], _, h => simp [chkE] at h
      | _ :: _ :: _, _, h => simp [chkE] at h
      | [_], [], h => simp [chkE] at h
      | [_], _ :: _ :: _, h => simp [chkE] at h
    | _ => simp [chkE] at h
  | chain o q a b d => cases e with
    | Compare e1 ops fs p =>
      match ops, fs, h with
      | [q1, q2], [f, f2], h =>
        simp only [chkE, Bool.and_eq_true, decide_eq_true_eq, Bool.not_eq_true'] at h
        obtain ⟨⟨⟨rfl, rfl⟩, h0⟩, h1, h2, h3⟩ := h
        exact t_chain g (soundE a X W c e1 g h1) (soundE b X W c f g h2) (soundE d X W c f2 g h3) (behind_none h0)
      | [], _, h => simp [chkE] at h
      | [_], _, h => simp [chkE] at h
      | _ :: _ :: _ :: _, _, h => simp [chkE] at h
      | [_, _], [], h => simp [chkE] at h
      | [_, _], [_], h => simp [chkE] at h
      | [_, _], _ :: _ :: _ :: _, h => simp [chkE] at h
    | _ => simp [chkE] at h
  | and a b => cases e with
    | BoolOp op es p =>
      match op, es, h with
      | .And, e1 :: f :: r, h =>
        simp only [chkE, Bool.and_eq_true] at h
        refine PW.pt (t_and (soundT a X W c e1 g h.1) ?_)
        cases r with
        | nil => exact pw_and1 (soundT b X W c f g h.2)
        | cons f2 r => exact soundW b X W c .And _ p g h.2
      | .Or, _, h => simp [chkE] at h
      | .And, [], h => simp [chkE] at h
      | .And, [_], h => simp [chkE] at h
    | _ => simp [chkE] at h
  | or a b => cases e with
    | BoolOp op es p =>
      match op, es, h with
      | .Or, e1 :: f :: r, h =>
        simp only [chkE, Bool.and_eq_true] at h
        refine PW.pt (t_or (soundT a X W c e1 g h.1) ?_)
        cases r with
        | nil => exact pw_or1 (soundT b X W c f g h.2)
        | cons f2 r => exact soundW b X W c .Or _ p g h.2
      | .And, _, h => simp [chkE] at h
      | .Or, [], h => simp [chkE] at h
      | .Or, [_], h => simp [chkE] at h
    | _ => simp [chkE] at h
  | not a => cases e with
    | UnaryOp o f p => cases o with
      | Not => exact t_not (soundT a X W c f g h)
      | _ => simp [chkE] at h
    | _ => simp [chkE] at h
  | call n es => cases e with
    | Call f fs ks p =>
      have he := pe_call_of g (fun es' h => soundL es X W c es' g h) h
      refine PT.imp (pt_truth he (fun _ => rfl)) fun σ H Q q => ?_
      refine rd_mono (rd_bind (rep := RepV X.K) (m := evE (callF F k) (.call n es)) (f := fun ρ v S => truV v S) ?_) fun x H1 ⟨ρ, v, S, M, e, s, r, p⟩ => tru_G r s p
      obtain ⟨ρ, S, M, e, s, p⟩ := q
      refine ⟨ρ, S, M, e, s, ?_⟩
      show Post X T W σ M H _ (((evL (callF F k) es ρ S).bind fun vs S => callF F k n vs S).bind truV) Q
      rw [R.bind_assoc]
      exact p
    | _ => simp [chkE] at h
  | bi b es => cases e with
    | Call f fs ks p =>
      have he := pe_bi_of g (fun es' h => soundL es X W c es' g h) h
      refine PT.imp (pt_truth he (fun _ => rfl)) fun σ H Q q => ?_
      refine rd_mono (rd_bind (rep := RepV X.K) (m := evE (callF F k) (.bi b es)) (f := fun ρ v S => truV v S) ?_) fun x H1 ⟨ρ, v, S, M, e, s, r, p⟩ => tru_G r s p
      obtain ⟨ρ, S, M, e, s, p⟩ := q
      refine ⟨ρ, S, M, e, s, ?_⟩
      show Post X T W σ M H _ (((evL (callF F k) es ρ S).bind fun vs S => biV b vs S).bind truV) Q
      rw [R.bind_assoc]
      exact p
    | _ => simp [chkE] at h
  | ix a i => cases e with
    | Subscript e1 f p =>
      have he := pe_ix_of g (fun e h => soundE a X W c e g h) (fun e h => soundE i X W c e g h) h
      refine PT.imp (pt_truth he (fun _ => rfl)) fun σ H Q q => ?_
      refine rd_mono (rd_bind (rep := RepV X.K) (m := evE (callF F k) (.ix a i)) (f := fun ρ v S => truV v S) ?_) fun x H1 ⟨ρ, v, S, M, e, s, r, p⟩ => tru_G r s p
      obtain ⟨ρ, S, M, e, s, p⟩ := q
      refine ⟨ρ, S, M, e, s, ?_⟩
      show Post X T W σ M H _ (((evE (callF F k) a ρ S).bind fun v S => (evE (callF F k) i ρ S).bind fun w S => ixV v w S).bind truV) Q
      rw [R.bind_assoc]
      simp only [R.bind_assoc]
      exact p
    | _ => simp [chkE] at h
  | isi a t => cases e with
    | Call f fs ks p =>
      have he := pe_isi_of g (fun e h => soundE a X W c e g h) h
      refine PT.imp (pt_truth he (fun _ => rfl)) fun σ H Q q => ?_
      refine rd_mono (rd_bind (rep := RepV X.K) (m := evE (callF F k) (.isi a t)) (f := fun ρ v S => truV v S) ?_) fun x H1 ⟨ρ, v, S, M, e, s, r, p⟩ => tru_G r s p
      obtain ⟨ρ, S, M, e, s, p⟩ := q
      refine ⟨ρ, S, M, e, s, ?_⟩
      have e0 : (evE (callF F k) (.isi a t) ρ S).bind truV = (evE (callF F k) a ρ S).bind fun v S => isiV t v S := by
        show (((evE (callF F k) a ρ S).bind fun v S => (isiV t v S).bind bV).bind truV) = _
        rw [R.bind_assoc]
        congr 1
        funext v S
        cases v <;> rfl
      show Post X T W σ M H _ ((evE (callF F k) (.isi a t) ρ S).bind truV) Q
      rw [e0]
      exact p
    | _ => simp [chkE] at h
  | frz i => exact pt_no fun _ _ => rfl
  | lit d => exact pt_no fun _ _ => rfl
  | glo x d => exact pt_no fun _ _ => rfl
  | neg a => exact pt_no fun _ _ => rfl
  | bin o a b => exact pt_no fun _ _ => rfl
  | ite t a b => exact pt_no fun _ _ => rfl
  | tup es => exact pt_no fun _ _ => rfl
  | lst m es => exact pt_no fun _ _ => rfl
  | sl a lo hi => exact pt_no fun _ _ => rfl
  | comp m kk args tg own cond elt => exact pt_no fun _ _ => rfl
  | lenset a => exact pt_no fun _ _ => rfl
termination_by structural l
theorem soundW (l : LE) (X : Cx) (W : WX) (c : SC) (op : PySem.BoolOp) (es : List Expr) (p : Pos) (g : Good X T W c F k) (h : chkE c l (.BoolOp op es p) = true) : PW X (.BoolOp op es p) (rT X T W (evT (callF F k) l)) := by
  cases l with
  | and a b =>
    match op, es, h with
    | .And, e1 :: f :: r, h =>
      simp only [chkE, Bool.and_eq_true] at h
      refine t_and (soundT a X W c e1 g h.1) ?_
      cases r with
      | nil => exact pw_and1 (soundT b X W c f g h.2)
      | cons f2 r => exact soundW b X W c .And _ p g h.2
    | .Or, _, h => simp [chkE] at h
    | .And, [], h => simp [chkE] at h
    | .And, [_], h => simp [chkE] at h
  | or a b =>
    match op, es, h with
    | .Or, e1 :: f :: r, h =>
      simp only [chkE, Bool.and_eq_true] at h
      refine t_or (soundT a X W c e1 g h.1) ?_
      cases r with
      | nil => exact pw_or1 (soundT b X W c f g h.2)
      | cons f2 r => exact soundW b X W c .Or _ p g h.2
    | .And, _, h => simp [chkE] at h
    | .Or, [], h => simp [chkE] at h
    | .Or, [_], h => simp [chkE] at h
  | _ => simp [chkE] at h
termination_by structural l
theorem soundO (o : Option LE) (X : Cx) (W : WX) (c : SC) (es : List Expr) (g : Good X T W c F k) (h : chkIfs c o es = true) : PTs X es (rT X T W (evO (callF F k) o)) := by
  cases o with
  | none => cases es with
    | nil => exact PTs.imp pts_nil fun σ H Q ⟨ρ, S, M, e, s, p⟩ => p _ M H (Ext.refl _ _) s rfl
    | cons _ _ => simp [chkIfs] at h
  | some a =>
    match es, h with
    | [e], h => exact pts_one (soundT a X W c e g h)
    | [], h => simp [chkIfs] at h
    | _ :: _ :: _, h => simp [chkIfs] at h
termination_by structural o
theorem soundL (ls : List LE) (X : Cx) (W : WX) (c : SC) (es : List Expr) (g : Good X T W c F k) (h : chkL c ls es = true) : PA X es (rA X T W (evL (callF F k) ls)) ∧ (∀ e ∈ es, ∀ v p, e ≠ .Starred v p) ∧ ls.length = es.length := by
  cases ls with
  | nil => cases es with
    | nil => exact ⟨s_nil, fun _ z => (nomatch z), rfl⟩
    | cons _ _ => simp [chkL] at h
  | cons a ls => cases es with
    | nil => simp [chkL] at h
    | cons e es =>
      simp only [chkL, Bool.and_eq_true] at h
      obtain ⟨h1, h2, h3⟩ := soundL ls X W c es g h.2
      refine ⟨s_cons (notStar h.1) (soundE a X W c e g h.1) h1, fun e' he => ?_, by simp [h3]⟩
      rcases List.mem_cons.mp he with rfl | he
      · exact notStar h.1
      · exact h2 e' he
termination_by structural ls
theorem soundP (o : Option LE) (X : Cx) (W : WX) (c : SC) (e : Option Expr) (g : Good X T W c F k) (h : chkP c o e = true) : PO X e (rO X T W (evP (callF F k) o)) := by
  cases o with
  | none => cases e with
    | none => exact s_none
    | some _ => simp [chkP] at h
  | some a => cases e with
    | none => simp [chkP] at h
    | some e => exact s_some (soundE a X W c e g h)
termination_by structural o
end
end
end Z

/-! Every statement of the small language is sound. -/
namespace Z
open PySem PySem.Spec PyProof.Rows L2 RZ

def PostF (X : Cx) (T : List (Addr × Str)) (W : WX) (M : MM) (H : Hp) (res : R Fl) (D : Ends) : Prop := match res with
  | .ok (.nx ρ) S' => ∀ σ' M' H', Ext M H M' H' → StoreOk T X.K M' H' S' → EnvOk X.K M' H' ρ σ' → D.nx σ' H'
  | .ok (.bk ρ) S' => ∀ σ' M' H', Ext M H M' H' → StoreOk T X.K M' H' S' → EnvOk X.K M' H' ρ σ' → D.bk σ' H'
  | .ok (.ct ρ) S' => ∀ σ' M' H', Ext M H M' H' → StoreOk T X.K M' H' S' → EnvOk X.K M' H' ρ σ' → D.ct σ' H'
  | .ok (.ret v) S' => ∀ x M' H', Ext M H M' H' → StoreOk T X.K M' H' S' → RepV X.K M' H' v x → D.rt x H'
  | .ex c S' => ∀ σ' M' H' C, Ext M H M' H' → StoreOk T X.K M' H' S' → X.mg c = some (.ref C) → W (.ref C) none σ' H'
  | .no => False
section
variable {X : Cx} {T : List (Addr × Str)} {W : WX} {M M1 : MM} {H H1 : Hp}
theorem PostF.ext (e : Ext M H M1 H1) {res : R Fl} {D : Ends} (h : PostF X T W M H res D) : PostF X T W M1 H1 res D := by
  match res, h with
  | .ok (.nx ρ) S', h => exact fun σ' M' H' e' s r => h σ' M' H' (e.trans e') s r
  | .ok (.bk ρ) S', h => exact fun σ' M' H' e' s r => h σ' M' H' (e.trans e') s r
  | .ok (.ct ρ) S', h => exact fun σ' M' H' e' s r => h σ' M' H' (e.trans e') s r
  | .ok (.ret v) S', h => exact fun x M' H' e' s r => h x M' H' (e.trans e') s r
  | .ex c S', h => exact fun σ' M' H' C e' s r => h σ' M' H' C (e.trans e') s r
  | .no, h => exact h
end
def tS (X : Cx) (T : List (Addr × Str)) (W : WX) (m : Z.Env → Sto → R Fl) : TS := fun D σ H => ∃ ρ S M, EnvOk X.K M H ρ σ ∧ StoreOk T X.K M H S ∧ PostF X T W M H (m ρ S) D
theorem PS.imp {X : Cx} {st : Stmt} {t t' : TS} (h : PS X st t) (i : ∀ D σ H, t' D σ H → t D σ H) : PS X st t' := ⟨fun pins s σ H D I q => h.run pins s σ H D I (i _ _ _ q)⟩
theorem PSs.imp {X : Cx} {st : List Stmt} {t t' : TS} (h : PSs X st t) (i : ∀ D σ H, t' D σ H → t D σ H) : PSs X st t' := ⟨fun pins s σ H D I q => h.run pins s σ H D I (i _ _ _ q)⟩

section
variable {X : Cx} {T : List (Addr × Str)} {W : WX} {c : SC} {F : Tab} {k : Nat}
/-- the first part of a statement is an expression -/
theorem rdF_bind {α β : Type} {rep : MM → Hp → α → β → Prop} {m : Z.Env → Sto → R α} {f : Z.Env → α → Sto → R Fl} {σ : L2.St} {H : Hp} {D : Ends} (h : tS X T W (fun ρ S => (m ρ S).bind (f ρ)) D σ H) :
    rd X T W rep m σ H fun b H1 => ∃ ρ a S M, EnvOk X.K M H1 ρ σ ∧ StoreOk T X.K M H1 S ∧ rep M H1 a b ∧ PostF X T W M H1 (f ρ a S) D := by
  obtain ⟨ρ, S, M, e, s, p⟩ := h
  refine ⟨ρ, S, M, e, s, ?_⟩
  have p : PostF X T W M H ((m ρ S).bind (f ρ)) D := p
  cases hm : m ρ S with
  | ok a S1 =>
    rw [hm] at p
    exact fun b M1 H1 x1 s1 r1 => ⟨ρ, a, S1, M1, e.ext x1, s1, r1, PostF.ext x1 p⟩
  | ex c S1 =>
    rw [hm] at p
    exact fun M' H' C e' s' g => p σ M' H' C e' s' g
  | no => rw [hm] at p; exact p
theorem stepF {α β : Type} {rep : MM → Hp → α → β → Prop} {m : Sto → R α} {f : α → Sto → R Fl} {σ : L2.St} {ρ : Z.Env} {S : Sto} {M : MM} {H : Hp} {D : Ends} (e : EnvOk X.K M H ρ σ) (s : StoreOk T X.K M H S) (p : PostF X T W M H ((m S).bind f) D) :
    Post X T W σ M H rep (m S) fun b H1 => ∃ a S1 M1, EnvOk X.K M1 H1 ρ σ ∧ Ext M H M1 H1 ∧ StoreOk T X.K M1 H1 S1 ∧ rep M1 H1 a b ∧ PostF X T W M1 H1 (f a S1) D := by
  cases hm : m S with
  | ok a S1 =>
    rw [hm] at p
    exact fun b M1 H1 x1 s1 r1 => ⟨a, S1, M1, e.ext x1, x1, s1, r1, PostF.ext x1 p⟩
  | ex c S1 =>
    rw [hm] at p
    exact fun M' H' C e' s' g => p σ M' H' C e' s' g
  | no => rw [hm] at p; exact p

structure GoodS (X : Cx) (T : List (Addr × Str)) (W : WX) (c : SC) (F : Tab) (k : Nat) : Prop extends Good X T W c F k where
  fn : ∀ x, Loc X.env.scope x → X.fn x = true ∨ X.env.scope.names.lookup x = some .local
  pas : PassesOwn (model X.prog X.w) X.A X.env X.xe
/-! ### stores -/
theorem comp_of {l : LE} {e : Expr} (h : chkE c l e = true) (hc : isComp e = true) : ∃ m kk args tg own cond elt, l = .comp m kk args tg own cond elt := by
  cases e with
  | ListComp => cases l <;> first | exact ⟨_, _, _, _, _, _, _, rfl⟩ | (simp [chkE] at h)
  | SetComp => cases l <;> simp [chkE] at h
  | DictComp => cases l <;> simp [chkE] at h
  | _ => simp [isComp] at hc
theorem swaps_not {e : Expr} {t : Option Expr} {n : Nat} {env : PySem.Env} (h : isComp e = false) : swapsWith e t n env = pure false := by
  cases e <;> first | rfl | (simp [isComp] at h)
theorem soundLc (m : Bool) (kk : IK) (args : List LE) (tgt : Tg) (own : List Nat) (cond : Option LE) (elt : LE) (e : Expr) (g : Good X T W c F k) (h : chkE c (.comp m kk args tgt own cond elt) e = true) : LcP X e (rE X T W (evE (callF F k) (.comp m kk args tgt own cond elt))) :=
  soundC m kk args tgt own cond elt X W c e g (fun a _ e h => soundE a X W c e g h) (fun es h => soundL args X W c es g h) (fun X W c es g h => soundO cond X W c es g h) (fun X W c e g h => soundE elt X W c e g h) h
theorem st_asg (g : GoodS X T W c F k) {i : Nat} {l : LE} {x : Str} {f : Expr} {p q : Pos} (h : okSet c i x = true) (he : chkE c l f = true) : PS X (.Assign [.Name x p] f q) (tS X T W (exS (callF F k) (.asg i l))) := by
  obtain ⟨h1, h2⟩ := g.toGood.set h
  have fin : ∀ D σ H, tS X T W (exS (callF F k) (.asg i l)) D σ H → rE X T W (evE (callF F k) l) σ H fun y H1 => gName i y σ H1 D.nx := fun D σ H hq => by
    refine rd_mono (rdF_bind (rep := RepV X.K) (m := evE (callF F k) l) (f := fun ρ v S => .ok (.nx (ρ.set i (some v))) S) hq) fun y H1 ⟨ρ, v, S, M, e, s, r, p⟩ => ?_
    exact p _ M H1 (Ext.refl _ _) s (e.set r i)
  cases hc : isComp f with
  | false => exact PS.imp (ps_set g.ndX h1 h2 (soundE l X W c f g.toGood he) (swaps_not hc) (g.fn x h2)) fin
  | true =>
    obtain ⟨m, kk, args, tg, own, cond, elt, rfl⟩ := comp_of he hc
    have lc := soundLc m kk args tg own cond elt f g.toGood he
    have lcE := lc.pe g.calm g.ndX
    obtain ⟨elt', tg', iter, ifs, scope, own', pos, wi, gg, tt, te, rfl, k1, k2, k3, k4, k5, k6, k7⟩ := lc
    cases hs : (X.env.blockKind == .function && X.env.kindOf x == some .local && p.line == (Expr.ListComp elt' [⟨tg', iter, ifs, 0⟩] scope pos).pos.line && !(scope.names.any fun (n, k) => n == x && (k == .local || k == .cell))) with
    | true =>
      have hl : X.env.scope.names.lookup x = some .local := by
        simp only [Bool.and_eq_true] at hs
        exact eq_of_beq hs.1.1.2
      refine PS.imp (ps_setLc g.calm g.ndX h1 hl (by show (pure _ : Sem Bool) = _; rw [hs]) k1 k2 k3 k4 k5 k6) fun D σ H q => ?_
      exact k7 _ _ _ (fin D σ H q)
    | false =>
      exact PS.imp (ps_set g.ndX h1 h2 lcE (by show (pure _ : Sem Bool) = _; rw [hs]) (g.fn x h2)) fin
theorem st_exp {l : LE} {f : Expr} {p : Pos} (hc : isComp f = false) (he : PE X f (rE X T W (evE (callF F k) l))) : PS X (.Expr f p) (tS X T W (exS (callF F k) (.exp l))) := by
  refine PS.imp (ps_expr he (swaps_not hc)) fun D σ H q => ?_
  exact rd_mono (rdF_bind (rep := RepV X.K) (m := evE (callF F k) l) (f := fun ρ v S => .ok (.nx ρ) S) q) fun y H1 ⟨ρ, v, S, M, e, s, r, p⟩ => p σ M H1 (Ext.refl _ _) s e
theorem st_ret {l : LE} {f : Expr} {p : Pos} (he : PE X f (rE X T W (evE (callF F k) l))) : PS X (.Return (some f) p) (tS X T W (exS (callF F k) (.ret l))) := by
  refine PS.imp (ps_ret he) fun D σ H q => ?_
  exact rd_mono (rdF_bind (rep := RepV X.K) (m := evE (callF F k) l) (f := fun ρ v S => .ok (.ret v) S) q) fun y H1 ⟨ρ, v, S, M, e, s, r, p⟩ => p y M H1 (Ext.refl _ _) s r
theorem st_if {l : LE} {a b : List LS} {e : Expr} {sa sb : List Stmt} {p : Pos} (hc : PT X e (rT X T W (evT (callF F k) l))) (ha : PSs X sa (tS X T W (exB (callF F k) a))) (hb : PSs X sb (tS X T W (exB (callF F k) b))) : PS X (.If e sa sb p) (tS X T W (exS (callF F k) (.ite l a b))) := by
  refine PS.imp (ps_if hc ha hb) fun D σ H q => ?_
  refine rd_mono (rdF_bind (rep := fun _ _ a b => a = b) (m := evT (callF F k) l) (f := fun ρ x S => if x then exB (callF F k) a ρ S else exB (callF F k) b ρ S) q) fun y H1 ⟨ρ, v, S, M, e, s, r, p⟩ => ?_
  subst r
  cases v with
  | true => rw [if_pos rfl] at p ⊢; exact ⟨ρ, S, M, e, s, p⟩
  | false => rw [if_neg Bool.false_ne_true] at p ⊢; exact ⟨ρ, S, M, e, s, p⟩
theorem st_brk {p : Pos} : PS X (.Break p) (tS X T W (exS (callF F k) .brk)) := PS.imp ps_break fun D σ H ⟨ρ, S, M, e, s, q⟩ => q σ M H (Ext.refl _ _) s e
theorem st_cont {p : Pos} : PS X (.Continue p) (tS X T W (exS (callF F k) .cont)) := PS.imp ps_continue fun D σ H ⟨ρ, S, M, e, s, q⟩ => q σ M H (Ext.refl _ _) s e
theorem st_pass {p : Pos} : PS X (.Pass p) (tS X T W (exS (callF F k) .pass)) := PS.imp ps_pass fun D σ H ⟨ρ, S, M, e, s, q⟩ => q σ M H (Ext.refl _ _) s e
theorem st_doc {x : Str} {j : Nat} {p q : Pos} : PS X (.Expr (.Constant (.str x) j p) q) (tS X T W (exS (callF F k) .pass)) := PS.imp ps_doc fun D σ H ⟨ρ, S, M, e, s, q⟩ => q σ M H (Ext.refl _ _) s e
theorem st_nil : PSs X [] (tS X T W (exB (callF F k) [])) := PSs.imp pss_nil fun D σ H ⟨ρ, S, M, e, s, q⟩ => q σ M H (Ext.refl _ _) s e
theorem st_cons {a : LS} {as : List LS} {s : Stmt} {ss : List Stmt} (h1 : PS X s (tS X T W (exS (callF F k) a))) (h2 : PSs X ss (tS X T W (exB (callF F k) as))) : PSs X (s :: ss) (tS X T W (exB (callF F k) (a :: as))) := by
  refine PSs.imp (pss_cons h1 h2) fun D σ H ⟨ρ, S, M, e, s, p⟩ => ⟨ρ, S, M, e, s, ?_⟩
  have p : PostF X T W M H ((exS (callF F k) a ρ S).bind fun fl S => match fl with
    | .nx ρ => exB (callF F k) as ρ S
    | fl => .ok fl S) D := p
  match hm : exS (callF F k) a ρ S, p with
  | .ok (.nx ρ') S', p => exact fun σ' M' H' x' s' e' => ⟨ρ', S', M', e', s', PostF.ext x' p⟩
  | .ok (.bk ρ') S', p => exact p
  | .ok (.ct ρ') S', p => exact p
  | .ok (.ret v) S', p => exact p
  | .ex c S', p => exact p
  | .no, p => exact p
theorem st_aug (g : GoodS X T W c F k) {i : Nat} {o : Op2} {l : LE} {x : Str} {f : Expr} {p q : Pos} (h : okSet c i x = true) (he : PE X f (rE X T W (evE (callF F k) l))) : PS X (.AugAssign (.Name x p) (opOf o) f q) (tS X T W (exS (callF F k) (.aug i o l))) := by
  obtain ⟨h1, h2⟩ := g.toGood.set h
  have key : ∀ (ti : TIp), PIp X (opOf o) ti → (∀ (D : Ends) (σ : L2.St) (H : Hp) (v w : Val) (y z : V) (S : Sto) (M : MM) (ρ : Z.Env), EnvOk X.K M H ρ σ → StoreOk T X.K M H S → RepV X.K M H v y → RepV X.K M H w z → PostF X T W M H ((augV o v w S).bind fun u S => .ok (.nx (ρ.set i (some u))) S) D → ti y z H fun u H2 => D.nx (σ.set i (some u)) H2) → PS X (.AugAssign (.Name x p) (opOf o) f q) (tS X T W (exS (callF F k) (.aug i o l))) := fun ti h3 h4 => by
    refine PS.imp (ps_aug g.ndX h1 h2 he h3 (g.fn x h2)) fun D σ H ⟨ρ, S, M, e, s, p⟩ => ?_
    simp only [exS] at p
    split at p
    · rename_i v hv
      obtain ⟨y, e1, e2⟩ := e.at_ i v hv
      refine ⟨y, e1, ρ, S, M, e, s, ?_⟩
      refine Post.mono (stepF (rep := RepV X.K) e s p) fun z H1 ⟨w, S1, M1, e3, x3, s3, r3, p3⟩ => ?_
      exact h4 D σ H1 v w y z S1 M1 ρ e3 s3 (e2.ext x3) r3 p3
    · exact p.elim
  cases o with
  | add =>
    refine key _ ip_add fun D σ H v w y z S M ρ e s r1 r2 p => ?_
    match v, w, p, r1, r2 with
    | .d (.int a), .d (.int b), p, r1, r2 => exact ⟨a, b, r1, r2, p _ M H (Ext.refl _ _) s (e.set (v := .d (.int (a + b))) rfl i)⟩
    | .d .none, _, p, _, _ | .d (.bool _), _, p, _, _ | .d (.str _), _, p, _, _ | .d (.list _), _, p, _, _ | .d (.tuple _), _, p, _, _ | .d (.dict _), _, p, _, _ | .r _, _, p, _, _ | .s _, _, p, _, _ => exact (show False from p).elim
    | .d (.int _), .d .none, p, _, _ | .d (.int _), .d (.bool _), p, _, _ | .d (.int _), .d (.str _), p, _, _ | .d (.int _), .d (.list _), p, _, _ | .d (.int _), .d (.tuple _), p, _, _ | .d (.int _), .d (.dict _), p, _, _ | .d (.int _), .r _, p, _, _ | .d (.int _), .s _, p, _, _ => exact (show False from p).elim
  | sub =>
    refine key _ ip_sub fun D σ H v w y z S M ρ e s r1 r2 p => ?_
    match v, w, p, r1, r2 with
    | .d (.int a), .d (.int b), p, r1, r2 => exact ⟨a, b, r1, r2, p _ M H (Ext.refl _ _) s (e.set (v := .d (.int (a - b))) rfl i)⟩
    | .d .none, _, p, _, _ | .d (.bool _), _, p, _, _ | .d (.str _), _, p, _, _ | .d (.list _), _, p, _, _ | .d (.tuple _), _, p, _, _ | .d (.dict _), _, p, _, _ | .r _, _, p, _, _ | .s _, _, p, _, _ => exact (show False from p).elim
    | .d (.int _), .d .none, p, _, _ | .d (.int _), .d (.bool _), p, _, _ | .d (.int _), .d (.str _), p, _, _ | .d (.int _), .d (.list _), p, _, _ | .d (.int _), .d (.tuple _), p, _, _ | .d (.int _), .d (.dict _), p, _, _ | .d (.int _), .r _, p, _, _ | .d (.int _), .s _, p, _, _ => exact (show False from p).elim
  | mul => exact key (fun _ _ _ _ => False) (fun _ _ _ _ _ _ _ _ _ _ _ _ z => z.elim) fun D σ H v w y z S M ρ e s r1 r2 p => (show False from p)
  | fdiv => exact key (fun _ _ _ _ => False) (fun _ _ _ _ _ _ _ _ _ _ _ _ z => z.elim) fun D σ H v w y z S M ρ e s r1 r2 p => (show False from p)
  | mod => exact key (fun _ _ _ _ => False) (fun _ _ _ _ _ _ _ _ _ _ _ _ z => z.elim) fun D σ H v w y z S M ρ e s r1 r2 p => (show False from p)
  | pow => exact key (fun _ _ _ _ => False) (fun _ _ _ _ _ _ _ _ _ _ _ _ z => z.elim) fun D σ H v w y z S M ρ e s r1 r2 p => (show False from p)
theorem st_setix (g : GoodS X T W c F k) {o i l : LE} {fo fi f : Expr} {p q : Pos} (hc : isComp f = false) (hs : slicy fi = false) (ho : PE X fo (rE X T W (evE (callF F k) o))) (hi : PE X fi (rE X T W (evE (callF F k) i))) (he : PE X f (rE X T W (evE (callF F k) l))) : PS X (.Assign [.Subscript fo fi p] f q) (tS X T W (exS (callF F k) (.setix o i l))) := by
  have ha : ∀ v, assign (.Subscript fo fi p) X.env v = (do
      let ov ← holding [v] (eval fo X.env)
      let iv ← holding [v, ov] (eval fi X.env)
      standAt p
      holding [v, ov, iv] (setItem ov iv v)
      release [v, ov, iv] []) := by
    intro v
    cases fi <;> first | rfl | (simp [slicy] at hs)
  refine PS.imp (ps_asg he (pg_sub ho hi set_list ha) (show swapsWith f (some (.Subscript fo fi p)) q.line X.env = pure false from swaps_not hc) (by cases f <;> rfl) rfl) fun D σ H hq => ?_
  refine rd_mono (rdF_bind (rep := RepV X.K) (m := evE (callF F k) l) (f := fun ρ w S => (evE (callF F k) o ρ S).bind fun v S => (evE (callF F k) i ρ S).bind fun kx S => (setV v kx w S).bind fun _ S => .ok (.nx ρ) S) hq) fun y H1 ⟨ρ, w, S, M, e, s, r, p⟩ => ?_
  refine ⟨ρ, S, M, e, s, Post.mono (stepF (rep := RepV X.K) e s p) fun z H2 ⟨v, S2, M2, e2, x2, s2, r2, p2⟩ => ?_⟩
  refine ⟨ρ, S2, M2, e2, s2, Post.mono (stepF (rep := RepV X.K) e2 s2 p2) fun u H3 ⟨kx, S3, M3, e3, x3, s3, r3, p3⟩ => ?_⟩
  unfold setV at p3
  match v, kx, w, r2, r3, r, p3 with
  | .r n, .d (.int j), .d d, r2, r3, r, p3 =>
    dsimp only at p3
    cases hn : S3[n]? with
    | none => rw [hn] at p3; exact (show False from p3).elim
    | some en =>
      rw [hn] at p3
      cases en with
      | gone => exact (show False from p3).elim
      | lst xs =>
        dsimp only at p3
        cases hq : ixN xs.length j with
        | none => rw [hq] at p3; exact (show False from p3).elim
        | some qx =>
          rw [hq] at p3
          obtain ⟨a, ha, hm⟩ := RepV.ext x3 r2
          obtain ⟨b, vs, h1, h2, h3⟩ := s3.ent n xs hn
          have hm : M3.m[n]? = some (some a) := by
            rcases hm with hm | hm
            · rw [h1] at hm; cases hm
            · exact hm
          rw [h1] at hm
          cases hm
          refine ⟨a, vs, j, qx, ha, r3, h2, by rw [← h3.length]; exact hq, ?_⟩
          have rw' : Rep X.K M3 H3 d y := RepV.ext (x2.trans x3) r
          exact p3 _ M3 _ (ext_write s3 h1 h2) (s3.write h1 h2 (h3.set rw' qx)) (e3.ext (ext_write s3 h1 h2))
  | .d _, _, _, _, _, _, p3 => exact (show False from p3).elim
  | .s _, _, _, _, _, _, p3 => exact (show False from p3).elim
  | .r _, .r _, _, _, _, _, p3 => exact (show False from p3).elim
  | .r _, .s _, _, _, _, _, p3 => exact (show False from p3).elim
  | .r _, .d .none, _, _, _, _, p3 | .r _, .d (.bool _), _, _, _, _, p3 | .r _, .d (.str _), _, _, _, _, p3 | .r _, .d (.list _), _, _, _, _, p3 | .r _, .d (.tuple _), _, _, _, _, p3 | .r _, .d (.dict _), _, _, _, _, p3 => exact (show False from p3).elim
  | .r _, .d (.int _), .r _, _, _, _, p3 => exact (show False from p3).elim
  | .r _, .d (.int _), .s _, _, _, _, p3 => exact (show False from p3).elim
theorem st_app (g : GoodS X T W c F k) {o : Nat} {l : LE} {x : Str} {f : Expr} {p1 p2 p3 p4 : Pos} (hx : okVar c o x = true) (hl : (p2.endLine == p3.line) = true) (hst : ∀ v p, f ≠ .Starred v p) (he : PE X f (rE X T W (evE (callF F k) l))) : PS X (.Expr (.Call (.Attribute (.Name x p1) "append" p2) [f] [] p3) p4) (tS X T W (exS (callF F k) (.app (.var o) l))) := by
  have hv := s_var (T := T) (W := W) (C := callF F k) (p := p1) g.toGood hx
  have hst' := star_of hst [] X.env
  have pe := pe_bm PySem.F.plainAttrs_list PySem.F.slot_list_append PySem.F.type_list_append (show MtR X "list.append" rAppend from mt_append) hv (pa_cons he pa_nil hst') rfl (cpos := p3) (apos := p2) (by rw [hst']; rfl) hl hst' rfl
  refine PS.imp (ps_expr pe rfl) fun D σ H hq => ?_
  refine rd_mono (rdF_bind (rep := RepV X.K) (m := evE (callF F k) (.var o)) (f := fun ρ v S => (needL v S).bind fun _ S => (evE (callF F k) l ρ S).bind fun w S => (appV v w S).bind fun _ S => .ok (.nx ρ) S) hq) fun y H1 ⟨ρ, v, S, M, e, s, r, p⟩ => ?_
  unfold needL at p
  split at p
  · rename_i _ n
    split at p
    · rename_i _ xs hn
      obtain ⟨a, vs, h1, h2, h3⟩ := s.ent n xs hn
      obtain ⟨b, hy, hm⟩ := id r
      have hab : b = a := by
        rcases hm with hm | hm
        · rw [h1] at hm; cases hm
        · rw [h1] at hm; cases hm; rfl
      subst hab
      subst hy
      refine ⟨.inl ⟨rfl, vs, SqL.of h2⟩, ρ, S, M, e, s, ?_⟩
      refine Post.mono (stepF (rep := RepV X.K) e s p) fun z H2 ⟨w, S2, M2, e2, x2, s2, r2, p2⟩ => ?_
      unfold appV at p2
      split at p2
      · rename_i _ _ n2 d hv'
        cases hv'
        split at p2
        · rename_i _ ys hn2
          split at p2
          · rename_i hlt
            obtain ⟨a2, vs2, k1, k2, k3⟩ := s2.ent n ys hn2
            obtain ⟨b2, hy2, hm2⟩ := RepV.ext x2 r
            cases hy2
            have hab2 : b = a2 := by
              rcases hm2 with hm2 | hm2
              · rw [k1] at hm2; cases hm2
              · rw [k1] at hm2; cases hm2; rfl
            subst hab2
            refine ⟨b, vs2, z, rfl, rfl, k2, by rw [← k3.length]; exact Nat.lt_of_lt_of_le hlt lim_line, ?_⟩
            exact p2 _ M2 _ (ext_write s2 k1 k2) (s2.write k1 k2 (k3.append ⟨z, [], rfl, r2, rfl⟩)) (e2.ext (ext_write s2 k1 k2))
          · exact (show False from p2).elim
        · exact (show False from p2).elim
      · exact (show False from p2).elim
    · exact (show False from p).elim
  · exact (show False from p).elim
/-! ### several names at once -/
def gGv (X : Cx) (is : List Nat) : TGs := fun vs σ H Q => ∃ ds ρ M ρ', RepVs X.K M H ds vs ∧ EnvOk X.K M H ρ σ ∧ setVals ρ is ds = some ρ' ∧ ∀ σ', EnvOk X.K M H ρ' σ' → Q σ' H
theorem tgv_many (g : GoodS X T W c F k) : ∀ {is : List Nat} {ts : List Expr}, chkTgs c.N c.sc is ts = true → PGs X ts (gGv X is)
  | [], [], _ => PGs.imp pgs_nil fun vs σ H Q ⟨ds, ρ, M, ρ', r, e, h, q⟩ => by
    cases ds with
    | nil =>
      cases h
      exact ⟨r, q σ e⟩
    | cons _ _ => cases h
  | [], _ :: _, h => by simp [chkTgs] at h
  | _ :: _, [], h => by simp [chkTgs] at h
  | i :: is, t :: ts, h => by
    simp only [chkTgs, Bool.and_eq_true] at h
    obtain ⟨x, q, rfl, h1, h2⟩ := chkTg1_name h.1
    have ih := tgv_many g h.2
    have hl : Loc X.env.scope x := by rw [g.sc]; exact h2
    refine PGs.imp (pgs_cons (pg_name (pos := q) g.ndX (by rw [g.N]; exact h1) hl (g.fn x hl)) ih rfl) fun vs σ H Q ⟨ds, ρ, M, ρ', r, e, hs, q⟩ => ?_
    cases ds with
    | nil => cases hs
    | cons d ds =>
      obtain ⟨v, r', rfl, r1, r2⟩ := r
      exact ⟨v, r', rfl, ds, ρ.set i (some d), M, ρ', r2, e.set r1 i, hs, q⟩
theorem setVals_len : ∀ {is : List Nat} {ds : List Val} {ρ ρ' : Z.Env}, setVals ρ is ds = some ρ' → ds.length = is.length
  | [], [], _, _, _ => rfl
  | [], _ :: _, _, _, h => by cases h
  | _ :: _, [], _, _, h => by cases h
  | i :: is, d :: ds, ρ, ρ', h => by
    have : setVals (ρ.set i (some d)) is ds = some ρ' := h
    simp [setVals_len this]
theorem asgn_names (g : GoodS X T W c F k) {is : List Nat} {ts : List Expr} (h : chkTgs c.N c.sc is ts = true) : (assignEach ts X.env).length = ts.length ∧ (assignEach ts X.env).findIdx? (·.1) = none ∧ ts.length = is.length :=
  (tg_many g.ndX g.N (fun x hx => by
    have hl : Loc X.env.scope x := by rw [g.sc]; exact hx
    exact ⟨hl, g.fn x hl⟩) h).2
theorem names_loc {sc : Scope} {n : Nat} : ∀ {ts : List Expr} {ns : List Str}, namesAll sc n ts = some ns → (∀ t ∈ ts, ∃ x p, t = .Name x p ∧ sc.names.lookup x = some .local ∧ (p.line == n) = true) ∧ ns.length = ts.length
  | [], ns, h => by cases h; exact ⟨fun _ z => (nomatch z), rfl⟩
  | t :: ts, ns, h => by
    cases t with
    | Name x p =>
      simp only [namesAll] at h
      split at h
      · rename_i hc
        simp only [Bool.and_eq_true, decide_eq_true_eq] at hc
        simp only [Option.map_eq_some_iff] at h
        obtain ⟨ms, h1, h2⟩ := h
        subst h2
        obtain ⟨q1, q2⟩ := names_loc h1
        exact ⟨fun t ht => (List.mem_cons.mp ht).elim (fun e => ⟨x, p, e, hc.1, hc.2⟩) (q1 t), by simp [q2]⟩
      · cases h
    | _ => simp [namesAll] at h
theorem st_asgT2 (g : GoodS X T W c F k) {i j : Nat} {es : List LE} {x y : Str} {a b : Expr} {p1 p2 p3 p4 p5 : Pos} {k1 k2 : Nat} (hi : c.N[i]? = some x) (hj : c.N[j]? = some y) (hx : c.sc.names.lookup x = some .local) (hy : c.sc.names.lookup y = some .local) (hne : x ≠ y) (hln : (p2.line == p1.line) = true) (hf : [a, b].all (foldedForSure 8) = false) (hk : [a, b].all (constantsAlone 8) = false) (he : PA X [a, b] (rA X T W (evL (callF F k) es))) (hst : ∀ e ∈ [a, b], ∀ v p, e ≠ Expr.Starred v p) : PS X (.Assign [.Tuple [.Name x p1, .Name y p2] k1 p3] (.Tuple [a, b] k2 p4) p5) (tS X T W (exS (callF F k) (.asgT [i, j] es))) := by
  have hij : i ≠ j := fun e => by
    subst e
    rw [hi] at hj
    exact hne (Option.some.inj hj)
  refine ⟨fun pins s σ H D I q => ?_⟩
  have hkind : X.env.scope.kind = .function := I.ok.kind
  have hw : swappedStores [.Tuple [.Name x p1, .Name y p2] k1 p3] (.Tuple [a, b] k2 p4) X.env = pure (some [x, y]) := by
    have hb : X.env.blockKind = .function := by unfold PySem.Env.blockKind; rw [hkind]; rfl
    have kx : X.env.kindOf x = some .local := by show X.env.scope.names.lookup x = _; rw [g.sc]; exact hx
    have ky : X.env.kindOf y = some .local := by show X.env.scope.names.lookup y = _; rw [g.sc]; exact hy
    have sx : ∀ e ∈ [a, b], (match e with | .Starred .. => true | _ => false) = false := fun e he => by
      have := hst e he
      cases e <;> first | rfl | exact absurd rfl (this _ _)
    have sa := sx a (by simp)
    have sb := sx b (by simp)
    have hxy : (x == y) = false := by simpa using hne
    have hyx : (y == x) = false := by simpa using (Ne.symm hne)
    have hp2 : p2.line = p1.line := by simpa using hln
    unfold swappedStores
    simp only [hb, kx, ky, hf, hk, hp2, Expr.pos, List.filterMap, List.length_cons, List.length_nil, List.any_cons, List.any_nil, sa, sb]
    simp [List.eraseDups_cons, hxy, hyx, hne, Ne.symm hne, Expr.pos]
    intro h
    exfalso
    rcases h with h | h
    · have := hst a (by simp)
      revert h
      cases a <;> first | exact absurd rfl (this _ _) | exact fun h => absurd h Bool.false_ne_true
    · have := hst b (by simp)
      revert h
      cases b <;> first | exact absurd rfl (this _ _) | exact fun h => absurd h Bool.false_ne_true
  refine (PS.imp (ps_par (i := i) (j := j) g.calm g.ndX (by rw [g.N]; exact hi) (by rw [g.N]; exact hj) hij (by rw [g.sc]; exact hx) (by rw [g.sc]; exact hy) he hw rfl) fun D σ H hq => ?_).run pins s σ H D I q
  refine rd_mono (rdF_bind (rep := RepVs X.K) (m := evL (callF F k) es) (f := fun ρ vs S => nxO (setVals ρ [i, j] vs) S) hq) fun ys H1 ⟨ρ, vs, S, M, e, s, r, p⟩ => ?_
  match vs, p, r with
  | [v, w], p, r =>
    obtain ⟨u1, r', rfl, r1, u2, r'', rfl, r2, r3⟩ := r
    have r3 : r'' = [] := r3
    subst r3
    exact ⟨u1, u2, rfl, p _ M H1 (Ext.refl _ _) s ((e.set r1 i).set r2 j)⟩
  | [], p, _ => exact (show False from p).elim
  | [_], p, _ => exact (show False from p).elim
  | _ :: _ :: _ :: _, p, _ => exact (show False from p).elim
theorem st_asgT3 (g : GoodS X T W c F k) {i j l : Nat} {es : List LE} {x y z : Str} {a b d : Expr} {p1 p2 p6 p3 p4 p5 : Pos} {k1 k2 : Nat} (hi : c.N[i]? = some x) (hj : c.N[j]? = some y) (hl : c.N[l]? = some z) (hx : c.sc.names.lookup x = some .local) (hy : c.sc.names.lookup y = some .local) (hz : c.sc.names.lookup z = some .local) (hne : x ≠ y) (hne2 : x ≠ z) (hne3 : y ≠ z) (hln : (p2.line == p1.line) = true) (hln2 : (p6.line == p1.line) = true) (hf : [a, b, d].all (foldedForSure 8) = false) (hk : [a, b, d].all (constantsAlone 8) = false) (he : PA X [a, b, d] (rA X T W (evL (callF F k) es))) (hst : ∀ e ∈ [a, b, d], ∀ v p, e ≠ Expr.Starred v p) : PS X (.Assign [.Tuple [.Name x p1, .Name y p2, .Name z p6] k1 p3] (.Tuple [a, b, d] k2 p4) p5) (tS X T W (exS (callF F k) (.asgT [i, j, l] es))) := by
  have ne_of : ∀ {i j : Nat} {x y : Str}, c.N[i]? = some x → c.N[j]? = some y → x ≠ y → i ≠ j := fun h1 h2 hn e => by
    subst e
    rw [h1] at h2
    exact hn (Option.some.inj h2)
  refine ⟨fun pins s σ H D I q => ?_⟩
  have hkind : X.env.scope.kind = .function := I.ok.kind
  have hw : swappedStores [.Tuple [.Name x p1, .Name y p2, .Name z p6] k1 p3] (.Tuple [a, b, d] k2 p4) X.env = pure (some [x, y, z]) := by
    have hb : X.env.blockKind = .function := by unfold PySem.Env.blockKind; rw [hkind]; rfl
    have kx : X.env.kindOf x = some .local := by show X.env.scope.names.lookup x = _; rw [g.sc]; exact hx
    have ky : X.env.kindOf y = some .local := by show X.env.scope.names.lookup y = _; rw [g.sc]; exact hy
    have kz : X.env.kindOf z = some .local := by show X.env.scope.names.lookup z = _; rw [g.sc]; exact hz
    have hxy : (x == y) = false := by simpa using hne
    have hyx : (y == x) = false := by simpa using (Ne.symm hne)
    have hxz : (x == z) = false := by simpa using hne2
    have hzx : (z == x) = false := by simpa using (Ne.symm hne2)
    have hyz : (y == z) = false := by simpa using hne3
    have hzy : (z == y) = false := by simpa using (Ne.symm hne3)
    have hp2 : p2.line = p1.line := by simpa using hln
    have hp6 : p6.line = p1.line := by simpa using hln2
    unfold swappedStores
    simp only [hb, kx, ky, kz, hf, hk, hp2, hp6, Expr.pos, List.filterMap, List.length_cons, List.length_nil, List.any_cons, List.any_nil]
    simp [List.eraseDups_cons, hxy, hyx, hxz, hzx, hyz, hzy, hne, Ne.symm hne, hne2, Ne.symm hne2, hne3, Ne.symm hne3, Expr.pos]
    intro h
    exfalso
    rcases h with h | h | h
    · have := hst a (by simp)
      revert h
      cases a <;> first | exact absurd rfl (this _ _) | exact fun h => absurd h Bool.false_ne_true
    · have := hst b (by simp)
      revert h
      cases b <;> first | exact absurd rfl (this _ _) | exact fun h => absurd h Bool.false_ne_true
    · have := hst d (by simp)
      revert h
      cases d <;> first | exact absurd rfl (this _ _) | exact fun h => absurd h Bool.false_ne_true
  refine (PS.imp (ps_par3 (i := i) (j := j) (l := l) g.calm g.ndX (by rw [g.N]; exact hi) (by rw [g.N]; exact hj) (by rw [g.N]; exact hl) (ne_of hi hj hne) (ne_of hi hl hne2) (ne_of hj hl hne3) (by rw [g.sc]; exact hx) (by rw [g.sc]; exact hy) (by rw [g.sc]; exact hz) he hw rfl) fun D σ H hq => ?_).run pins s σ H D I q
  refine rd_mono (rdF_bind (rep := RepVs X.K) (m := evL (callF F k) es) (f := fun ρ vs S => nxO (setVals ρ [i, j, l] vs) S) hq) fun ys H1 ⟨ρ, vs, S, M, e, s, r, p⟩ => ?_
  match vs, p, r with
  | [v, w, v3], p, r =>
    obtain ⟨u1, r', rfl, r1, u2, r'', rfl, r2, u3, r4, rfl, r5, r6⟩ := r
    have r6 : r4 = [] := r6
    subst r6
    exact ⟨u1, u2, u3, rfl, p _ M H1 (Ext.refl _ _) s (((e.set r1 i).set r2 j).set r5 l)⟩
  | [], p, _ => exact (show False from p).elim
  | [_], p, _ => exact (show False from p).elim
  | [_, _], p, _ => exact (show False from p).elim
  | _ :: _ :: _ :: _ :: _, p, _ => exact (show False from p).elim
theorem fm_len {α β : Type} {f : α → Option β} : ∀ {ts : List α}, (ts.filterMap f).length = ts.length → ∀ t ∈ ts, (f t).isSome = true
  | [], _ => fun _ z => nomatch z
  | t :: ts, h => by
    have hle : ∀ l : List α, (l.filterMap f).length ≤ l.length := fun l => List.length_filterMap_le f l
    cases hf : f t with
    | none =>
      rw [List.filterMap_cons_none hf] at h
      have := hle ts
      simp at h
      omega
    | some y =>
      rw [List.filterMap_cons_some hf] at h
      intro u hu
      rcases List.mem_cons.mp hu with rfl | hu
      · rw [hf]; rfl
      · exact fm_len (by simpa using h) u hu
theorem noswap {sc : Scope} {ts fs : List Expr} {k1 k2 : Nat} {p1 p2 : Pos} {env : PySem.Env} (hs : env.scope = sc) (h : noSwapT sc ts fs = true) : swappedStores [.Tuple ts k1 p1] (.Tuple fs k2 p2) env = pure none := by
  unfold swappedStores
  dsimp only
  split
  · rfl
  · rename_i hc
    split
    · rfl
    · split
      · rfl
      · rename_i hn
        split
        · rfl
        · rename_i hf
          exfalso
          unfold noSwapT at h
          simp only [Bool.or_eq_true, Bool.not_eq_true'] at h
          rcases h with (h | h) | h
          · simp [h] at hc
          · have hn' : (List.filterMap (fun x => match x with
              | .Name id pos => if (env.kindOf id == some .local && pos.line == (Option.map (fun x => x.pos.line) ts.head?).getD 0) = true then some id else none
              | _ => none) ts).length = ts.length := by
              simp only [Bool.or_eq_true, not_or, bne_iff_ne, ne_eq, Decidable.not_not] at hn
              exact hn.1
            have hall := fm_len hn'
            have : ts.all (nameLoc sc) = true := by
              rw [List.all_eq_true]
              intro t ht
              have := hall t ht
              cases t with
              | Name x p =>
                dsimp only at this
                split at this
                · rename_i hq
                  simp only [Bool.and_eq_true] at hq
                  have h1 : env.scope.names.lookup x = some .local := eq_of_beq hq.1
                  rw [hs] at h1
                  unfold nameLoc
                  simp [h1]
                · cases this
              | _ => cases this
            rw [this] at h
            cases h
          · exact hf h
/-- (a, b, ..) = (x, y, ..), not swapped -/
theorem st_asgTn (g : GoodS X T W c F k) {is : List Nat} {es : List LE} {ts fs : List Expr} {p1 p2 p3 : Pos} {k1 k2 : Nat} (h : chkTgs c.N c.sc is ts = true) (hl : es.length ≤ 1000) (hs : noSwapT c.sc ts fs = true) (he : PA X fs (rA X T W (evL (callF F k) es))) : PS X (.Assign [.Tuple ts k1 p1] (.Tuple fs k2 p2) p3) (tS X T W (exS (callF F k) (.asgT is es))) := by
  obtain ⟨n1, n2, n3⟩ := asgn_names g h
  refine PS.imp (ps_asg (pe_tup he) (pg_tup (n := ts.length) g.calm (tgv_many g h) n1 n2) rfl (noswap g.sc hs) rfl) fun D σ H hq => ?_
  have q2 : rd X T W (RepVs X.K) (evL (callF F k) es) σ H fun ys H1 => ∃ ρ vs S M, EnvOk X.K M H1 ρ σ ∧ StoreOk T X.K M H1 S ∧ (RepVs X.K M H1 vs ys ∧ vs.length ≤ 1000) ∧ PostF X T W M H1 (nxO (setVals ρ is vs) S) D := by
    obtain ⟨ρ, S, M, e, s, p⟩ := hq
    refine ⟨ρ, S, M, e, s, ?_⟩
    have p : PostF X T W M H ((evL (callF F k) es ρ S).bind fun vs S => nxO (setVals ρ is vs) S) D := p
    cases hm : evL (callF F k) es ρ S with
    | ok vs S1 =>
      have hlen := evL_len hm
      rw [hm] at p
      exact fun b M1 H1 x1 s1 r1 => ⟨ρ, vs, S1, M1, e.ext x1, s1, ⟨r1, by omega⟩, PostF.ext x1 p⟩
    | ex c S1 =>
      rw [hm] at p
      exact fun M' H' C e' s' g => p σ M' H' C e' s' g
    | no => rw [hm] at p; exact p
  refine rd_mono q2 fun ys H1 ⟨ρ, vs, S, M, e, s, ⟨r, hvl⟩, p⟩ => ?_
  refine ⟨by rw [← r.length]; exact Nat.le_trans hvl (Nat.le_trans (by decide) lim_line), fun z hz => ?_⟩
  cases hv : setVals ρ is vs with
  | none => rw [hv] at p; exact (show False from p).elim
  | some ρ' =>
    rw [hv] at p
    have xe := ext_new (M := M) (o := HO.tup ys) hz
    exact ⟨z, ys, rfl, SqT.of upd_same, by rw [← r.length, setVals_len hv, n3], vs, ρ, M, ρ', RepVs.ext xe r, e.ext xe, hv, fun σ' e' => p σ' M _ xe (s.new hz) e'⟩
/-- (a, b, ..) = a value -/
theorem st_unp (g : GoodS X T W c F k) {is : List Nat} {l : LE} {ts : List Expr} {f : Expr} {p1 p3 : Pos} {k1 : Nat} (h : chkTgs c.N c.sc is ts = true) (ht : isTup f = false) (he : PE X f (rE X T W (evE (callF F k) l))) : PS X (.Assign [.Tuple ts k1 p1] f p3) (tS X T W (exS (callF F k) (.unp is l))) := by
  obtain ⟨n0, n1, n2, n3⟩ := tg_many g.ndX g.N (fun x hx => by
    have hl : Loc X.env.scope x := by rw [g.sc]; exact hx
    exact ⟨hl, g.fn x hl⟩) h
  have pg : PG X (.Tuple ts k1 p1) (fun v σ H Q => gTup X.K ts.length (gGs X is) v σ H Q ∨ gLst X.K ts.length (gGs X is) v σ H Q) := ⟨fun pins s σ H v u Q I r q => by
    rcases q with q | q
    · exact (pg_tup (n := ts.length) g.calm n0 n1 n2).run pins s σ H v u Q I r q
    · exact (pg_lst (n := ts.length) g.calm n0 n1 n2).run pins s σ H v u Q I r q⟩
  refine PS.imp (ps_asg he pg (by cases f <;> rfl) (by cases f <;> first | rfl | (simp [isTup] at ht)) rfl) fun D σ H hq => ?_
  refine rd_mono (rdF_bind (rep := RepV X.K) (m := evE (callF F k) l) (f := fun ρ v S => unpV is v ρ S) hq) fun y H1 ⟨ρ, v, S, M, e, s, r, p⟩ => ?_
  have fin : ∀ (xs : List PyData) (vs : List V), RepL X.K M H1 xs vs → PostF X T W M H1 (nxO (setMany ρ is xs) S) D → vs.length = ts.length ∧ gGs X is vs σ H1 D.nx := fun xs vs rl p => by
    cases hv : setMany ρ is xs with
    | none => rw [hv] at p; exact (show False from p).elim
    | some ρ' =>
      rw [hv] at p
      refine ⟨by rw [← rl.length, setMany_len hv, n3], xs, ρ, M, ρ', rl, e, hv, fun σ' e' _ _ => p σ' M H1 (Ext.refl _ _) s e'⟩
  match v, r, p with
  | .d (.tuple xs), r, p =>
    obtain ⟨a, vs, rfl, h2, h3⟩ := r
    obtain ⟨q1, q2⟩ := fin xs vs h3 p
    exact .inl ⟨a, vs, rfl, h2, q1, q2⟩
  | .d (.list xs), r, p =>
    obtain ⟨a, vs, rfl, _, h2, h3⟩ := r
    obtain ⟨q1, q2⟩ := fin xs vs h3 p
    exact .inr ⟨a, vs, rfl, SqL.of h2, q1, q2⟩
  | .d .none, _, p | .d (.bool _), _, p | .d (.str _), _, p | .d (.int _), _, p | .d (.dict _), _, p | .r _, _, p | .s _, _, p => exact (show False from p).elim
/-! ### loops -/
def fF (C : Nat → List Val → Sto → R Val) (tgt : Tg) (body : List LS) : PyData → Z.Env → Sto → R Fl := fun x ρ S => onTg tgt x ρ fun ρ' => exB C body ρ' S
theorem st_for (g : GoodS X T W c F k) {kk : IK} {args : List LE} {tgt : Tg} {body : List LS} {t it : Expr} {ss : List Stmt} {p : Pos} (hI : PI X t it (rI X T W fun ρ S => (evL (callF F k) args ρ S).bind (itV kk))) (hg : PG X t (gG X tgt)) (hs : isSet it = false) (hb : PSs X ss (tS X T W (exB (callF F k) body))) : PS X (.For t it ss [] p) (tS X T W (exS (callF F k) (.for kk args tgt body))) := by
  refine PS.imp (ps_for g.pas g.calm hI hg hb (folded_none hs)) fun D σ H q => ?_
  have q1 : tS X T W (fun ρ S => ((evL (callF F k) args ρ S).bind (itV kk)).bind fun items S => loopF (fF (callF F k) tgt body) items ρ S) D σ H := by
    obtain ⟨ρ, S, M, e, s, p⟩ := q
    refine ⟨ρ, S, M, e, s, ?_⟩
    show PostF X T W M H (((evL (callF F k) args ρ S).bind (itV kk)).bind fun items S => loopF (fF (callF F k) tgt body) items ρ S) D
    rw [R.bind_assoc]
    exact p
  refine rd_mono (rdF_bind (rep := fun M H items J => ItRep X.K M H J items) (f := fun ρ items S => loopF (fF (callF F k) tgt body) items ρ S) q1) fun J H1 ⟨ρ, items, S, M, e, s, r, p⟩ => ?_
  refine ⟨fun i n σ H => ∃ ρ S M, n = items.length - i ∧ i ≤ items.length ∧ StoreOk T X.K M H S ∧ EnvOk X.K M H ρ σ ∧ ItRep X.K M H J items ∧ PostF X T W M H (loopF (fF (callF F k) tgt body) (items.drop i) ρ S) D, ⟨items.length, ρ, S, M, by simp, Nat.zero_le _, s, e, r, p⟩, ?_⟩
  rintro i n σ2 H2 ⟨ρ2, S2, M2, rfl, hi, s2, e2, r2, p2⟩
  obtain ⟨tStop, tGo⟩ := r2.turn s2
  by_cases hlt : i < items.length
  · have hd : items[i]? = some items[i] := List.getElem?_eq_getElem hlt
    obtain ⟨go, yld⟩ := tGo i _ hd
    refine .inr ⟨go, fun σ' H' => ∃ ρ S M, items.length - (i + 1) = items.length - (i + 1) ∧ i + 1 ≤ items.length ∧ StoreOk T X.K M H' S ∧ EnvOk X.K M H' ρ σ' ∧ ItRep X.K M H' J items ∧ PostF X T W M H' (loopF (fF (callF F k) tgt body) (items.drop (i + 1)) ρ S) D, fun σ' H' h => ⟨items.length - (i + 1), by omega, h⟩, fun x H3 hy => ?_⟩
    obtain ⟨x3, s3, r3⟩ := yld x H3 hy
    rw [List.drop_eq_getElem_cons hlt] at p2
    simp only [loopF] at p2
    have p2 := PostF.ext x3 p2
    unfold fF onTg at p2
    cases hbt : bindTg tgt items[i] ρ2 with
    | none => rw [hbt] at p2; exact (show False from p2).elim
    | some ρ' =>
      rw [hbt] at p2
      dsimp only at p2
      refine ⟨items[i], ρ2, M2, ρ', r3, e2.ext x3, hbt, fun σ' e4 _ _ => ⟨ρ', S2, M2, e4, s3, ?_⟩⟩
      have p2 : PostF X T W M2 H3 ((exB (callF F k) body ρ' S2).bind fun fl S => match fl with
        | .nx ρ => loopF (fF (callF F k) tgt body) (items.drop (i + 1)) ρ S
        | .ct ρ => loopF (fF (callF F k) tgt body) (items.drop (i + 1)) ρ S
        | .bk ρ => .ok (.nx ρ) S
        | .ret v => .ok (.ret v) S) D := p2
      match hm : exB (callF F k) body ρ' S2, p2 with
      | .ok (.nx ρ5) S', p => exact fun σ' M' H' x' s' e' => ⟨ρ5, S', M', rfl, hlt, s', e', r2.ext (x3.trans x'), PostF.ext x' p⟩
      | .ok (.ct ρ5) S', p => exact fun σ' M' H' x' s' e' => ⟨ρ5, S', M', rfl, hlt, s', e', r2.ext (x3.trans x'), PostF.ext x' p⟩
      | .ok (.bk ρ5) S', p => exact p
      | .ok (.ret v) S', p => exact p
      | .ex c S', p => exact p
      | .no, p => exact p
  · have hi' : i = items.length := by omega
    subst hi'
    refine .inl ⟨tStop _ (Nat.le_refl _), ?_⟩
    rw [List.drop_length] at p2
    exact p2 σ2 M2 H2 (Ext.refl _ _) s2 e2
theorem st_raise (g : GoodS X T W c F k) {x m : Str} {j : Nat} {p1 p2 p3 p4 : Pos} (hx : gl c x = true) (he : x ∈ c.excs) : PS X (.Raise (some (.Call (.Name x p1) [.Constant (.str m) j p2] [] p3)) none p4) (tS X T W (exS (callF F k) (.raise x))) := by
  obtain ⟨C, h1, h2, h3, h4, h5⟩ := g.gg.exc x he
  obtain ⟨g1, g2⟩ := g.toGood.gl hx
  refine PS.imp (ps_raise g.calm g.tk (pmk_own PySem.F.excBase_ValueError h2 h1 h3 (raises_own h4 h5) g1 g2)) fun D σ H ⟨ρ, S, M, e, s, q⟩ => ?_
  exact q σ M H C (Ext.refl _ _) s h1
theorem names_shape {sc : Scope} {N : List Str} {i : Nat} {t : Expr} {n : Nat} {x : Str} {p : Pos} (h : chkTg1 N sc i t = true) (e : t = .Name x p) : N[i]? = some x := by
  subst e
  simp only [chkTg1, Bool.and_eq_true, decide_eq_true_eq] at h
  exact h.1
theorem names_two {sc : Scope} {n : Nat} {x y : Str} {p q : Pos} {ns : List Str} (h : namesAll sc n [.Name x p, .Name y q] = some ns) : ns = [x, y] := by
  cases h1 : (decide (sc.names.lookup x = some .local) && p.line == n) <;> cases h2 : (decide (sc.names.lookup y = some .local) && q.line == n) <;> simp only [namesAll, h1, h2, if_true, if_false, Option.map_some, Option.map_none, Bool.false_eq_true, reduceCtorEq] at h
  exact (Option.some.inj h).symm
theorem names_three {sc : Scope} {n : Nat} {x y z : Str} {p q r : Pos} {ns : List Str} (h : namesAll sc n [.Name x p, .Name y q, .Name z r] = some ns) : ns = [x, y, z] := by
  cases h1 : (decide (sc.names.lookup x = some .local) && p.line == n) <;> cases h2 : (decide (sc.names.lookup y = some .local) && q.line == n) <;> cases h3 : (decide (sc.names.lookup z = some .local) && r.line == n) <;> simp only [namesAll, h1, h2, h3, if_true, if_false, Option.map_some, Option.map_none, Bool.false_eq_true, reduceCtorEq] at h
  exact (Option.some.inj h).symm
theorem st_asgTs (g : GoodS X T W c F k) {is : List Nat} {es : List LE} {ts fs : List Expr} {p1 p2 p3 : Pos} {k1 k2 : Nat} (h : chkTgs c.N c.sc is ts = true) (hlen : ts.length = fs.length) (hs : swapT c.sc ts fs = true) (hst : ∀ e ∈ fs, ∀ v p, e ≠ Expr.Starred v p) (he : PA X fs (rA X T W (evL (callF F k) es))) : PS X (.Assign [.Tuple ts k1 p1] (.Tuple fs k2 p2) p3) (tS X T W (exS (callF F k) (.asgT is es))) := by
  unfold swapT at hs
  simp only [Bool.and_eq_true, Bool.or_eq_true, beq_iff_eq] at hs
  obtain ⟨hl, hs⟩ := hs
  split at hs
  · rename_i ns hns
    simp only [Bool.and_eq_true, decide_eq_true_eq, Bool.not_eq_true'] at hs
    obtain ⟨⟨hnd, hf⟩, hk⟩ := hs
    obtain ⟨nl, nlen⟩ := names_loc hns
    match ts, fs, is, hlen, hl, h, nl, hns with
    | [t1, t2], [a, b], [i, j], _, _, h, nl, hns =>
      obtain ⟨x, q1, rfl, lx, m1⟩ := nl t1 (by simp)
      obtain ⟨y, q2, rfl, ly, m2⟩ := nl t2 (by simp)
      simp only [chkTgs, Bool.and_eq_true] at h
      have hne : x ≠ y := by
        have := names_two hns
        subst this
        simpa using hnd
      exact st_asgT2 g (names_shape (n := 0) h.1 rfl) (names_shape (n := 0) h.2.1 rfl) lx ly hne (show (q2.line == q1.line) = true from m2) hf hk he hst
    | [], _, _, _, hl, _, _, _ => simp at hl
    | [_], _, _, _, hl, _, _, _ => simp at hl
    | [t1, t2, t3], [a, b, d], [i, j, l], _, _, h, nl, hns =>
      obtain ⟨x, q1, rfl, lx, m1⟩ := nl t1 (by simp)
      obtain ⟨y, q2, rfl, ly, m2⟩ := nl t2 (by simp)
      obtain ⟨z, q3, rfl, lz, m3⟩ := nl t3 (by simp)
      simp only [chkTgs, Bool.and_eq_true] at h
      have hne : x ≠ y ∧ x ≠ z ∧ y ≠ z := by
        have := names_three hns
        subst this
        simp at hnd
        exact ⟨hnd.1.1, hnd.1.2, hnd.2⟩
      exact st_asgT3 g (names_shape (n := 0) h.1 rfl) (names_shape (n := 0) h.2.1 rfl) (names_shape (n := 0) h.2.2.1 rfl) lx ly lz hne.1 hne.2.1 hne.2.2 (show (q2.line == q1.line) = true from m2) (show (q3.line == q1.line) = true from m3) hf hk he hst
    | _ :: _ :: _ :: _ :: _, _, _, _, hl, _, _, _ => simp at hl
    | [_, _], [], _, hlen, _, _, _, _ => simp at hlen
    | [_, _], [_], _, hlen, _, _, _, _ => simp at hlen
    | [_, _], _ :: _ :: _ :: _, _, hlen, _, _, _, _ => simp at hlen
    | [_, _, _], [], _, hlen, _, _, _, _ => simp at hlen
    | [_, _, _], [_], _, hlen, _, _, _, _ => simp at hlen
    | [_, _, _], [_, _], _, hlen, _, _, _, _ => simp at hlen
    | [_, _, _], _ :: _ :: _ :: _ :: _, _, hlen, _, _, _, _ => simp at hlen
    | [_, _], [_, _], [], _, _, h, _, _ => simp [chkTgs] at h
    | [_, _], [_, _], [_], _, _, h, _, _ => simp [chkTgs] at h
    | [_, _], [_, _], _ :: _ :: _ :: _, _, _, h, _, _ => simp [chkTgs] at h
    | [_, _, _], [_, _, _], [], _, _, h, _, _ => simp [chkTgs] at h
    | [_, _, _], [_, _, _], [_], _, _, h, _, _ => simp [chkTgs] at h
    | [_, _, _], [_, _, _], [_, _], _, _, h, _, _ => simp [chkTgs] at h
    | [_, _, _], [_, _, _], _ :: _ :: _ :: _ :: _, _, _, h, _, _ => simp [chkTgs] at h
  · cases hs
theorem soundIt (kk : IK) (args : List LE) (tgt : Tg) (t it : Expr) (g : Good X T W c F k) (h3 : chkTg c.N c.sc tgt t = true) (h : chkIt c kk args tgt it = true) : isSet it = false ∧ PI X t it (rI X T W fun ρ S => (evL (callF F k) args ρ S).bind (itV kk)) := by
  unfold chkIt at h
  simp only [Bool.and_eq_true, Bool.not_eq_true'] at h
  refine ⟨h.1, ?_⟩
  have h6 := h.2
  have hL : PAs T F k X W c args := fun es h => soundL args X W c es g h
  cases kk with
  | seq =>
    match args, h6 with
    | [a], h6 => exact i_seq (notStar h6) (soundE a X W c it g h6)
    | [], h6 => simp at h6
    | _ :: _ :: _, h6 => simp at h6
  | range => exact soundI .range args tgt X W c t it g hL (fun z => nomatch z) h3 h6
  | enum => exact soundI .enum args tgt X W c t it g hL (fun z => nomatch z) h3 h6
  | zip => exact soundI .zip args tgt X W c t it g hL (fun z => nomatch z) h3 h6
theorem inv_asg {s : Stmt} {i : Nat} {e : LE} (h : chkS c (.asg i e) s = true) : ∃ x p f q, s = .Assign [.Name x p] f q ∧ okSet c i x = true ∧ chkE c e f = true := by
  unfold chkS at h
  split at h
  all_goals first | (cases h; done) | (rename_i q1 q2; cases q1; done) | skip
  all_goals (rename_i q1 q2; cases q1; cases q2)
  simp only [Bool.and_eq_true] at h
  exact ⟨_, _, _, _, rfl, h⟩
theorem inv_asgT {s : Stmt} {is : List Nat} {es : List LE} (h : chkS c (.asgT is es) s = true) : ∃ ts k1 p1 fs k2 p2 p, s = .Assign [.Tuple ts k1 p1] (.Tuple fs k2 p2) p ∧ chkTgs c.N c.sc is ts = true ∧ ts.length = fs.length ∧ es.length ≤ 1000 ∧ (swapT c.sc ts fs = true ∨ noSwapT c.sc ts fs = true) ∧ chkL c es fs = true := by
  unfold chkS at h
  split at h
  all_goals first | (cases h; done) | (rename_i q1 q2; cases q1; done) | skip
  all_goals (rename_i q1 q2; cases q1; cases q2)
  simp only [Bool.and_eq_true, decide_eq_true_eq, Bool.or_eq_true] at h
  exact ⟨_, _, _, _, _, _, _, rfl, h.1.1.1.1, h.1.1.1.2, h.1.1.2, h.1.2, h.2⟩
theorem inv_unp {s : Stmt} {is : List Nat} {e : LE} (h : chkS c (.unp is e) s = true) : ∃ ts k1 p1 f p, s = .Assign [.Tuple ts k1 p1] f p ∧ chkTgs c.N c.sc is ts = true ∧ isTup f = false ∧ chkE c e f = true := by
  unfold chkS at h
  split at h
  all_goals first | (cases h; done) | (rename_i q1 q2; cases q1; done) | skip
  all_goals (rename_i q1 q2; cases q1; cases q2)
  simp only [Bool.and_eq_true, Bool.not_eq_true'] at h
  exact ⟨_, _, _, _, _, rfl, h.1.1, h.1.2, h.2⟩
theorem inv_setix {s : Stmt} {o i e : LE} (h : chkS c (.setix o i e) s = true) : ∃ f g p x q, s = .Assign [.Subscript f g p] x q ∧ isComp x = false ∧ slicy g = false ∧ chkE c o f = true ∧ chkE c i g = true ∧ chkE c e x = true := by
  unfold chkS at h
  split at h
  all_goals first | (cases h; done) | (rename_i q1 q2; cases q1; done) | skip
  all_goals (rename_i q1 q2; cases q1; cases q2)
  simp only [Bool.and_eq_true, Bool.not_eq_true'] at h
  exact ⟨_, _, _, _, _, rfl, h.1.1, h.1.2, h.2.1, h.2.2.1, h.2.2.2⟩
theorem inv_app {s : Stmt} {o e : LE} (h : chkS c (.app o e) s = true) : ∃ n x p1 p2 g p3 p4, o = .var n ∧ s = .Expr (.Call (.Attribute (.Name x p1) "append" p2) [g] [] p3) p4 ∧ (p2.endLine == p3.line) = true ∧ okVar c n x = true ∧ chkE c e g = true := by
  unfold chkS at h
  split at h
  all_goals first | (cases h; done) | (rename_i q1 q2; cases q1; done) | skip
  all_goals (rename_i q1 q2; cases q1; cases q2)
  simp only [Bool.and_eq_true, decide_eq_true_eq] at h
  obtain ⟨⟨rfl, h1⟩, h2, h3⟩ := h
  exact ⟨_, _, _, _, _, _, _, rfl, rfl, h1, h2, h3⟩
theorem inv_aug {s : Stmt} {i : Nat} {o : Op2} {e : LE} (h : chkS c (.aug i o e) s = true) : ∃ x p f q, s = .AugAssign (.Name x p) (opOf o) f q ∧ okSet c i x = true ∧ chkE c e f = true := by
  unfold chkS at h
  split at h
  all_goals first | (cases h; done) | (rename_i q1 q2; cases q1; done) | skip
  all_goals (rename_i q1 q2; cases q1; cases q2)
  simp only [Bool.and_eq_true, decide_eq_true_eq] at h
  obtain ⟨⟨h1, rfl⟩, h2⟩ := h
  exact ⟨_, _, _, _, rfl, h1, h2⟩
theorem inv_exp {s : Stmt} {e : LE} (h : chkS c (.exp e) s = true) : ∃ f p, s = .Expr f p ∧ isComp f = false ∧ chkE c e f = true := by
  unfold chkS at h
  split at h
  all_goals first | (cases h; done) | (rename_i q1 q2; cases q1; done) | skip
  all_goals (rename_i q1 q2; cases q1; cases q2)
  simp only [Bool.and_eq_true, Bool.not_eq_true'] at h
  exact ⟨_, _, rfl, h⟩
theorem inv_ret {s : Stmt} {e : LE} (h : chkS c (.ret e) s = true) : ∃ f p, s = .Return (some f) p ∧ chkE c e f = true := by
  unfold chkS at h
  split at h
  all_goals first | (cases h; done) | (rename_i q1 q2; cases q1; done) | skip
  all_goals (rename_i q1 q2; cases q1; cases q2)
  exact ⟨_, _, rfl, h⟩
theorem inv_ite {s : Stmt} {t : LE} {a b : List LS} (h : chkS c (.ite t a b) s = true) : ∃ f x y p, s = .If f x y p ∧ chkE c t f = true ∧ chkB c a x = true ∧ chkB c b y = true := by
  unfold chkS at h
  split at h
  all_goals first | (cases h; done) | (rename_i q1 q2; cases q1; done) | skip
  all_goals (rename_i q1 q2; cases q1; cases q2)
  simp only [Bool.and_eq_true] at h
  exact ⟨_, _, _, _, rfl, h⟩
theorem inv_for {s : Stmt} {kk : IK} {args : List LE} {tg : Tg} {body : List LS} (h : chkS c (.for kk args tg body) s = true) : ∃ t it x p, s = .For t it x [] p ∧ chkTg c.N c.sc tg t = true ∧ chkIt c kk args tg it = true ∧ chkB c body x = true := by
  unfold chkS at h
  split at h
  all_goals first | (cases h; done) | (rename_i q1 q2; cases q1; done) | skip
  all_goals (rename_i q1 q2; cases q1; cases q2)
  simp only [Bool.and_eq_true] at h
  exact ⟨_, _, _, _, rfl, h.1.1, h.1.2, h.2⟩
theorem inv_raise {s : Stmt} {x : Str} (h : chkS c (.raise x) s = true) : ∃ m j p1 p2 p3 p4, s = .Raise (some (.Call (.Name x p1) [.Constant (.str m) j p2] [] p3)) none p4 ∧ gl c x = true ∧ x ∈ c.excs := by
  unfold chkS at h
  split at h
  all_goals first | (cases h; done) | (rename_i q1 q2; cases q1; done) | skip
  all_goals (rename_i q1 q2; cases q1; cases q2)
  simp only [Bool.and_eq_true, decide_eq_true_eq] at h
  obtain ⟨⟨rfl, h1⟩, h2⟩ := h
  exact ⟨_, _, _, _, _, _, rfl, h1, h2⟩
theorem inv_brk {s : Stmt}  (h : chkS c (.brk) s = true) : ∃ p, s = .Break p := by
  unfold chkS at h
  split at h
  all_goals first | (cases h; done) | (rename_i q1 q2; cases q1; done) | skip
  all_goals (rename_i q1 q2; cases q1; cases q2)
  exact ⟨_, rfl⟩
theorem inv_cont {s : Stmt}  (h : chkS c (.cont) s = true) : ∃ p, s = .Continue p := by
  unfold chkS at h
  split at h
  all_goals first | (cases h; done) | (rename_i q1 q2; cases q1; done) | skip
  all_goals (rename_i q1 q2; cases q1; cases q2)
  exact ⟨_, rfl⟩
theorem inv_pass {s : Stmt}  (h : chkS c (.pass) s = true) : (∃ p, s = .Pass p) ∨ ∃ x j p q, s = .Expr (.Constant (.str x) j p) q := by
  unfold chkS at h
  split at h
  all_goals first | (cases h; done) | (rename_i q1 q2; cases q1; done) | skip
  all_goals (rename_i q1 q2; cases q1; cases q2)
  · exact .inl ⟨_, rfl⟩
  · exact .inr ⟨_, _, _, _, rfl⟩
mutual
theorem soundS (l : LS) (s : Stmt) (g : GoodS X T W c F k) (h : chkS c l s = true) : PS X s (tS X T W (exS (callF F k) l)) := by
  cases l with
  | asg i e =>
    obtain ⟨x, p, f, q, rfl, h1, h2⟩ := inv_asg h
    exact st_asg g h1 h2
  | asgT is es =>
    obtain ⟨ts, k1, p1, fs, k2, p2, p, rfl, h1, h2, h3, h4, h5⟩ := inv_asgT h
    obtain ⟨q1, q2, q3⟩ := soundL es X W c fs g.toGood h5
    rcases h4 with h4 | h4
    · exact st_asgTs g h1 h2 h4 q2 q1
    · exact st_asgTn g h1 h3 h4 q1
  | unp is e =>
    obtain ⟨ts, k1, p1, f, p, rfl, h1, h2, h3⟩ := inv_unp h
    exact st_unp g h1 h2 (soundE e X W c f g.toGood h3)
  | setix o i e =>
    obtain ⟨f, u, p, x, q, rfl, h1, h2, h3, h4, h5⟩ := inv_setix h
    exact st_setix g h1 h2 (soundE o X W c f g.toGood h3) (soundE i X W c u g.toGood h4) (soundE e X W c x g.toGood h5)
  | app o e =>
    obtain ⟨n, x, p1, p2, f, p3, p4, rfl, rfl, h1, h2, h3⟩ := inv_app h
    exact st_app g h2 h1 (notStar h3) (soundE e X W c f g.toGood h3)
  | aug i o e =>
    obtain ⟨x, p, f, q, rfl, h1, h2⟩ := inv_aug h
    exact st_aug g h1 (soundE e X W c f g.toGood h2)
  | exp e =>
    obtain ⟨f, p, rfl, h1, h2⟩ := inv_exp h
    exact st_exp h1 (soundE e X W c f g.toGood h2)
  | ret e =>
    obtain ⟨f, p, rfl, h1⟩ := inv_ret h
    exact st_ret (soundE e X W c f g.toGood h1)
  | ite t a b =>
    obtain ⟨f, x, y, p, rfl, h1, h2, h3⟩ := inv_ite h
    exact st_if (soundT t X W c f g.toGood h1) (soundB a x g h2) (soundB b y g h3)
  | «for» kk args tg body =>
    obtain ⟨t, it, x, p, rfl, h1, h2, h3⟩ := inv_for h
    obtain ⟨q1, q2⟩ := soundIt kk args tg t it g.toGood h1 h2
    refine st_for g q2 (tg_ok g.calm g.ndX g.N (fun y hy => ?_) h1) q1 (soundB body x g h3)
    have hl : Loc X.env.scope y := by rw [g.sc]; exact hy
    exact ⟨hl, g.fn y hl⟩
  | raise x =>
    obtain ⟨m, j, p1, p2, p3, p4, rfl, h1, h2⟩ := inv_raise h
    exact st_raise g h1 h2
  | brk =>
    obtain ⟨p, rfl⟩ := inv_brk h
    exact st_brk
  | cont =>
    obtain ⟨p, rfl⟩ := inv_cont h
    exact st_cont
  | pass =>
    rcases inv_pass h with ⟨p, rfl⟩ | ⟨x, j, p, q, rfl⟩
    · exact st_pass
    · exact st_doc
termination_by structural l
theorem soundB (ls : List LS) (ss : List Stmt) (g : GoodS X T W c F k) (h : chkB c ls ss = true) : PSs X ss (tS X T W (exB (callF F k) ls)) := by
  cases ls with
  | nil => cases ss with
    | nil => exact st_nil
    | cons _ _ => simp [chkB] at h
  | cons a as => cases ss with
    | nil => simp [chkB] at h
    | cons s ss =>
      simp only [chkB, Bool.and_eq_true] at h
      exact st_cons (soundS a s g h.1) (soundB as ss g h.2)
termination_by structural ls
end
end
end Z

/-! Every def of a text is as its term in the small language. -/
namespace Z
open PySem PySem.Spec PyProof.Rows L2 RZ

/-- the names that all defs of a text share -/
structure Md where
  fns : List (Str × Nat)
  cons : List (Str × PyData)
  excs : List Str
  blt : List Str
abbrev Md.sc (m : Md) (N : List Str) (sc : Scope) : SC := ⟨N, sc, m.fns, m.cons, m.excs, m.blt⟩
section
variable {P : Program} {w : World} {K : PySem.W.Frag} {mg : Str → Option Value} {base : Heap} {T : List (Addr × Str)} {F : Tab} {k : Nat}
theorem start_ok {M : MM} {H : Hp} {ps N : List Str} {nn : Nat} {ds : List Val} {vs : List V} (r : RepVs K M H ds vs) (hn : nn = N.length) (hl : ds.length = ps.length) : EnvOk K M H (Z.start ps.length nn ds) (L2.start N vs) := by
  have hv := r.length
  have key : ∀ (ds : List Val) (vs : List V) (q : Nat), RepVs K M H ds vs → EnvOk K M H (ds.map some ++ List.replicate q none) (vs.map some ++ List.replicate q none) := fun ds => by
    induction ds with
    | nil =>
      intro vs q r
      have r : vs = [] := r
      subst r
      refine ⟨by simp, fun i v h => ?_⟩
      simp [List.getElem?_replicate] at h
    | cons d ds ih =>
      intro vs q r
      obtain ⟨v, r', rfl, r1, r2⟩ := r
      have e := ih r' q r2
      refine ⟨by simpa using e.len, fun i u h => ?_⟩
      cases i with
      | zero =>
        simp at h
        subst h
        exact ⟨v, by simp, r1⟩
      | succ i => exact e.at_ i u (by simpa using h)
  subst hn
  unfold Z.start L2.start
  rw [← hv, hl]
  exact key ds vs _ r
theorem one_def {m : Md} {x qual : Str} {params : Arguments} {body : List Stmt} {scope : Scope} {a : Addr} {fd : FuncData} {N ps : List Str} {n : Nat} {d : LDef} (D : FunD K x qual params body scope [] [] a fd) (S : FnScope N ps scope) (hF : F n = some d) (hp : d.np = ps.length) (hn : d.nn = N.length) (hc : chkB (m.sc N scope) d.body body = true)
    (gg : GG P w K mg base T (m.sc N scope) F k) : FnOk P w K mg base (L2.CX P w) (k + 1) a fd ps (spG K mg T (callF F (k + 1) n)) := by
  have hlen : ∀ (ds : List Val) (S : Sto), callF F (k + 1) n ds S = .no ∨ ds.length = ps.length := fun ds S => by
    unfold callF
    rw [hF]
    dsimp only
    split
    · rename_i h
      exact .inr (h.trans hp)
    · exact .inl rfl
  refine D.ok S (fun vs H Q E h => ?_) (fun cdv A outer s H vs Q E hr h => ?_)
  · obtain ⟨ds, S', M, _, r, h⟩ := h
    rcases hlen ds S' with q | q
    · rw [q] at h; exact h.elim
    · rw [← r.length]; exact q
  · refine ⟨tS _ T (fun cls d _ H => E cls d H) (exB (callF F k) d.body), soundB (c := m.sc N scope) (k := k) d.body body ⟨⟨rfl, S.nd, rfl, rfl, hr, takes_of rfl rfl rfl rfl, gg⟩, fun _ _ => .inl rfl, passes_of rfl⟩ hc, ?_⟩
    obtain ⟨ds, S', M, so, r, h⟩ := h
    have hl : ds.length = ps.length := by
      rcases hlen ds S' with q | q
      · rw [q] at h; exact h.elim
      · exact q
    refine ⟨Z.start d.np d.nn ds, S', M, by rw [hp]; exact start_ok r hn hl, so, ?_⟩
    unfold callF at h
    rw [hF] at h
    dsimp only at h
    rw [if_pos (hl.trans hp.symm)] at h
    have sl : S'.length = M.m.length := so.len.symm
    match he : exB (callF F k) d.body (Z.start d.np d.nn ds) S', h with
    | .ok (.ret v) S2, h =>
      intro y M2 H2 x2 s2 r2
      cases v with
      | d dd =>
        have h : ∀ v M' H', Ext M H M' H' → StoreOk T K M' H' (S2.take S'.length) → RepV K M' H' (.d dd) v → Q v H' := h
        rw [sl] at h
        exact h y (M2.take M.m.length) H2 (ext_take x2) (s2.take _) (Rep.cut (fun _ => fre_take _) r2)
      | r q => exact h y M2 H2 x2 s2 r2
      | s q => exact (show False from h).elim
    | .ok (.nx ρ) S2, h =>
      intro σ' M2 H2 x2 s2 e2
      have h : ∀ v M' H', Ext M H M' H' → StoreOk T K M' H' (S2.take S'.length) → RepV K M' H' (.d .none) v → Q v H' := h
      rw [sl] at h
      exact h .non (M2.take M.m.length) H2 (ext_take x2) (s2.take _) rfl
    | .ok (.bk ρ) S2, h => exact (show False from h).elim
    | .ok (.ct ρ) S2, h => exact (show False from h).elim
    | .ex c S2, h =>
      intro σ' M2 H2 C x2 s2 g2
      have h : ∀ M' H' C, Ext M H M' H' → StoreOk T K M' H' (S2.take S'.length) → mg c = some (.ref C) → E (.ref C) none H' := h
      rw [sl] at h
      exact h (M2.take M.m.length) H2 C (ext_take x2) (s2.take _) g2
    | .no, h => exact h.elim
/-- a def, and what stands for it -/
structure DefOk (K : PySem.W.Frag) (mg : Str → Option Value) (m : Md) (F : Tab) (x : Str) (n : Nat) : Prop where
  ex : ∃ (qx qual : Str) (params : Arguments) (body : List Stmt) (scope : Scope) (a : Addr) (fd : FuncData) (N ps : List Str) (d : LDef), mg x = some (.ref a) ∧ Binds K fd ps [] ∧ FunD K qx qual params body scope [] [] a fd ∧ FnScope N ps scope ∧ F n = some d ∧ d.np = ps.length ∧ d.nn = N.length ∧ chkB (m.sc N scope) d.body body = true
theorem defs_ok {m : Md} (con : ∀ x d, (match m.cons.lookup x with
    | some e => pdEq d e
    | none => false) = true → ∃ u v, mg x = some u ∧ RelV v u ∧ ∀ M H, Rep K M H d v) (blt : ∀ x, x ∈ m.blt → mg x = none)
    (exc : ∀ x, x ∈ m.excs → ∃ C : Addr, mg x = some (.ref C) ∧ PySem.W.excIn K C [.type "ValueError", .type "Exception", .type "BaseException", .type "object"] "ValueError.__new__" = true ∧ PySem.W.keepIn K (.ref C) = true ∧ PySem.W.subIn K (.ref C) (.type "BaseException") = some true ∧ PySem.W.typeIn K (.ref C) = some (.type "type"))
    (defs : ∀ x n, m.fns.lookup x = some n → DefOk K mg m F x n) : ∀ k N sc, GG P w K mg base T (m.sc N sc) F k
  | 0, N, sc => ⟨con, fun x n h => by
      obtain ⟨qx, qual, params, body, scope, a, fd, N, ps, d, h1, h2, h3, h4, h5, h6, h7, h8⟩ := (defs x n h).ex
      refine ⟨a, fd, ps, h1, h3.kp, h2, ⟨fun vs H Q E z => ?_, fun A outer s H args us vs Q E _ _ _ _ z => ?_⟩⟩
      · obtain ⟨_, _, _, _, _, z⟩ := z; exact z.elim
      · obtain ⟨_, _, _, _, _, z⟩ := z; exact z.elim, blt, exc⟩
  | k + 1, N, sc => ⟨con, fun x n h => by
      obtain ⟨qx, qual, params, body, scope, a, fd, N, ps, d, h1, h2, h3, h4, h5, h6, h7, h8⟩ := (defs x n h).ex
      exact ⟨a, fd, ps, h1, h3.kp, h2, one_def (m := m) h3 h4 h5 h6 h7 h8 (defs_ok con blt exc defs k N scope)⟩, blt, exc⟩
end
end Z

/-! The law's def, at the script. -/
namespace Z
open PySem PySem.Spec PyProof.Rows L2 RZ
theorem law_sp {K : PySem.W.Frag} {mg : Str → Option Value} {F : Tab} {k n : Nat} {H : Hp} {a : Addr} {ns : List Int} (hO : Only H) (hS : SqL K H a (ns.map V.int)) (h : ∃ S, callF F k n [.s (ns.map PyData.int)] [] = .ok (.d (.bool true)) S) :
    spG K mg [] (callF F k n) [.ref a] H (fun v _ => v = .bl true) fun _ _ _ => False := by
  obtain ⟨S, h⟩ := h
  refine ⟨[.s (ns.map PyData.int)], [], ⟨[], []⟩, ⟨rfl, fun n m a h => by simp at h, fun n xs h => by simp at h, fun n h => by simp at h, fun a h => (nomatch h), fun p hp => (nomatch hp)⟩, ⟨_, _, rfl, ⟨a, ns.map V.int, rfl, ?_, ns, rfl, rfl⟩, rfl⟩, ?_⟩
  · rcases hS with (hS | ⟨o, hS⟩) | hS
    · rcases hO a with q | ⟨o, xs, q⟩
      · rw [hS] at q; cases q
      · rw [hS] at q; cases q
    · exact .inl ⟨o, hS⟩
    · exact .inr hS
  · rw [h]
    exact fun v M' H' _ _ r => r
/-- the frame of an exception, whatever the world -/
def CXw (P : Program) : CXT := fun outer H s E u s' => ∃ w, L2.CX P w outer H s E u s'
theorem fn_w {P : Program} {w : World} {K : PySem.W.Frag} {mg : Str → Option Value} {base : Heap} {k : Nat} {f : Addr} {fd : FuncData} {ps : List Str} {sp : Sp} (h : FnOk P w K mg base (L2.CX P w) k f fd ps sp) : FnOk P w K mg base (CXw P) k f fd ps sp :=
  ⟨h.len, fun A outer s H args us vs Q E hr e0 hb r hs => codeAny_mono (h.run A outer s H args us vs Q E hr e0 hb r hs) fun r s' q => by
    match r, q with
    | .ok (.ret u), q => exact q
    | .ok .next, q => exact q
    | .ok .brk, q => exact q
    | .ok .cont, q => exact q
    | .error e, q => exact ⟨w, q⟩⟩
theorem no_exc {P : Program} {H : Hp} {s : Shared} {e : Value} {s' : Shared} (h : CXw P [] H s (fun _ _ _ => False) e s') : False := by
  obtain ⟨w, a, B, H', cls, d, h⟩ := h
  exact h.2.2.2.2.2.2.2
end Z

/-! Facts about runs of the small language. -/
namespace Z
open PySem

/-- the run ends with a value of which Q holds -/
structure Ok {α : Type} (x : R α) (Q : α → Sto → Prop) : Prop where
  eq : ∃ a S, x = .ok a S ∧ Q a S
section
variable {α β : Type}
theorem Ok_ok {a : α} {S : Sto} {Q : α → Sto → Prop} : Ok (.ok a S) Q ↔ Q a S := ⟨fun ⟨_, _, e, q⟩ => by cases e; exact q, fun q => ⟨a, S, rfl, q⟩⟩
theorem Ok_no {Q : α → Sto → Prop} : Ok (.no : R α) Q ↔ False := ⟨fun ⟨_, _, e, _⟩ => (by cases e), fun h => h.elim⟩
theorem Ok_ex {c : Str} {S : Sto} {Q : α → Sto → Prop} : Ok (.ex c S : R α) Q ↔ False := ⟨fun ⟨_, _, e, _⟩ => (by cases e), fun h => h.elim⟩
theorem Ok_bind {x : R α} {f : α → Sto → R β} {Q : β → Sto → Prop} : Ok (x.bind f) Q ↔ Ok x fun a S => Ok (f a S) Q := by
  cases x with
  | ok a S => rw [Ok_ok]; rfl
  | ex c S => rw [Ok_ex]; exact Ok_ex
  | no => rw [Ok_no]; exact Ok_no
theorem Ok_if {p : Prop} [Decidable p] {x y : R α} {Q : α → Sto → Prop} : Ok (if p then x else y) Q ↔ if p then Ok x Q else Ok y Q := by
  split <;> rfl
theorem Ok.mono {x : R α} {Q Q' : α → Sto → Prop} (h : Ok x Q) (i : ∀ a S, Q a S → Q' a S) : Ok x Q' := by
  obtain ⟨a, S, e, q⟩ := h
  exact ⟨a, S, e, i a S q⟩
theorem Ok.of {x : R α} {a : α} {S : Sto} {Q : α → Sto → Prop} (e : x = .ok a S) (q : Q a S) : Ok x Q := ⟨a, S, e, q⟩
theorem Ok_okD {o : Option PyData} {S : Sto} {Q : Val → Sto → Prop} : Ok (okD o S) Q ↔ ∃ y, o = some y ∧ Q (.d y) S := by
  cases o with
  | none => exact ⟨fun h => (Ok_no.mp h).elim, fun ⟨_, h, _⟩ => by cases h⟩
  | some y => exact ⟨fun h => ⟨y, rfl, Ok_ok.mp h⟩, fun ⟨z, h, q⟩ => by cases h; exact Ok_ok.mpr q⟩
theorem Ok_lift {o : Option α} {S : Sto} {Q : α → Sto → Prop} : Ok (lift o S) Q ↔ ∃ y, o = some y ∧ Q y S := by
  cases o with
  | none => exact ⟨fun h => (Ok_no.mp h).elim, fun ⟨_, h, _⟩ => by cases h⟩
  | some y => exact ⟨fun h => ⟨y, rfl, Ok_ok.mp h⟩, fun ⟨z, h, q⟩ => by cases h; exact Ok_ok.mpr q⟩
theorem some_if {p : Prop} [Decidable p] {x y : α} : (if p then some x else none) = some y ↔ p ∧ x = y := by
  split <;> simp_all
end
/-- what becomes of a body's end -/
def finQ (S : Sto) (Q : Val → Sto → Prop) : Fl → Sto → Prop := fun fl S' => match fl with
  | .ret (.d x) => Q (.d x) (S'.take S.length)
  | .ret (.r n) => Q (.r n) S'
  | .ret (.s _) => False
  | .nx _ => Q (.d .none) (S'.take S.length)
  | .bk _ => False
  | .ct _ => False
theorem Ok_call {F : Tab} {k n : Nat} {d : LDef} {vs : List Val} {S : Sto} {Q : Val → Sto → Prop} (hF : F n = some d) (hl : vs.length = d.np) (h : Ok (exB (callF F k) d.body (start d.np d.nn vs) S) (finQ S Q)) : Ok (callF F (k + 1) n vs S) Q := by
  unfold callF
  rw [hF]
  dsimp only
  rw [if_pos hl]
  obtain ⟨fl, S', e, q⟩ := h
  rw [e]
  match fl, q with
  | .ret (.d x), q => exact Ok_ok.mpr q
  | .ret (.r x), q => exact Ok_ok.mpr q
  | .nx _, q => exact Ok_ok.mpr q
/-- a block, statement by statement -/
theorem Ok_cons {C : Nat → List Val → Sto → R Val} {s : LS} {r : List LS} {ρ : Env} {S : Sto} {Q : Fl → Sto → Prop} : Ok (exB C (s :: r) ρ S) Q ↔ Ok (exS C s ρ S) fun fl S' => match fl with
    | .nx ρ' => Ok (exB C r ρ' S') Q
    | fl => Q fl S' := by
  simp only [exB, Ok_bind]
  constructor <;> intro h <;> refine Ok.mono h fun fl S' q => ?_
  · cases fl with
    | nx ρ' => exact q
    | _ => exact Ok_ok.mp q
  · cases fl with
    | nx ρ' => exact q
    | _ => exact Ok_ok.mpr q
theorem Ok_nil {C : Nat → List Val → Sto → R Val} {ρ : Env} {S : Sto} {Q : Fl → Sto → Prop} : Ok (exB C [] ρ S) Q ↔ Q (.nx ρ) S := Ok_ok
theorem Ok_loopF {f : PyData → Env → Sto → R Fl} {Q : Fl → Sto → Prop} (I : List PyData → Env → Sto → Prop)
    (step : ∀ x r ρ S, I (x :: r) ρ S → Ok (f x ρ S) fun fl S' => match fl with
      | .nx ρ' => I r ρ' S'
      | .ct ρ' => I r ρ' S'
      | .bk ρ' => Q (.nx ρ') S'
      | .ret v => Q (.ret v) S') (hend : ∀ ρ S, I [] ρ S → Q (.nx ρ) S) : ∀ {items : List PyData} {ρ : Env} {S : Sto}, I items ρ S → Ok (loopF f items ρ S) Q
  | [], ρ, S, h => Ok_ok.mpr (hend ρ S h)
  | x :: r, ρ, S, h => by
    simp only [loopF, Ok_bind]
    refine Ok.mono (step x r ρ S h) fun fl S' q => ?_
    cases fl with
    | nx ρ' => exact Ok_loopF I step hend q
    | ct ρ' => exact Ok_loopF I step hend q
    | bk ρ' => exact Ok_ok.mpr q
    | ret v => exact Ok_ok.mpr q
/-- a comprehension whose turns change nothing -/
theorem loopC_pure {f : PyData → Sto → R (Option PyData)} {g : PyData → Option PyData} {S : Sto} : ∀ {items acc : List PyData}, (∀ x ∈ items, f x S = .ok (g x) S) → acc.length + items.length ≤ lim → loopC f items acc S = .ok (acc ++ items.filterMap g) S
  | [], acc, _, _ => by simp [loopC]
  | x :: r, acc, h, hl => by
    have h1 := h x List.mem_cons_self
    have h2 : ∀ y ∈ r, f y S = .ok (g y) S := fun y hy => h y (List.mem_cons_of_mem _ hy)
    simp only [loopC, h1]
    simp only [List.length_cons] at hl
    cases hg : g x with
    | none =>
      dsimp only
      rw [loopC_pure h2 (by omega)]
      simp [hg]
    | some y =>
      dsimp only
      rw [if_pos (by omega), loopC_pure h2 (by simp; omega)]
      simp [hg]
theorem loopC_map {α : Type} {f : PyData → Sto → R (Option PyData)} {h e : α → PyData} {S : Sto} : ∀ {cs : List α} {acc : List PyData}, (∀ c ∈ cs, f (h c) S = .ok (some (e c)) S) → acc.length + cs.length ≤ lim → loopC f (cs.map h) acc S = .ok (acc ++ cs.map e) S
  | [], acc, _, _ => by simp [loopC]
  | x :: r, acc, h', hl => by
    simp only [List.length_cons] at hl
    simp only [List.map_cons, loopC, h' x List.mem_cons_self]
    rw [if_pos (by omega), loopC_map (fun y hy => h' y (List.mem_cons_of_mem _ hy)) (by simp; omega)]
    simp
theorem loopC_filt {α : Type} {f : PyData → Sto → R (Option PyData)} {h e : α → PyData} {p : α → Bool} {S : Sto} : ∀ {cs : List α} {acc : List PyData}, (∀ c ∈ cs, f (h c) S = .ok (if p c then some (e c) else none) S) → acc.length + cs.length ≤ lim → loopC f (cs.map h) acc S = .ok (acc ++ (cs.filter p).map e) S
  | [], acc, _, _ => by simp [loopC]
  | x :: r, acc, h', hl => by
    simp only [List.length_cons] at hl
    simp only [List.map_cons, loopC, h' x List.mem_cons_self]
    cases hp : p x with
    | false =>
      simp only [Bool.false_eq_true, if_false]
      rw [loopC_filt (fun y hy => h' y (List.mem_cons_of_mem _ hy)) (by omega)]
      simp [hp]
    | true =>
      simp only [if_true]
      rw [if_pos (by omega), loopC_filt (fun y hy => h' y (List.mem_cons_of_mem _ hy)) (by simp; omega)]
      simp [hp]
theorem boolsOf_map {α : Type} (p : α → Bool) : ∀ cs : List α, boolsOf (cs.map fun c => .bool (p c)) = some (cs.map p)
  | [] => rfl
  | c :: cs => by simp [boolsOf, boolsOf_map p cs]
theorem intsOf_map {α : Type} (p : α → Int) : ∀ cs : List α, intsOf (cs.map fun c => .int (p c)) = some (cs.map p)
  | [] => rfl
  | c :: cs => by simp [intsOf, intsOf_map p cs]
/-- a list's == with the empty one -/
theorem eqv_nil (xs : List PyData) : PyData.eqv (.list xs) (.list []) = xs.isEmpty := by
  cases xs <;> simp [PyData.eqv, PyData.eqvAll]
theorem shaped_nil : SeqAt.shaped (.list []) = true := by decide
theorem canLayAll0_of {xs : List PyData} (h : ∀ x ∈ xs, x.canLay0 = true) : PyData.canLayAll0 xs = true := by
  induction xs with
  | nil => rfl
  | cons x xs ih => simp [PyData.canLayAll0, h x List.mem_cons_self, ih fun y hy => h y (List.mem_cons_of_mem _ hy)]
theorem depthAll_of {xs : List PyData} {n : Nat} (h : ∀ x ∈ xs, x.depth ≤ n) : PyData.depthAll xs ≤ n := by
  induction xs with
  | nil => exact Nat.zero_le _
  | cons x xs ih =>
    simp only [PyData.depthAll]
    exact Nat.max_le.mpr ⟨h x List.mem_cons_self, ih fun y hy => h y (List.mem_cons_of_mem _ hy)⟩
theorem shaped_list {xs : List PyData} {n : Nat} (h : ∀ x ∈ xs, x.canLay0 = true ∧ x.depth ≤ n) (hn : n < 64) : SeqAt.shaped (.list xs) = true := by
  unfold SeqAt.shaped
  have h1 : PyData.canLayAll0 xs = true := canLayAll0_of fun x hx => (h x hx).1
  have h2 := depthAll_of fun x hx => (h x hx).2
  have h3 : PyData.depth (.list xs) ≤ 64 := by
    show PyData.depthAll xs + 1 ≤ 64
    omega
  have h4 : PyData.canLay0 (.list xs) = true := h1
  rw [h4, Bool.true_and, decide_eq_true_eq]
  exact h3
/-- a comprehension, by what its turns keep -/
theorem Ok_loopC {f : PyData → Sto → R (Option PyData)} {Q : List PyData → Sto → Prop} (P : Sto → Prop) (E : PyData → Prop) : ∀ {items acc : List PyData} {S : Sto}, (∀ x ∈ items, ∀ S, P S → Ok (f x S) fun o S' => P S' ∧ ∃ y, o = some y ∧ E y) → P S → acc.length + items.length ≤ lim →
    (∀ ys S', P S' → (∀ y ∈ ys, E y) → ys.length = items.length → Q (acc ++ ys) S') → Ok (loopC f items acc S) Q
  | [], acc, S, _, hP, _, hQ => by
    have := hQ [] S hP (fun _ z => nomatch z) rfl
    simpa [loopC, Ok_ok] using this
  | x :: r, acc, S, h, hP, hl, hQ => by
    obtain ⟨o, S1, e1, h1, y, rfl, hy⟩ := (h x List.mem_cons_self S hP).eq
    simp only [List.length_cons] at hl
    simp only [loopC, e1]
    rw [if_pos (by omega)]
    refine Ok_loopC P E (fun z hz => h z (List.mem_cons_of_mem _ hz)) h1 (by simp; omega) fun ys S' hP' hE hlen => ?_
    have := hQ (y :: ys) S' hP' (fun z hz => (List.mem_cons.mp hz).elim (fun e => e ▸ hy) (hE z)) (by simp [hlen])
    simpa using this
theorem plain_d (xs : List PyData) : plain (xs.map .d) = some xs := by
  induction xs with
  | nil => rfl
  | cons x xs ih => simp [plain, ih]
/-! ### numbers -/
theorem log2_lt {n k : Nat} (h : n < 2 ^ k) : n.log2 < k ∨ n = 0 := by
  by_cases hn : n = 0
  · exact .inr hn
  · exact .inl ((Nat.log2_lt hn).mpr h)
theorem fitM_of {i : Int} (h1 : -(2 ^ 250) < i) (h2 : i < 2 ^ 250) : fitM i = true := by
  unfold fitM
  rw [decide_eq_true_eq]
  have h : i.natAbs < 2 ^ 250 := by
    have : (i.natAbs : Int) < 2 ^ 250 := by omega
    exact_mod_cast this
  rcases log2_lt h with q | q
  · omega
  · rw [q]; decide
theorem fitD_of {i : Int} (h1 : -(2 ^ 250) < i) (h2 : i < 2 ^ 250) : fitD i = true := by
  unfold fitD
  rw [decide_eq_true_eq]
  have h : i.natAbs < 2 ^ 250 := by
    have : (i.natAbs : Int) < 2 ^ 250 := by omega
    exact_mod_cast this
  rcases log2_lt h with q | q
  · omega
  · rw [q]; decide
theorem atI_nat {α : Type} {xs : List α} {n : Nat} (h : n < xs.length) : L2.atI xs (n : Int) = xs[n]? := by
  unfold L2.atI L2.ixN
  rw [if_pos (by omega), if_pos (by omega)]
  rfl
theorem atI_mem {α : Type} {xs : List α} {i : Int} (h0 : 0 ≤ i) (h : i < xs.length) : ∃ x, L2.atI xs i = some x ∧ x ∈ xs := by
  obtain ⟨n, rfl⟩ := Int.eq_ofNat_of_zero_le h0
  have hn : n < xs.length := by omega
  exact ⟨xs[n], by rw [atI_nat hn, List.getElem?_eq_getElem hn], List.getElem_mem hn⟩
end Z

namespace W
open PySem PySem.Spec PyProof.Rows L2 Z
def top (i : Nat) : Stmt := PySem.Challenge.pw_fillhandles_k01_cells_and_selections.main.body.getD i (.Pass ⟨0, 0, 0, 0⟩)
def d_is_integer : LDef := ⟨1, 1, [.ret (.and (.isi (.var 0) .int) (.not (.isi (.var 0) .bool)))]⟩
def n_is_integer : List Str := ["value"]
def p_is_integer : List Str := ["value"]
def d_is_word : LDef := ⟨1, 2, [.ret (.and (.isi (.var 0) .str) (.and (.chain .le .le (.lit (.int 1)) (.bi .len [(.var 0)]) (.lit (.int 6))) (.bi .all [(.comp false .seq [(.var 0)] (.one 1) [1] none (.cmp .in_ (.var 1) (.glo "LETTERS" (.str "abcdefghijklmnopqrstuvwxyz"))))])))]⟩
def n_is_word : List Str := ["value", "sign"]
def p_is_word : List Str := ["value"]
def d_is_numbered : LDef := ⟨1, 1, [.ret (.and (.isi (.var 0) .tuple) (.and (.cmp .eq (.bi .len [(.var 0)]) (.lit (.int 2))) (.and (.call 1 [(.ix (.var 0) (.lit (.int 0)))]) (.call 0 [(.ix (.var 0) (.lit (.int 1)))]))))]⟩
def n_is_numbered : List Str := ["value"]
def p_is_numbered : List Str := ["value"]
def d_a_cell : LDef := ⟨1, 1, [.ret (.or (.call 0 [(.var 0)]) (.or (.call 1 [(.var 0)]) (.call 2 [(.var 0)])))]⟩
def n_a_cell : List Str := ["value"]
def p_a_cell : List Str := ["value"]
def d_are_cells : LDef := ⟨3, 4, [.ret (.and (.isi (.var 0) .tuple) (.and (.chain .le .le (.var 1) (.bi .len [(.var 0)]) (.var 2)) (.bi .all [(.comp false .seq [(.var 0)] (.one 3) [3] none (.call 3 [(.var 3)]))])))]⟩
def n_are_cells : List Str := ["value", "least", "most", "cell"]
def p_are_cells : List Str := ["value", "least", "most"]
def d_a_selection : LDef := ⟨1, 1, [.ret (.call 4 [(.var 0), (.lit (.int 1)), (.glo "MOST" (.int 6))])]⟩
def n_a_selection : List Str := ["value"]
def p_a_selection : List Str := ["value"]
def d_is_cell : LDef := ⟨1, 1, [.ret (.call 3 [(.var 0)])]⟩
def n_is_cell : List Str := ["value"]
def p_is_cell : List Str := ["value"]
def d_is_selection : LDef := ⟨1, 1, [.ret (.call 5 [(.var 0)])]⟩
def n_is_selection : List Str := ["value"]
def p_is_selection : List Str := ["value"]
def d__law_source : LDef := ⟨2, 6, [.asg 2 (.bin .add (.bin .mul (.lit (.int 7919)) (.var 1)) (.lit (.int 101))),
    .ite (.cmp .lt (.var 1) (.bi .len [(.var 0)])) [.asg 2 (.ix (.var 0) (.var 1))] [],
    .asg 3 (.tup [(.lit (.int 2147483647)), (.lit (.int 2147483629)), (.lit (.int 2147483587)), (.lit (.int 2147483579)), (.lit (.int 2147483563)), (.lit (.int 2147483549)), (.lit (.int 2147483543)), (.lit (.int 2147483497))]),
    .asg 4 (.ix (.var 3) (.bin .mod (.bi .int [(.var 1)]) (.lit (.int 8)))),
    .asg 5 (.bin .mod (.bi .int [(.bin .add (.bin .mul (.bin .mod (.bi .int [(.var 2)]) (.var 4)) (.lit (.int 48271))) (.bin .mul (.lit (.int 104729)) (.bin .add (.var 1) (.lit (.int 1)))))]) (.var 4)),
    .ite (.cmp .ge (.var 2) (.bin .pow (.lit (.int 10)) (.lit (.int 18)))) [.ret (.lst true [(.bi .int [(.var 2)]), (.var 5), (.var 4)])] [],
    .ret (.lst true [(.lit (.int 0)), (.var 5), (.var 4)])]⟩
def n__law_source : List Str := ["script", "index", "cell_so", "primes", "prime", "mixed"]
def p__law_source : List Str := ["script", "index"]
def d__law_pick : LDef := ⟨2, 3, [.ite (.cmp .gt (.ix (.var 0) (.lit (.int 0))) (.lit (.int 0))) [.asg 2 (.bin .mod (.bi .int [(.ix (.var 0) (.lit (.int 0)))]) (.var 1)),
    .setix (.var 0) (.lit (.int 0)) (.bin .fdiv (.ix (.var 0) (.lit (.int 0))) (.var 1)),
    .ret (.var 2)] [],
    .setix (.var 0) (.lit (.int 1)) (.bin .mod (.bi .int [(.bin .add (.bin .mul (.ix (.var 0) (.lit (.int 1))) (.lit (.int 48271))) (.lit (.int 11)))]) (.ix (.var 0) (.lit (.int 2)))),
    .ret (.bin .mod (.bi .int [(.bin .fdiv (.bin .mod (.bi .int [(.bin .mul (.ix (.var 0) (.lit (.int 1))) (.ix (.var 0) (.lit (.int 1))))]) (.lit (.int 2147483423))) (.lit (.int 7)))]) (.var 1))]⟩
def n__law_pick : List Str := ["source_so", "many", "drawn"]
def p__law_pick : List Str := ["source_so", "many"]
def d__law_chosen : LDef := ⟨2, 2, [.ret (.ix (.var 1) (.call 9 [(.var 0), (.bi .len [(.var 1)])]))]⟩
def n__law_chosen : List Str := ["source_so", "some"]
def p__law_chosen : List Str := ["source_so", "some"]
def d__law_lists : LDef := ⟨0, 1, [.asg 0 (.lst false [(.tup [(.lit (.str "a")), (.lit (.str "b"))]), (.tup [(.lit (.str "a")), (.lit (.str "b")), (.lit (.str "c"))]), (.tup [(.lit (.str "b")), (.lit (.str "a"))]), (.tup [(.lit (.str "c")), (.lit (.str "a")), (.lit (.str "b"))]), (.tup [(.lit (.str "a")), (.lit (.str "c")), (.lit (.str "b")), (.lit (.str "d"))]), (.tup [(.lit (.str "x")), (.lit (.str "a"))]), (.tup [(.lit (.str "b")), (.lit (.str "c"))])]),
    .ret (.bin .add (.var 0) (.lst false [(.tup [(.lit (.str "d")), (.lit (.str "c")), (.lit (.str "b")), (.lit (.str "a"))])]))]⟩
def n__law_lists : List Str := ["some"]
def p__law_lists : List Str := []
def d__law_numbers : LDef := ⟨2, 9, [.asgT [2, 3] [(.call 9 [(.var 0), (.lit (.int 6))]), (.bin .sub (.call 9 [(.var 0), (.lit (.int 9))]) (.lit (.int 4)))],
    .ite (.cmp .eq (.var 2) (.lit (.int 0))) [.asgT [3, 5] [(.bin .add (.bin .mul (.var 3) (.bin .pow (.lit (.int 10)) (.lit (.int 12)))) (.call 9 [(.var 0), (.lit (.int 1000))])), (.bin .sub (.call 9 [(.var 0), (.bin .pow (.lit (.int 10)) (.lit (.int 6)))]) (.bin .mul (.lit (.int 5)) (.bin .pow (.lit (.int 10)) (.lit (.int 5)))))],
    .ret (.comp false .range [(.var 1)] (.one 8) [8] none (.bin .add (.var 3) (.bin .mul (.var 8) (.var 5))))] [],
    .ite (.cmp .lt (.var 2) (.lit (.int 3))) [.asg 5 (.bin .sub (.call 9 [(.var 0), (.lit (.int 7))]) (.lit (.int 3))),
    .ret (.comp false .range [(.var 1)] (.one 8) [8] none (.bin .add (.var 3) (.bin .mul (.var 8) (.var 5))))] [],
    .ite (.cmp .eq (.var 2) (.lit (.int 3))) [.asgT [6, 7] [(.ix (.lst false [(.lit (.int 2)), (.lit (.int 3)), (.neg (.lit (.int 2))), (.neg (.lit (.int 3))), (.lit (.int 5))]) (.call 9 [(.var 0), (.lit (.int 5))])), (.lst true [(.ite (.cmp .ne (.var 3) (.lit (.int 0))) (.var 3) (.lit (.int 1)))])],
    .for .range [(.bin .sub (.var 1) (.lit (.int 1)))] (.one 8) [.app (.var 7) (.bin .mul (.ix (.var 7) (.neg (.lit (.int 1)))) (.var 6))],
    .ret (.frz 7)] [],
    .asg 4 (.ix (.lst false [(.lit (.int 3)), (.lit (.int 9)), (.bin .pow (.lit (.int 10)) (.lit (.int 9)))]) (.call 9 [(.var 0), (.lit (.int 3))])),
    .ret (.comp false .range [(.var 1)] (.one 8) [8] none (.bin .sub (.call 9 [(.var 0), (.bin .add (.bin .mul (.lit (.int 2)) (.var 4)) (.lit (.int 1)))]) (.var 4)))]⟩
def n__law_numbers : List Str := ["source_so", "many", "way", "first", "top", "step", "factor", "found", "k"]
def p__law_numbers : List Str := ["source_so", "many"]
def d__law_some_cells : LDef := ⟨2, 9, [.asg 2 (.call 9 [(.var 0), (.lit (.int 8))]),
    .ite (.cmp .lt (.var 2) (.lit (.int 3))) [.ret (.bi .tuple [(.call 12 [(.var 0), (.var 1)])])] [],
    .ite (.cmp .eq (.var 2) (.lit (.int 3))) [.asg 3 (.ix (.lst false [(.lit (.str "a")), (.lit (.str "box")), (.lit (.str "zz"))]) (.call 9 [(.var 0), (.lit (.int 3))])),
    .ret (.bi .tuple [(.comp false .seq [(.call 12 [(.var 0), (.var 1)])] (.one 8) [8] none (.tup [(.var 3), (.var 8)]))])] [],
    .ite (.cmp .lt (.var 2) (.lit (.int 6))) [.asg 4 (.call 10 [(.var 0), (.call 11 [])]),
    .asgT [5, 6] [(.call 9 [(.var 0), (.bi .len [(.var 4)])]), (.call 9 [(.var 0), (.bi .len [(.var 4)])])],
    .ret (.bi .tuple [(.comp false .range [(.var 1)] (.one 7) [7] none (.ix (.var 4) (.bin .mod (.bi .int [(.bin .add (.var 5) (.bin .mul (.var 7) (.var 6)))]) (.bi .len [(.var 4)]))))])] [],
    .ite (.cmp .eq (.var 2) (.lit (.int 6))) [.ret (.bi .tuple [(.comp false .range [(.var 1)] (.one 7) [7] none (.ix (.lst false [(.lit (.str "a")), (.lit (.str "b")), (.lit (.str "c")), (.lit (.str "d")), (.lit (.str "x")), (.lit (.str "new"))]) (.call 9 [(.var 0), (.lit (.int 6))])))])] [],
    .ret (.bi .tuple [(.comp false .range [(.var 1)] (.one 7) [7] none (.ix (.lst false [(.lit (.int 1)), (.lit (.str "a")), (.tup [(.lit (.str "a")), (.lit (.int 1))]), (.lit (.int 2)), (.lit (.str "new")), (.tup [(.lit (.str "b")), (.lit (.int 1))])]) (.call 9 [(.var 0), (.lit (.int 6))])))])]⟩
def n__law_some_cells : List Str := ["source_so", "many", "way", "word", "words", "first", "step", "k", "number"]
def p__law_some_cells : List Str := ["source_so", "many"]
def d__law_selection : LDef := ⟨1, 5, [.asg 1 (.bin .add (.lit (.int 1)) (.call 9 [(.var 0), (.lit (.int 6))])),
    .ite (.and (.cmp .eq (.var 1) (.lit (.int 4))) (.cmp .eq (.call 9 [(.var 0), (.lit (.int 2))]) (.lit (.int 0)))) [.asg 4 (.comp false .range [(.lit (.int 2))] (.one 3) [3] none (.call 13 [(.var 0), (.lit (.int 2))]))] [.ite (.and (.cmp .eq (.var 1) (.lit (.int 6))) (.cmp .eq (.call 9 [(.var 0), (.lit (.int 2))]) (.lit (.int 0)))) [.asg 4 (.comp false .range [(.lit (.int 2))] (.one 3) [3] none (.call 13 [(.var 0), (.lit (.int 3))]))] [.ite (.and (.cmp .eq (.var 1) (.lit (.int 6))) (.cmp .eq (.call 9 [(.var 0), (.lit (.int 2))]) (.lit (.int 0)))) [.asg 4 (.comp false .range [(.lit (.int 3))] (.one 3) [3] none (.call 13 [(.var 0), (.lit (.int 2))]))] [.asg 4 (.lst false [(.call 13 [(.var 0), (.var 1)])])]]],
    .asg 2 (.tup []),
    .for .range [(.var 1)] (.one 3) [.asg 2 (.bin .add (.var 2) (.tup [(.ix (.ix (.var 4) (.bin .mod (.bi .int [(.var 3)]) (.bi .len [(.var 4)]))) (.bin .fdiv (.var 3) (.bi .len [(.var 4)])))]))],
    .ret (.var 2)]⟩
def n__law_selection : List Str := ["source_so", "many", "found", "k", "parts_so"]
def p__law_selection : List Str := ["source_so"]
def d__law_is_integer : LDef := ⟨1, 1, [.ret (.and (.isi (.var 0) .int) (.not (.isi (.var 0) .bool)))]⟩
def n__law_is_integer : List Str := ["value"]
def p__law_is_integer : List Str := ["value"]
def d__law_is_word : LDef := ⟨1, 2, [.ite (.or (.not (.isi (.var 0) .str)) (.not (.chain .le .le (.lit (.int 1)) (.bi .len [(.var 0)]) (.lit (.int 6))))) [.ret (.lit (.bool false))] [],
    .ret (.cmp .eq (.comp false .seq [(.var 0)] (.one 1) [1] (some (.cmp .nin (.var 1) (.lit (.str "abcdefghijklmnopqrstuvwxyz")))) (.var 1)) (.lst false []))]⟩
def n__law_is_word : List Str := ["value", "sign"]
def p__law_is_word : List Str := ["value"]
def d__law_is_cell : LDef := ⟨1, 1, [.ite (.or (.call 15 [(.var 0)]) (.call 16 [(.var 0)])) [.ret (.lit (.bool true))] [],
    .ite (.or (.not (.isi (.var 0) .tuple)) (.cmp .ne (.bi .len [(.var 0)]) (.lit (.int 2)))) [.ret (.lit (.bool false))] [],
    .ret (.and (.call 16 [(.ix (.var 0) (.lit (.int 0)))]) (.call 15 [(.ix (.var 0) (.lit (.int 1)))]))]⟩
def n__law_is_cell : List Str := ["value"]
def p__law_is_cell : List Str := ["value"]
def d__law_odd : LDef := ⟨1, 2, [.asg 1 (.lst false [(.lit .none), (.lit (.bool true)), (.lit (.bool false)), (.lit (.int 0)), (.neg (.lit (.int 7))), (.bin .pow (.lit (.int 10)) (.lit (.int 39))), (.lit (.str "")), (.lit (.str "a")), (.lit (.str "word")), (.lit (.str "abcdefg")), (.lit (.str "Word")), (.lit (.str "a1")), (.tup []), (.tup [(.lit (.str "a"))]), (.tup [(.lit (.str "a")), (.lit (.int 1))])]),
    .asg 1 (.bin .add (.var 1) (.lst false [(.tup [(.lit (.str "a")), (.lit (.bool true))]), (.tup [(.lit (.str "a")), (.lit (.int 1)), (.lit (.int 2))]), (.lst false [(.lit (.str "a")), (.lit (.int 1))]), (.tup [(.lit (.int 1)), (.lit (.str "a"))]), (.tup [(.lit (.str "")), (.lit (.int 1))]), (.tup [(.lit (.str "abcdefg")), (.lit (.int 1))]), (.tup [(.lit (.str "a")), (.lit (.str "b"))]), (.lst false [(.lit (.int 1))])])),
    .asg 1 (.bin .add (.var 1) (.lst false [(.tup [(.lit (.str "a")), (.lit .none)]), (.lit (.str "a b")), (.tup [(.tup [(.lit (.str "a")), (.lit (.int 1))])])])),
    .ret (.ix (.var 1) (.call 9 [(.var 0), (.bi .len [(.var 1)])]))]⟩
def n__law_odd : List Str := ["source_so", "some"]
def p__law_odd : List Str := ["source_so"]
def d_law : LDef := ⟨1, 11, [.for .range [(.lit (.int 10))] (.one 1) [.asg 2 (.call 8 [(.var 0), (.var 1)]),
    .for .range [(.lit (.int 8))] (.one 3) [.asgT [4, 5] [(.call 14 [(.var 2)]), (.call 18 [(.var 2)])],
    .ite (.or (.cmp .isn (.call 7 [(.var 4)]) (.lit (.bool true))) (.cmp .ne (.comp false .seq [(.var 4)] (.one 10) [10] (some (.cmp .isn (.call 6 [(.var 10)]) (.lit (.bool true)))) (.lit (.int 1))) (.lst false []))) [.ret (.lit (.bool false))] [],
    .asg 6 (.call 6 [(.var 5)]),
    .ite (.or (.not (.isi (.var 6) .bool)) (.cmp .ne (.var 6) (.call 17 [(.var 5)]))) [.ret (.lit (.bool false))] [],
    .asg 7 (.call 9 [(.var 2), (.bin .add (.bi .len [(.var 4)]) (.lit (.int 1)))]),
    .for .seq [(.lst false [(.bin .add (.bin .add (.sl (.var 4) none (some (.var 7))) (.tup [(.var 5)])) (.sl (.var 4) (some (.bin .add (.var 7) (.lit (.int 1)))) none)), (.bin .add (.var 4) (.tup [(.var 5)])), (.bi .list [(.var 4)]), (.var 5), (.bin .add (.var 4) (.sl (.var 4) none (some (.lit (.int 1)))))])] (.one 8) [.asg 9 (.and (.isi (.var 8) .tuple) (.chain .le .le (.lit (.int 1)) (.bi .len [(.var 8)]) (.lit (.int 6)))),
    .asg 9 (.and (.var 9) (.cmp .eq (.comp false .seq [(.var 8)] (.one 10) [10] (some (.not (.call 17 [(.var 10)]))) (.lit (.int 1))) (.lst false []))),
    .asg 6 (.call 7 [(.var 8)]),
    .ite (.or (.not (.isi (.var 6) .bool)) (.cmp .ne (.var 6) (.var 9))) [.ret (.lit (.bool false))] []]]],
    .ret (.and (.cmp .is (.call 7 [(.bin .mul (.tup [(.lit (.int 1))]) (.lit (.int 6)))]) (.lit (.bool true))) (.and (.cmp .is (.call 7 [(.bin .mul (.tup [(.lit (.int 1))]) (.lit (.int 7)))]) (.lit (.bool false))) (.cmp .is (.call 7 [(.tup [])]) (.lit (.bool false)))))]⟩
def n_law : List Str := ["script", "k", "source_so", "turn_so", "sel", "odd", "told", "place", "value", "due", "cell_so"]
def p_law : List Str := ["script"]
def tab : Tab
  | 0 => some d_is_integer
  | 1 => some d_is_word
  | 2 => some d_is_numbered
  | 3 => some d_a_cell
  | 4 => some d_are_cells
  | 5 => some d_a_selection
  | 6 => some d_is_cell
  | 7 => some d_is_selection
  | 8 => some d__law_source
  | 9 => some d__law_pick
  | 10 => some d__law_chosen
  | 11 => some d__law_lists
  | 12 => some d__law_numbers
  | 13 => some d__law_some_cells
  | 14 => some d__law_selection
  | 15 => some d__law_is_integer
  | 16 => some d__law_is_word
  | 17 => some d__law_is_cell
  | 18 => some d__law_odd
  | 19 => some d_law
  | _ => none
def md : Md := ⟨[("is_integer", 0), ("is_word", 1), ("is_numbered", 2), ("a_cell", 3), ("are_cells", 4), ("a_selection", 5), ("is_cell", 6), ("is_selection", 7), ("_law_source", 8), ("_law_pick", 9), ("_law_chosen", 10), ("_law_lists", 11), ("_law_numbers", 12), ("_law_some_cells", 13), ("_law_selection", 14), ("_law_is_integer", 15), ("_law_is_word", 16), ("_law_is_cell", 17), ("_law_odd", 18), ("law", 19)], [("LETTERS", (.str "abcdefghijklmnopqrstuvwxyz")), ("MOST", (.int 6))], [], ["all", "bool", "int", "isinstance", "len", "list", "range", "str", "tuple"]⟩
theorem sc_is_integer : FnScope n_is_integer p_is_integer (defScope (top 3)) := ⟨rfl, rfl, rfl, by decide +kernel, rfl, by decide +kernel, by decide +kernel⟩
theorem ck_is_integer : chkB (md.sc n_is_integer (defScope (top 3))) d_is_integer.body (defBody (top 3)) = true := by decide +kernel
def h_is_integer : He.DefD := ⟨("is_integer", none), "is_integer", "is_integer", defArgs (top 3), defBody (top 3), defScope (top 3), [], []⟩
theorem sc_is_word : FnScope n_is_word p_is_word (defScope (top 4)) := ⟨rfl, rfl, rfl, by decide +kernel, rfl, by decide +kernel, by decide +kernel⟩
theorem ck_is_word : chkB (md.sc n_is_word (defScope (top 4))) d_is_word.body (defBody (top 4)) = true := by decide +kernel
def h_is_word : He.DefD := ⟨("is_word", none), "is_word", "is_word", defArgs (top 4), defBody (top 4), defScope (top 4), [], []⟩
theorem sc_is_numbered : FnScope n_is_numbered p_is_numbered (defScope (top 5)) := ⟨rfl, rfl, rfl, by decide +kernel, rfl, by decide +kernel, by decide +kernel⟩
theorem ck_is_numbered : chkB (md.sc n_is_numbered (defScope (top 5))) d_is_numbered.body (defBody (top 5)) = true := by decide +kernel
def h_is_numbered : He.DefD := ⟨("is_numbered", none), "is_numbered", "is_numbered", defArgs (top 5), defBody (top 5), defScope (top 5), [], []⟩
theorem sc_a_cell : FnScope n_a_cell p_a_cell (defScope (top 6)) := ⟨rfl, rfl, rfl, by decide +kernel, rfl, by decide +kernel, by decide +kernel⟩
theorem ck_a_cell : chkB (md.sc n_a_cell (defScope (top 6))) d_a_cell.body (defBody (top 6)) = true := by decide +kernel
def h_a_cell : He.DefD := ⟨("a_cell", none), "a_cell", "a_cell", defArgs (top 6), defBody (top 6), defScope (top 6), [], []⟩
theorem sc_are_cells : FnScope n_are_cells p_are_cells (defScope (top 7)) := ⟨rfl, rfl, rfl, by decide +kernel, rfl, by decide +kernel, by decide +kernel⟩
theorem ck_are_cells : chkB (md.sc n_are_cells (defScope (top 7))) d_are_cells.body (defBody (top 7)) = true := by decide +kernel
def h_are_cells : He.DefD := ⟨("are_cells", none), "are_cells", "are_cells", defArgs (top 7), defBody (top 7), defScope (top 7), [], []⟩
theorem sc_a_selection : FnScope n_a_selection p_a_selection (defScope (top 8)) := ⟨rfl, rfl, rfl, by decide +kernel, rfl, by decide +kernel, by decide +kernel⟩
theorem ck_a_selection : chkB (md.sc n_a_selection (defScope (top 8))) d_a_selection.body (defBody (top 8)) = true := by decide +kernel
def h_a_selection : He.DefD := ⟨("a_selection", none), "a_selection", "a_selection", defArgs (top 8), defBody (top 8), defScope (top 8), [], []⟩
theorem sc_is_cell : FnScope n_is_cell p_is_cell (defScope (top 10)) := ⟨rfl, rfl, rfl, by decide +kernel, rfl, by decide +kernel, by decide +kernel⟩
theorem ck_is_cell : chkB (md.sc n_is_cell (defScope (top 10))) d_is_cell.body (defBody (top 10)) = true := by decide +kernel
def h_is_cell : He.DefD := ⟨("is_cell", none), "is_cell", "is_cell", defArgs (top 10), defBody (top 10), defScope (top 10), [], []⟩
theorem sc_is_selection : FnScope n_is_selection p_is_selection (defScope (top 11)) := ⟨rfl, rfl, rfl, by decide +kernel, rfl, by decide +kernel, by decide +kernel⟩
theorem ck_is_selection : chkB (md.sc n_is_selection (defScope (top 11))) d_is_selection.body (defBody (top 11)) = true := by decide +kernel
def h_is_selection : He.DefD := ⟨("is_selection", none), "is_selection", "is_selection", defArgs (top 11), defBody (top 11), defScope (top 11), [], []⟩
theorem sc__law_source : FnScope n__law_source p__law_source (defScope (top 13)) := ⟨rfl, rfl, rfl, by decide +kernel, rfl, by decide +kernel, by decide +kernel⟩
theorem ck__law_source : chkB (md.sc n__law_source (defScope (top 13))) d__law_source.body (defBody (top 13)) = true := by decide +kernel
def h__law_source : He.DefD := ⟨("_law_source", none), "_law_source", "_law_source", defArgs (top 13), defBody (top 13), defScope (top 13), [], []⟩
theorem sc__law_pick : FnScope n__law_pick p__law_pick (defScope (top 14)) := ⟨rfl, rfl, rfl, by decide +kernel, rfl, by decide +kernel, by decide +kernel⟩
theorem ck__law_pick : chkB (md.sc n__law_pick (defScope (top 14))) d__law_pick.body (defBody (top 14)) = true := by decide +kernel
def h__law_pick : He.DefD := ⟨("_law_pick", none), "_law_pick", "_law_pick", defArgs (top 14), defBody (top 14), defScope (top 14), [], []⟩
theorem sc__law_chosen : FnScope n__law_chosen p__law_chosen (defScope (top 15)) := ⟨rfl, rfl, rfl, by decide +kernel, rfl, by decide +kernel, by decide +kernel⟩
theorem ck__law_chosen : chkB (md.sc n__law_chosen (defScope (top 15))) d__law_chosen.body (defBody (top 15)) = true := by decide +kernel
def h__law_chosen : He.DefD := ⟨("_law_chosen", none), "_law_chosen", "_law_chosen", defArgs (top 15), defBody (top 15), defScope (top 15), [], []⟩
theorem sc__law_lists : FnScope n__law_lists p__law_lists (defScope (top 16)) := ⟨rfl, rfl, rfl, by decide +kernel, rfl, by decide +kernel, by decide +kernel⟩
theorem ck__law_lists : chkB (md.sc n__law_lists (defScope (top 16))) d__law_lists.body (defBody (top 16)) = true := by decide +kernel
def h__law_lists : He.DefD := ⟨("_law_lists", none), "_law_lists", "_law_lists", defArgs (top 16), defBody (top 16), defScope (top 16), [], []⟩
theorem sc__law_numbers : FnScope n__law_numbers p__law_numbers (defScope (top 17)) := ⟨rfl, rfl, rfl, by decide +kernel, rfl, by decide +kernel, by decide +kernel⟩
theorem ck__law_numbers : chkB (md.sc n__law_numbers (defScope (top 17))) d__law_numbers.body (defBody (top 17)) = true := by decide +kernel
def h__law_numbers : He.DefD := ⟨("_law_numbers", none), "_law_numbers", "_law_numbers", defArgs (top 17), defBody (top 17), defScope (top 17), [], []⟩
theorem sc__law_some_cells : FnScope n__law_some_cells p__law_some_cells (defScope (top 18)) := ⟨rfl, rfl, rfl, by decide +kernel, rfl, by decide +kernel, by decide +kernel⟩
theorem ck__law_some_cells : chkB (md.sc n__law_some_cells (defScope (top 18))) d__law_some_cells.body (defBody (top 18)) = true := by decide +kernel
def h__law_some_cells : He.DefD := ⟨("_law_some_cells", none), "_law_some_cells", "_law_some_cells", defArgs (top 18), defBody (top 18), defScope (top 18), [], []⟩
theorem sc__law_selection : FnScope n__law_selection p__law_selection (defScope (top 19)) := ⟨rfl, rfl, rfl, by decide +kernel, rfl, by decide +kernel, by decide +kernel⟩
theorem ck__law_selection : chkB (md.sc n__law_selection (defScope (top 19))) d__law_selection.body (defBody (top 19)) = true := by decide +kernel
def h__law_selection : He.DefD := ⟨("_law_selection", none), "_law_selection", "_law_selection", defArgs (top 19), defBody (top 19), defScope (top 19), [], []⟩
theorem sc__law_is_integer : FnScope n__law_is_integer p__law_is_integer (defScope (top 20)) := ⟨rfl, rfl, rfl, by decide +kernel, rfl, by decide +kernel, by decide +kernel⟩
theorem ck__law_is_integer : chkB (md.sc n__law_is_integer (defScope (top 20))) d__law_is_integer.body (defBody (top 20)) = true := by decide +kernel
def h__law_is_integer : He.DefD := ⟨("_law_is_integer", none), "_law_is_integer", "_law_is_integer", defArgs (top 20), defBody (top 20), defScope (top 20), [], []⟩
theorem sc__law_is_word : FnScope n__law_is_word p__law_is_word (defScope (top 21)) := ⟨rfl, rfl, rfl, by decide +kernel, rfl, by decide +kernel, by decide +kernel⟩
theorem ck__law_is_word : chkB (md.sc n__law_is_word (defScope (top 21))) d__law_is_word.body (defBody (top 21)) = true := by decide +kernel
def h__law_is_word : He.DefD := ⟨("_law_is_word", none), "_law_is_word", "_law_is_word", defArgs (top 21), defBody (top 21), defScope (top 21), [], []⟩
theorem sc__law_is_cell : FnScope n__law_is_cell p__law_is_cell (defScope (top 22)) := ⟨rfl, rfl, rfl, by decide +kernel, rfl, by decide +kernel, by decide +kernel⟩
theorem ck__law_is_cell : chkB (md.sc n__law_is_cell (defScope (top 22))) d__law_is_cell.body (defBody (top 22)) = true := by decide +kernel
def h__law_is_cell : He.DefD := ⟨("_law_is_cell", none), "_law_is_cell", "_law_is_cell", defArgs (top 22), defBody (top 22), defScope (top 22), [], []⟩
theorem sc__law_odd : FnScope n__law_odd p__law_odd (defScope (top 23)) := ⟨rfl, rfl, rfl, by decide +kernel, rfl, by decide +kernel, by decide +kernel⟩
theorem ck__law_odd : chkB (md.sc n__law_odd (defScope (top 23))) d__law_odd.body (defBody (top 23)) = true := by decide +kernel
def h__law_odd : He.DefD := ⟨("_law_odd", none), "_law_odd", "_law_odd", defArgs (top 23), defBody (top 23), defScope (top 23), [], []⟩
theorem sc_law : FnScope n_law p_law (defScope (top 24)) := ⟨rfl, rfl, rfl, by decide +kernel, rfl, by decide +kernel, by decide +kernel⟩
theorem ck_law : chkB (md.sc n_law (defScope (top 24))) d_law.body (defBody (top 24)) = true := by decide +kernel
def h_law : He.DefD := ⟨("law", none), "law", "law", defArgs (top 24), defBody (top 24), defScope (top 24), [], []⟩
def fn : List He.DefD := [h_is_integer, h_is_word, h_is_numbered, h_a_cell, h_are_cells, h_a_selection, h_is_cell, h_is_selection, h__law_source, h__law_pick, h__law_chosen, h__law_lists, h__law_numbers, h__law_some_cells, h__law_selection, h__law_is_integer, h__law_is_word, h__law_is_cell, h__law_odd, h_law]
def fa : List He.Fa := [.glo "is_integer", .glo "is_word", .glo "is_numbered", .glo "a_cell", .glo "are_cells", .glo "a_selection", .glo "is_cell", .glo "is_selection", .glo "_law_source", .glo "_law_pick", .glo "_law_chosen", .glo "_law_lists", .glo "_law_numbers", .glo "_law_some_cells", .glo "_law_selection", .glo "_law_is_integer", .glo "_law_is_word", .glo "_law_is_cell", .glo "_law_odd", .glo "law", .free "all", .free "bool", .free "int", .free "isinstance", .free "len", .free "list", .free "range", .free "str", .free "tuple", .str "LETTERS" "abcdefghijklmnopqrstuvwxyz", .int "MOST" 6]
section
variable {K : PySem.W.Frag} {h : Heap} {mg : Str → Option Value}
theorem con_ (X : K.In h) (G : h.Ns mainGlobals mg) (c : He.SaysD fa fn K) : ∀ x d, (match md.cons.lookup x with
    | some e => pdEq d e
    | none => false) = true → ∃ u v, mg x = some u ∧ RelV v u ∧ ∀ M H, Rep K M H d v := by
  intro x d hx
  split at hx
  · rename_i e he
    have e1 := pdEq_ok hx
    subst e1
    have hm := PySem.mem_of_lookup he
    simp only [md, List.mem_cons, Prod.mk.injEq, List.not_mem_nil, or_false] at hm
    rcases hm with ⟨rfl, rfl⟩ | ⟨rfl, rfl⟩
    · obtain ⟨t, ht⟩ := He.str_ok X G (c.fact 29 (f := .str "LETTERS" "abcdefghijklmnopqrstuvwxyz") rfl)
      exact ⟨_, .str "abcdefghijklmnopqrstuvwxyz", ht, ⟨t, rfl⟩, fun _ _ => rfl⟩
    · obtain ⟨t, ht⟩ := He.int_ok X G (c.fact 30 (f := .int "MOST" 6) rfl)
      exact ⟨_, .int 6, ht, ⟨t, rfl⟩, fun _ _ => rfl⟩
  · cases hx
theorem blt_ (X : K.In h) (G : h.Ns mainGlobals mg) (c : He.SaysD fa fn K) : ∀ x, x ∈ md.blt → mg x = none := by
  intro x hx
  simp only [md, List.mem_cons, List.not_mem_nil, or_false] at hx
  rcases hx with rfl | rfl | rfl | rfl | rfl | rfl | rfl | rfl | rfl
  · exact He.free_ok X G (c.fact 20 (f := .free "all") rfl)
  · exact He.free_ok X G (c.fact 21 (f := .free "bool") rfl)
  · exact He.free_ok X G (c.fact 22 (f := .free "int") rfl)
  · exact He.free_ok X G (c.fact 23 (f := .free "isinstance") rfl)
  · exact He.free_ok X G (c.fact 24 (f := .free "len") rfl)
  · exact He.free_ok X G (c.fact 25 (f := .free "list") rfl)
  · exact He.free_ok X G (c.fact 26 (f := .free "range") rfl)
  · exact He.free_ok X G (c.fact 27 (f := .free "str") rfl)
  · exact He.free_ok X G (c.fact 28 (f := .free "tuple") rfl)
theorem exc_ (X : K.In h) (G : h.Ns mainGlobals mg) (c : He.SaysD fa fn K) : ∀ x, x ∈ md.excs → ∃ C : Addr, mg x = some (.ref C) ∧ PySem.W.excIn K C [.type "ValueError", .type "Exception", .type "BaseException", .type "object"] "ValueError.__new__" = true ∧ PySem.W.keepIn K (.ref C) = true ∧ PySem.W.subIn K (.ref C) (.type "BaseException") = some true ∧ PySem.W.typeIn K (.ref C) = some (.type "type") := by
  intro x hx
  simp only [md, List.mem_cons, List.not_mem_nil, or_false] at hx
theorem df_is_integer (X : K.In h) (G : h.Ns mainGlobals mg) (c : He.SaysD fa fn K) : DefOk K mg md tab "is_integer" 0 := by
  obtain ⟨fd, D⟩ := c.def_ 0 (d := h_is_integer) rfl
  exact ⟨_, _, _, _, _, _, fd, n_is_integer, p_is_integer, d_is_integer, He.glo_ok X G (c.fact 0 (f := .glo "is_integer") rfl), D.bindsN (ps := p_is_integer) (fun _ _ _ _ _ _ us hl => match us, hl with | [_], _ => rfl), D, sc_is_integer, rfl, rfl, rfl, ck_is_integer⟩
theorem df_is_word (X : K.In h) (G : h.Ns mainGlobals mg) (c : He.SaysD fa fn K) : DefOk K mg md tab "is_word" 1 := by
  obtain ⟨fd, D⟩ := c.def_ 1 (d := h_is_word) rfl
  exact ⟨_, _, _, _, _, _, fd, n_is_word, p_is_word, d_is_word, He.glo_ok X G (c.fact 1 (f := .glo "is_word") rfl), D.bindsN (ps := p_is_word) (fun _ _ _ _ _ _ us hl => match us, hl with | [_], _ => rfl), D, sc_is_word, rfl, rfl, rfl, ck_is_word⟩
theorem df_is_numbered (X : K.In h) (G : h.Ns mainGlobals mg) (c : He.SaysD fa fn K) : DefOk K mg md tab "is_numbered" 2 := by
  obtain ⟨fd, D⟩ := c.def_ 2 (d := h_is_numbered) rfl
  exact ⟨_, _, _, _, _, _, fd, n_is_numbered, p_is_numbered, d_is_numbered, He.glo_ok X G (c.fact 2 (f := .glo "is_numbered") rfl), D.bindsN (ps := p_is_numbered) (fun _ _ _ _ _ _ us hl => match us, hl with | [_], _ => rfl), D, sc_is_numbered, rfl, rfl, rfl, ck_is_numbered⟩
theorem df_a_cell (X : K.In h) (G : h.Ns mainGlobals mg) (c : He.SaysD fa fn K) : DefOk K mg md tab "a_cell" 3 := by
  obtain ⟨fd, D⟩ := c.def_ 3 (d := h_a_cell) rfl
  exact ⟨_, _, _, _, _, _, fd, n_a_cell, p_a_cell, d_a_cell, He.glo_ok X G (c.fact 3 (f := .glo "a_cell") rfl), D.bindsN (ps := p_a_cell) (fun _ _ _ _ _ _ us hl => match us, hl with | [_], _ => rfl), D, sc_a_cell, rfl, rfl, rfl, ck_a_cell⟩
theorem df_are_cells (X : K.In h) (G : h.Ns mainGlobals mg) (c : He.SaysD fa fn K) : DefOk K mg md tab "are_cells" 4 := by
  obtain ⟨fd, D⟩ := c.def_ 4 (d := h_are_cells) rfl
  exact ⟨_, _, _, _, _, _, fd, n_are_cells, p_are_cells, d_are_cells, He.glo_ok X G (c.fact 4 (f := .glo "are_cells") rfl), D.bindsN (ps := p_are_cells) (fun _ _ _ _ _ _ us hl => match us, hl with | [_, _, _], _ => rfl), D, sc_are_cells, rfl, rfl, rfl, ck_are_cells⟩
theorem df_a_selection (X : K.In h) (G : h.Ns mainGlobals mg) (c : He.SaysD fa fn K) : DefOk K mg md tab "a_selection" 5 := by
  obtain ⟨fd, D⟩ := c.def_ 5 (d := h_a_selection) rfl
  exact ⟨_, _, _, _, _, _, fd, n_a_selection, p_a_selection, d_a_selection, He.glo_ok X G (c.fact 5 (f := .glo "a_selection") rfl), D.bindsN (ps := p_a_selection) (fun _ _ _ _ _ _ us hl => match us, hl with | [_], _ => rfl), D, sc_a_selection, rfl, rfl, rfl, ck_a_selection⟩
theorem df_is_cell (X : K.In h) (G : h.Ns mainGlobals mg) (c : He.SaysD fa fn K) : DefOk K mg md tab "is_cell" 6 := by
  obtain ⟨fd, D⟩ := c.def_ 6 (d := h_is_cell) rfl
  exact ⟨_, _, _, _, _, _, fd, n_is_cell, p_is_cell, d_is_cell, He.glo_ok X G (c.fact 6 (f := .glo "is_cell") rfl), D.bindsN (ps := p_is_cell) (fun _ _ _ _ _ _ us hl => match us, hl with | [_], _ => rfl), D, sc_is_cell, rfl, rfl, rfl, ck_is_cell⟩
theorem df_is_selection (X : K.In h) (G : h.Ns mainGlobals mg) (c : He.SaysD fa fn K) : DefOk K mg md tab "is_selection" 7 := by
  obtain ⟨fd, D⟩ := c.def_ 7 (d := h_is_selection) rfl
  exact ⟨_, _, _, _, _, _, fd, n_is_selection, p_is_selection, d_is_selection, He.glo_ok X G (c.fact 7 (f := .glo "is_selection") rfl), D.bindsN (ps := p_is_selection) (fun _ _ _ _ _ _ us hl => match us, hl with | [_], _ => rfl), D, sc_is_selection, rfl, rfl, rfl, ck_is_selection⟩
theorem df__law_source (X : K.In h) (G : h.Ns mainGlobals mg) (c : He.SaysD fa fn K) : DefOk K mg md tab "_law_source" 8 := by
  obtain ⟨fd, D⟩ := c.def_ 8 (d := h__law_source) rfl
  exact ⟨_, _, _, _, _, _, fd, n__law_source, p__law_source, d__law_source, He.glo_ok X G (c.fact 8 (f := .glo "_law_source") rfl), D.bindsN (ps := p__law_source) (fun _ _ _ _ _ _ us hl => match us, hl with | [_, _], _ => rfl), D, sc__law_source, rfl, rfl, rfl, ck__law_source⟩
theorem df__law_pick (X : K.In h) (G : h.Ns mainGlobals mg) (c : He.SaysD fa fn K) : DefOk K mg md tab "_law_pick" 9 := by
  obtain ⟨fd, D⟩ := c.def_ 9 (d := h__law_pick) rfl
  exact ⟨_, _, _, _, _, _, fd, n__law_pick, p__law_pick, d__law_pick, He.glo_ok X G (c.fact 9 (f := .glo "_law_pick") rfl), D.bindsN (ps := p__law_pick) (fun _ _ _ _ _ _ us hl => match us, hl with | [_, _], _ => rfl), D, sc__law_pick, rfl, rfl, rfl, ck__law_pick⟩
theorem df__law_chosen (X : K.In h) (G : h.Ns mainGlobals mg) (c : He.SaysD fa fn K) : DefOk K mg md tab "_law_chosen" 10 := by
  obtain ⟨fd, D⟩ := c.def_ 10 (d := h__law_chosen) rfl
  exact ⟨_, _, _, _, _, _, fd, n__law_chosen, p__law_chosen, d__law_chosen, He.glo_ok X G (c.fact 10 (f := .glo "_law_chosen") rfl), D.bindsN (ps := p__law_chosen) (fun _ _ _ _ _ _ us hl => match us, hl with | [_, _], _ => rfl), D, sc__law_chosen, rfl, rfl, rfl, ck__law_chosen⟩
theorem df__law_lists (X : K.In h) (G : h.Ns mainGlobals mg) (c : He.SaysD fa fn K) : DefOk K mg md tab "_law_lists" 11 := by
  obtain ⟨fd, D⟩ := c.def_ 11 (d := h__law_lists) rfl
  exact ⟨_, _, _, _, _, _, fd, n__law_lists, p__law_lists, d__law_lists, He.glo_ok X G (c.fact 11 (f := .glo "_law_lists") rfl), D.bindsN (ps := p__law_lists) (fun _ _ _ _ _ _ us hl => match us, hl with | [], _ => rfl), D, sc__law_lists, rfl, rfl, rfl, ck__law_lists⟩
theorem df__law_numbers (X : K.In h) (G : h.Ns mainGlobals mg) (c : He.SaysD fa fn K) : DefOk K mg md tab "_law_numbers" 12 := by
  obtain ⟨fd, D⟩ := c.def_ 12 (d := h__law_numbers) rfl
  exact ⟨_, _, _, _, _, _, fd, n__law_numbers, p__law_numbers, d__law_numbers, He.glo_ok X G (c.fact 12 (f := .glo "_law_numbers") rfl), D.bindsN (ps := p__law_numbers) (fun _ _ _ _ _ _ us hl => match us, hl with | [_, _], _ => rfl), D, sc__law_numbers, rfl, rfl, rfl, ck__law_numbers⟩
theorem df__law_some_cells (X : K.In h) (G : h.Ns mainGlobals mg) (c : He.SaysD fa fn K) : DefOk K mg md tab "_law_some_cells" 13 := by
  obtain ⟨fd, D⟩ := c.def_ 13 (d := h__law_some_cells) rfl
  exact ⟨_, _, _, _, _, _, fd, n__law_some_cells, p__law_some_cells, d__law_some_cells, He.glo_ok X G (c.fact 13 (f := .glo "_law_some_cells") rfl), D.bindsN (ps := p__law_some_cells) (fun _ _ _ _ _ _ us hl => match us, hl with | [_, _], _ => rfl), D, sc__law_some_cells, rfl, rfl, rfl, ck__law_some_cells⟩
theorem df__law_selection (X : K.In h) (G : h.Ns mainGlobals mg) (c : He.SaysD fa fn K) : DefOk K mg md tab "_law_selection" 14 := by
  obtain ⟨fd, D⟩ := c.def_ 14 (d := h__law_selection) rfl
  exact ⟨_, _, _, _, _, _, fd, n__law_selection, p__law_selection, d__law_selection, He.glo_ok X G (c.fact 14 (f := .glo "_law_selection") rfl), D.bindsN (ps := p__law_selection) (fun _ _ _ _ _ _ us hl => match us, hl with | [_], _ => rfl), D, sc__law_selection, rfl, rfl, rfl, ck__law_selection⟩
theorem df__law_is_integer (X : K.In h) (G : h.Ns mainGlobals mg) (c : He.SaysD fa fn K) : DefOk K mg md tab "_law_is_integer" 15 := by
  obtain ⟨fd, D⟩ := c.def_ 15 (d := h__law_is_integer) rfl
  exact ⟨_, _, _, _, _, _, fd, n__law_is_integer, p__law_is_integer, d__law_is_integer, He.glo_ok X G (c.fact 15 (f := .glo "_law_is_integer") rfl), D.bindsN (ps := p__law_is_integer) (fun _ _ _ _ _ _ us hl => match us, hl with | [_], _ => rfl), D, sc__law_is_integer, rfl, rfl, rfl, ck__law_is_integer⟩
theorem df__law_is_word (X : K.In h) (G : h.Ns mainGlobals mg) (c : He.SaysD fa fn K) : DefOk K mg md tab "_law_is_word" 16 := by
  obtain ⟨fd, D⟩ := c.def_ 16 (d := h__law_is_word) rfl
  exact ⟨_, _, _, _, _, _, fd, n__law_is_word, p__law_is_word, d__law_is_word, He.glo_ok X G (c.fact 16 (f := .glo "_law_is_word") rfl), D.bindsN (ps := p__law_is_word) (fun _ _ _ _ _ _ us hl => match us, hl with | [_], _ => rfl), D, sc__law_is_word, rfl, rfl, rfl, ck__law_is_word⟩
theorem df__law_is_cell (X : K.In h) (G : h.Ns mainGlobals mg) (c : He.SaysD fa fn K) : DefOk K mg md tab "_law_is_cell" 17 := by
  obtain ⟨fd, D⟩ := c.def_ 17 (d := h__law_is_cell) rfl
  exact ⟨_, _, _, _, _, _, fd, n__law_is_cell, p__law_is_cell, d__law_is_cell, He.glo_ok X G (c.fact 17 (f := .glo "_law_is_cell") rfl), D.bindsN (ps := p__law_is_cell) (fun _ _ _ _ _ _ us hl => match us, hl with | [_], _ => rfl), D, sc__law_is_cell, rfl, rfl, rfl, ck__law_is_cell⟩
theorem df__law_odd (X : K.In h) (G : h.Ns mainGlobals mg) (c : He.SaysD fa fn K) : DefOk K mg md tab "_law_odd" 18 := by
  obtain ⟨fd, D⟩ := c.def_ 18 (d := h__law_odd) rfl
  exact ⟨_, _, _, _, _, _, fd, n__law_odd, p__law_odd, d__law_odd, He.glo_ok X G (c.fact 18 (f := .glo "_law_odd") rfl), D.bindsN (ps := p__law_odd) (fun _ _ _ _ _ _ us hl => match us, hl with | [_], _ => rfl), D, sc__law_odd, rfl, rfl, rfl, ck__law_odd⟩
theorem df_law (X : K.In h) (G : h.Ns mainGlobals mg) (c : He.SaysD fa fn K) : DefOk K mg md tab "law" 19 := by
  obtain ⟨fd, D⟩ := c.def_ 19 (d := h_law) rfl
  exact ⟨_, _, _, _, _, _, fd, n_law, p_law, d_law, He.glo_ok X G (c.fact 19 (f := .glo "law") rfl), D.bindsN (ps := p_law) (fun _ _ _ _ _ _ us hl => match us, hl with | [_], _ => rfl), D, sc_law, rfl, rfl, rfl, ck_law⟩
theorem dfs_ (X : K.In h) (G : h.Ns mainGlobals mg) (c : He.SaysD fa fn K) : ∀ x n, md.fns.lookup x = some n → DefOk K mg md tab x n := by
  intro x n hx
  have hm := PySem.mem_of_lookup hx
  simp only [md, List.mem_cons, Prod.mk.injEq, List.not_mem_nil, or_false] at hm
  rcases hm with ⟨rfl, rfl⟩ | ⟨rfl, rfl⟩ | ⟨rfl, rfl⟩ | ⟨rfl, rfl⟩ | ⟨rfl, rfl⟩ | ⟨rfl, rfl⟩ | ⟨rfl, rfl⟩ | ⟨rfl, rfl⟩ | ⟨rfl, rfl⟩ | ⟨rfl, rfl⟩ | ⟨rfl, rfl⟩ | ⟨rfl, rfl⟩ | ⟨rfl, rfl⟩ | ⟨rfl, rfl⟩ | ⟨rfl, rfl⟩ | ⟨rfl, rfl⟩ | ⟨rfl, rfl⟩ | ⟨rfl, rfl⟩ | ⟨rfl, rfl⟩ | ⟨rfl, rfl⟩
  · exact df_is_integer X G c
  · exact df_is_word X G c
  · exact df_is_numbered X G c
  · exact df_a_cell X G c
  · exact df_are_cells X G c
  · exact df_a_selection X G c
  · exact df_is_cell X G c
  · exact df_is_selection X G c
  · exact df__law_source X G c
  · exact df__law_pick X G c
  · exact df__law_chosen X G c
  · exact df__law_lists X G c
  · exact df__law_numbers X G c
  · exact df__law_some_cells X G c
  · exact df__law_selection X G c
  · exact df__law_is_integer X G c
  · exact df__law_is_word X G c
  · exact df__law_is_cell X G c
  · exact df__law_odd X G c
  · exact df_law X G c
end
section
variable {P : Program} {w : World} {K : PySem.W.Frag} {h : Heap} {mg : Str → Option Value} {f : Addr}
theorem facts (k : Nat) (X : K.In h) (G : h.Ns mainGlobals mg) (hfa : mg ("law" : Str) = some (.ref f)) (c : He.SaysD fa fn K) :
    ∃ fd : FuncData, (∀ (s : Shared) (v : Value), BindsTo s fd ⟨[v], []⟩ [("script", v)]) ∧ ∀ base : Heap, FnOk P w K mg base (L2.CX P w) (k + 1) f fd ["script"] (spG K mg [] (callF tab (k + 1) 19)) := by
  obtain ⟨fd, D⟩ := c.def_ 19 (d := h_law) rfl
  have e := hfa.symm.trans (He.glo_ok X G (c.fact 19 (f := .glo "law") rfl))
  cases e
  have b := D.bindsA (ps := ["script"]) (fun _ _ _ _ _ _ us hl => match us, hl with | [_], _ => rfl)
  exact ⟨fd, fun s v => b s [v] rfl, fun base => one_def (m := md) D sc_law rfl rfl rfl ck_law (defs_ok (con_ X G c) (blt_ X G c) (exc_ X G c) (dfs_ X G c) k _ _)⟩
end
end W

namespace W
open PySem Z
/-! ### what the validators say -/
def isIntX : PyData → Bool
  | .int _ => true
  | _ => false
def inAl (c : Nat) : Bool := decide (c ∈ (("abcdefghijklmnopqrstuvwxyz" : Str).cps.toList))
def wordS (s : Str) : Bool := decide (1 ≤ s.cps.size) && decide (s.cps.size ≤ 6) && s.cps.toList.all inAl
def isWordX : PyData → Bool
  | .str s => wordS s
  | _ => false
def isNumX : PyData → Bool
  | .tuple [a, b] => isWordX a && isIntX b
  | _ => false
def isCellX (x : PyData) : Bool := isIntX x || isWordX x || isNumX x
/-- short texts alone -/
def nice : PyData → Bool
  | .str s => decide (s.cps.size ≤ 1000) && s.cps.toList.all fun c => decide (c < 128)
  | .tuple [.str s, _] => decide (s.cps.size ≤ 1000) && s.cps.toList.all fun c => decide (c < 128)
  | _ => true
theorem is_integer_ok (k : Nat) (x : PyData) (S : Sto) : callF tab (k + 1) 0 [.d x] S = .ok (.d (.bool (isIntX x))) S := by
  cases x <;> simp [Z.callF, tab, d_is_integer, isIntX, Z.exB, Z.exS, Z.evE, Z.evT, Z.evL, Z.evP, Z.evO, Z.Ok_bind, Z.Ok_ok, Z.Ok_no, Z.Ok_ex, Z.Ok_if, Z.Ok_okD, Z.Ok_lift, Z.some_if, Z.negV, Z.binV, Z.binD, Z.cmpV, Z.cmpD, Z.ixV, Z.ixD, Z.slV, Z.slD, Z.biV, Z.biD, Z.isiV, Z.isiD, Z.truV, Z.truD, Z.tupV, Z.lstV, Z.ret1, Z.dat1, Z.bV, Z.itV, Z.itD, Z.itSeq, Z.itRng, Z.itEnm, Z.itZip, Z.toD, Z.plain, Z.allD, Z.asBool, Z.onTg, Z.bindTg, Z.setMany, Z.setVals, Z.nxO, Z.unpV, Z.setV, Z.appV, Z.needL, Z.augV, Z.wipeE, Z.scalD, Z.eqD, Z.isNone, Z.R.bind, Z.okD, Z.lift, Z.start, Z.fin]
theorem law_is_integer_ok (k : Nat) (x : PyData) (S : Sto) : callF tab (k + 1) 15 [.d x] S = .ok (.d (.bool (isIntX x))) S := by
  cases x <;> simp [Z.callF, tab, d__law_is_integer, isIntX, Z.exB, Z.exS, Z.evE, Z.evT, Z.evL, Z.evP, Z.evO, Z.Ok_bind, Z.Ok_ok, Z.Ok_no, Z.Ok_ex, Z.Ok_if, Z.Ok_okD, Z.Ok_lift, Z.some_if, Z.negV, Z.binV, Z.binD, Z.cmpV, Z.cmpD, Z.ixV, Z.ixD, Z.slV, Z.slD, Z.biV, Z.biD, Z.isiV, Z.isiD, Z.truV, Z.truD, Z.tupV, Z.lstV, Z.ret1, Z.dat1, Z.bV, Z.itV, Z.itD, Z.itSeq, Z.itRng, Z.itEnm, Z.itZip, Z.toD, Z.plain, Z.allD, Z.asBool, Z.onTg, Z.bindTg, Z.setMany, Z.setVals, Z.nxO, Z.unpV, Z.setV, Z.appV, Z.needL, Z.augV, Z.wipeE, Z.scalD, Z.eqD, Z.isNone, Z.R.bind, Z.okD, Z.lift, Z.start, Z.fin]
def big : PyData → Prop
  | .str s => s.cps.size ≤ 1000 ∧ ∀ c ∈ s.cps.toList, c < 128
  | _ => True
theorem is_word_ok (k : Nat) (x : PyData) (S : Sto) (hb : big x) : callF tab (k + 1) 1 [.d x] S = .ok (.d (.bool (isWordX x))) S := by
  cases x with
  | str s =>
    have h1 : s.cps.size ≤ lim := Nat.le_trans hb.1 (by decide)
    simp [Z.callF, tab, d_is_word, isWordX, wordS, Z.exB, Z.exS, Z.evE, Z.evT, Z.evL, Z.evP, Z.evO, Z.Ok_bind, Z.Ok_ok, Z.Ok_no, Z.Ok_ex, Z.Ok_if, Z.Ok_okD, Z.Ok_lift, Z.some_if, Z.negV, Z.binV, Z.binD, Z.cmpV, Z.cmpD, Z.ixV, Z.ixD, Z.slV, Z.slD, Z.biV, Z.biD, Z.isiV, Z.isiD, Z.truV, Z.truD, Z.tupV, Z.lstV, Z.ret1, Z.dat1, Z.bV, Z.itV, Z.itD, Z.itSeq, Z.itRng, Z.itEnm, Z.itZip, Z.toD, Z.plain, Z.allD, Z.asBool, Z.onTg, Z.bindTg, Z.setMany, Z.setVals, Z.nxO, Z.unpV, Z.setV, Z.appV, Z.needL, Z.augV, Z.wipeE, Z.scalD, Z.eqD, Z.isNone, Z.R.bind, Z.okD, Z.lift, Z.start, Z.fin, h1]
    by_cases a1 : (1 : Int) ≤ s.cps.size
    · by_cases a2 : (s.cps.size : Int) ≤ 6
      · simp [a1, a2]
        rw [loopC_map (e := fun c => .bool (inAl c)) (fun c hc => ?_) (by simp; omega)]
        · simp [boolsOf_map, Z.exB, Z.exS, Z.evE, Z.evT, Z.evL, Z.evP, Z.evO, Z.Ok_bind, Z.Ok_ok, Z.Ok_no, Z.Ok_ex, Z.Ok_if, Z.Ok_okD, Z.Ok_lift, Z.some_if, Z.negV, Z.binV, Z.binD, Z.cmpV, Z.cmpD, Z.ixV, Z.ixD, Z.slV, Z.slD, Z.biV, Z.biD, Z.isiV, Z.isiD, Z.truV, Z.truD, Z.tupV, Z.lstV, Z.ret1, Z.dat1, Z.bV, Z.itV, Z.itD, Z.itSeq, Z.itRng, Z.itEnm, Z.itZip, Z.toD, Z.plain, Z.allD, Z.asBool, Z.onTg, Z.bindTg, Z.setMany, Z.setVals, Z.nxO, Z.unpV, Z.setV, Z.appV, Z.needL, Z.augV, Z.wipeE, Z.scalD, Z.eqD, Z.isNone, Z.R.bind, Z.okD, Z.lift, Z.start, Z.fin, Array.all_toList]
          omega
        · simp [inD, inAl, Z.exB, Z.exS, Z.evE, Z.evT, Z.evL, Z.evP, Z.evO, Z.Ok_bind, Z.Ok_ok, Z.Ok_no, Z.Ok_ex, Z.Ok_if, Z.Ok_okD, Z.Ok_lift, Z.some_if, Z.negV, Z.binV, Z.binD, Z.cmpV, Z.cmpD, Z.ixV, Z.ixD, Z.slV, Z.slD, Z.biV, Z.biD, Z.isiV, Z.isiD, Z.truV, Z.truD, Z.tupV, Z.lstV, Z.ret1, Z.dat1, Z.bV, Z.itV, Z.itD, Z.itSeq, Z.itRng, Z.itEnm, Z.itZip, Z.toD, Z.plain, Z.allD, Z.asBool, Z.onTg, Z.bindTg, Z.setMany, Z.setVals, Z.nxO, Z.unpV, Z.setV, Z.appV, Z.needL, Z.augV, Z.wipeE, Z.scalD, Z.eqD, Z.isNone, Z.R.bind, Z.okD, Z.lift, Z.start, Z.fin]
      · have : ¬ s.cps.size ≤ 6 := by omega
        simp [a1, a2, this]
    · have : ¬ 1 ≤ s.cps.size := by omega
      simp [a1, this]
  | _ => simp [Z.callF, tab, d_is_word, isWordX, Z.exB, Z.exS, Z.evE, Z.evT, Z.evL, Z.evP, Z.evO, Z.Ok_bind, Z.Ok_ok, Z.Ok_no, Z.Ok_ex, Z.Ok_if, Z.Ok_okD, Z.Ok_lift, Z.some_if, Z.negV, Z.binV, Z.binD, Z.cmpV, Z.cmpD, Z.ixV, Z.ixD, Z.slV, Z.slD, Z.biV, Z.biD, Z.isiV, Z.isiD, Z.truV, Z.truD, Z.tupV, Z.lstV, Z.ret1, Z.dat1, Z.bV, Z.itV, Z.itD, Z.itSeq, Z.itRng, Z.itEnm, Z.itZip, Z.toD, Z.plain, Z.allD, Z.asBool, Z.onTg, Z.bindTg, Z.setMany, Z.setVals, Z.nxO, Z.unpV, Z.setV, Z.appV, Z.needL, Z.augV, Z.wipeE, Z.scalD, Z.eqD, Z.isNone, Z.R.bind, Z.okD, Z.lift, Z.start, Z.fin]
theorem filter_none {α : Type} (p : α → Bool) : ∀ cs : List α, (cs.filter fun c => !p c).isEmpty = cs.all p
  | [] => rfl
  | c :: cs => by
    cases h : p c with
    | true => simp [h, filter_none p cs]
    | false => simp [h]
theorem law_is_word_ok (k : Nat) (x : PyData) (S : Sto) (hb : big x) : callF tab (k + 1) 16 [.d x] S = .ok (.d (.bool (isWordX x))) S := by
  cases x with
  | str s =>
    have h1 : s.cps.size ≤ lim := Nat.le_trans hb.1 (by decide)
    simp [Z.callF, tab, d__law_is_word, isWordX, wordS, Z.exB, Z.exS, Z.evE, Z.evT, Z.evL, Z.evP, Z.evO, Z.Ok_bind, Z.Ok_ok, Z.Ok_no, Z.Ok_ex, Z.Ok_if, Z.Ok_okD, Z.Ok_lift, Z.some_if, Z.negV, Z.binV, Z.binD, Z.cmpV, Z.cmpD, Z.ixV, Z.ixD, Z.slV, Z.slD, Z.biV, Z.biD, Z.isiV, Z.isiD, Z.truV, Z.truD, Z.tupV, Z.lstV, Z.ret1, Z.dat1, Z.bV, Z.itV, Z.itD, Z.itSeq, Z.itRng, Z.itEnm, Z.itZip, Z.toD, Z.plain, Z.allD, Z.asBool, Z.onTg, Z.bindTg, Z.setMany, Z.setVals, Z.nxO, Z.unpV, Z.setV, Z.appV, Z.needL, Z.augV, Z.wipeE, Z.scalD, Z.eqD, Z.isNone, Z.R.bind, Z.okD, Z.lift, Z.start, Z.fin, h1]
    by_cases a1 : (1 : Int) ≤ s.cps.size
    · by_cases a2 : (s.cps.size : Int) ≤ 6
      · simp [a1, a2, h1, Z.exB, Z.exS, Z.evE, Z.evT, Z.evL, Z.evP, Z.evO, Z.Ok_bind, Z.Ok_ok, Z.Ok_no, Z.Ok_ex, Z.Ok_if, Z.Ok_okD, Z.Ok_lift, Z.some_if, Z.negV, Z.binV, Z.binD, Z.cmpV, Z.cmpD, Z.ixV, Z.ixD, Z.slV, Z.slD, Z.biV, Z.biD, Z.isiV, Z.isiD, Z.truV, Z.truD, Z.tupV, Z.lstV, Z.ret1, Z.dat1, Z.bV, Z.itV, Z.itD, Z.itSeq, Z.itRng, Z.itEnm, Z.itZip, Z.toD, Z.plain, Z.allD, Z.asBool, Z.onTg, Z.bindTg, Z.setMany, Z.setVals, Z.nxO, Z.unpV, Z.setV, Z.appV, Z.needL, Z.augV, Z.wipeE, Z.scalD, Z.eqD, Z.isNone, Z.R.bind, Z.okD, Z.lift, Z.start, Z.fin]
        rw [loopC_filt (e := fun c => .str ⟨#[c]⟩) (p := fun c => !inAl c) (fun c hc => ?_) (by simp; omega)]
        · have hs : SeqAt.shaped (.list ((s.cps.toList.filter fun c => !inAl c).map fun c => PyData.str ⟨#[c]⟩)) = true := by
            refine shaped_list (n := 0) (fun x hx => ?_) (by decide)
            obtain ⟨c, hc, rfl⟩ := List.mem_map.mp hx
            have := hb.2 c (List.mem_filter.mp hc).1
            refine ⟨?_, Nat.le_refl _⟩
            simp [PyData.canLay0, PyData.strOk]
            omega
          simp [Z.exB, Z.exS, Z.evE, Z.evT, Z.evL, Z.evP, Z.evO, Z.Ok_bind, Z.Ok_ok, Z.Ok_no, Z.Ok_ex, Z.Ok_if, Z.Ok_okD, Z.Ok_lift, Z.some_if, Z.negV, Z.binV, Z.binD, Z.cmpV, Z.cmpD, Z.ixV, Z.ixD, Z.slV, Z.slD, Z.biV, Z.biD, Z.isiV, Z.isiD, Z.truV, Z.truD, Z.tupV, Z.lstV, Z.ret1, Z.dat1, Z.bV, Z.itV, Z.itD, Z.itSeq, Z.itRng, Z.itEnm, Z.itZip, Z.toD, Z.plain, Z.allD, Z.asBool, Z.onTg, Z.bindTg, Z.setMany, Z.setVals, Z.nxO, Z.unpV, Z.setV, Z.appV, Z.needL, Z.augV, Z.wipeE, Z.scalD, Z.eqD, Z.isNone, Z.R.bind, Z.okD, Z.lift, Z.start, Z.fin, hs, shaped_nil, eqv_nil]
          have e1 : decide (1 ≤ s.cps.size) = true := by simp; omega
          have e2 : decide (s.cps.size ≤ 6) = true := by simp; omega
          rw [filter_none, e1, e2]
          simp [Array.all_toList]
        · simp [inD, inAl, Z.exB, Z.exS, Z.evE, Z.evT, Z.evL, Z.evP, Z.evO, Z.Ok_bind, Z.Ok_ok, Z.Ok_no, Z.Ok_ex, Z.Ok_if, Z.Ok_okD, Z.Ok_lift, Z.some_if, Z.negV, Z.binV, Z.binD, Z.cmpV, Z.cmpD, Z.ixV, Z.ixD, Z.slV, Z.slD, Z.biV, Z.biD, Z.isiV, Z.isiD, Z.truV, Z.truD, Z.tupV, Z.lstV, Z.ret1, Z.dat1, Z.bV, Z.itV, Z.itD, Z.itSeq, Z.itRng, Z.itEnm, Z.itZip, Z.toD, Z.plain, Z.allD, Z.asBool, Z.onTg, Z.bindTg, Z.setMany, Z.setVals, Z.nxO, Z.unpV, Z.setV, Z.appV, Z.needL, Z.augV, Z.wipeE, Z.scalD, Z.eqD, Z.isNone, Z.R.bind, Z.okD, Z.lift, Z.start, Z.fin]
          split <;> rfl
      · have : ¬ s.cps.size ≤ 6 := by omega
        simp [a1, a2, this]
    · have : ¬ 1 ≤ s.cps.size := by omega
      simp [a1, this]
  | _ => simp [Z.callF, tab, d__law_is_word, isWordX, Z.exB, Z.exS, Z.evE, Z.evT, Z.evL, Z.evP, Z.evO, Z.Ok_bind, Z.Ok_ok, Z.Ok_no, Z.Ok_ex, Z.Ok_if, Z.Ok_okD, Z.Ok_lift, Z.some_if, Z.negV, Z.binV, Z.binD, Z.cmpV, Z.cmpD, Z.ixV, Z.ixD, Z.slV, Z.slD, Z.biV, Z.biD, Z.isiV, Z.isiD, Z.truV, Z.truD, Z.tupV, Z.lstV, Z.ret1, Z.dat1, Z.bV, Z.itV, Z.itD, Z.itSeq, Z.itRng, Z.itEnm, Z.itZip, Z.toD, Z.plain, Z.allD, Z.asBool, Z.onTg, Z.bindTg, Z.setMany, Z.setVals, Z.nxO, Z.unpV, Z.setV, Z.appV, Z.needL, Z.augV, Z.wipeE, Z.scalD, Z.eqD, Z.isNone, Z.R.bind, Z.okD, Z.lift, Z.start, Z.fin]
theorem is_numbered_ok (k : Nat) (x : PyData) (S : Sto) (hb : ∀ a b, x = .tuple [a, b] → big a) : callF tab (k + 2) 2 [.d x] S = .ok (.d (.bool (isNumX x))) S := by
  cases x with
  | tuple xs =>
    match xs, hb with
    | [], _ => simp [Z.callF, tab, d_is_numbered, isNumX, Z.exB, Z.exS, Z.evE, Z.evT, Z.evL, Z.evP, Z.evO, Z.Ok_bind, Z.Ok_ok, Z.Ok_no, Z.Ok_ex, Z.Ok_if, Z.Ok_okD, Z.Ok_lift, Z.some_if, Z.negV, Z.binV, Z.binD, Z.cmpV, Z.cmpD, Z.ixV, Z.ixD, Z.slV, Z.slD, Z.biV, Z.biD, Z.isiV, Z.isiD, Z.truV, Z.truD, Z.tupV, Z.lstV, Z.ret1, Z.dat1, Z.bV, Z.itV, Z.itD, Z.itSeq, Z.itRng, Z.itEnm, Z.itZip, Z.toD, Z.plain, Z.allD, Z.asBool, Z.onTg, Z.bindTg, Z.setMany, Z.setVals, Z.nxO, Z.unpV, Z.setV, Z.appV, Z.needL, Z.augV, Z.wipeE, Z.scalD, Z.eqD, Z.isNone, Z.R.bind, Z.okD, Z.lift, Z.start, Z.fin, PyData.eqv]
    | [a], _ => simp [Z.callF, tab, d_is_numbered, isNumX, Z.exB, Z.exS, Z.evE, Z.evT, Z.evL, Z.evP, Z.evO, Z.Ok_bind, Z.Ok_ok, Z.Ok_no, Z.Ok_ex, Z.Ok_if, Z.Ok_okD, Z.Ok_lift, Z.some_if, Z.negV, Z.binV, Z.binD, Z.cmpV, Z.cmpD, Z.ixV, Z.ixD, Z.slV, Z.slD, Z.biV, Z.biD, Z.isiV, Z.isiD, Z.truV, Z.truD, Z.tupV, Z.lstV, Z.ret1, Z.dat1, Z.bV, Z.itV, Z.itD, Z.itSeq, Z.itRng, Z.itEnm, Z.itZip, Z.toD, Z.plain, Z.allD, Z.asBool, Z.onTg, Z.bindTg, Z.setMany, Z.setVals, Z.nxO, Z.unpV, Z.setV, Z.appV, Z.needL, Z.augV, Z.wipeE, Z.scalD, Z.eqD, Z.isNone, Z.R.bind, Z.okD, Z.lift, Z.start, Z.fin, PyData.eqv]
    | [a, b], hb =>
      have h := hb a b rfl
      unfold Z.callF
      simp [tab, d_is_numbered, isNumX, Z.exB, Z.exS, Z.evE, Z.evT, Z.evL, Z.evP, Z.evO, Z.Ok_bind, Z.Ok_ok, Z.Ok_no, Z.Ok_ex, Z.Ok_if, Z.Ok_okD, Z.Ok_lift, Z.some_if, Z.negV, Z.binV, Z.binD, Z.cmpV, Z.cmpD, Z.ixV, Z.ixD, Z.slV, Z.slD, Z.biV, Z.biD, Z.isiV, Z.isiD, Z.truV, Z.truD, Z.tupV, Z.lstV, Z.ret1, Z.dat1, Z.bV, Z.itV, Z.itD, Z.itSeq, Z.itRng, Z.itEnm, Z.itZip, Z.toD, Z.plain, Z.allD, Z.asBool, Z.onTg, Z.bindTg, Z.setMany, Z.setVals, Z.nxO, Z.unpV, Z.setV, Z.appV, Z.needL, Z.augV, Z.wipeE, Z.scalD, Z.eqD, Z.isNone, Z.R.bind, Z.okD, Z.lift, Z.start, Z.fin, PyData.eqv, L2.atI, L2.ixN, is_word_ok k a S h, is_integer_ok]
      cases isWordX a <;> simp
    | a :: b :: c :: r, _ =>
      have e : ¬ ((r.length : Int) + 1 + 1 + 1 = 2) := by omega
      simp [Z.callF, tab, d_is_numbered, isNumX, Z.exB, Z.exS, Z.evE, Z.evT, Z.evL, Z.evP, Z.evO, Z.Ok_bind, Z.Ok_ok, Z.Ok_no, Z.Ok_ex, Z.Ok_if, Z.Ok_okD, Z.Ok_lift, Z.some_if, Z.negV, Z.binV, Z.binD, Z.cmpV, Z.cmpD, Z.ixV, Z.ixD, Z.slV, Z.slD, Z.biV, Z.biD, Z.isiV, Z.isiD, Z.truV, Z.truD, Z.tupV, Z.lstV, Z.ret1, Z.dat1, Z.bV, Z.itV, Z.itD, Z.itSeq, Z.itRng, Z.itEnm, Z.itZip, Z.toD, Z.plain, Z.allD, Z.asBool, Z.onTg, Z.bindTg, Z.setMany, Z.setVals, Z.nxO, Z.unpV, Z.setV, Z.appV, Z.needL, Z.augV, Z.wipeE, Z.scalD, Z.eqD, Z.isNone, Z.R.bind, Z.okD, Z.lift, Z.start, Z.fin, PyData.eqv, e]
  | _ => simp [Z.callF, tab, d_is_numbered, isNumX, Z.exB, Z.exS, Z.evE, Z.evT, Z.evL, Z.evP, Z.evO, Z.Ok_bind, Z.Ok_ok, Z.Ok_no, Z.Ok_ex, Z.Ok_if, Z.Ok_okD, Z.Ok_lift, Z.some_if, Z.negV, Z.binV, Z.binD, Z.cmpV, Z.cmpD, Z.ixV, Z.ixD, Z.slV, Z.slD, Z.biV, Z.biD, Z.isiV, Z.isiD, Z.truV, Z.truD, Z.tupV, Z.lstV, Z.ret1, Z.dat1, Z.bV, Z.itV, Z.itD, Z.itSeq, Z.itRng, Z.itEnm, Z.itZip, Z.toD, Z.plain, Z.allD, Z.asBool, Z.onTg, Z.bindTg, Z.setMany, Z.setVals, Z.nxO, Z.unpV, Z.setV, Z.appV, Z.needL, Z.augV, Z.wipeE, Z.scalD, Z.eqD, Z.isNone, Z.R.bind, Z.okD, Z.lift, Z.start, Z.fin]
def bigC (x : PyData) : Prop := big x ∧ ∀ a b, x = .tuple [a, b] → big a
theorem a_cell_ok (k : Nat) (x : PyData) (S : Sto) (hb : bigC x) : callF tab (k + 3) 3 [.d x] S = .ok (.d (.bool (isCellX x))) S := by
  unfold Z.callF
  simp [tab, d_a_cell, isCellX, Z.exB, Z.exS, Z.evE, Z.evT, Z.evL, Z.evP, Z.evO, Z.Ok_bind, Z.Ok_ok, Z.Ok_no, Z.Ok_ex, Z.Ok_if, Z.Ok_okD, Z.Ok_lift, Z.some_if, Z.negV, Z.binV, Z.binD, Z.cmpV, Z.cmpD, Z.ixV, Z.ixD, Z.slV, Z.slD, Z.biV, Z.biD, Z.isiV, Z.isiD, Z.truV, Z.truD, Z.tupV, Z.lstV, Z.ret1, Z.dat1, Z.bV, Z.itV, Z.itD, Z.itSeq, Z.itRng, Z.itEnm, Z.itZip, Z.toD, Z.plain, Z.allD, Z.asBool, Z.onTg, Z.bindTg, Z.setMany, Z.setVals, Z.nxO, Z.unpV, Z.setV, Z.appV, Z.needL, Z.augV, Z.wipeE, Z.scalD, Z.eqD, Z.isNone, Z.R.bind, Z.okD, Z.lift, Z.start, Z.fin, is_integer_ok, is_word_ok _ x S hb.1, is_numbered_ok _ x S hb.2]
  cases isIntX x <;> cases isWordX x <;> simp
theorem is_cell_ok (k : Nat) (x : PyData) (S : Sto) (hb : bigC x) : callF tab (k + 4) 6 [.d x] S = .ok (.d (.bool (isCellX x))) S := by
  unfold Z.callF
  simp [tab, d_is_cell, Z.exB, Z.exS, Z.evE, Z.evT, Z.evL, Z.evP, Z.evO, Z.Ok_bind, Z.Ok_ok, Z.Ok_no, Z.Ok_ex, Z.Ok_if, Z.Ok_okD, Z.Ok_lift, Z.some_if, Z.negV, Z.binV, Z.binD, Z.cmpV, Z.cmpD, Z.ixV, Z.ixD, Z.slV, Z.slD, Z.biV, Z.biD, Z.isiV, Z.isiD, Z.truV, Z.truD, Z.tupV, Z.lstV, Z.ret1, Z.dat1, Z.bV, Z.itV, Z.itD, Z.itSeq, Z.itRng, Z.itEnm, Z.itZip, Z.toD, Z.plain, Z.allD, Z.asBool, Z.onTg, Z.bindTg, Z.setMany, Z.setVals, Z.nxO, Z.unpV, Z.setV, Z.appV, Z.needL, Z.augV, Z.wipeE, Z.scalD, Z.eqD, Z.isNone, Z.R.bind, Z.okD, Z.lift, Z.start, Z.fin, a_cell_ok _ x S hb]
def selX (lo hi : Int) : PyData → Bool
  | .tuple cs => decide (lo ≤ cs.length) && decide ((cs.length : Int) ≤ hi) && cs.all isCellX
  | _ => false
def bigS (x : PyData) : Prop := ∀ cs, x = .tuple cs → cs.length ≤ 1000 ∧ ∀ c ∈ cs, bigC c
theorem are_cells_ok (k : Nat) (x : PyData) (lo hi : Int) (S : Sto) (hb : bigS x) : callF tab (k + 4) 4 [.d x, .d (.int lo), .d (.int hi)] S = .ok (.d (.bool (selX lo hi x))) S := by
  cases x with
  | tuple cs =>
    obtain ⟨h1, h2⟩ := hb cs rfl
    unfold Z.callF
    simp [tab, d_are_cells, selX, Z.exB, Z.exS, Z.evE, Z.evT, Z.evL, Z.evP, Z.evO, Z.Ok_bind, Z.Ok_ok, Z.Ok_no, Z.Ok_ex, Z.Ok_if, Z.Ok_okD, Z.Ok_lift, Z.some_if, Z.negV, Z.binV, Z.binD, Z.cmpV, Z.cmpD, Z.ixV, Z.ixD, Z.slV, Z.slD, Z.biV, Z.biD, Z.isiV, Z.isiD, Z.truV, Z.truD, Z.tupV, Z.lstV, Z.ret1, Z.dat1, Z.bV, Z.itV, Z.itD, Z.itSeq, Z.itRng, Z.itEnm, Z.itZip, Z.toD, Z.plain, Z.allD, Z.asBool, Z.onTg, Z.bindTg, Z.setMany, Z.setVals, Z.nxO, Z.unpV, Z.setV, Z.appV, Z.needL, Z.augV, Z.wipeE, Z.scalD, Z.eqD, Z.isNone, Z.R.bind, Z.okD, Z.lift, Z.start, Z.fin]
    by_cases a1 : lo ≤ cs.length
    · by_cases a2 : (cs.length : Int) ≤ hi
      · simp [a1, a2, Z.exB, Z.exS, Z.evE, Z.evT, Z.evL, Z.evP, Z.evO, Z.Ok_bind, Z.Ok_ok, Z.Ok_no, Z.Ok_ex, Z.Ok_if, Z.Ok_okD, Z.Ok_lift, Z.some_if, Z.negV, Z.binV, Z.binD, Z.cmpV, Z.cmpD, Z.ixV, Z.ixD, Z.slV, Z.slD, Z.biV, Z.biD, Z.isiV, Z.isiD, Z.truV, Z.truD, Z.tupV, Z.lstV, Z.ret1, Z.dat1, Z.bV, Z.itV, Z.itD, Z.itSeq, Z.itRng, Z.itEnm, Z.itZip, Z.toD, Z.plain, Z.allD, Z.asBool, Z.onTg, Z.bindTg, Z.setMany, Z.setVals, Z.nxO, Z.unpV, Z.setV, Z.appV, Z.needL, Z.augV, Z.wipeE, Z.scalD, Z.eqD, Z.isNone, Z.R.bind, Z.okD, Z.lift, Z.start, Z.fin]
        have e : cs = cs.map id := by simp
        rw [e, loopC_map (e := fun c => .bool (isCellX c)) (fun c hc => ?_) (by simp [lim]; omega)]
        · simp [boolsOf_map, Z.exB, Z.exS, Z.evE, Z.evT, Z.evL, Z.evP, Z.evO, Z.Ok_bind, Z.Ok_ok, Z.Ok_no, Z.Ok_ex, Z.Ok_if, Z.Ok_okD, Z.Ok_lift, Z.some_if, Z.negV, Z.binV, Z.binD, Z.cmpV, Z.cmpD, Z.ixV, Z.ixD, Z.slV, Z.slD, Z.biV, Z.biD, Z.isiV, Z.isiD, Z.truV, Z.truD, Z.tupV, Z.lstV, Z.ret1, Z.dat1, Z.bV, Z.itV, Z.itD, Z.itSeq, Z.itRng, Z.itEnm, Z.itZip, Z.toD, Z.plain, Z.allD, Z.asBool, Z.onTg, Z.bindTg, Z.setMany, Z.setVals, Z.nxO, Z.unpV, Z.setV, Z.appV, Z.needL, Z.augV, Z.wipeE, Z.scalD, Z.eqD, Z.isNone, Z.R.bind, Z.okD, Z.lift, Z.start, Z.fin]
        · simp [Z.exB, Z.exS, Z.evE, Z.evT, Z.evL, Z.evP, Z.evO, Z.Ok_bind, Z.Ok_ok, Z.Ok_no, Z.Ok_ex, Z.Ok_if, Z.Ok_okD, Z.Ok_lift, Z.some_if, Z.negV, Z.binV, Z.binD, Z.cmpV, Z.cmpD, Z.ixV, Z.ixD, Z.slV, Z.slD, Z.biV, Z.biD, Z.isiV, Z.isiD, Z.truV, Z.truD, Z.tupV, Z.lstV, Z.ret1, Z.dat1, Z.bV, Z.itV, Z.itD, Z.itSeq, Z.itRng, Z.itEnm, Z.itZip, Z.toD, Z.plain, Z.allD, Z.asBool, Z.onTg, Z.bindTg, Z.setMany, Z.setVals, Z.nxO, Z.unpV, Z.setV, Z.appV, Z.needL, Z.augV, Z.wipeE, Z.scalD, Z.eqD, Z.isNone, Z.R.bind, Z.okD, Z.lift, Z.start, Z.fin, a_cell_ok _ c S (h2 c hc)]
      · simp [a1, a2]
    · simp [a1]
  | _ => simp [Z.callF, tab, d_are_cells, selX, Z.exB, Z.exS, Z.evE, Z.evT, Z.evL, Z.evP, Z.evO, Z.Ok_bind, Z.Ok_ok, Z.Ok_no, Z.Ok_ex, Z.Ok_if, Z.Ok_okD, Z.Ok_lift, Z.some_if, Z.negV, Z.binV, Z.binD, Z.cmpV, Z.cmpD, Z.ixV, Z.ixD, Z.slV, Z.slD, Z.biV, Z.biD, Z.isiV, Z.isiD, Z.truV, Z.truD, Z.tupV, Z.lstV, Z.ret1, Z.dat1, Z.bV, Z.itV, Z.itD, Z.itSeq, Z.itRng, Z.itEnm, Z.itZip, Z.toD, Z.plain, Z.allD, Z.asBool, Z.onTg, Z.bindTg, Z.setMany, Z.setVals, Z.nxO, Z.unpV, Z.setV, Z.appV, Z.needL, Z.augV, Z.wipeE, Z.scalD, Z.eqD, Z.isNone, Z.R.bind, Z.okD, Z.lift, Z.start, Z.fin]
theorem a_selection_ok (k : Nat) (x : PyData) (S : Sto) (hb : bigS x) : callF tab (k + 5) 5 [.d x] S = .ok (.d (.bool (selX 1 6 x))) S := by
  unfold Z.callF
  simp [tab, d_a_selection, Z.exB, Z.exS, Z.evE, Z.evT, Z.evL, Z.evP, Z.evO, Z.Ok_bind, Z.Ok_ok, Z.Ok_no, Z.Ok_ex, Z.Ok_if, Z.Ok_okD, Z.Ok_lift, Z.some_if, Z.negV, Z.binV, Z.binD, Z.cmpV, Z.cmpD, Z.ixV, Z.ixD, Z.slV, Z.slD, Z.biV, Z.biD, Z.isiV, Z.isiD, Z.truV, Z.truD, Z.tupV, Z.lstV, Z.ret1, Z.dat1, Z.bV, Z.itV, Z.itD, Z.itSeq, Z.itRng, Z.itEnm, Z.itZip, Z.toD, Z.plain, Z.allD, Z.asBool, Z.onTg, Z.bindTg, Z.setMany, Z.setVals, Z.nxO, Z.unpV, Z.setV, Z.appV, Z.needL, Z.augV, Z.wipeE, Z.scalD, Z.eqD, Z.isNone, Z.R.bind, Z.okD, Z.lift, Z.start, Z.fin, are_cells_ok _ x _ _ S hb]
theorem is_selection_ok (k : Nat) (x : PyData) (S : Sto) (hb : bigS x) : callF tab (k + 6) 7 [.d x] S = .ok (.d (.bool (selX 1 6 x))) S := by
  unfold Z.callF
  simp [tab, d_is_selection, Z.exB, Z.exS, Z.evE, Z.evT, Z.evL, Z.evP, Z.evO, Z.Ok_bind, Z.Ok_ok, Z.Ok_no, Z.Ok_ex, Z.Ok_if, Z.Ok_okD, Z.Ok_lift, Z.some_if, Z.negV, Z.binV, Z.binD, Z.cmpV, Z.cmpD, Z.ixV, Z.ixD, Z.slV, Z.slD, Z.biV, Z.biD, Z.isiV, Z.isiD, Z.truV, Z.truD, Z.tupV, Z.lstV, Z.ret1, Z.dat1, Z.bV, Z.itV, Z.itD, Z.itSeq, Z.itRng, Z.itEnm, Z.itZip, Z.toD, Z.plain, Z.allD, Z.asBool, Z.onTg, Z.bindTg, Z.setMany, Z.setVals, Z.nxO, Z.unpV, Z.setV, Z.appV, Z.needL, Z.augV, Z.wipeE, Z.scalD, Z.eqD, Z.isNone, Z.R.bind, Z.okD, Z.lift, Z.start, Z.fin, a_selection_ok _ x S hb]
theorem law_is_cell_ok (k : Nat) (x : PyData) (S : Sto) (hb : bigC x) : callF tab (k + 2) 17 [.d x] S = .ok (.d (.bool (isCellX x))) S := by
  unfold Z.callF
  simp [tab, d__law_is_cell, Z.exB, Z.exS, Z.evE, Z.evT, Z.evL, Z.evP, Z.evO, Z.Ok_bind, Z.Ok_ok, Z.Ok_no, Z.Ok_ex, Z.Ok_if, Z.Ok_okD, Z.Ok_lift, Z.some_if, Z.negV, Z.binV, Z.binD, Z.cmpV, Z.cmpD, Z.ixV, Z.ixD, Z.slV, Z.slD, Z.biV, Z.biD, Z.isiV, Z.isiD, Z.truV, Z.truD, Z.tupV, Z.lstV, Z.ret1, Z.dat1, Z.bV, Z.itV, Z.itD, Z.itSeq, Z.itRng, Z.itEnm, Z.itZip, Z.toD, Z.plain, Z.allD, Z.asBool, Z.onTg, Z.bindTg, Z.setMany, Z.setVals, Z.nxO, Z.unpV, Z.setV, Z.appV, Z.needL, Z.augV, Z.wipeE, Z.scalD, Z.eqD, Z.isNone, Z.R.bind, Z.okD, Z.lift, Z.start, Z.fin, law_is_integer_ok, law_is_word_ok _ x S hb.1, isCellX]
  cases h1 : isIntX x <;> cases h2 : isWordX x <;> simp
  cases x with
  | tuple xs =>
    match xs, hb with
    | [], _ => simp [isNumX, Z.exB, Z.exS, Z.evE, Z.evT, Z.evL, Z.evP, Z.evO, Z.Ok_bind, Z.Ok_ok, Z.Ok_no, Z.Ok_ex, Z.Ok_if, Z.Ok_okD, Z.Ok_lift, Z.some_if, Z.negV, Z.binV, Z.binD, Z.cmpV, Z.cmpD, Z.ixV, Z.ixD, Z.slV, Z.slD, Z.biV, Z.biD, Z.isiV, Z.isiD, Z.truV, Z.truD, Z.tupV, Z.lstV, Z.ret1, Z.dat1, Z.bV, Z.itV, Z.itD, Z.itSeq, Z.itRng, Z.itEnm, Z.itZip, Z.toD, Z.plain, Z.allD, Z.asBool, Z.onTg, Z.bindTg, Z.setMany, Z.setVals, Z.nxO, Z.unpV, Z.setV, Z.appV, Z.needL, Z.augV, Z.wipeE, Z.scalD, Z.eqD, Z.isNone, Z.R.bind, Z.okD, Z.lift, Z.start, Z.fin, PyData.eqv]
    | [a], _ => simp [isNumX, Z.exB, Z.exS, Z.evE, Z.evT, Z.evL, Z.evP, Z.evO, Z.Ok_bind, Z.Ok_ok, Z.Ok_no, Z.Ok_ex, Z.Ok_if, Z.Ok_okD, Z.Ok_lift, Z.some_if, Z.negV, Z.binV, Z.binD, Z.cmpV, Z.cmpD, Z.ixV, Z.ixD, Z.slV, Z.slD, Z.biV, Z.biD, Z.isiV, Z.isiD, Z.truV, Z.truD, Z.tupV, Z.lstV, Z.ret1, Z.dat1, Z.bV, Z.itV, Z.itD, Z.itSeq, Z.itRng, Z.itEnm, Z.itZip, Z.toD, Z.plain, Z.allD, Z.asBool, Z.onTg, Z.bindTg, Z.setMany, Z.setVals, Z.nxO, Z.unpV, Z.setV, Z.appV, Z.needL, Z.augV, Z.wipeE, Z.scalD, Z.eqD, Z.isNone, Z.R.bind, Z.okD, Z.lift, Z.start, Z.fin, PyData.eqv]
    | [a, b], hb =>
      have h := hb.2 a b rfl
      simp [isNumX, Z.exB, Z.exS, Z.evE, Z.evT, Z.evL, Z.evP, Z.evO, Z.Ok_bind, Z.Ok_ok, Z.Ok_no, Z.Ok_ex, Z.Ok_if, Z.Ok_okD, Z.Ok_lift, Z.some_if, Z.negV, Z.binV, Z.binD, Z.cmpV, Z.cmpD, Z.ixV, Z.ixD, Z.slV, Z.slD, Z.biV, Z.biD, Z.isiV, Z.isiD, Z.truV, Z.truD, Z.tupV, Z.lstV, Z.ret1, Z.dat1, Z.bV, Z.itV, Z.itD, Z.itSeq, Z.itRng, Z.itEnm, Z.itZip, Z.toD, Z.plain, Z.allD, Z.asBool, Z.onTg, Z.bindTg, Z.setMany, Z.setVals, Z.nxO, Z.unpV, Z.setV, Z.appV, Z.needL, Z.augV, Z.wipeE, Z.scalD, Z.eqD, Z.isNone, Z.R.bind, Z.okD, Z.lift, Z.start, Z.fin, PyData.eqv, L2.atI, L2.ixN, law_is_word_ok _ a S h, law_is_integer_ok]
      cases isWordX a <;> simp
    | a :: b :: c :: r, _ =>
      have e : ¬ ((r.length : Int) + 1 + 1 + 1 = 2) := by omega
      simp [isNumX, Z.exB, Z.exS, Z.evE, Z.evT, Z.evL, Z.evP, Z.evO, Z.Ok_bind, Z.Ok_ok, Z.Ok_no, Z.Ok_ex, Z.Ok_if, Z.Ok_okD, Z.Ok_lift, Z.some_if, Z.negV, Z.binV, Z.binD, Z.cmpV, Z.cmpD, Z.ixV, Z.ixD, Z.slV, Z.slD, Z.biV, Z.biD, Z.isiV, Z.isiD, Z.truV, Z.truD, Z.tupV, Z.lstV, Z.ret1, Z.dat1, Z.bV, Z.itV, Z.itD, Z.itSeq, Z.itRng, Z.itEnm, Z.itZip, Z.toD, Z.plain, Z.allD, Z.asBool, Z.onTg, Z.bindTg, Z.setMany, Z.setVals, Z.nxO, Z.unpV, Z.setV, Z.appV, Z.needL, Z.augV, Z.wipeE, Z.scalD, Z.eqD, Z.isNone, Z.R.bind, Z.okD, Z.lift, Z.start, Z.fin, PyData.eqv, e]
  | _ => simp [isNumX, Z.exB, Z.exS, Z.evE, Z.evT, Z.evL, Z.evP, Z.evO, Z.Ok_bind, Z.Ok_ok, Z.Ok_no, Z.Ok_ex, Z.Ok_if, Z.Ok_okD, Z.Ok_lift, Z.some_if, Z.negV, Z.binV, Z.binD, Z.cmpV, Z.cmpD, Z.ixV, Z.ixD, Z.slV, Z.slD, Z.biV, Z.biD, Z.isiV, Z.isiD, Z.truV, Z.truD, Z.tupV, Z.lstV, Z.ret1, Z.dat1, Z.bV, Z.itV, Z.itD, Z.itSeq, Z.itRng, Z.itEnm, Z.itZip, Z.toD, Z.plain, Z.allD, Z.asBool, Z.onTg, Z.bindTg, Z.setMany, Z.setVals, Z.nxO, Z.unpV, Z.setV, Z.appV, Z.needL, Z.augV, Z.wipeE, Z.scalD, Z.eqD, Z.isNone, Z.R.bind, Z.okD, Z.lift, Z.start, Z.fin]
/-! ### the numbers that are drawn -/
def Src (S : Sto) (n : Nat) : Prop := ∃ a b p : Int, S[n]? = some (.lst [.int a, .int b, .int p]) ∧ 0 ≤ a ∧ 0 ≤ b ∧ b < p ∧ p ≤ 2147483647
def Sm (n : Nat) (S S' : Sto) : Prop := S'.length = S.length ∧ ∀ m, m ≠ n → S'[m]? = S[m]?
theorem Sm.refl (n : Nat) (S : Sto) : Sm n S S := ⟨rfl, fun _ _ => rfl⟩
theorem Sm.trans {n : Nat} {S S' S'' : Sto} (a : Sm n S S') (b : Sm n S' S'') : Sm n S S'' := ⟨b.1.trans a.1, fun m h => (b.2 m h).trans (a.2 m h)⟩
theorem Sm.set {n : Nat} {S : Sto} {x : SE} : Sm n S (S.set n x) := ⟨by simp, fun m h => List.getElem?_set_ne (Ne.symm h)⟩
theorem fmod_lo {a m : Int} (h : 0 < m) : 0 ≤ a.fmod m := Int.fmod_nonneg_of_pos a h
theorem fmod_hi {a m : Int} (h : 0 < m) : a.fmod m < m := Int.fmod_lt_of_pos a h
end W

/-! Runs, step by step: what simp may use. -/
namespace Z
open PySem
theorem nr {α : Sort u} {a b : α} (h : a = b) : a = b := h
section
variable {α β : Type} {C : Nat → List Val → Sto → R Val} {ρ : Env} {S : Sto} {Q : Val → Sto → Prop}
@[simp] theorem k_ok {a : α} {S : Sto} {Q : α → Sto → Prop} : Ok (.ok a S) Q = Q a S := propext Ok_ok
@[simp] theorem k_no {Q : α → Sto → Prop} : Ok (.no : R α) Q = False := propext Ok_no
@[simp] theorem k_ex {c : Str} {S : Sto} {Q : α → Sto → Prop} : Ok (.ex c S : R α) Q = False := propext Ok_ex
@[simp ↓] theorem k_bind {x : R α} {f : α → Sto → R β} {Q : β → Sto → Prop} : Ok (x.bind f) Q = Ok x fun a S => Ok (f a S) Q := propext Ok_bind
@[simp] theorem k_if {p : Prop} [Decidable p] {x y : R α} {Q : α → Sto → Prop} : Ok (if p then x else y) Q = if p then Ok x Q else Ok y Q := propext Ok_if
@[simp ↓] theorem k_cons {s : LS} {r : List LS} {Q : Fl → Sto → Prop} : Ok (exB C (s :: r) ρ S) Q = Ok (exS C s ρ S) fun fl S' => match fl with
    | .nx ρ' => Ok (exB C r ρ' S') Q
    | fl => Q fl S' := propext Ok_cons
@[simp ↓] theorem k_nil {Q : Fl → Sto → Prop} : Ok (exB C [] ρ S) Q = Q (.nx ρ) S := propext Ok_nil
@[simp] theorem k_okS {x : PyData} : okD (some x) S = .ok (.d x) S := nr rfl
@[simp] theorem k_okN : okD none S = .no := nr rfl
@[simp] theorem k_liS {x : α} : lift (some x) S = .ok x S := nr rfl
@[simp] theorem k_liN : lift (none : Option α) S = .no := nr rfl
theorem k_okD {o : Option PyData} : Ok (okD o S) Q = ∃ y, o = some y ∧ Q (.d y) S := propext Ok_okD
/-! expressions -/
@[simp] theorem k_var {i : Nat} : evE C (.var i) ρ S = match ρ[i]? with
    | some (some v) => .ok v S
    | _ => .no := nr rfl
@[simp] theorem k_lit {d : PyData} : evE C (.lit d) ρ S = .ok (.d d) S := nr rfl
@[simp] theorem k_glo {x : Str} {d : PyData} : evE C (.glo x d) ρ S = .ok (.d d) S := nr rfl
@[simp ↓] theorem k_neg {a : LE} : evE C (.neg a) ρ S = (evE C a ρ S).bind negV := nr rfl
@[simp ↓] theorem k_bin {o : Op2} {a b : LE} : evE C (.bin o a b) ρ S = (evE C a ρ S).bind fun v S => (evE C b ρ S).bind fun w S => binV o v w S := nr rfl
@[simp ↓] theorem k_cmp {o : CO} {a b : LE} : evE C (.cmp o a b) ρ S = (evE C a ρ S).bind fun v S => (evE C b ρ S).bind fun w S => (cmpV o v w S).bind bV := nr rfl
@[simp ↓] theorem k_chain {o p : CO} {a b c : LE} : evE C (.chain o p a b c) ρ S = (evE C a ρ S).bind fun v S => (evE C b ρ S).bind fun w S => (cmpV o v w S).bind fun z S =>
      if z then (evE C c ρ S).bind fun u S => (cmpV p w u S).bind bV else bV false S := nr rfl
@[simp ↓] theorem k_and {a b : LE} : evE C (.and a b) ρ S = (evE C a ρ S).bind fun v S => (asBool v S).bind fun x S => if x then evE C b ρ S else bV false S := nr rfl
@[simp ↓] theorem k_or {a b : LE} : evE C (.or a b) ρ S = (evE C a ρ S).bind fun v S => (asBool v S).bind fun x S => if x then bV true S else evE C b ρ S := nr rfl
@[simp ↓] theorem k_not {a : LE} : evE C (.not a) ρ S = (evE C a ρ S).bind fun v S => (asBool v S).bind fun x S => bV (!x) S := nr rfl
@[simp ↓] theorem k_ite {c a b : LE} : evE C (.ite c a b) ρ S = (evT C c ρ S).bind fun x S => if x then evE C a ρ S else evE C b ρ S := nr rfl
@[simp ↓] theorem k_tup {es : List LE} : evE C (.tup es) ρ S = (evL C es ρ S).bind tupV := nr rfl
@[simp ↓] theorem k_lst {m : Bool} {es : List LE} : evE C (.lst m es) ρ S = (evL C es ρ S).bind (lstV m) := nr rfl
@[simp ↓] theorem k_ix {a i : LE} : evE C (.ix a i) ρ S = (evE C a ρ S).bind fun v S => (evE C i ρ S).bind fun w S => ixV v w S := nr rfl
@[simp ↓] theorem k_sl {a : LE} {lo hi : Option LE} : evE C (.sl a lo hi) ρ S = (evE C a ρ S).bind fun v S => (evP C lo ρ S).bind fun l S => (evP C hi ρ S).bind fun h S => slV v l h S := nr rfl
@[simp ↓] theorem k_call {f : Nat} {es : List LE} : evE C (.call f es) ρ S = (evL C es ρ S).bind fun vs S => C f vs S := nr rfl
@[simp ↓] theorem k_bi {b : BI} {es : List LE} : evE C (.bi b es) ρ S = (evL C es ρ S).bind fun vs S => biV b vs S := nr rfl
@[simp ↓] theorem k_isi {a : LE} {t : TY} : evE C (.isi a t) ρ S = (evE C a ρ S).bind fun v S => (isiV t v S).bind bV := nr rfl
@[simp ↓] theorem k_comp {m : Bool} {k : IK} {args : List LE} {tg : Tg} {own : List Nat} {cond : Option LE} {elt : LE} : evE C (.comp m k args tg own cond elt) ρ S = (evL C args ρ S).bind fun vs S => (itV k vs S).bind fun items S => (loopC (fC C tg own cond elt ρ) items [] S).bind fun ys S => ret1 m (.list ys) S := nr rfl
@[simp] theorem k_frz {i : Nat} : evE C (.frz i) ρ S = match ρ[i]? with
    | some (some (.r n)) => match S[n]? with
      | some (.lst xs) => .ok (.d (.list xs)) (S.set n .gone)
      | _ => .no
    | _ => .no := nr rfl
@[simp ↓] theorem t_and' {a b : LE} : evT C (.and a b) ρ S = (evT C a ρ S).bind fun x S => if x then evT C b ρ S else .ok false S := nr rfl
@[simp ↓] theorem t_or' {a b : LE} : evT C (.or a b) ρ S = (evT C a ρ S).bind fun x S => if x then .ok true S else evT C b ρ S := nr rfl
@[simp ↓] theorem t_not' {a : LE} : evT C (.not a) ρ S = (evT C a ρ S).bind fun x S => .ok (!x) S := nr rfl
@[simp ↓] theorem t_cmp' {o : CO} {a b : LE} : evT C (.cmp o a b) ρ S = (evE C a ρ S).bind fun v S => (evE C b ρ S).bind fun w S => cmpV o v w S := nr rfl
@[simp ↓] theorem t_chain' {o p : CO} {a b c : LE} : evT C (.chain o p a b c) ρ S = (evE C a ρ S).bind fun v S => (evE C b ρ S).bind fun w S => (cmpV o v w S).bind fun z S =>
      if z then (evE C c ρ S).bind fun u S => cmpV p w u S else .ok false S := nr rfl
@[simp] theorem t_var {i : Nat} : evT C (.var i) ρ S = match ρ[i]? with
    | some (some v) => truV v S
    | _ => .no := nr rfl
@[simp ↓] theorem t_call {f : Nat} {es : List LE} : evT C (.call f es) ρ S = (evL C es ρ S).bind fun vs S => (C f vs S).bind truV := nr rfl
@[simp ↓] theorem t_bi {b : BI} {es : List LE} : evT C (.bi b es) ρ S = (evL C es ρ S).bind fun vs S => (biV b vs S).bind truV := nr rfl
@[simp ↓] theorem t_isi {a : LE} {t : TY} : evT C (.isi a t) ρ S = (evE C a ρ S).bind fun v S => isiV t v S := nr rfl
@[simp ↓] theorem t_ix {a i : LE} : evT C (.ix a i) ρ S = (evE C a ρ S).bind fun v S => (evE C i ρ S).bind fun w S => (ixV v w S).bind truV := nr rfl
@[simp ↓] theorem l_nil : evL C [] ρ S = .ok [] S := nr rfl
@[simp ↓] theorem l_cons {e : LE} {es : List LE} : evL C (e :: es) ρ S = (evE C e ρ S).bind fun v S => (evL C es ρ S).bind fun vs S => .ok (v :: vs) S := nr rfl
@[simp ↓] theorem p_none : evP C none ρ S = .ok none S := nr rfl
@[simp ↓] theorem p_some {e : LE} : evP C (some e) ρ S = (evE C e ρ S).bind fun v S => match v with
    | .d (.int i) => .ok (some i) S
    | _ => .no := nr rfl
@[simp ↓] theorem o_none : evO C none ρ S = .ok true S := nr rfl
@[simp ↓] theorem o_some {e : LE} : evO C (some e) ρ S = evT C e ρ S := nr rfl
/-! statements -/
@[simp ↓] theorem x_asg {i : Nat} {e : LE} : exS C (.asg i e) ρ S = (evE C e ρ S).bind fun v S => .ok (.nx (ρ.set i (some v))) S := nr rfl
@[simp ↓] theorem x_asgT {is : List Nat} {es : List LE} : exS C (.asgT is es) ρ S = (evL C es ρ S).bind fun vs S => nxO (setVals ρ is vs) S := nr rfl
@[simp ↓] theorem x_unp {is : List Nat} {e : LE} : exS C (.unp is e) ρ S = (evE C e ρ S).bind fun v S => unpV is v ρ S := nr rfl
@[simp ↓] theorem x_setix {o i e : LE} : exS C (.setix o i e) ρ S = (evE C e ρ S).bind fun w S => (evE C o ρ S).bind fun v S => (evE C i ρ S).bind fun k S => (setV v k w S).bind fun _ S => .ok (.nx ρ) S := nr rfl
@[simp ↓] theorem x_app {o e : LE} : exS C (.app o e) ρ S = (evE C o ρ S).bind fun v S => (needL v S).bind fun _ S => (evE C e ρ S).bind fun w S => (appV v w S).bind fun _ S => .ok (.nx ρ) S := nr rfl
@[simp] theorem x_aug {i : Nat} {o : Op2} {e : LE} : exS C (.aug i o e) ρ S = match ρ[i]? with
    | some (some x) => (evE C e ρ S).bind fun w S => (augV o x w S).bind fun z S => .ok (.nx (ρ.set i (some z))) S
    | _ => .no := nr rfl
@[simp ↓] theorem x_exp {e : LE} : exS C (.exp e) ρ S = (evE C e ρ S).bind fun _ S => .ok (.nx ρ) S := nr rfl
@[simp ↓] theorem x_ret {e : LE} : exS C (.ret e) ρ S = (evE C e ρ S).bind fun v S => .ok (.ret v) S := nr rfl
@[simp ↓] theorem x_ite {c : LE} {a b : List LS} : exS C (.ite c a b) ρ S = (evT C c ρ S).bind fun x S => if x then exB C a ρ S else exB C b ρ S := nr rfl
@[simp ↓] theorem x_for {k : IK} {args : List LE} {tg : Tg} {body : List LS} : exS C (.for k args tg body) ρ S = (evL C args ρ S).bind fun vs S => (itV k vs S).bind fun items S => loopF (fF C tg body) items ρ S := nr rfl
@[simp] theorem x_brk : exS C .brk ρ S = .ok (.bk ρ) S := nr rfl
@[simp] theorem x_cont : exS C .cont ρ S = .ok (.ct ρ) S := nr rfl
@[simp] theorem x_pass : exS C .pass ρ S = .ok (.nx ρ) S := nr rfl
/-! by values -/
variable {i j : Int} {x y : PyData} {xs ys : List PyData} {n : Nat}
@[simp] theorem v_neg : negV (.d (.int i)) S = .ok (.d (.int (-i))) S := nr rfl
@[simp] theorem v_addI : binV .add (.d (.int i)) (.d (.int j)) S = .ok (.d (.int (i + j))) S := nr rfl
@[simp] theorem v_subI : binV .sub (.d (.int i)) (.d (.int j)) S = .ok (.d (.int (i - j))) S := nr rfl
@[simp] theorem v_mulI : Ok (binV .mul (.d (.int i)) (.d (.int j)) S) Q = ((fitM i = true ∧ fitM j = true) ∧ Q (.d (.int (i * j))) S) := by
  simp only [binV, toD, binD, k_okD, Bool.and_eq_true]
  apply propext
  constructor
  · rintro ⟨y, h, q⟩
    split at h
    · cases h; exact ⟨by assumption, q⟩
    · cases h
  · rintro ⟨h, q⟩
    exact ⟨_, if_pos h, q⟩
@[simp] theorem v_fdivI : Ok (binV .fdiv (.d (.int i)) (.d (.int j)) S) Q = ((j ≠ 0 ∧ fitD j = true) ∧ Q (.d (.int (i.fdiv j))) S) := by
  simp only [binV, toD, binD, k_okD]
  apply propext
  constructor
  · rintro ⟨y, h, q⟩
    split at h
    · cases h; exact ⟨by assumption, q⟩
    · cases h
  · rintro ⟨h, q⟩
    exact ⟨_, if_pos h, q⟩
@[simp] theorem v_modI : Ok (binV .mod (.d (.int i)) (.d (.int j)) S) Q = (j ≠ 0 ∧ Q (.d (.int (i.fmod j))) S) := by
  simp only [binV, toD, binD, k_okD]
  apply propext
  constructor
  · rintro ⟨y, h, q⟩
    split at h
    · cases h; exact ⟨by assumption, q⟩
    · cases h
  · rintro ⟨h, q⟩
    exact ⟨_, if_pos h, q⟩
@[simp] theorem v_powI : Ok (binV .pow (.d (.int i)) (.d (.int j)) S) Q = ((0 ≤ j ∧ j ≤ 1000 ∧ i.natAbs < 2 ^ 64) ∧ Q (.d (.int (i ^ j.toNat))) S) := by
  simp only [binV, toD, binD, k_okD]
  apply propext
  constructor
  · rintro ⟨y, h, q⟩
    split at h
    · cases h; exact ⟨by assumption, q⟩
    · cases h
  · rintro ⟨h, q⟩
    exact ⟨_, if_pos h, q⟩
@[simp] theorem v_addT : Ok (binV .add (.d (.tuple xs)) (.d (.tuple ys)) S) Q = (xs.length + ys.length ≤ lim ∧ Q (.d (.tuple (xs ++ ys))) S) := by
  simp only [binV, toD, binD, k_okD]
  apply propext
  constructor
  · rintro ⟨y, h, q⟩
    split at h
    · cases h; exact ⟨by assumption, q⟩
    · cases h
  · rintro ⟨h, q⟩
    exact ⟨_, if_pos h, q⟩
@[simp] theorem v_addL : Ok (binV .add (.d (.list xs)) (.d (.list ys)) S) Q = (xs.length + ys.length ≤ lim ∧ Q (.d (.list (xs ++ ys))) S) := by
  simp only [binV, toD, binD, k_okD]
  apply propext
  constructor
  · rintro ⟨y, h, q⟩
    split at h
    · cases h; exact ⟨by assumption, q⟩
    · cases h
  · rintro ⟨h, q⟩
    exact ⟨_, if_pos h, q⟩
@[simp] theorem v_mulT : Ok (binV .mul (.d (.tuple xs)) (.d (.int i)) S) Q = ((xs.length ≤ 1000 ∧ 2 ≤ i ∧ i ≤ 1000 ∧ xs.isEmpty = false) ∧ Q (.d (.tuple (List.replicate i.toNat xs).flatten)) S) := by
  simp only [binV, toD, binD, k_okD]
  apply propext
  constructor
  · rintro ⟨y, h, q⟩
    split at h
    · cases h; exact ⟨by assumption, q⟩
    · cases h
  · rintro ⟨h, q⟩
    exact ⟨_, if_pos h, q⟩
@[simp] theorem v_cmp {o : CO} : cmpV o (.d x) (.d y) S = lift (cmpD o x y) S := nr rfl
@[simp] theorem v_lt : cmpD .lt (.int i) (.int j) = some (decide (i < j)) := nr rfl
@[simp] theorem v_le : cmpD .le (.int i) (.int j) = some (decide (i ≤ j)) := nr rfl
@[simp] theorem v_gt : cmpD .gt (.int i) (.int j) = some (decide (j < i)) := nr rfl
@[simp] theorem v_ge : cmpD .ge (.int i) (.int j) = some (decide (j ≤ i)) := nr rfl
@[simp] theorem v_eq : cmpD .eq x y = eqD x y := nr rfl
@[simp] theorem v_ne : cmpD .ne x y = (eqD x y).map (!·) := nr rfl
@[simp] theorem v_eqI : eqD (.int i) (.int j) = some (decide (i = j)) := by
  simp only [eqD, scalD, PyData.eqv, if_true]
  by_cases h : i = j
  · simp [h]
  · simp [h]
@[simp] theorem v_eqB {a b : Bool} : eqD (.bool a) (.bool b) = some (a == b) := by
  simp only [eqD, scalD, PyData.eqv]
  rfl
@[simp] theorem v_isN : cmpD .is x .none = some (isNone x) := by cases x <;> rfl
@[simp] theorem v_isB {a b : Bool} : cmpD .is (.bool a) (.bool b) = some (decide (a = b)) := nr rfl
@[simp] theorem v_isnN : cmpD .isn x .none = some (!isNone x) := by cases x <;> rfl
@[simp] theorem v_isnB {a b : Bool} : cmpD .isn (.bool a) (.bool b) = some (!decide (a = b)) := nr rfl
@[simp] theorem v_in : cmpD .in_ x y = inD x y := nr rfl
@[simp] theorem v_nin : cmpD .nin x y = (inD x y).map (!·) := nr rfl
@[simp] theorem v_ix : ixV (.d x) (.d y) S = okD (ixD x y) S := nr rfl
@[simp] theorem v_ixs : ixV (.s xs) (.d (.int i)) S = okD (L2.atI xs i) S := nr rfl
theorem v_ixr (h : S[n]? = some (.lst xs)) : ixV (.r n) (.d y) S = okD (ixD (.list xs) y) S := by simp [ixV, toD, h]
@[simp] theorem v_ixL : ixD (.list xs) (.int i) = L2.atI xs i := nr rfl
@[simp] theorem v_ixT : ixD (.tuple xs) (.int i) = L2.atI xs i := nr rfl
theorem atI_n {α : Type} (xs : List α) (n : Nat) : L2.atI xs (n : Int) = xs[n]? := by
  unfold L2.atI L2.ixN
  rw [if_pos (by omega)]
  by_cases h : n < xs.length
  · rw [if_pos (by omega)]; rfl
  · rw [if_neg (by omega), List.getElem?_eq_none (by omega)]; rfl
@[simp] theorem atI_0 {α : Type} (xs : List α) : L2.atI xs 0 = xs[0]? := atI_n xs 0
@[simp] theorem atI_1 {α : Type} (xs : List α) : L2.atI xs 1 = xs[1]? := atI_n xs 1
@[simp] theorem atI_lit {α : Type} (xs : List α) (n : Nat) : L2.atI xs (no_index (OfNat.ofNat n : Int)) = xs[n]? := atI_n xs n
@[simp] theorem atI_m1 {α : Type} (xs : List α) : L2.atI xs (-1) = xs.getLast? := by
  unfold L2.atI L2.ixN
  rw [if_neg (by decide)]
  cases xs with
  | nil => rfl
  | cons x r =>
    rw [if_pos (by simp; omega)]
    have e : ((-1 : Int) + ((x :: r).length : Int)).toNat = (x :: r).length - 1 := by simp; omega
    rw [e, List.getLast?_eq_getElem?]
    rfl
@[simp] theorem v_sl {l h : Option Int} : slV (.d x) l h S = okD (slD x l h) S := nr rfl
@[simp] theorem v_slT {l h : Option Int} : slD (.tuple xs) l h = some (.tuple (cut xs l h)) := nr rfl
@[simp] theorem v_slL {l h : Option Int} : slD (.list xs) l h = some (.list (cut xs l h)) := nr rfl
@[simp] theorem v_len : biV .len [.d x] S = okD (biD .len [x]) S := nr rfl
@[simp] theorem v_lenS : biV .len [.s xs] S = .ok (.d (.int xs.length)) S := nr rfl
theorem v_lenR (h : S[n]? = some (.lst xs)) : biV .len [.r n] S = .ok (.d (.int xs.length)) S := by simp [biV, allD, toD, h, biD, okD]
@[simp] theorem v_b1 {b : BI} : biV b [.d x] S = okD (biD b [x]) S := by cases b <;> rfl
@[simp] theorem v_b2 {b : BI} : biV b [.d x, .d y] S = okD (biD b [x, y]) S := by cases b <;> rfl
@[simp] theorem v_lenL : biD .len [.list ys] = some (.int ys.length) := nr rfl
@[simp] theorem v_lenT : biD .len [.tuple ys] = some (.int ys.length) := nr rfl
@[simp] theorem v_abs : biD .abs [.int i] = some (.int (if i < 0 then -i else i)) := nr rfl
@[simp] theorem v_int : biD .int [.int i] = some (.int i) := nr rfl
@[simp] theorem v_tupL : biD .tuple [.list ys] = some (.tuple ys) := nr rfl
@[simp] theorem v_tupT : biD .tuple [.tuple ys] = some (.tuple ys) := nr rfl
@[simp] theorem v_lisL : biD .list [.list ys] = some (.list ys) := nr rfl
@[simp] theorem v_lisT : biD .list [.tuple ys] = some (.list ys) := nr rfl
@[simp] theorem v_max : biD .max [.int i, .int j] = some (.int (if j > i then j else i)) := nr rfl
@[simp] theorem v_min : biD .min [.int i, .int j] = some (.int (if j < i then j else i)) := nr rfl
@[simp] theorem v_allL : biD .all [.list ys] = (boolsOf ys).map fun bs => .bool (bs.all id) := nr rfl
@[simp] theorem v_sumL : biD .sum [.list ys] = (intsOf ys).map fun ns => .int ns.sum := nr rfl
@[simp] theorem v_isi {t : TY} : isiV t (.d x) S = .ok (isiD t x) S := nr rfl
@[simp] theorem v_tru : truV (.d x) S = lift (truD x) S := nr rfl
@[simp] theorem v_truB {b : Bool} : truD (.bool b) = some b := nr rfl
@[simp] theorem v_truI : truD (.int i) = some (i != 0) := nr rfl
@[simp] theorem v_bV {b : Bool} : bV b S = .ok (.d (.bool b)) S := nr rfl
@[simp] theorem v_asB {b : Bool} : asBool (.d (.bool b)) S = .ok b S := nr rfl
@[simp] theorem v_dat : dat1 (.d x) S = .ok (some x) S := nr rfl
@[simp] theorem v_pn : plain [] = some [] := nr rfl
@[simp] theorem v_pc {vs : List Val} : plain (.d x :: vs) = (plain vs).map (x :: ·) := nr rfl
@[simp] theorem v_tup {vs : List Val} : tupV (.d x :: vs) S = okD ((plain vs).map fun r => .tuple (x :: r)) S := by
  unfold tupV
  rw [v_pc]
  cases plain vs <;> rfl
@[simp] theorem v_tup0 : tupV [] S = .ok (.d (.tuple [])) S := nr rfl
@[simp] theorem v_lstF {vs : List Val} : lstV false (.d x :: vs) S = okD ((plain vs).map fun r => .list (x :: r)) S := by
  unfold lstV
  rw [v_pc]
  cases plain vs <;> rfl
@[simp] theorem v_lstF0 : lstV false [] S = .ok (.d (.list [])) S := nr rfl
@[simp] theorem v_lstT0 : lstV true [] S = .ok (.r S.length) (S ++ [.lst []]) := nr rfl
theorem v_lstT {vs : List Val} (h : plain vs = some xs) : lstV true vs S = .ok (.r S.length) (S ++ [.lst xs]) := by
  unfold lstV
  rw [h]
  rfl
@[simp] theorem v_ret1F : ret1 false x S = .ok (.d x) S := nr rfl
@[simp] theorem v_ret1T : ret1 true (.list xs) S = .ok (.r S.length) (S ++ [.lst xs]) := nr rfl
@[simp] theorem v_seqL : itV .seq [.d (.list xs)] S = .ok xs S := nr rfl
@[simp] theorem v_seqT : itV .seq [.d (.tuple xs)] S = .ok xs S := nr rfl
theorem v_rng (h1 : -1000000000000000000 ≤ i) (h2 : i < 1000000000000000000) : itV .range [.d (.int i)] S = .ok (rng 0 i.toNat) S := by
  simp [itV, plain, itD, itRng, smallI, h1, h2]
theorem v_rng2 (h1 : -1000000000000000000 ≤ i) (h2 : i < 1000000000000000000) (h3 : -1000000000000000000 ≤ j) (h4 : j < 1000000000000000000) : itV .range [.d (.int i), .d (.int j)] S = .ok (rng i (j - i).toNat) S := by
  simp [itV, plain, itD, itRng, smallI, h1, h2, h3, h4]
@[simp] theorem v_nx {ρ : Env} : nxO (some ρ) S = .ok (.nx ρ) S := nr rfl
@[simp] theorem v_nxN : nxO none S = .no := nr rfl
@[simp] theorem v_set0 {ρ : Env} : setVals ρ [] [] = some ρ := nr rfl
@[simp] theorem v_set1 {ρ : Env} {k : Nat} {is : List Nat} {v : Val} {vs : List Val} : setVals ρ (k :: is) (v :: vs) = setVals (ρ.set k (some v)) is vs := nr rfl
@[simp] theorem v_sm0 {ρ : Env} : setMany ρ [] [] = some ρ := nr rfl
@[simp] theorem v_sm1 {ρ : Env} {k : Nat} {is : List Nat} : setMany ρ (k :: is) (x :: xs) = setMany (ρ.set k (some (.d x))) is xs := nr rfl
@[simp] theorem v_unpT {ρ : Env} {is : List Nat} : unpV is (.d (.tuple xs)) ρ S = nxO (setMany ρ is xs) S := nr rfl
@[simp] theorem v_unpL {ρ : Env} {is : List Nat} : unpV is (.d (.list xs)) ρ S = nxO (setMany ρ is xs) S := nr rfl
@[simp] theorem v_augA : augV .add (.d (.int i)) (.d (.int j)) S = .ok (.d (.int (i + j))) S := nr rfl
@[simp] theorem v_augS : augV .sub (.d (.int i)) (.d (.int j)) S = .ok (.d (.int (i - j))) S := nr rfl
theorem v_need (h : S[n]? = some (.lst xs)) : needL (.r n) S = .ok () S := by simp [needL, h]
theorem v_app {Q : Unit → Sto → Prop} (h : S[n]? = some (.lst xs)) : Ok (appV (.r n) (.d x) S) Q = (xs.length < lim ∧ Q () (S.set n (.lst (xs ++ [x])))) := by
  simp only [appV, h, k_if]
  by_cases hx : xs.length < lim
  · rw [if_pos hx]; simp [hx]
  · rw [if_neg hx]; simp [hx]
theorem v_setL {Q : Unit → Sto → Prop} (h : S[n]? = some (.lst xs)) {k : Nat} (hk : k < xs.length) : Ok (setV (.r n) (.d (.int (k : Int))) (.d x) S) Q = Q () (S.set n (.lst (xs.set k x))) := by
  have e : L2.ixN xs.length (k : Int) = some k := by
    unfold L2.ixN
    rw [if_pos (by omega), if_pos (by omega)]
    rfl
  simp [setV, h, e]
theorem v_setL0 {Q : Unit → Sto → Prop} (h : S[n]? = some (.lst (y :: xs))) : Ok (setV (.r n) (.d (.int 0)) (.d x) S) Q = Q () (S.set n (.lst (x :: xs))) := v_setL h (k := 0) (by simp)
theorem v_setL1 {z : PyData} {Q : Unit → Sto → Prop} (h : S[n]? = some (.lst (z :: y :: xs))) : Ok (setV (.r n) (.d (.int 1)) (.d x) S) Q = Q () (S.set n (.lst (z :: x :: xs))) := v_setL h (k := 1) (by simp)
theorem take_set {n : Nat} {x : SE} {l : Nat} (h : S.length ≤ l) : (S.set n x).take l = S.set n x := List.take_of_length_le (by simpa using h)
@[simp] theorem take_set' {n : Nat} {x : SE} : (S.set n x).take S.length = S.set n x := take_set (Nat.le_refl _)
@[simp] theorem take_app {S2 : Sto} : (S ++ S2).take S.length = S := by simp
@[simp] theorem v_one {k : Nat} {ρ : Env} : bindTg (.one k) x ρ = some (ρ.set k (some (.d x))) := nr rfl
@[simp] theorem v_many {is : List Nat} {ρ : Env} : bindTg (.many is) (.tuple xs) ρ = setMany ρ is xs := nr rfl
@[simp] theorem v_wipe0 {ρ : Env} : wipeE ρ [] = ρ := nr rfl
@[simp] theorem v_wipe1 {ρ : Env} {k : Nat} {is : List Nat} : wipeE ρ (k :: is) = (wipeE ρ is).set k none := nr rfl
theorem onTg_some {α : Type} {tg : Tg} {ρ ρ' : Env} {f : Env → R α} (h : bindTg tg x ρ = some ρ') : onTg tg x ρ f = f ρ' := by simp [onTg, h]
@[simp] theorem f_ret {x : PyData} {S' : Sto} : finQ S Q (.ret (.d x)) S' = Q (.d x) (S'.take S.length) := nr rfl
@[simp] theorem f_retR {S' : Sto} : finQ S Q (.ret (.r n)) S' = Q (.r n) S' := nr rfl
@[simp] theorem f_nx {ρ : Env} {S' : Sto} : finQ S Q (.nx ρ) S' = Q (.d .none) (S'.take S.length) := nr rfl
@[simp] theorem onTg_one {α : Type} {k : Nat} {ρ : Env} {f : Env → R α} : onTg (.one k) x ρ f = f (ρ.set k (some (.d x))) := nr rfl
end
end Z

namespace W
open PySem Z
theorem pick_ok {k n : Nat} {m : Int} {S : Sto} {Q : Val → Sto → Prop} (hS : Src S n) (h0 : 0 < m) (h1 : m < 2 ^ 200) (hQ : ∀ (d : Int) S', 0 ≤ d → d < m → Src S' n → Sm n S S' → Q (.d (.int d)) S') : Ok (callF tab (k + 1) 9 [.r n, .d (.int m)] S) Q := by
  obtain ⟨a, b, p, hn, ha, hb, hp, hp2⟩ := hS
  have hl : n < S.length := (List.getElem?_eq_some_iff.mp hn).1
  refine Ok_call rfl rfl ?_
  have hm : m ≠ 0 := by omega
  simp [d__law_pick, Z.start, v_ixr hn]
  by_cases h : 0 < a
  · simp [h, v_ixr hn, hm, v_setL0 hn]
    exact ⟨fitD_of (by omega) (by omega), hQ _ _ (fmod_lo h0) (fmod_hi h0) ⟨a.fdiv m, b, p, by rw [List.getElem?_set_self hl], Int.fdiv_nonneg ha (by omega), hb, hp, hp2⟩ Sm.set⟩
  · have hp0 : p ≠ 0 := by omega
    have hn2 : (S.set n (SE.lst [.int a, .int ((b * 48271 + 11).fmod p), .int p]))[n]? = some (SE.lst [.int a, .int ((b * 48271 + 11).fmod p), .int p]) := List.getElem?_set_self hl
    have b1 : 0 ≤ (b * 48271 + 11).fmod p := fmod_lo (by omega)
    have b2 : (b * 48271 + 11).fmod p < p := fmod_hi (by omega)
    simp [h, v_ixr hn, hm, hl, v_setL1 hn, hp0, v_ixr hn2]
    refine ⟨⟨fitM_of (by omega) (by omega), fitM_of (by omega) (by omega)⟩, fitM_of (by omega) (by omega), ?_⟩
    exact ⟨fitD_of (by omega) (by omega), hQ _ _ (fmod_lo h0) (fmod_hi h0) ⟨a, _, p, hn2, ha, b1, b2, hp2⟩ Sm.set⟩
theorem fitM_lit {i : Int} (h : i.natAbs < 18446744073709551616) : fitM i = true := fitM_of (by omega) (by omega)
theorem Ok_at {xs : List PyData} {i : Int} {S : Sto} {Q : Val → Sto → Prop} (h0 : 0 ≤ i) (h : i < xs.length) (hQ : ∀ x ∈ xs, Q (.d x) S) : Ok (okD (L2.atI xs i) S) Q := by
  obtain ⟨x, e, hx⟩ := atI_mem h0 h
  rw [e]
  exact Ok_ok.mpr (hQ x hx)
theorem source_fin {k : Nat} {i : Int} {ns : List Int} {S : Sto} {Q : Val → Sto → Prop} (h0 : 0 ≤ i) (h1 : i < 1000) (hQ : ∀ S' n, Src S' n → Q (.r n) S') (cell : Int) : Ok (exB (callF tab k) (d__law_source.body.drop 2) [some (.s (ns.map .int)), some (.d (.int i)), some (.d (.int cell)), none, none, none] S) (finQ S Q) := by
    simp [d__law_source]
    refine Ok_at (fmod_lo (by decide)) (by have := fmod_hi (a := i) (m := 8) (by decide); simpa using this) fun x hx => ?_
    have key : ∃ p : Int, x = .int p ∧ 2147483400 < p ∧ p ≤ 2147483647 := by
      simp only [List.mem_cons, List.not_mem_nil, or_false] at hx
      rcases hx with rfl | rfl | rfl | rfl | rfl | rfl | rfl | rfl <;> exact ⟨_, rfl, by decide, by decide⟩
    obtain ⟨p, rfl, hp1, hp2⟩ := key
    have c1 := fmod_lo (a := cell) (m := p) (by omega)
    have c2 := fmod_hi (a := cell) (m := p) (by omega)
    have hp0 : p ≠ 0 := by omega
    have b1 := fmod_lo (a := cell.fmod p * 48271 + 104729 * (i + 1)) (m := p) (by omega)
    have b2 := fmod_hi (a := cell.fmod p * 48271 + 104729 * (i + 1)) (m := p) (by omega)
    simp [hp0]
    refine ⟨⟨fitM_of (by omega) (by omega), fitM_lit (by omega)⟩, ⟨fitM_lit (by omega), fitM_of (by omega) (by omega)⟩, ?_⟩
    by_cases hc : (1000000000000000000 : Int) ≤ cell
    · simp [hc, lstV]
      exact hQ _ _ ⟨cell, _, p, by simp, by omega, b1, b2, hp2⟩
    · simp [hc, lstV]
      exact hQ _ _ ⟨0, _, p, by simp, by omega, b1, b2, hp2⟩
theorem source_ok {k : Nat} {i : Int} {ns : List Int} {S : Sto} {Q : Val → Sto → Prop} (h0 : 0 ≤ i) (h1 : i < 1000) (hQ : ∀ S' n, Src S' n → Q (.r n) S') : Ok (callF tab (k + 1) 8 [.s (ns.map .int), .d (.int i)] S) Q := by
  refine Ok_call rfl rfl ?_
  simp [d__law_source, Z.start, List.replicate]
  refine ⟨⟨fitM_lit (by omega), fitM_of (by omega) (by omega)⟩, ?_⟩
  by_cases h : i < ns.length
  · simp [h]
    obtain ⟨n, rfl⟩ := Int.eq_ofNat_of_zero_le h0
    have hn : n < ns.length := by simpa using h
    have e : L2.atI (ns.map PyData.int) (n : Int) = some (.int ns[n]) := by rw [atI_n]; simp [hn]
    have f := source_fin (k := k) (ns := ns) (S := S) h0 h1 hQ ns[n]
    simp [d__law_source] at f
    simp [e]
    exact f
  · have f := source_fin (k := k) (ns := ns) (S := S) h0 h1 hQ (7919 * i + 101)
    simp [d__law_source] at f
    simp [h]
    exact f
theorem rng_mem {a : Int} {n : Nat} {x : PyData} (h : x ∈ rng a n) : ∃ j : Nat, j < n ∧ x = .int (a + j) := by
  unfold rng at h
  obtain ⟨j, hj, rfl⟩ := List.mem_map.mp h
  exact ⟨j, List.mem_range.mp hj, rfl⟩
theorem rng_len {a : Int} {n : Nat} : (rng a n).length = n := by simp [rng]
/-- what a draw of several things keeps -/
def Kp (n : Nat) (S0 S : Sto) : Prop := Src S n ∧ Sm n S0 S
theorem Kp.mk' {n : Nat} {S0 S S' : Sto} (a : Sm n S0 S) (b : Src S' n) (c : Sm n S S') : Kp n S0 S' := ⟨b, a.trans c⟩
theorem Sm.take {n : Nat} {S S' : Sto} (h : Sm n S S') : S'.take S.length = S' := List.take_of_length_le (Nat.le_of_eq h.1)
theorem Sm.take2 {n : Nat} {S S' : Sto} {x : Sto} (h : Sm n S S') : (S' ++ x).take S.length = S' := by rw [← h.1]; simp
/-- numbers: a list of as many as are asked for -/
def IntL (m : Nat) (x : PyData) : Prop := ∃ ns : List Int, x = .list (ns.map .int) ∧ ns.length = m
theorem intL_of {m : Nat} {ys : List PyData} (h : ∀ y ∈ ys, ∃ i : Int, y = .int i) (hl : ys.length = m) : IntL m (.list ys) := by
  induction ys generalizing m with
  | nil => exact ⟨[], rfl, hl⟩
  | cons y ys ih =>
    obtain ⟨i, rfl⟩ := h y List.mem_cons_self
    obtain ⟨ns, e, hn⟩ := ih (fun z hz => h z (List.mem_cons_of_mem _ hz)) rfl
    cases e
    exact ⟨i :: ns, rfl, by simp at hl ⊢; omega⟩
theorem line_loop {C : Nat → List Val → Sto → R Val} {m : Nat} {first step : Int} {v0 v1 v2 v4 v6 v7 v8 : Option Val} {S : Sto} {Q : List PyData → Sto → Prop} (hm : m ≤ 10) (h1 : -1000000000000000000000 ≤ step) (h2 : step ≤ 1000000000000000000000) (hQ : ∀ ys, IntL m (.list ys) → Q ys S) :
    Ok (loopC (fC C (.one 8) [8] none (.bin .add (.var 3) (.bin .mul (.var 8) (.var 5))) [v0, v1, v2, some (.d (.int first)), v4, some (.d (.int step)), v6, v7, v8]) (rng 0 m) [] S) Q := by
  refine Ok_loopC (fun S' => S' = S) (fun y => ∃ i : Int, y = .int i) (fun x hx S1 e => ?_) rfl (by simp [rng_len, lim]; omega) fun ys S' e hy hl => ?_
  · subst e
    obtain ⟨j, hj, rfl⟩ := rng_mem hx
    simp [fC]
    exact ⟨fitM_of (by omega) (by omega), fitM_of (by omega) (by omega)⟩
  · subst e
    exact hQ _ (intL_of (by simpa using hy) (by simp [hl, rng_len]))
/-- the products, one behind another -/
theorem prod_loop {C : Nat → List Val → Sto → R Val} {n q m : Nat} {fac : Int} {v0 v1 v2 v3 v4 v5 v8 : Option Val} {S0 S : Sto} {Q : Fl → Sto → Prop} (hq : q ≠ n) (hf1 : -8 ≤ fac) (hf2 : fac ≤ 8) (L : List Int) (last : Int) (hL : S[q]? = some (.lst ((L ++ [last]).map .int))) (hb : last.natAbs ≤ 16 * 8 ^ L.length) (hm : m + L.length ≤ 20) (hS : Src S n) (hs : ∀ i, i ≠ n → i ≠ q → S[i]? = S0[i]?) (hl : S.length = S0.length)
    (hQ : ∀ (v8 : Option Val) (L' : List Int) S', L'.length = m + L.length + 1 → S'[q]? = some (.lst (L'.map .int)) → Src S' n → (∀ i, i ≠ n → i ≠ q → S'[i]? = S0[i]?) → S'.length = S0.length → Q (.nx [v0, v1, v2, v3, v4, v5, some (.d (.int fac)), some (.r q), v8]) S') :
    ∀ j : Int, Ok (loopF (fF C (.one 8) [.app (.var 7) (.bin .mul (.ix (.var 7) (.neg (.lit (.int 1)))) (.var 6))]) (rng j m) [v0, v1, v2, v3, v4, v5, some (.d (.int fac)), some (.r q), v8] S) Q := by
  induction m generalizing L last v8 S with
  | zero =>
    intro j
    exact Ok_ok.mpr (hQ v8 (L ++ [last]) S (by simp) hL hS hs hl)
  | succ m ih =>
    intro j
    have e : rng j (m + 1) = .int j :: rng (j + 1) m := by
      unfold rng
      rw [List.range_succ_eq_map, List.map_cons, List.map_map]
      simp
      intro a _
      omega
    rw [e]
    have hp : (8 : Nat) ^ L.length ≤ 8 ^ 20 := Nat.pow_le_pow_right (by decide) (by omega)
    have hql : q < S.length := (List.getElem?_eq_some_iff.mp hL).1
    simp [loopF, fF, v_need hL, v_ixr hL, v_app hL]
    refine ⟨⟨fitM_of (by omega) (by omega), fitM_of (by omega) (by omega)⟩, by simp [lim]; omega, ?_⟩
    have hb' : (last * fac).natAbs ≤ 16 * 8 ^ (L ++ [last]).length := by
      rw [Int.natAbs_mul, List.length_append, List.length_singleton, Nat.pow_succ]
      have : fac.natAbs ≤ 8 := by omega
      calc last.natAbs * fac.natAbs ≤ (16 * 8 ^ L.length) * 8 := Nat.mul_le_mul hb this
        _ = 16 * (8 ^ L.length * 8) := by rw [Nat.mul_assoc]
    obtain ⟨a, b, p, hn, z⟩ := hS
    refine ih (v8 := some (.d (.int j))) (L ++ [last]) (last * fac) ?_ hb' (by simp; omega) ⟨a, b, p, by rw [List.getElem?_set_ne hq]; exact hn, z⟩ (fun i hi hi2 => by rw [List.getElem?_set_ne (Ne.symm hi2)]; exact hs i hi hi2) (by simpa using hl) ?_ (j + 1)
    · rw [List.getElem?_set_self hql]
      simp
    · intro v8 L' S' h1 h2 h3 h4 h5
      exact hQ v8 L' S' (by rw [h1]; simp; omega) h2 h3 h4 h5
def numQ (n m : Nat) (f p : Int) (q : Nat) (S : Sto) : Fl → Sto → Prop := fun fl S' => ∃ (v8 : Option Val) (L' : List Int), fl = .nx [some (.r n), some (.d (.int (m : Int))), some (.d (.int 3)), some (.d (.int (f - 4))), none, none, some (.d (.int p)), some (.r q), v8] ∧ L'.length = m ∧ S'[q]? = some (.lst (L'.map PyData.int)) ∧ Src ((S'.set q .gone).take S.length) n ∧ Sm n S ((S'.set q .gone).take S.length)
structure InI (a b p : Int) : Prop where
  mk' ::
  lo : a ≤ p
  hi : p ≤ b
theorem numbers_ok {k n m : Nat} {S : Sto} {Q : Val → Sto → Prop} (hS : Src S n) (hm0 : 0 < m) (hm : m ≤ 10) (hQ : ∀ x S', IntL m x → Src S' n → Sm n S S' → Q (.d x) S') : Ok (callF tab (k + 2) 12 [.r n, .d (.int (m : Int))] S) Q := by
  refine Ok_call rfl rfl ?_
  simp [d__law_numbers, Z.start, List.replicate]
  refine pick_ok hS (by decide) (by decide) fun w S1 a1 a2 hS1 hs1 => ?_
  simp
  refine pick_ok hS1 (by decide) (by decide) fun f S2 b1 b2 hS2 hs2 => ?_
  have hs2 := hs1.trans hs2
  simp
  by_cases hw : w = 0
  · simp [hw]
    refine ⟨⟨fitM_of (by omega) (by omega), fitM_lit (by omega)⟩, ?_⟩
    refine pick_ok hS2 (by decide) (by decide) fun d3 S3 c1 c2 hS3 hs3 => ?_
    have hs3 := hs2.trans hs3
    simp
    refine pick_ok hS3 (by decide) (by decide) fun d4 S4 e1 e2 hS4 hs4 => ?_
    have hs4 := hs3.trans hs4
    simp
    refine ⟨⟨fitM_lit (by omega), fitM_lit (by omega)⟩, ?_⟩
    rw [v_rng (by omega) (by omega)]
    simp
    refine line_loop hm (by omega) (by omega) fun ys hy => ?_
    rw [hs4.take]
    exact hQ _ _ hy hS4 hs4
  · simp [hw]
    by_cases hw2 : w < 3
    · simp [hw2]
      refine pick_ok hS2 (by decide) (by decide) fun d3 S3 c1 c2 hS3 hs3 => ?_
      have hs3 := hs2.trans hs3
      simp
      rw [v_rng (by omega) (by omega)]
      simp
      refine line_loop hm (by omega) (by omega) fun ys hy => ?_
      rw [hs3.take]
      exact hQ _ _ hy hS3 hs3
    · simp [hw2]
      by_cases hw3 : w = 3
      · simp [hw3]
        refine pick_ok hS2 (by decide) (by decide) fun d3 S3 c1 c2 hS3 hs3 => ?_
        have hs3 := hs2.trans hs3
        refine Ok_at c1 (by simpa using c2) fun x hx => ?_
        have key : ∃ p : Int, x = .int p ∧ -8 ≤ p ∧ p ≤ 8 := by
          simp only [List.mem_cons, List.not_mem_nil, or_false] at hx
          rcases hx with rfl | rfl | rfl | rfl | rfl <;> exact ⟨_, rfl, by decide, by decide⟩
        obtain ⟨p, rfl, hp1, hp2⟩ := key
        have hnl : n < S3.length := by
          obtain ⟨a, b, p, h, _⟩ := hS3
          exact (List.getElem?_eq_some_iff.mp h).1
        have em : ((m : Int) - 1).toNat = m - 1 := by omega
        have fin : ∀ v : Int, v.natAbs ≤ 16 → ∀ v8 : Option Val, Ok (loopF (fF (callF tab (k + 1)) (.one 8) [.app (.var 7) (.bin .mul (.ix (.var 7) (.neg (.lit (.int 1)))) (.var 6))]) (rng 0 (m - 1)) [some (.r n), some (.d (.int (m : Int))), some (.d (.int 3)), some (.d (.int (f - 4))), none, none, some (.d (.int p)), some (.r S3.length), v8] (S3 ++ [.lst [.int v]])) (numQ n m f p S3.length S) := fun v hv v8 => by
          refine prod_loop (Q := numQ n m f p S3.length S) (n := n) (q := S3.length) (m := m - 1) (fac := p) (S0 := S3 ++ [.lst [.int v]]) (by omega) hp1 hp2 [] v (by simp) (by simpa using hv) (by simp; omega) ?_ (fun i _ _ => rfl) rfl (fun v8 L' S' h1 h2 h3 h4 h5 => ?_) 0
          · obtain ⟨a, b, p, h, z⟩ := hS3
            exact ⟨a, b, p, by rw [List.getElem?_append_left hnl]; exact h, z⟩
          refine ⟨v8, L', rfl, by simp at h1; omega, h2, ?_, ?_⟩
          · obtain ⟨a, b, p, h, z⟩ := h3
            refine ⟨a, b, p, ?_, z⟩
            rw [List.getElem?_take_of_lt (by rw [← hs3.1]; exact hnl), List.getElem?_set_ne (by omega)]
            exact h
          · refine ⟨by rw [List.length_take, List.length_set, h5, List.length_append, hs3.1]; simp, fun i hi => ?_⟩
            by_cases hil : i < S.length
            · rw [List.getElem?_take_of_lt hil, List.getElem?_set_ne (by rw [hs3.1]; omega), h4 i hi (by rw [hs3.1]; omega), List.getElem?_append_left (by rw [hs3.1]; exact hil)]
              exact hs3.2 i hi
            · rw [List.getElem?_eq_none (by rw [List.length_take]; omega), List.getElem?_eq_none (by omega)]
        by_cases hf : f - 4 = 0
        · simp [hf, lstV]
          rw [v_rng (by omega) (by omega), em]
          simp
          have f1 := fin 1 (by decide) none
          rw [hf] at f1
          refine Ok.mono f1 fun fl S' ⟨v8, L', e1, e2, e3, e4, e5⟩ => ?_
          subst e1
          simp [e3]
          exact hQ _ _ ⟨L', rfl, e2⟩ e4 e5
        · simp [hf, lstV]
          rw [v_rng (by omega) (by omega), em]
          simp
          refine Ok.mono (fin (f - 4) (by omega) none) fun fl S' ⟨v8, L', e1, e2, e3, e4, e5⟩ => ?_
          subst e1
          simp [e3]
          exact hQ _ _ ⟨L', rfl, e2⟩ e4 e5
      · simp [hw3]
        refine pick_ok hS2 (by decide) (by decide) fun d3 S3 c1 c2 hS3 hs3 => ?_
        have hs3 := hs2.trans hs3
        refine Ok_at c1 (by simpa using c2) fun x hx => ?_
        have key : ∃ p : Int, x = .int p ∧ InI 1 1000000000 p := by
          simp only [List.mem_cons, List.not_mem_nil, or_false] at hx
          rcases hx with rfl | rfl | rfl <;> first | exact ⟨3, rfl, InI.mk' (by omega) (by omega)⟩ | exact ⟨9, rfl, InI.mk' (by omega) (by omega)⟩ | exact ⟨1000000000, rfl, InI.mk' (by omega) (by omega)⟩
        clear hx
        rw [v_rng (by omega) (by omega)]
        obtain ⟨p, rfl, hpi⟩ := key
        have hp1 := hpi.1
        have hp2 := hpi.2
        simp
        refine Ok_loopC (fun S' => Src S' n ∧ Sm n S S') (fun y => ∃ i : Int, y = .int i) (fun x hx S1 e => ?_) ⟨hS3, hs3⟩ (by simp [rng_len, lim]; omega) fun ys S' e hy hl => ?_
        · obtain ⟨j, hj, rfl⟩ := rng_mem hx
          simp [fC]
          refine ⟨⟨fitM_lit (by omega), fitM_of (by omega) (by omega)⟩, ?_⟩
          refine pick_ok e.1 (by omega) (by omega) fun d5 S5 g1 g2 hS5 hs5 => ?_
          simp
          exact ⟨hS5, e.2.trans hs5⟩
        · simp
          rw [e.2.take]
          exact hQ _ _ (intL_of (by simpa using hy) (by simp [hl, rng_len])) e.1 e.2
end W

namespace W
open PySem Z
def bigB : PyData → Bool
  | .str s => decide (s.cps.size ≤ 1000) && s.cps.toList.all fun c => decide (c < 128)
  | _ => true
theorem bigB_ok {x : PyData} (h : bigB x = true) : big x := by
  cases x with
  | str s =>
    simp only [bigB, Bool.and_eq_true, decide_eq_true_eq, List.all_eq_true] at h
    exact h
  | _ => trivial
def bigCB (x : PyData) : Bool := bigB x && match x with
  | .tuple [a, _] => bigB a
  | _ => true
theorem bigCB_ok {x : PyData} (h : bigCB x = true) : bigC x := by
  unfold bigCB at h
  simp only [Bool.and_eq_true] at h
  refine ⟨bigB_ok h.1, fun a b e => ?_⟩
  subst e
  exact bigB_ok h.2
def bigSB : PyData → Bool
  | .tuple cs => decide (cs.length ≤ 1000) && cs.all bigCB
  | _ => true
theorem bigSB_ok {x : PyData} (h : bigSB x = true) : bigS x := by
  intro cs e
  subst e
  simp only [bigSB, Bool.and_eq_true, decide_eq_true_eq, List.all_eq_true] at h
  exact ⟨h.1, fun c hc => bigCB_ok (h.2 c hc)⟩
/-- a good cell -/
def gC (x : PyData) : Prop := isCellX x = true ∧ bigC x
theorem gC_int (i : Int) : gC (.int i) := ⟨rfl, trivial, fun a b e => nomatch e⟩
def gCB (x : PyData) : Bool := isCellX x && bigCB x
theorem gCB_ok {x : PyData} (h : gCB x = true) : gC x := by
  unfold gCB at h
  simp only [Bool.and_eq_true] at h
  exact ⟨h.1, bigCB_ok h.2⟩
def CellT (m : Nat) (x : PyData) : Prop := ∃ cs, x = .tuple cs ∧ cs.length = m ∧ ∀ c ∈ cs, gC c
theorem chosen_ok {k n : Nat} {xs : List PyData} {S : Sto} {Q : Val → Sto → Prop} (hS : Src S n) (h0 : 0 < xs.length) (h1 : xs.length < 1000000) (hQ : ∀ x S', x ∈ xs → Src S' n → Sm n S S' → Q (.d x) S') : Ok (callF tab (k + 2) 10 [.r n, .d (.list xs)] S) Q := by
  refine Ok_call rfl rfl ?_
  simp [d__law_chosen, Z.start]
  refine pick_ok hS (by omega) (by omega) fun d S1 a1 a2 hS1 hs1 => ?_
  simp
  refine Ok_at a1 a2 fun x hx => ?_
  simp
  rw [hs1.take]
  exact hQ x S1 hx hS1 hs1
def listsL : List PyData := [.tuple [.str "a", .str "b"], .tuple [.str "a", .str "b", .str "c"], .tuple [.str "b", .str "a"], .tuple [.str "c", .str "a", .str "b"], .tuple [.str "a", .str "c", .str "b", .str "d"], .tuple [.str "x", .str "a"], .tuple [.str "b", .str "c"], .tuple [.str "d", .str "c", .str "b", .str "a"]]
theorem lists_ok {k : Nat} {S : Sto} {Q : Val → Sto → Prop} (h : Q (.d (.list listsL)) S) : Ok (callF tab (k + 1) 11 [] S) Q := by
  refine Ok_call rfl rfl ?_
  simp [d__law_lists, Z.start, lim]
  exact h
def wordsB : PyData → Bool
  | .tuple cs => decide (0 < cs.length) && decide (cs.length ≤ 10) && cs.all gCB
  | _ => false
theorem lists_good : listsL.all wordsB = true := by decide +kernel
theorem cells_of {m : Nat} {ys : List PyData} (h : ∀ y ∈ ys, gC y) (hl : ys.length = m) : CellT m (.tuple ys) := ⟨ys, rfl, hl, h⟩
theorem some_cells_ok {k n m : Nat} {S : Sto} {Q : Val → Sto → Prop} (hS : Src S n) (hm0 : 0 < m) (hm : m ≤ 10) (hQ : ∀ x S', CellT m x → Src S' n → Sm n S S' → Q (.d x) S') : Ok (callF tab (k + 3) 13 [.r n, .d (.int (m : Int))] S) Q := by
  refine Ok_call rfl rfl ?_
  simp [d__law_some_cells, Z.start, List.replicate]
  refine pick_ok hS (by decide) (by decide) fun w S1 a1 a2 hS1 hs1 => ?_
  simp
  by_cases h1 : w < 3
  · simp [h1]
    refine numbers_ok hS1 hm0 hm fun x S2 hx hS2 hs2 => ?_
    obtain ⟨ns, rfl, hl⟩ := hx
    have hs2 := hs1.trans hs2
    simp
    rw [hs2.take]
    refine hQ _ _ (cells_of (fun y hy => ?_) (by simpa using hl)) hS2 hs2
    obtain ⟨i, _, rfl⟩ := List.mem_map.mp hy
    exact gC_int i
  · simp [h1]
    by_cases h2 : w = 3
    · simp [h2]
      refine pick_ok hS1 (by decide) (by decide) fun d2 S2 b1 b2 hS2 hs2 => ?_
      have hs2 := hs1.trans hs2
      refine Ok_at b1 (by simpa using b2) fun x hx => ?_
      refine numbers_ok hS2 hm0 hm fun y S3 hy hS3 hs3 => ?_
      obtain ⟨ns, rfl, hl⟩ := hy
      have hs3 := hs2.trans hs3
      simp
      refine Ok_loopC (fun S' => S' = S3) gC (fun z hz S4 e => ?_) rfl (by simp [lim]; omega) fun ys S4 e hy hl2 => ?_
      · subst e
        obtain ⟨i, _, rfl⟩ := List.mem_map.mp hz
        simp [fC]
        simp only [List.mem_cons, List.not_mem_nil, or_false] at hx
        have e0 : ∀ s : Str, wordS s = true → bigB (.str s) = true → gC (.tuple [.str s, .int i]) := fun s hs hb => ⟨by simp [isCellX, isIntX, isWordX, isNumX, hs], trivial, fun a b e => by cases e; exact bigB_ok hb⟩
        rcases hx with rfl | rfl | rfl <;> exact e0 _ (by decide +kernel) (by decide +kernel)
      · subst e
        simp
        rw [hs3.take]
        exact hQ _ _ (cells_of (by simpa using hy) (by simpa [hl] using hl2)) hS3 hs3
    · simp [h2]
      by_cases h3 : w < 6
      · simp [h3]
        refine lists_ok ?_
        refine chosen_ok hS1 (by decide) (by decide) fun x S2 hx hS2 hs2 => ?_
        have hs2 := hs1.trans hs2
        have hg := List.all_eq_true.mp lists_good x hx
        clear hx
        cases x with
        | tuple cs =>
          simp only [wordsB, Bool.and_eq_true, decide_eq_true_eq, List.all_eq_true] at hg
          obtain ⟨⟨c1, c2⟩, c3⟩ := hg
          simp
          refine pick_ok hS2 (by omega) (by omega) fun d3 S3 e1 e2 hS3 hs3 => ?_
          have hs3 := hs2.trans hs3
          refine pick_ok hS3 (by omega) (by omega) fun d4 S4 f1 f2 hS4 hs4 => ?_
          have hs4 := hs3.trans hs4
          rw [v_rng (by omega) (by omega)]
          simp
          refine Ok_loopC (fun S' => S' = S4) gC (fun z hz S5 e => ?_) rfl (by simp [rng_len, lim]; omega) fun ys S5 e hy hl2 => ?_
          · subst e
            obtain ⟨j, hj, rfl⟩ := rng_mem hz
            have hc0 : cs ≠ [] := by intro q; rw [q] at c1; simp at c1
            simp [fC, hc0]
            refine ⟨⟨fitM_of (by omega) (by omega), fitM_of (by omega) (by omega)⟩, ?_⟩
            refine Ok_at (fmod_lo (by omega)) (fmod_hi (by omega)) fun x hx => ?_
            simp
            exact gCB_ok (c3 x hx)
          · subst e
            simp
            rw [hs4.take]
            exact hQ _ _ (cells_of (by simpa using hy) (by simpa [rng_len] using hl2)) hS4 hs4
        | _ => simp [wordsB] at hg
      · simp [h3]
        by_cases h4 : w = 6
        · simp [h4]
          rw [v_rng (by omega) (by omega)]
          simp
          refine Ok_loopC (fun S' => Src S' n ∧ Sm n S S') gC (fun z hz S4 e => ?_) ⟨hS1, hs1⟩ (by simp [rng_len, lim]; omega) fun ys S4 e hy hl2 => ?_
          · obtain ⟨j, hj, rfl⟩ := rng_mem hz
            simp [fC]
            refine pick_ok e.1 (by decide) (by decide) fun d5 S5 g1 g2 hS5 hs5 => ?_
            refine Ok_at g1 (by simpa using g2) fun x hx => ?_
            simp
            refine ⟨⟨hS5, e.2.trans hs5⟩, ?_⟩
            simp only [List.mem_cons, List.not_mem_nil, or_false] at hx
            rcases hx with rfl | rfl | rfl | rfl | rfl | rfl <;> exact gCB_ok (by decide +kernel)
          · simp
            rw [e.2.take]
            exact hQ _ _ (cells_of (by simpa using hy) (by simpa [rng_len] using hl2)) e.1 e.2
        · simp [h4]
          rw [v_rng (by omega) (by omega)]
          simp
          refine Ok_loopC (fun S' => Src S' n ∧ Sm n S S') gC (fun z hz S4 e => ?_) ⟨hS1, hs1⟩ (by simp [rng_len, lim]; omega) fun ys S4 e hy hl2 => ?_
          · obtain ⟨j, hj, rfl⟩ := rng_mem hz
            simp [fC]
            refine pick_ok e.1 (by decide) (by decide) fun d5 S5 g1 g2 hS5 hs5 => ?_
            refine Ok_at g1 (by simpa using g2) fun x hx => ?_
            simp
            refine ⟨⟨hS5, e.2.trans hs5⟩, ?_⟩
            simp only [List.mem_cons, List.not_mem_nil, or_false] at hx
            rcases hx with rfl | rfl | rfl | rfl | rfl | rfl <;> exact gCB_ok (by decide +kernel)
          · simp
            rw [e.2.take]
            exact hQ _ _ (cells_of (by simpa using hy) (by simpa [rng_len] using hl2)) e.1 e.2
/-- so many parts, each as long -/
def PartsOk (P L : Nat) (x : PyData) : Prop := ∃ ps, x = .list ps ∧ ps.length = P ∧ ∀ p ∈ ps, CellT L p
theorem parts_loop {k n P L : Nat} {ρ : Z.Env} {S S1 : Sto} {Q : List PyData → Sto → Prop} (h0 : ρ[0]? = some (some (.r n))) (hl : 3 < ρ.length) (hP : P ≤ 10) (hL0 : 0 < L) (hL : L ≤ 10) (hS1 : Src S1 n) (hs1 : Sm n S S1)
    (hQ : ∀ ys S', PartsOk P L (.list ys) → Src S' n → Sm n S S' → Q ys S') : Ok (loopC (fC (callF tab (k + 3)) (.one 3) [3] none (.call 13 [(.var 0), (.lit (.int (L : Int)))]) ρ) (rng 0 P) [] S1) Q := by
  refine Ok_loopC (fun S' => Src S' n ∧ Sm n S S') (CellT L) (fun z hz S4 e => ?_) ⟨hS1, hs1⟩ (by simp [rng_len, lim]; omega) fun ys S4 e hy hl2 => ?_
  · have e1 : ((ρ.set 3 none).set 3 (some (.d z)))[0]? = some (some (.r n)) := by
      rw [List.getElem?_set_ne (by decide), List.getElem?_set_ne (by decide)]
      exact h0
    simp only [fC, onTg_one, v_wipe1, v_wipe0, k_bind, o_none, k_ok, k_if, if_true, k_call, l_cons, l_nil, k_var, e1, k_lit]
    refine some_cells_ok e.1 hL0 hL fun x S5 hx hS5 hs5 => ?_
    simp
    exact ⟨⟨hS5, e.2.trans hs5⟩, hx⟩
  · exact hQ _ _ ⟨_, rfl, by simpa [rng_len] using hl2, by simpa using hy⟩ e.1 e.2
theorem fmod_nat (a b : Nat) : ((a : Int)).fmod (b : Int) = ((a % b : Nat) : Int) := by
  rw [Int.fmod_eq_emod_of_nonneg _ (by omega)]
  rfl
theorem fdiv_nat (a b : Nat) : ((a : Int)).fdiv (b : Int) = ((a / b : Nat) : Int) := by
  rw [Int.fdiv_eq_ediv_of_nonneg _ (by omega)]
  rfl
/-- the cells, one from each part in turn -/
theorem weave_loop {C : Nat → List Val → Sto → R Val} {P L m : Nat} {x : PyData} {v0 v1 : Option Val} {S : Sto} {Q : Fl → Sto → Prop} (hx : PartsOk P L x) (hP : 0 < P) (hP2 : P ≤ 10) (hPL : m = P * L) (hm : m ≤ 10)
    (hQ : ∀ v3 cs, cs.length = m → (∀ c ∈ cs, gC c) → Q (.nx [v0, v1, some (.d (.tuple cs)), v3, some (.d x)]) S) :
    ∀ (j r : Nat) (a : Int) (cs : List PyData) (v3 : Option Val), a = j → j + r = m → cs.length = j → (∀ c ∈ cs, gC c) → Ok (loopF (fF C (.one 3) [.asg 2 (.bin .add (.var 2) (.tup [(.ix (.ix (.var 4) (.bin .mod (.bi .int [(.var 3)]) (.bi .len [(.var 4)]))) (.bin .fdiv (.var 3) (.bi .len [(.var 4)])))]))]) (rng a r) [v0, v1, some (.d (.tuple cs)), v3, some (.d x)] S) Q := by
  intro j r
  induction r generalizing j with
  | zero =>
    intro a cs v3 h0 h1 h2 h3
    exact Ok_ok.mpr (hQ v3 cs (by omega) h3)
  | succ r ih =>
    intro a cs v3 h0 h1 h2 h3
    subst h0
    have e : rng (j : Int) (r + 1) = .int j :: rng ((j : Int) + 1) r := by
      unfold rng
      rw [List.range_succ_eq_map, List.map_cons, List.map_map]
      simp
      intro a _
      omega
    rw [e]
    obtain ⟨ps, rfl, hp, hc⟩ := hx
    have hjm : j % P < ps.length := by rw [hp]; exact Nat.mod_lt _ hP
    obtain ⟨cs2, e2, hl2, hg2⟩ := hc _ (List.getElem_mem hjm)
    have hdv : j / P < cs2.length := by
      rw [hl2]
      apply Nat.div_lt_of_lt_mul
      omega
    have hne : ps ≠ [] := by intro q; rw [q] at hp; simp at hp; omega
    have hfd : fitD (ps.length : Int) = true := fitD_of (by omega) (by rw [hp]; omega)
    have g1 : L2.atI ps ((j : Int).fmod (ps.length : Int)) = some (.tuple cs2) := by
      rw [fmod_nat, hp, atI_n, List.getElem?_eq_getElem (by rw [← hp] at *; exact hjm)]
      rw [e2]
    have g2 : L2.atI cs2 ((j : Int).fdiv (ps.length : Int)) = some cs2[j / P] := by
      rw [fdiv_nat, hp, atI_n, List.getElem?_eq_getElem hdv]
    simp [loopF, fF, hne, g1, g2, hfd]
    refine ⟨by simp [lim]; omega, ih (j + 1) _ _ _ (by omega) (by omega) (by simp [h2]) fun c hc' => ?_⟩
    rcases List.mem_append.mp hc' with q | q
    · exact h3 c q
    · simp at q
      rw [q]
      exact hg2 _ (List.getElem_mem hdv)
def SelT (x : PyData) : Prop := ∃ cs, x = .tuple cs ∧ 1 ≤ cs.length ∧ cs.length ≤ 6 ∧ ∀ c ∈ cs, gC c
theorem selection_ok {k n : Nat} {S : Sto} {Q : Val → Sto → Prop} (hS : Src S n) (hQ : ∀ x S', SelT x → Src S' n → Sm n S S' → Q (.d x) S') : Ok (callF tab (k + 4) 14 [.r n] S) Q := by
  refine Ok_call rfl rfl ?_
  have tail : ∀ (m P L : Nat) (x : PyData) (S1 : Sto) (v3 : Option Val), 1 ≤ m → m ≤ 6 → PartsOk P L x → 0 < P → P ≤ 10 → m = P * L → Src S1 n → Sm n S S1 → Ok (exB (callF tab (k + 3)) (d__law_selection.body.drop 2) [some (.r n), some (.d (.int (m : Int))), none, v3, some (.d x)] S1) (finQ S Q) := fun m P L x S1 v3 hm1 hm2 hx hP hP2 hPL hS1 hs1 => by
    simp [d__law_selection]
    rw [v_rng (by omega) (by omega)]
    simp
    refine weave_loop (m := m) hx hP hP2 hPL (by omega) (fun v3 cs h1 h2 => ?_) 0 m 0 [] v3 rfl (by omega) rfl (fun _ z => nomatch z)
    simp
    rw [hs1.take]
    exact hQ _ _ ⟨cs, rfl, by omega, by omega, h2⟩ hS1 hs1
  simp [d__law_selection, Z.start, List.replicate]
  refine pick_ok hS (by decide) (by decide) fun d S1 a1 a2 hS1 hs1 => ?_
  obtain ⟨m, hm⟩ : ∃ m : Nat, 1 + d = (m : Int) := ⟨(1 + d).toNat, by omega⟩
  have hm1 : 1 ≤ m := by omega
  have hm2 : m ≤ 6 := by omega
  have go := tail m
  simp [d__law_selection] at go
  rw [v_addI, k_ok, hm]
  simp
  have one : ∀ x, CellT m x → PartsOk 1 m (.list [x]) := fun x hx => ⟨[x], rfl, rfl, fun p hp => by
    simp at hp
    rw [hp]
    exact hx⟩
  by_cases h4 : (m : Int) = 4
  · have m4 : m = 4 := by omega
    subst m4
    simp
    refine pick_ok hS1 (by decide) (by decide) fun e1 S2 b1 b2 hS2 hs2 => ?_
    have hs2 := hs1.trans hs2
    simp
    by_cases h5 : e1 = 0
    · simp [h5]
      rw [v_rng (by decide) (by decide)]
      simp
      refine parts_loop (P := 2) (L := 2) rfl (by simp) (by decide) (by decide) (by decide) hS2 hs2 fun ys S3 hp hS3 hs3 => ?_
      exact go 2 2 (.list ys) S3 none hm1 hm2 hp (by decide) (by decide) (by decide) hS3 hs3
    · simp [h5]
      refine some_cells_ok (m := 4) hS2 (by decide) (by decide) fun x S3 hx hS3 hs3 => ?_
      simp
      exact go 1 4 (.list [x]) S3 none hm1 hm2 (one x hx) (by decide) (by decide) (by decide) hS3 (hs2.trans hs3)
  · simp [h4]
    by_cases h6 : (m : Int) = 6
    · have m6 : m = 6 := by omega
      subst m6
      simp
      refine pick_ok hS1 (by decide) (by decide) fun e1 S2 b1 b2 hS2 hs2 => ?_
      have hs2 := hs1.trans hs2
      simp
      by_cases h5 : e1 = 0
      · simp [h5]
        rw [v_rng (by decide) (by decide)]
        simp
        refine parts_loop (P := 2) (L := 3) rfl (by simp) (by decide) (by decide) (by decide) hS2 hs2 fun ys S3 hp hS3 hs3 => ?_
        exact go 2 3 (.list ys) S3 none hm1 hm2 hp (by decide) (by decide) (by decide) hS3 hs3
      · simp [h5]
        refine pick_ok hS2 (by decide) (by decide) fun e2 S3 c1 c2 hS3 hs3 => ?_
        have hs3 := hs2.trans hs3
        simp
        by_cases h7 : e2 = 0
        · simp [h7]
          rw [v_rng (by decide) (by decide)]
          simp
          refine parts_loop (P := 3) (L := 2) rfl (by simp) (by decide) (by decide) (by decide) hS3 hs3 fun ys S4 hp hS4 hs4 => ?_
          exact go 3 2 (.list ys) S4 none hm1 hm2 hp (by decide) (by decide) (by decide) hS4 hs4
        · simp [h7]
          refine some_cells_ok (m := 6) hS3 (by decide) (by decide) fun x S4 hx hS4 hs4 => ?_
          simp
          exact go 1 6 (.list [x]) S4 none hm1 hm2 (one x hx) (by decide) (by decide) (by decide) hS4 (hs3.trans hs4)
    · simp [h6]
      refine some_cells_ok hS1 (by omega) (by omega) fun x S3 hx hS3 hs3 => ?_
      simp
      exact go 1 m (.list [x]) S3 none hm1 hm2 (one x hx) (by decide) (by decide) (by omega) hS3 (hs1.trans hs3)
def oddsL : List PyData := [.none, .bool true, .bool false, .int 0, .int (-7), .int (10 ^ 39), .str "", .str "a", .str "word", .str "abcdefg", .str "Word", .str "a1", .tuple [], .tuple [.str "a"], .tuple [.str "a", .int 1],
  .tuple [.str "a", .bool true], .tuple [.str "a", .int 1, .int 2], .list [.str "a", .int 1], .tuple [.int 1, .str "a"], .tuple [.str "", .int 1], .tuple [.str "abcdefg", .int 1], .tuple [.str "a", .str "b"], .list [.int 1],
  .tuple [.str "a", .none], .str "a b", .tuple [.tuple [.str "a", .int 1]]]
theorem odds_good : oddsL.all (fun x => bigCB x && bigSB x) = true := by decide +kernel
theorem odd_ok {k n : Nat} {S : Sto} {Q : Val → Sto → Prop} (hS : Src S n) (hQ : ∀ x S', bigC x → bigS x → Src S' n → Sm n S S' → Q (.d x) S') : Ok (callF tab (k + 2) 18 [.r n] S) Q := by
  refine Ok_call rfl rfl ?_
  simp [d__law_odd, Z.start, lim]
  refine pick_ok hS (by decide) (by decide) fun d S1 a1 a2 hS1 hs1 => ?_
  refine Ok_at a1 (by simpa using a2) fun x hx => ?_
  have hx' : x ∈ oddsL := by
    simp only [oddsL]
    simpa using hx
  have hg := List.all_eq_true.mp odds_good x hx'
  simp only [Bool.and_eq_true] at hg
  simp
  rw [hs1.take]
  exact hQ x S1 (bigCB_ok hg.1) (bigSB_ok hg.2) hS1 hs1
end W

namespace W
open PySem Z
theorem loopC_filt' {f : PyData → Sto → R (Option PyData)} {e : PyData → PyData} {p : PyData → Bool} {S : Sto} {cs : List PyData} (h : ∀ c ∈ cs, f c S = .ok (if p c then some (e c) else none) S) (hl : cs.length ≤ lim) : loopC f cs [] S = .ok ((cs.filter p).map e) S := by
  have := loopC_filt (f := f) (h := id) (e := e) (p := p) (S := S) (cs := cs) (acc := []) h (by simpa using hl)
  simpa using this
theorem ones_eq {cs : List PyData} {p : PyData → Bool} : eqD (.list ((cs.filter p).map fun _ => .int 1)) (.list []) = some ((cs.filter p).isEmpty) := by
  have h1 : SeqAt.shaped (.list ((cs.filter p).map fun _ => .int 1)) = true := shaped_list (n := 0) (fun x hx => by
    obtain ⟨c, _, rfl⟩ := List.mem_map.mp hx
    exact ⟨rfl, Nat.le_refl _⟩) (by decide)
  unfold eqD
  rw [h1, shaped_nil, eqv_nil]
  simp [scalD]
theorem selX_good {cs : List PyData} (h1 : 1 ≤ cs.length) (h2 : cs.length ≤ 6) (h : ∀ c ∈ cs, gC c) : selX 1 6 (.tuple cs) = true := by
  simp only [selX, Bool.and_eq_true, decide_eq_true_eq, List.all_eq_true]
  exact ⟨⟨by omega, by omega⟩, fun c hc => (h c hc).1⟩
/-- one of the five values -/
theorem value_ok {k n : Nat} {x sel odd : PyData} {ns : List Int} {v1 v3 v6 v7 v8 v9 v10 : Option Val} {S : Sto} (hx : bigS x) (Q : Fl → Sto → Prop) (hQ : ∀ v6 v8 v9, Q (.nx [some (.s (ns.map .int)), v1, some (.r n), v3, some (.d sel), some (.d odd), v6, v7, v8, v9, v10]) S) :
    Ok (fF (callF tab (k + 6)) (.one 8) [.asg 9 (.and (.isi (.var 8) .tuple) (.chain .le .le (.lit (.int 1)) (.bi .len [(.var 8)]) (.lit (.int 6)))),
      .asg 9 (.and (.var 9) (.cmp .eq (.comp false .seq [(.var 8)] (.one 10) [10] (some (.not (.call 17 [(.var 10)]))) (.lit (.int 1))) (.lst false []))),
      .asg 6 (.call 7 [(.var 8)]),
      .ite (.or (.not (.isi (.var 6) .bool)) (.cmp .ne (.var 6) (.var 9))) [.ret (.lit (.bool false))] []] x [some (.s (ns.map .int)), v1, some (.r n), v3, some (.d sel), some (.d odd), v6, v7, v8, v9, v10] S) Q := by
  have hs := is_selection_ok k x S hx
  cases x with
  | tuple cs =>
    obtain ⟨c1, c2⟩ := hx cs rfl
    have hf : loopC (fC (callF tab (k + 6)) (.one 10) [10] (some (.not (.call 17 [(.var 10)]))) (.lit (.int 1)) [some (.s (ns.map .int)), v1, some (.r n), v3, some (.d sel), some (.d odd), v6, v7, some (.d (.tuple cs)), some (.d (.bool true)), v10]) cs [] S = .ok ((cs.filter fun c => !isCellX c).map fun _ => .int 1) S := loopC_filt' (fun c hc => by
      have h17 := law_is_cell_ok (k + 4) c S (c2 c hc)
      simp [fC, evO, evT, evL, evE, R.bind, h17]
      cases isCellX c <;> rfl) (by simp [lim]; omega)
    simp [fF, isiD]
    by_cases a1 : (1 : Int) ≤ cs.length
    · by_cases a2 : (cs.length : Int) ≤ 6
      · simp [a1, a2, hf, ones_eq, hs, isiD, selX, filter_none]
        exact hQ _ _ _
      · simp [a1, a2, hs, isiD, selX]
        exact hQ _ _ _
    · simp [a1, hs, isiD, selX]
      exact hQ _ _ _
  | _ =>
    simp [fF, isiD, hs, selX]
    exact hQ _ _ _
end W

namespace W
open PySem Z
theorem cut_mem {xs : List PyData} {l h : Option Int} {c : PyData} (q : c ∈ cut xs l h) : c ∈ xs := List.mem_of_mem_drop (List.mem_of_mem_take q)
theorem cut_len {xs : List PyData} {l h : Option Int} : (cut xs l h).length ≤ xs.length := by
  unfold cut
  rw [List.length_take, List.length_drop]
  omega
theorem rng_all {a : Int} {m : Nat} {P : PyData → Prop} (h : ∀ j : Nat, j < m → P (.int (a + j))) : ∀ x ∈ rng a m, P x := fun x hx => by
  obtain ⟨j, hj, rfl⟩ := rng_mem hx
  exact h j hj
theorem bigS_of {cs : List PyData} (h1 : cs.length ≤ 1000) (h : ∀ c ∈ cs, bigC c) : bigS (.tuple cs) := fun ds e => by
  cases e
  exact ⟨h1, h⟩
/-- the inner loop's turn -/
theorem turn_ok {k n : Nat} {x : PyData} {ns : List Int} {v1 v3 v4 v5 v6 v7 v8 v9 v10 : Option Val} {S : Sto} (hS : Src S n) (body : List LS) (hb : body = [.asgT [4, 5] [(.call 14 [(.var 2)]), (.call 18 [(.var 2)])],
    .ite (.or (.cmp .isn (.call 7 [(.var 4)]) (.lit (.bool true))) (.cmp .ne (.comp false .seq [(.var 4)] (.one 10) [10] (some (.cmp .isn (.call 6 [(.var 10)]) (.lit (.bool true)))) (.lit (.int 1))) (.lst false []))) [.ret (.lit (.bool false))] [],
    .asg 6 (.call 6 [(.var 5)]),
    .ite (.or (.not (.isi (.var 6) .bool)) (.cmp .ne (.var 6) (.call 17 [(.var 5)]))) [.ret (.lit (.bool false))] [],
    .asg 7 (.call 9 [(.var 2), (.bin .add (.bi .len [(.var 4)]) (.lit (.int 1)))]),
    .for .seq [(.lst false [(.bin .add (.bin .add (.sl (.var 4) none (some (.var 7))) (.tup [(.var 5)])) (.sl (.var 4) (some (.bin .add (.var 7) (.lit (.int 1)))) none)), (.bin .add (.var 4) (.tup [(.var 5)])), (.bi .list [(.var 4)]), (.var 5), (.bin .add (.var 4) (.sl (.var 4) none (some (.lit (.int 1)))))])] (.one 8) [.asg 9 (.and (.isi (.var 8) .tuple) (.chain .le .le (.lit (.int 1)) (.bi .len [(.var 8)]) (.lit (.int 6)))),
      .asg 9 (.and (.var 9) (.cmp .eq (.comp false .seq [(.var 8)] (.one 10) [10] (some (.not (.call 17 [(.var 10)]))) (.lit (.int 1))) (.lst false []))),
      .asg 6 (.call 7 [(.var 8)]),
      .ite (.or (.not (.isi (.var 6) .bool)) (.cmp .ne (.var 6) (.var 9))) [.ret (.lit (.bool false))] []]]) (Q : Fl → Sto → Prop)
    (hQ : ∀ v3 v4 v5 v6 v7 v8 v9 S', Src S' n → Q (.nx [some (.s (ns.map .int)), v1, some (.r n), v3, v4, v5, v6, v7, v8, v9, v10]) S') :
    Ok (fF (callF tab (k + 6)) (.one 3) body x [some (.s (ns.map .int)), v1, some (.r n), v3, v4, v5, v6, v7, v8, v9, v10] S) Q := by
  subst hb
  simp [fF]
  refine selection_ok hS fun sel S1 hsel hS1 hs1 => ?_
  simp
  refine odd_ok hS1 fun odd S2 ho1 ho2 hS2 hs2 => ?_
  obtain ⟨cs, rfl, c1, c2, c3⟩ := hsel
  have hsg : bigS (.tuple cs) := bigS_of (by omega) fun c hc => (c3 c hc).2
  have h7 := is_selection_ok k (.tuple cs) S2 hsg
  rw [selX_good c1 c2 c3] at h7
  have hf : loopC (fC (callF tab (k + 6)) (.one 10) [10] (some (.cmp .isn (.call 6 [(.var 10)]) (.lit (.bool true)))) (.lit (.int 1)) [some (.s (ns.map .int)), v1, some (.r n), some (.d x), some (.d (.tuple cs)), some (.d odd), v6, v7, v8, v9, v10]) cs [] S2 = .ok ((cs.filter fun _ => false).map fun _ => .int 1) S2 := loopC_filt' (fun c hc => by
      have h6 := is_cell_ok (k + 2) c S2 (c3 c hc).2
      rw [(c3 c hc).1] at h6
      simp [fC, evO, evT, evL, evE, R.bind, h6]) (by simp [lim]; omega)
  have h6o := is_cell_ok (k + 2) odd S2 ho1
  have h17o := law_is_cell_ok (k + 4) odd S2 ho1
  simp [h7, hf, ones_eq, h6o, h17o, isiD]
  have en : eqD (.list []) (.list []) = some true := by
    unfold eqD
    rw [shaped_nil, eqv_nil]
    rfl
  refine pick_ok hS2 (by omega) (by omega) fun pl S3 p1 p2 hS3 hs3 => ?_
  simp
  have l1 : (cut cs none (some pl)).length ≤ cs.length := cut_len
  have l2 : (cut cs (some (pl + 1)) none).length ≤ cs.length := cut_len
  have l3 : (cut cs none (some 1)).length ≤ cs.length := cut_len
  refine ⟨by simp [lim]; omega, by simp [lim]; omega, by simp [lim]; omega, by simp [lim]; omega, ?_⟩
  have b1 : bigS (.tuple (cut cs none (some pl) ++ odd :: cut cs (some (pl + 1)) none)) := bigS_of (by simp; omega) fun c hc => by
    rcases List.mem_append.mp hc with q | q
    · exact (c3 c (cut_mem q)).2
    · rcases List.mem_cons.mp q with q | q
      · rw [q]; exact ho1
      · exact (c3 c (cut_mem q)).2
  have b2 : bigS (.tuple (cs ++ [odd])) := bigS_of (by simp; omega) fun c hc => by
    rcases List.mem_append.mp hc with q | q
    · exact (c3 c q).2
    · simp at q
      rw [q]; exact ho1
  have b3 : bigS (.list cs) := fun ds e => nomatch e
  have b5 : bigS (.tuple (cs ++ cut cs none (some 1))) := bigS_of (by simp; omega) fun c hc => by
    rcases List.mem_append.mp hc with q | q
    · exact (c3 c q).2
    · exact (c3 c (cut_mem q)).2
  have b0 : ∀ y ∈ [PyData.tuple (cut cs none (some pl) ++ odd :: cut cs (some (pl + 1)) none), .tuple (cs ++ [odd]), .list cs, odd, .tuple (cs ++ cut cs none (some 1))], bigS y := fun y hy => by
    simp only [List.mem_cons, List.not_mem_nil, or_false] at hy
    rcases hy with rfl | rfl | rfl | rfl | rfl
    · exact b1
    · exact b2
    · exact b3
    · exact ho2
    · exact b5
  refine Ok_loopF (fun items ρ S' => (∀ y ∈ items, bigS y) ∧ Src S' n ∧ ∃ v6 v7 v8 v9, ρ = [some (.s (ns.map .int)), v1, some (.r n), some (.d x), some (.d (.tuple cs)), some (.d odd), v6, v7, v8, v9, v10]) (fun y r ρ S' ⟨i1, i2, v6, v7, v8, v9, i3⟩ => ?_) (fun ρ S' ⟨_, i2, v6, v7, v8, v9, i3⟩ => ?_) ⟨b0, hS3, _, _, _, _, rfl⟩
  · subst i3
    refine value_ok (k := k) (i1 y List.mem_cons_self) _ fun v6' v8' v9' => ?_
    exact ⟨fun z hz => i1 z (List.mem_cons_of_mem _ hz), i2, _, _, _, _, rfl⟩
  · subst i3
    exact hQ _ _ _ _ _ _ _ S' i2
def deep : Nat := 20
theorem law_ok (ns : List Int) (h : ns.length ≤ 63) : ∃ S, callF tab (deep + 1) 19 [.s (ns.map PyData.int)] [] = .ok (.d (.bool true)) S := by
  have main : Ok (callF tab (deep + 1) 19 [.s (ns.map PyData.int)] []) fun v _ => v = .d (.bool true) := by
    refine Ok_call rfl rfl ?_
    simp [d_law, Z.start, List.replicate]
    rw [v_rng (by decide) (by decide)]
    simp
    refine Ok_loopF (fun items ρ S' => (∀ y ∈ items, ∃ j : Nat, j < 10 ∧ y = .int (j : Int)) ∧ ∃ v1 v2 v3 v4 v5 v6 v7 v8 v9 v10, ρ = [some (.s (ns.map .int)), v1, v2, v3, v4, v5, v6, v7, v8, v9, v10]) (fun y r ρ S' ⟨i1, v1, v2, v3, v4, v5, v6, v7, v8, v9, v10, i3⟩ => ?_) (fun ρ S' ⟨_, v1, v2, v3, v4, v5, v6, v7, v8, v9, v10, i3⟩ => ?_) ⟨fun y hy => by obtain ⟨j, hj, rfl⟩ := rng_mem hy; exact ⟨j, hj, by simp⟩, _, _, _, _, _, _, _, _, _, _, rfl⟩
    · subst i3
      obtain ⟨j, hj, rfl⟩ := i1 y List.mem_cons_self
      simp [fF, deep]
      refine source_ok (by omega) (by omega) fun S1 n hS1 => ?_
      rw [v_rng (by decide) (by decide)]
      simp
      refine Ok_loopF (fun items ρ S' => Src S' n ∧ ∃ v3 v4 v5 v6 v7 v8 v9, ρ = [some (.s (ns.map .int)), some (.d (.int (j : Int))), some (.r n), v3, v4, v5, v6, v7, v8, v9, v10]) (fun z r ρ S' ⟨i2, v3, v4, v5, v6, v7, v8, v9, i3⟩ => ?_) (fun ρ S' ⟨_, v3, v4, v5, v6, v7, v8, v9, i3⟩ => ?_) ⟨hS1, _, _, _, _, _, _, _, rfl⟩
      · subst i3
        refine turn_ok (k := 14) i2 _ rfl _ fun v3 v4 v5 v6 v7 v8 v9 S2 hS2 => ?_
        exact ⟨hS2, _, _, _, _, _, _, _, rfl⟩
      · subst i3
        exact ⟨fun z hz => i1 z (List.mem_cons_of_mem _ hz), _, _, _, _, _, _, _, _, _, _, rfl⟩
    · subst i3
      have s1 : ∀ m : Nat, m ≤ 10 → bigS (.tuple (List.replicate m (PyData.int 1))) := fun m hm => bigS_of (by simp; omega) fun c hc => by
        rw [(List.mem_replicate.mp hc).2]
        exact ⟨trivial, fun a b e => nomatch e⟩
      have h6 := is_selection_ok 14 (.tuple [PyData.int 1, PyData.int 1, PyData.int 1, PyData.int 1, PyData.int 1, PyData.int 1]) S' (s1 6 (by decide))
      have h7 := is_selection_ok 14 (.tuple [PyData.int 1, PyData.int 1, PyData.int 1, PyData.int 1, PyData.int 1, PyData.int 1, PyData.int 1]) S' (s1 7 (by decide))
      have h0 := is_selection_ok 14 (.tuple []) S' (s1 0 (by decide))
      simp [deep, h6, h7, h0, selX, isCellX, isIntX]
  obtain ⟨v, S, e, q⟩ := main.eq
  exact ⟨S, by rw [e, q]⟩
end W

namespace W
open PySem PySem.Spec PyProof.Rows L2 Z
abbrev R : PySem.W.OpenRow := PySem.W.OpenLaw.row PySem.Challenge.rw_fillhandles_k01_cells_and_selections
abbrev hk : PySem.W.Hook := He.hookD 4 fa fn
def ob (s : PySem.W.SharedT) : He.AlD := He.obsDG 4 fa fn (HandSHeadRun.getT s)
theorem ob_eq (s : PySem.W.SharedT) : ob s = hk.obs s.abs := He.obsDG_eq (HandSHeadRun.getT_eq s)
theorem run (w : World) : HandSHeadRun.RunEq R (PySem.W.view R.prog [24]) hk ob 6000 ((["is_integer", "is_word", "is_numbered", "a_cell", "are_cells", "a_selection", "is_cell", "is_selection", "_law_source", "_law_pick", "_law_chosen", "_law_lists", "_law_numbers", "_law_some_cells", "_law_selection", "_law_is_integer", "_law_is_word", "_law_is_cell", "_law_odd", "LETTERS", "MOST"] : List PySem.Str)) w := by
  intro os
  kernel_rfl
end W

open PySem PySem.W PySem.Calls PyProof.Rows
theorem PySem.Challenge.cw_fillhandles_k01_cells_and_selections_holds : PySem.Challenge.rw_fillhandles_k01_cells_and_selections.Holds := by
  w_on; o_law
  refine HandSHeadRun.head_any (r := OpenLaw.row PySem.Challenge.rw_fillhandles_k01_cells_and_selections) (q := view (OpenLaw.row PySem.Challenge.rw_fillhandles_k01_cells_and_selections).prog [24]) (H := W.hk) (ob := W.ob) (M := 6000) (loose := ((["is_integer", "is_word", "is_numbered", "a_cell", "are_cells", "a_selection", "is_cell", "is_selection", "_law_source", "_law_pick", "_law_chosen", "_law_lists", "_law_numbers", "_law_some_cells", "_law_selection", "_law_is_integer", "_law_is_word", "_law_is_cell", "_law_odd", "LETTERS", "MOST"] : List PySem.Str))) (d := HandSHeadRun.topDef (OpenLaw.row PySem.Challenge.rw_fillhandles_k01_cells_and_selections).prog 24) (kwd := []) W.ob_eq
    (by kernel_rfl) (fun s => by kernel_rfl) W.run (by kernel_rfl) (by kernel_rfl) (by kernel_rfl) (by rfl) (by first | assumption | decide +kernel) (by decide +kernel) ⟨rfl, rfl, rfl, rfl, rfl, by decide +kernel⟩ ?hw ?hc
  case hw => w_witness2
  case hc =>
    refine L2.walk_ofE (l := PySem.Challenge.rw_fillhandles_k01_cells_and_selections) (n := 63) (k := W.deep + 1) (x := "script") (CX := Z.CXw (PySem.Challenge.rw_fillhandles_k01_cells_and_selections).prog) rfl (by decide) (by kernel_rfl) ⟨rfl, by decide, by decide⟩ ?F (fun H s e s' z => ?_)
    · intro w mg fa h Y G hmg0
      obtain ⟨K, KX, c⟩ := Y
      have hmg : mg ("law" : PySem.Str) = some (.ref fa) := by
        have e : (HandSHeadRun.topDef (OpenLaw.row PySem.Challenge.rw_fillhandles_k01_cells_and_selections).prog 24).name = ("law" : PySem.Str) := by kernel_rfl
        rw [← e]
        exact hmg0
      obtain ⟨fd, hb, hF⟩ := W.facts (P := (PySem.Challenge.rw_fillhandles_k01_cells_and_selections).prog) (w := w) W.deep KX G hmg c
      exact ⟨K, fd, _, KX, hb, fun H a ns hl hO hS => Z.law_sp hO hS (W.law_ok ns hl), fun base _ _ => Z.fn_w (hF base)⟩
    · exact Z.no_exc z

